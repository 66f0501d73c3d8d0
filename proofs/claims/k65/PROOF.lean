import PyProof.Rows.All
import Wide.All
import OpenK.AllK
import Wide.FinOn
import HandS.ForMost
import HandS.Wide
import HandS.IsInst
import HandS.Flow
import HandS.Walk
import HandS.Strs
import HandS.Style
import HandS.Exc
import HandS.Codes
import HandS.ForExc
import HandS.ExcIs
import HandS.Defaults
import HandS.ExcInit
import HandS.FStr
import HandS.ExcField
import HandS.TryOnly
import HandS.Conv
import HandS.More
import KE.KIntText
import KE.GoesZip
import Flt.Len
import PySem.Challenge.RW_dearsigns_k65_whole_case_rows_refused
set_option Elab.async false
set_option linter.all false
set_option maxRecDepth 100000
set_option maxHeartbeats 4000000

namespace Dear
open PySem PySem.Spec PyProof.Rows L2
/-! ### a def of the text, and a def with its promise -/
def Df (K : PySem.W.Frag) (mg : Str → Option Value) (x : Str) (st : Stmt) (ps : List Str) : Prop :=
  ∃ (f : Addr) (fd : FuncData), mg x = some (.ref f) ∧ Fun K x x st f fd ∧ Binds K fd ps []
def OkF (P : Program) (w : World) (K : PySem.W.Frag) (mg : Str → Option Value) (base : Heap) (CX : CXT) (k : Nat) (x : Str) (ps : List Str) (sp : Sp) : Prop :=
  ∃ (f : Addr) (fd : FuncData), mg x = some (.ref f) ∧ PySem.W.keepIn K (.ref f) = true ∧ Binds K fd ps [] ∧ FnOk P w K mg base CX k f fd ps sp
section
variable {P : Program} {w : World} {K : PySem.W.Frag} {mg : Str → Option Value} {base : Heap}
theorem Df.ok {x : Str} {st : Stmt} {N ps : List Str} {k : Nat} {sp : Sp} (D : Df K mg x st ps) (S : FnScope N ps (defScope st)) (len : ∀ vs H Q E, sp vs H Q E → vs.length = ps.length)
    (hbody : ∀ (f : Addr) (cdv : Value) (A : Around) (outer : List Env) (s : Shared) (H : Hp) (vs : List V) (Q : VK) (E : XK), Room k (A.deeper (envOfC x (defScope st) s.heap.objs.size f cdv)) → sp vs H Q E →
      ∃ t, PSs (cxOf CX0 P w K mg base N x (defScope st) f cdv A outer s H E).nox (defBody st) t ∧ t { nx := fun _ H' => Q .non H', rt := Q } (start N vs) H) : OkF P w K mg base CX0 (k + 1) x ps sp := by
  obtain ⟨f, fd, hm, F, hb⟩ := D
  exact ⟨f, fd, hm, F.kp, hb, F.ok S len (hbody f)⟩
end
section
variable {X : Cx}
theorem pe_c {k k' : Nat} {x : Str} {ps : List Str} {sp : Sp} {e : Expr} {es : List Expr} {t : TA} {p pos : Pos} (O : OkF X.prog X.w X.K X.mg X.base CX0 k x ps sp) (hr : Room k' X.A) (ha : PA X (e :: es) t) (hk : k ≤ k' := by decide) (hg : Gl X x := by rfl)
    (hdb : (x == ("__debug__" : Str)) = false := by decide) (he : starEach (e :: es) X.env = (false, eval e X.env) :: starEach es X.env := by rfl) (hpl : (backTo pos (starEach es X.env)).any (·.1) = false := by rfl) :
    PE X (.Call (.Name x p) (e :: es) [] pos) (tCall sp [] E0 t) := by
  obtain ⟨f, fd, hm, hkp, hb, F⟩ := O
  exact pe_call F (hr.mono hk) hg hm hkp hb .nil pass0 ha hdb he hpl
theorem pe_gi {x : Str} {i : Int} {pos : Pos} (h : ∃ t, X.mg x = some (.int i t)) (hg : Gl X x := by rfl) (hd : (x == ("__debug__" : Str)) = false := by decide) : PE X (.Name x pos) (tC (.int i)) := by
  obtain ⟨t, h⟩ := h
  exact pe_glob hg h ⟨_, rfl⟩ hd
theorem pe_gs {x : Str} {z : Str} {pos : Pos} (h : ∃ t, X.mg x = some (.str z t)) (hg : Gl X x := by rfl) (hd : (x == ("__debug__" : Str)) = false := by decide) : PE X (.Name x pos) (tC (.str z)) := by
  obtain ⟨t, h⟩ := h
  exact pe_glob hg h ⟨_, rfl⟩ hd
end
/-! ### the rules with the written part K named -/
section
variable {X : Cx} (K : PySem.W.Frag)
theorem ix_list_k (h : X.K = K := by rfl) : IxR X (rIxL K) := h ▸ ix_list
theorem ix_tup_k (h : X.K = K := by rfl) : IxR X (rIxT K) := h ▸ ix_tup
theorem sl_list_k (h : X.K = K := by rfl) : SlR X (rSlL K) := h ▸ sl_list
theorem sl_tup_k (h : X.K = K := by rfl) : SlR X (rSlT K) := h ▸ sl_tup
theorem op_in_seq_k (h : X.K = K := by rfl) : OpR X (compareOp .In) (rIn K false) := h ▸ op_in_seq
theorem op_notIn_seq_k (h : X.K = K := by rfl) : OpR X (compareOp .NotIn) (rIn K true) := h ▸ op_notIn_seq
def rLen : List V → Hp → VK → Prop := fun xs H Q => ∃ p ys, xs = [.ref p] ∧ (SqL K H p ys ∨ SqT K H p ys) ∧ Q (.int ys.length) H
theorem call_len_seq_k (h : X.K = K := by rfl) : CallR X (.builtin "len") (rLen K) := h ▸ call_len_seq
def rListOf : List V → Hp → VK → Prop := fun xs H Q => ∃ p ys, xs = [.ref p] ∧ (SqL K H p ys ∨ SqT K H p ys) ∧ ∀ l, H l = none → Q (.ref l) (upd H l (.lst ys))
theorem call_list_of_k (h : X.K = K := by rfl) : CallR X (.type "list") (rListOf K) := h ▸ call_list_of
def rTupOf : List V → Hp → VK → Prop := fun xs H Q => ∃ p ys, xs = [.ref p] ∧ ((SqL K H p ys ∧ ∀ l, H l = none → Q (.ref l) (upd H l (.tup ys))) ∨ (SqT K H p ys ∧ Q (.ref p) H))
theorem call_tuple_of_k (h : X.K = K := by rfl) : CallR X (.type "tuple") (rTupOf K) := h ▸ call_tuple_of
theorem cr_sum_k (hc : X.calm = true) (h : X.K = K := by rfl) : CallR X (.builtin "sum") (rSum K) := h ▸ cr_sum hc
theorem cr_max_k (hc : X.calm = true) (h : X.K = K := by rfl) : CallR X (.builtin "max") (rMax K) := h ▸ cr_max hc
theorem cr_min_k (hc : X.calm = true) (h : X.K = K := by rfl) : CallR X (.builtin "min") (rMin K) := h ▸ cr_min hc
theorem cr_any_k (hc : X.calm = true) (h : X.K = K := by rfl) : CallR X (.builtin "any") (rAny K) := h ▸ cr_any hc
theorem cr_all_k (hc : X.calm = true) (h : X.K = K := by rfl) : CallR X (.builtin "all") (rAll K) := h ▸ cr_all hc
theorem cr_sorted_k (h : X.K = K := by rfl) : CallR X (.builtin "sorted") (rSorted K) := h ▸ cr_sorted
theorem mt_index_k (h : X.K = K := by rfl) : MtR X "list.index" (rIndex K) := h ▸ mt_index
theorem op_eqD_k (hu : X.A.units + 64 < cLine) (h : X.K = K := by rfl) : OpR X (compareOp .Eq) (rEqD K) := h ▸ op_eqD hu
theorem op_neD_k (hu : X.A.units + 64 < cLine) (h : X.K = K := by rfl) : OpR X (compareOp .NotEq) (rNeD K) := h ▸ op_neD hu
theorem call_isi_k (h : X.K = K := by rfl) : CallR X (.builtin "isinstance") (rIsi K) := h ▸ call_isi
theorem call_isiT_k (h : X.K = K := by rfl) : CallR X (.builtin "isinstance") (rIsiT K) := h ▸ call_isiT
theorem op_catT_k (h : X.K = K := by rfl) : OpR X (binaryOp .Add) (rCatT K) := h ▸ op_catT
theorem pi_list_k {tg l : Expr} {tl : TE} (hl : PE X l tl) (h : X.K = K := by rfl) : PI X tg l (iList K tl) := h ▸ pi_list hl
theorem pi_tup_k {tg l : Expr} {tl : TE} (hl : PE X l tl) (h : X.K = K := by rfl) : PI X tg l (iTup K tl) := h ▸ pi_tup hl
theorem pe_revL_k {e : Expr} {te : TE} {k : Nat} {p1 p2 p3 pos : Pos} (he : PE X e te) (h : X.K = K := by rfl) : PE X (.Subscript e (.Slice none none (some (.UnaryOp .USub (.Constant (.int 1) k p1) p2)) p3) pos) (tRevL K te) := h ▸ pe_revL he
theorem pg_tup_k {es : List Expr} {k : Nat} {t : TGs} {n : Nat} {pos : Pos} (hc : X.calm = true) (hg : PGs X es t) (h : X.K = K := by rfl)
    (hn : (assignEach es X.env).length = n := by rfl) (hst : (assignEach es X.env).findIdx? (·.1) = none := by rfl) : PG X (.Tuple es k pos) (gTup K n t) := h ▸ pg_tup hc hg hn hst
def rDictP : List V → Hp → VK → Prop := fun xs H Q => ∃ (a : Addr) (ps : List Addr) (kvs : List (Key × V)), xs = [.ref a] ∧ SqL K H a (ps.map V.ref) ∧ Paired (fun p kv => SqT K H p [kV kv.1, kv.2]) ps kvs ∧
    ∀ p, H p = none → Q (.ref p) (upd H p (.dK (mergeK [] kvs)))
theorem call_dictP_k (hc : X.calm = true) (h : X.K = K := by rfl) : CallR X (.type "dict") (rDictP K) := h ▸ call_dictP hc
theorem u1 {n : Nat} (h : n + 64 < cLine) : n + 1 < cLine := by omega
def rJoin : V → List V → Hp → VK → Prop := fun x xs H Q => ∃ a p, ∃ ys : List Str, x = .str a ∧ xs = [.ref p] ∧ (SqL K H p (ys.map V.str) ∨ SqT K H p (ys.map V.str)) ∧ (ys.map (·.length)).sum + ys.length * a.length ≤ 16777216 ∧ Q (.str (Txt.join a ys)) H
theorem pe_join_k {o e : Expr} {to te : TE} {apos pos : Pos} (ho : PE X o to) (he : PE X e te) (h : X.K = K := by rfl) (hs : starEach [e] X.env = [(false, eval e X.env)] := by rfl) (hbase : attributeBase o "join" X.env (eval o X.env) = eval o X.env := by rfl) (hline : (apos.endLine == pos.line) = true := by rfl) :
    PE X (.Call (.Attribute o "join" apos) [e] [] pos) (tM1 (rJoin K) to te) := h ▸ pe_join ho he hs hbase hline
end
/-! ### heaps -/
/-- all that was tracked, but for what stands at l, is as it was -/
def But (l : Addr) (H H' : Hp) : Prop := ∀ b o, H b = some o → b ≠ l → H' b = some o
theorem But.refl (l : Addr) (H : Hp) : But l H H := fun _ _ h _ => h
theorem But.trans {l : Addr} {H H1 H2 : Hp} (a : But l H H1) (b : But l H1 H2) : But l H H2 := fun c o h n => b c o (a c o h n) n
theorem But.of {l : Addr} {H H1 : Hp} (a : Same H H1) : But l H H1 := fun c o h _ => a c o h
theorem But.upd {l : Addr} {H : Hp} {o : HO} : But l H (upd H l o) := fun b _ h n => by rw [upd_ne n]; exact h
theorem Same.upd {H : Hp} {l : Addr} {o : HO} (h : H l = none) : Same H (upd H l o) := fun b u e => by
  rw [upd_ne (ne_of_none e h)]
  exact e
theorem But.new {l : Addr} {H H1 : Hp} {p : Addr} {o : HO} (a : But l H H1) (h : H1 p = none) : But l H (L2.upd H1 p o) := a.trans (.of (Same.upd h))
theorem Same.new {H H1 : Hp} {p : Addr} {o : HO} (a : Same H H1) (h : H1 p = none) : Same H (L2.upd H1 p o) := a.trans (Same.upd h)
/-- the ends of an if -/
theorem itb {b : Bool} {A B : Prop} (h1 : b = true → A) (h2 : b = false → B) : if b = true then A else B := by
  cases b with
  | true => exact iteT (h1 rfl)
  | false => exact iteF (h2 rfl)
theorem itd {c : Prop} [Decidable c] {A B : Prop} (h1 : c → A) (h2 : ¬ c → B) : if decide c = true then A else B := itb (fun h => h1 (of_decide_eq_true h)) fun h => h2 (of_decide_eq_false h)
theorem itnd {c : Prop} [Decidable c] {A B : Prop} (h1 : ¬ c → A) (h2 : c → B) : if (!decide c) = true then A else B := itb (fun h => h1 (by simpa using h)) fun h => h2 (by simpa using h)
/-! ### readings, step by step -/
section
variable {σ : L2.St} {H : Hp} {D : Ends} {t1 t2 : TS} {te : TE} {i : Nat} {c : TT}
theorem s_seq (h : t1 { D with nx := t2 D } σ H) : tSeq t1 t2 D σ H := h
theorem s_set (h : te σ H fun v H' => D.nx (σ.set i (some v)) H') : tAsg te (gName i) D σ H := h
theorem s_ret (h : te σ H D.rt) : tRet te D σ H := h
theorem s_if (h : c σ H fun b H' => if b = true then t1 D σ H' else t2 D σ H') : tIfS c t1 t2 D σ H := h
theorem s_op {r : R2} {ta tb : TE} {Q : VK} (h : ta σ H fun x H1 => tb σ H1 fun y H2 => r x y H2 Q) : tOp r ta tb σ H Q := h
theorem s_nx (h : D.nx σ H) : tNext D σ H := h
end
end Dear

namespace Dear
open PySem PySem.Spec PyProof.Rows L2
/-! ### an exception that is caught, kept in a name, and asked behind the suite -/
/-- a kept exception at a: its class, its own dict -/
def ExK (cls : Value) (d : Option Addr) (a : Addr) : HO := .ext fun h => ∃ (oe : Obj) (vs : Array Value), h.get? a = some oe ∧ Zc cls d oe ∧ oe.data = .fields vs
theorem exK_ok {P : Program} {w : World} {H : Hp} {h : Heap} {a : Addr} {cls : Value} {d : Option Addr} {oe : Obj} {vs : Array Value} (e : h.get? a = some oe) (z : Zc cls d oe) (dt : oe.data = .fields vs) : ObjOk P w H h a (ExK cls d a) :=
  ⟨⟨oe, vs, e, z, dt⟩, ⟨oe, e⟩, fun _ _ ⟨o, v, q, r⟩ k => ⟨o, v, k o q, r⟩⟩
section
variable {X : Cx} {pins : List (Addr × Obj)} {σ : L2.St} {H : Hp} {s : Shared}
/-- an object that stands there untracked, new since the entry, becomes tracked -/
theorem track (I : Inv X pins σ H s) {a : Addr} {o : HO} {oe : Obj} (he : s.heap.get? a = some oe) (na : H a = none) (n0 : X.s_0.heap.get? a = none) (nL : a ≠ X.env.locals) (nC : ∀ v, oe.data ≠ .cell v)
    (nP : ∀ p ∈ X.pn ++ pins, p.1 ≠ a) (new : ObjOk X.prog X.w (upd H a o) s.heap a o) : Inv X pins σ (upd H a o) s where
  ok := I.ok
  os := I.os
  bare := I.bare
  base := {
    keep := I.base.keep
    slot := I.base.slot
    free := fun b u q n hx => by
      rw [upd_ne fun z => by rw [z, n0] at q; cases q]
      exact I.base.free b u q n hx
    there := I.base.there
    tups := fun b xs q => by
      have z := I.base.tups b xs q
      rw [upd_ne (ne_of_none z na)]
      exact z
    frzs := fun b u v q => by
      have z := I.base.frzs b u v q
      rw [upd_ne (ne_of_none z na)]
      exact z
    tbls := fun b ps q => by
      obtain ⟨m, z⟩ := I.base.tbls b ps q
      exact ⟨m, by rw [upd_ne (ne_of_none z na)]; exact z⟩ }
  loc := I.loc
  cell := I.cell
  free := by rw [upd_ne (Ne.symm nL)]; exact I.free
  freeC := fun x c e => by
    have ne : c ≠ a := fun z => by
      obtain ⟨v, ob, q, dq⟩ := I.cell x c e
      rw [z, he] at q
      cases q
      exact nC v dq
    rw [upd_ne ne]
    exact I.freeC x c e
  pin := fun p hp => by
    obtain ⟨p1, p2, p3⟩ := I.pin p hp
    exact ⟨p1, by rw [upd_ne (nP p hp)]; exact p2, p3⟩
  hok := fun b u e => by
    by_cases hb : b = a
    · subst hb
      rw [upd_same] at e
      cases e
      exact new
    · rw [upd_ne hb] at e
      exact (I.hok b u e).stay (fun _ _ _ q => q) (fun c q => by rw [upd_ne (ne_of_none q na)]; exact q) fun c xs q => by rw [upd_ne (ne_of_none q na)]; exact q
  len := I.len
end
/-- what «except x as n: y = n» wishes of an exception of the body: n's slot is i, y's is j; behind it the exception stands tracked -/
def wKept (K : PySem.W.Frag) (c : Value) (i j : Nat) (Wout : WX) (D : Ends) : WX := fun cls d σ H =>
  ∃ b, PySem.W.exmOne K cls c = some b ∧ (b = true → ∀ a, H a = none → D.nx (((σ.set i (some (.ref a))).set j (some (.ref a))).set i none) (upd H a (ExK cls d a))) ∧ (b = false → Wout cls d σ H)
section
variable {X : Cx} {x n y : Str} {c : Value} {i j : Nat} {body : List Stmt} {np pos pos2 p3 p4 p5 : Pos} {tb : WX → TS} {Wout : WX}
theorem ps_try_kept (hs : X.stack = X.env :: X.outer) (hf : X.env.frame = some X.env.locals) (hex : X.ex = []) (hN : X.N.Nodup) (hi : X.N[i]? = some n) (hj : X.N[j]? = some y) (hij : i ≠ j) (hln : X.env.kindOf n = some .local) (hly : X.env.kindOf y = some .local) (hc : Names X x c) (tk : Takes X Wout)
    (hb : ∀ (W : WX) (pn : List (Addr × Obj)) (xe : Value → Shared → Prop), Takes (X.tr pn xe) W → PassesOwn (model X.prog X.w) X.A X.env xe → PSs (X.tr pn xe) body (tb W))
    (hdn : (n == ("__debug__" : Str)) = false := by decide) (hcd : (n == ("__classdict__" : Str)) = false := by decide) :
    PS X (.Try body [.ExceptHandler (some (.Name x np)) (some n) [.Assign [.Name y p3] (.Name n p4) p5] pos2] [] [] pos) (fun D σ H => tb (wKept X.K c i j Wout D) D σ H) := by
  refine ⟨fun pins s σ H D I h => ?_⟩
  have ok := I.ok
  have frames : X.A.frames = some (X.env :: X.outer) := by rw [ok.frames, hs]
  refine wpAny_Try_except (wpAny_mono ((hb (wKept X.K c i j Wout D) (X.pn ++ pins) _ (fun u s1 air => ?_) PassesOwn.looking).run [] s σ H D (I.toTry _) h) (fun f s1 done => ?_) fun _ _ z => z)
  · obtain ⟨a, B, sI, pins', σ1, H1, cls, d, rfl, J1, nb, up, sky, na, os, ag, b, hm, yes, no⟩ := air
    have J : Inv X pins σ1 H1 sI := J1.ofTry ok
    rw [show X.stack = X.env :: X.outer from hs] at sky
    refine Sky.land Zc.steady frames hf sky fun h3 fl3 up3 => ?_
    have J3 : Inv X pins σ1 H1 { s1 with heap := h3 } := J.landed nb fl3.1 (up.trans up3) os ag
    obtain ⟨oe3, vs3, he3, hz3, hd3⟩ := fl3.there
    have nfr : a ∉ frs (X.env :: X.outer) := fun hm => by
      obtain ⟨_, o', e', hnf⟩ := fl3.2.2.1.mem hm
      rw [he3] at e'
      cases e'
      exact hnf _ hd3
    have nL : a ≠ X.env.locals := fun z => nfr (List.mem_filterMap.mpr ⟨X.env, List.mem_cons_self, by rw [hf, z]⟩)
    have nF : a ∉ X.fs := fun hm => by
      obtain ⟨e, he, q⟩ := List.mem_filterMap.mp hm
      exact nfr (List.mem_filterMap.mpr ⟨e, List.mem_cons_of_mem _ he, q⟩)
    -- it is new: neither there at the entry nor pinned
    have gone : ∀ o, sI.heap.get? a ≠ some o := fun o q => by
      have z := nb a o q (by rw [hs]; exact nfr)
      rw [fl3.2.1] at z
      cases z
    have n0 : X.s_0.heap.get? a = none := by
      cases q : X.s_0.heap.get? a with
      | none => rfl
      | some o =>
        obtain ⟨o', q'⟩ := J.base.there a o q (by rw [hex]; simp)
        exact absurd q' (gone o')
    have nP : ∀ p ∈ X.pn ++ pins, p.1 ≠ a := fun p hp z => gone p.2 (z ▸ (J.pin p hp).1)
    have S3 := J3.suite he3 hd3 na nL nF
    refine wpAny_handleBy_cons (codeAny_handlers_test ?_) (by intro q; cases q)
    have LT : PySem.W.Looks (model X.prog X.w) h3 (typeOf (.ref a)) cls := fun _ _ _ _ k q => wpAny_typeOf_ref (k _ _ he3) (by rw [hz3.1]; exact q)
    have LM := PySem.W.exm_one (M := model X.prog X.w) J3.kIn LT hm
    have named : ∀ {Q : Value → Shared → Prop} {E : Value → Shared → Prop}, Q c { s1 with heap := h3 } → wpAny (model X.prog X.w) (X.A.mark (some (.ref a))) (eval (.Name x np) X.env) Q E { s1 with heap := h3 } := fun {Q E} q => by
      obtain ⟨hg, hdbg, hm | ⟨hm, hv, hnn⟩⟩ := hc
      · exact ld_glob (X := X.suite a ((a, oe3) :: (X.pn ++ pins))) S3 hg hm q hdbg
      · exact ld_blt (X := X.suite a ((a, oe3) :: (X.pn ++ pins))) S3 hg hm hv q hnn hdbg
    refine named (LM.here ?_)
    cases b with
    | true =>
      refine codeAny_handlers_suite_as (HandSPX.lands_againZ fl3 fun h4 fl4 up4 => ?_)
      have J4 : Inv X pins σ1 H1 { s1 with heap := h4 } := J.landed nb fl4.1 ((up.trans up3).trans up4) os ag
      obtain ⟨oe4, vs4, he4, hz4, hd4⟩ := fl4.there
      refine store_ok (X := X.suite a ((a, oe4) :: (X.pn ++ pins))) (v := .ref a) (J4.suite he4 hd4 na nL nF) hN hi (.inl hln) rfl (fun s5 S5 => ?_) (.inr hln)
      have suite : PSs (X.suite a ((a, oe4) :: (X.pn ++ pins))) [.Assign [.Name y p3] (.Name n p4) p5] (tAsg (tVar i) (gName j)) := pss_one (ps_set hN hj (.inl hly) (pe_var hi (.inl hln) hdn hcd) (hf := .inr hly))
      have len1 : i < σ1.length := by
        rw [J.len]
        exact (List.getElem?_eq_some_iff.mp hi).1
      refine wpAny_mono (suite.run [] s5 _ H1 { nx := fun σ' H' => σ' = (σ1.set i (some (.ref a))).set j (some (.ref a)) ∧ H' = H1, rt := fun _ _ => False } S5 ⟨.ref a, by rw [List.getElem?_set_self len1], rfl, rfl⟩) (fun f s6 done => ?_) fun _ _ z => z.elim
      cases f with
      | next =>
        obtain ⟨σ6, H6, S6, rfl, rfl⟩ := done
        have he6 := (S6.pin (a, oe4) (List.mem_append_left _ List.mem_cons_self)).1
        refine gone_ok (track (S6.unsuite ok) (o := ExK cls d a) he6 na n0 nL (fun v q => by rw [hd4] at q; cases q) nP (exK_ok he6 hz4 hd4)) hN hi hln fun s7 J7 => ⟨_, _, J7, yes rfl a na⟩
      | brk =>
        obtain ⟨_, _, _, z⟩ := done
        exact z.elim
      | cont =>
        obtain ⟨_, _, _, z⟩ := done
        exact z.elim
      | ret u =>
        obtain ⟨_, _, _, _, _, z⟩ := done
        exact z.elim
    | false =>
      show wpAny _ X.A (handleBy (.ref a) X.env []) _ _ _
      refine wpAny_handleBy_nil ?_
      obtain ⟨_, _, _, oe, vs, T, _, _, he, _, hd, h1, _⟩ := id fl3
      unfold PySem.passOn
      refine wpAny_bind (wpAny_field he hd h1 ?_)
      rw [if_neg (show ¬ ((Value.ref T == Value.none) = true) from by simp)]
      have fin : wpAny (model X.prog X.w) X.A (setFlight (.ref a) X.env.frame) (fun _ s4 => wpAny (model X.prog X.w) X.A (throw (.ref a) : Sem Flow) (SP X pins D) X.xe s4) X.xe { s1 with heap := h3 } := by
        rw [hf]
        exact HandSPX.setFlight_upZ fl3 fun h4 hh4 up4 => wpAny_throw (tk _ _ ⟨a, B, sI, pins, σ1, H1, cls, d, rfl, J, nb, (up.trans up3).trans up4, .inr (.inr (by rw [hs]; exact hh4)), na, os, ag, no rfl⟩)
      first
        | exact wpAny_bind (wpAny_pure (wpAny_bind fin))
        | exact wpAny_bind fin
  · cases f with
    | next =>
      obtain ⟨σ', H', J', q⟩ := done
      exact wpAny_execs_nil ⟨σ', H', J'.ofTry ok, q⟩
    | brk =>
      obtain ⟨σ', H', J', q⟩ := done
      exact ⟨σ', H', J'.ofTry ok, q⟩
    | cont =>
      obtain ⟨σ', H', J', q⟩ := done
      exact ⟨σ', H', J'.ofTry ok, q⟩
    | ret u =>
      obtain ⟨v, σ', H', J', r, q⟩ := done
      exact ⟨v, σ', H', J'.ofTry ok, r, q⟩
end
/-! ### isinstance of a kept exception -/
/-- the object as the library's rules want it -/
theorem instAt_kept {h : Heap} {a D : Addr} {oe : Obj} {vs : Array Value} (e : h.get? a = some oe) (z : Zc (.ref D) none oe) (d : oe.data = .fields vs) : PySem.W.InstAt h a oe D none := by
  obtain ⟨oc, od, oda, osl⟩ := oe
  obtain ⟨h1, h2⟩ := z
  dsimp only at h1 h2 d
  subst h1 h2 d
  exact ⟨e, rfl, rfl, trivial⟩
def rIsX (K : PySem.W.Frag) : List V → Hp → VK → Prop := fun xs H Q => ∃ (a D : Addr) (c : V) (u : Value) (b : Bool), xs = [.ref a, c] ∧ H a = some (ExK (.ref D) none a) ∧ ExcC K D ∧ ClsV c u ∧ PySem.W.kitOne K (.ref D) u = some b ∧ Q (.bl b) H
def rIsXT (K : PySem.W.Frag) : List V → Hp → VK → Prop := fun xs H Q => ∃ (a D tp : Addr) (cs : List V) (us : List Value) (b : Bool), xs = [.ref a, .ref tp] ∧ H a = some (ExK (.ref D) none a) ∧ ExcC K D ∧ H tp = some (.tup cs) ∧ Paired ClsV cs us ∧ PySem.W.kitAny K (.ref D) us = some b ∧ Q (.bl b) H
section
variable {X : Cx} (K : PySem.W.Frag)
theorem call_isX_k (hk : X.K = K := by rfl) : CallR X (.builtin "isinstance") (rIsX K) := by
  subst hk
  intro pins s σ H xs us Q I r h
  obtain ⟨a, D, c, u, b, rfl, ha, C, k, e, q⟩ := h
  obtain ⟨u1, u2, rfl, r1, r2⟩ := vals2 r
  have e2 := k.eq r2
  subst e2
  cases r1
  obtain ⟨⟨oe, vs, he, hz, hd⟩, _⟩ := I.hok a _ ha
  exact PySem.W.kia_one (PySem.W.handS_kitx_exc C.hg C.hk C.hs C.hd C.ha C.hn C.ht C.hm) I.kIn (instAt_kept he hz hd) e (fun z => nomatch z) fun tk => ⟨.bl b, H, I.tok tk, rfl, q⟩
theorem call_isXT_k (hk : X.K = K := by rfl) : CallR X (.builtin "isinstance") (rIsXT K) := by
  subst hk
  intro pins s σ H xs us Q I r h
  obtain ⟨a, D, tp, cs, ws, b, rfl, ha, C, hT, k, e, q⟩ := h
  obtain ⟨u1, u2, rfl, r1, r2⟩ := vals2 r
  cases r1
  cases (show u2 = Value.ref tp from r2)
  obtain ⟨⟨oe, vs, he, hz, hd⟩, _⟩ := I.hok a _ ha
  obtain ⟨_, its, rv, o, h1, h2, n, h3⟩ := (show ObjOk X.prog X.w H s.heap tp (.tup cs) from I.hok tp _ hT)
  have e3 := ClsV.all k rv
  subst e3
  obtain ⟨oc, od, dt, sl⟩ := o
  simp only at h2 h3
  subst h2 h3
  exact PySem.W.kia_tup (PySem.W.handS_kitx_exc C.hg C.hk C.hs C.hd C.ha C.hn C.ht C.hm) I.kIn (instAt_kept he hz hd) h1 e (fun z => nomatch z) fun tk => ⟨.bl b, H, I.tok tk, rfl, q⟩
end
/-! ### facts of own exception classes, calls of defs that raise, defs with defaults -/
/-- an own exception class over ValueError, without an own __init__ -/
structure ExOwn (K : PySem.W.Frag) (mg : Str → Option Value) (x : Str) (C : Addr) : Prop where
  g : mg x = some (.ref C)
  x : PySem.W.excIn K C [.type "ValueError", .type "Exception", .type "BaseException", .type "object"] "ValueError.__new__" = true
  k : PySem.W.keepIn K (.ref C) = true
  b : PySem.W.subIn K (.ref C) (.type "BaseException") = some true
  t : PySem.W.typeIn K (.ref C) = some (.type "type")
  c : ExcC K C
theorem kit_ref {K : PySem.W.Frag} {A C : Addr} {b : Bool} (n : (Value.ref A == Value.ref C) = false) (i : PySem.W.isClsIn K C = true) (t : PySem.W.typeIn K (.ref C) = some (.type "type")) (q : PySem.W.subIn K (.ref A) (.ref C) = some b) : PySem.W.kitOne K (.ref A) (.ref C) = some b := by
  unfold PySem.W.kitOne
  rw [if_neg (by rw [n]; exact Bool.false_ne_true)]
  have i' : (PySem.W.clsIn K C).isSome = true := i
  show (if ((PySem.W.clsIn K C).isSome && PySem.W.typeIn K (.ref C) == some (.type "type")) = true then PySem.W.subIn K (.ref A) (.ref C) else none) = some b
  rw [i', t, if_pos (by simp)]
  exact q
theorem kit_self {K : PySem.W.Frag} {C : Addr} : PySem.W.kitOne K (.ref C) (.ref C) = some true := by
  unfold PySem.W.kitOne
  rw [if_pos (by simp)]
theorem kit_val {K : PySem.W.Frag} {A : Addr} (q : PySem.W.subIn K (.ref A) (.type "ValueError") = some true) : PySem.W.kitOne K (.ref A) (.type "ValueError") = some true := by
  unfold PySem.W.kitOne
  rw [if_neg (by simp)]
  have m : PySem.W.kitMeta "ValueError" = true := by decide +kernel
  show (if PySem.W.kitMeta "ValueError" = true then PySem.W.subIn K (.ref A) (.type "ValueError") else none) = some true
  rw [if_pos m]
  exact q
theorem exm_ref2 {K : PySem.W.Frag} {A C : Addr} {b : Bool} (h1 : PySem.W.subIn K (.ref C) (.type "BaseException") = some true) (i : PySem.W.isClsIn K C = true) (t : PySem.W.typeIn K (.ref C) = some (.type "type")) (q : PySem.W.subIn K (.ref A) (.ref C) = some b) : PySem.W.exmOne K (.ref A) (.ref C) = some b := by
  have i' : (PySem.W.clsIn K C).isSome = true := i
  show (if (PySem.W.subIn K (.ref C) (.type "BaseException") == some true) = true then (if ((PySem.W.clsIn K C).isSome && PySem.W.typeIn K (.ref C) == some (.type "type")) = true then PySem.W.subIn K (.ref A) (.ref C) else none) else none) = some b
  rw [h1, i', t, if_pos (by simp), if_pos (by simp)]
  exact q
/-- none of some classes -/
theorem kit_none {K : PySem.W.Frag} {t : Value} : ∀ {us : List Value}, (∀ u ∈ us, PySem.W.kitOne K t u = some false) → PySem.W.kitAny K t us = some false
  | [], _ => rfl
  | u :: us, h => kitAny_cons (h u List.mem_cons_self) (fun _ => kit_none fun x hx => h x (List.mem_cons_of_mem _ hx)) (fun z => by cases z)
theorem cls_all : ∀ {cs : List Addr}, Paired ClsV (cs.map V.ref) (cs.map Value.ref)
  | [] => .nil
  | c :: _ => .cons (.own c) cls_all
/-- a def with defaults dvs, and with its promise -/
def DfD (K : PySem.W.Frag) (mg : Str → Option Value) (x : Str) (st : Stmt) (ps : List Str) (dvs : List V) : Prop :=
  ∃ (f : Addr) (fd : FuncData), mg x = some (.ref f) ∧ FunD K x x (defArgs st) (defBody st) (defScope st) dvs [] f fd ∧ (∃ ds, Vals dvs ds ∧ Binds K fd ps ds) ∧ Binds K fd ps []
def OkD (P : Program) (w : World) (K : PySem.W.Frag) (mg : Str → Option Value) (base : Heap) (CX : CXT) (k : Nat) (x : Str) (ps : List Str) (dvs : List V) (sp : Sp) : Prop :=
  ∃ (f : Addr) (fd : FuncData), mg x = some (.ref f) ∧ PySem.W.keepIn K (.ref f) = true ∧ (∃ ds, Vals dvs ds ∧ Binds K fd ps ds) ∧ Binds K fd ps [] ∧ FnOk P w K mg base CX k f fd ps sp
theorem dfD_mk {K : PySem.W.Frag} {mg : Str → Option Value} {x : Str} {st : Stmt} {ps : List Str} {dvs : List V} {f T : Addr} {oc oC kV dc pm cd ct : Value} {od oD an : Option Addr} {sl sD : Array (Option Value)} {its : List Value} {n : Nat}
    (hm : mg x = some (.ref f)) (l : K.lookup f = some ⟨oc, od, .func (PySem.W.fnOf x x (defArgs st) (defBody st) (defScope st) (.ref T) kV dc pm an cd ct), sl⟩) (c : PySem.W.codeIn K cd x = true) (k : PySem.W.keepIn K (.ref f) = true)
    (d : K.lookup T = some ⟨oC, oD, .seq its.toArray n, sD⟩) (r : Vals dvs its) (hd : dvs ≠ []) {m : Nat} (hn : m + dvs.length = ps.length) (hz : dvs.drop dvs.length = [])
    (h1 : ∀ (T : Addr) (kV doc pm : Value) (an : Option Addr) (cdv ct : Value) (us its : List Value), us.length = m → its.length = dvs.length →
      ∃ k, bindArgs (PySem.W.fnOf x x (defArgs st) (defBody st) (defScope st) (.ref T) kV doc pm an cdv ct) ⟨us, []⟩ = seqItems? (.ref T) >>= k ∧ k (some its.toArray) = pure (ps.zip (us ++ its.drop 0)))
    (h2 : ∀ (T : Addr) (kV doc pm : Value) (an : Option Addr) (cdv ct : Value) (us its : List Value), us.length = ps.length → its.length = dvs.length →
      ∃ k, bindArgs (PySem.W.fnOf x x (defArgs st) (defBody st) (defScope st) (.ref T) kV doc pm an cdv ct) ⟨us, []⟩ = seqItems? (.ref T) >>= k ∧ k (some its.toArray) = pure (ps.zip (us ++ its.drop dvs.length))) : DfD K mg x st ps dvs := by
  have F : FunD K x x (defArgs st) (defBody st) (defScope st) dvs [] f (PySem.W.fnOf x x (defArgs st) (defBody st) (defScope st) (.ref T) kV dc pm an cd ct) :=
    ⟨⟨oc, od, .ref T, kV, dc, pm, an, cd, ct, sl, rfl, l, c, .inr ⟨hd, T, _, its, n, rfl, d, rfl, r⟩, .inl rfl⟩, k⟩
  refine ⟨f, _, hm, F, F.binds1 m 0 hd (by omega) h1, ?_⟩
  obtain ⟨ds, v, b⟩ := F.binds1 ps.length dvs.length hd (by omega) h2
  rw [hz] at v
  cases v
  exact b
section
variable {P : Program} {w : World} {K : PySem.W.Frag} {mg : Str → Option Value} {base : Heap}
theorem DfD.ok {CX : CXT} {x : Str} {st : Stmt} {N ps : List Str} {dvs : List V} {k : Nat} {sp : Sp} (D : DfD K mg x st ps dvs) (S : FnScope N ps (defScope st)) (len : ∀ vs H Q E, sp vs H Q E → vs.length = ps.length)
    (hbody : ∀ (f : Addr) (cdv : Value) (A : Around) (outer : List Env) (s : Shared) (H : Hp) (vs : List V) (Q : VK) (E : XK), Room k (A.deeper (envOfC x (defScope st) s.heap.objs.size f cdv)) → sp vs H Q E →
      ∃ t, PSs (cxOf CX P w K mg base N x (defScope st) f cdv A outer s H E) (defBody st) t ∧ t { nx := fun _ H' => Q .non H', rt := Q } (start N vs) H) : OkD P w K mg base CX (k + 1) x ps dvs sp := by
  obtain ⟨f, fd, hm, F, hb, hb0⟩ := D
  exact ⟨f, fd, hm, F.kp, hb, hb0, F.ok S len (hbody f)⟩
/-- a def that may raise -/
theorem Df.okX {x : Str} {st : Stmt} {N ps : List Str} {k : Nat} {sp : Sp} (D : Df K mg x st ps) (S : FnScope N ps (defScope st)) (len : ∀ vs H Q E, sp vs H Q E → vs.length = ps.length)
    (hbody : ∀ (f : Addr) (cdv : Value) (A : Around) (outer : List Env) (s : Shared) (H : Hp) (vs : List V) (Q : VK) (E : XK), Room k (A.deeper (envOfC x (defScope st) s.heap.objs.size f cdv)) → sp vs H Q E →
      ∃ t, PSs (cxOf (L2.CX P w) P w K mg base N x (defScope st) f cdv A outer s H E) (defBody st) t ∧ t { nx := fun _ H' => Q .non H', rt := Q } (start N vs) H) : OkF P w K mg base (L2.CX P w) (k + 1) x ps sp := by
  obtain ⟨f, fd, hm, F, hb⟩ := D
  exact ⟨f, fd, hm, F.kp, hb, F.okX S len (hbody f)⟩
end
section
variable {X : Cx} {k k' : Nat} {x : Str} {ps : List Str} {sp : Sp} {e : Expr} {es : List Expr} {t : TA} {p pos : Pos} {W : WX} {dvs : List V}
/-- f(e, ..) where f may raise -/
theorem pe_cx (O : OkF X.prog X.w X.K X.mg X.base (L2.CX X.prog X.w) k x ps sp) (hr : Room k' X.A) (tk : Takes X W) (ha : PA X (e :: es) t) (hk : k ≤ k' := by decide) (hg : Gl X x := by rfl)
    (hdb : (x == ("__debug__" : Str)) = false := by decide) (he : starEach (e :: es) X.env = (false, eval e X.env) :: starEach es X.env := by rfl) (hpl : (backTo pos (starEach es X.env)).any (·.1) = false := by rfl) :
    PE X (.Call (.Name x p) (e :: es) [] pos) (tCallS sp (WE W) t) := by
  obtain ⟨f, fd, hm, hkp, hb, F⟩ := O
  exact pe_callS F (hr.mono hk) hg hm hkp hb (fun σ => passAt tk σ) ha hdb he hpl
/-- the same, f with defaults, all arguments written -/
theorem pe_cxn (O : OkD X.prog X.w X.K X.mg X.base (L2.CX X.prog X.w) k x ps dvs sp) (hr : Room k' X.A) (tk : Takes X W) (ha : PA X (e :: es) t) (hk : k ≤ k' := by decide) (hg : Gl X x := by rfl)
    (hdb : (x == ("__debug__" : Str)) = false := by decide) (he : starEach (e :: es) X.env = (false, eval e X.env) :: starEach es X.env := by rfl) (hpl : (backTo pos (starEach es X.env)).any (·.1) = false := by rfl) :
    PE X (.Call (.Name x p) (e :: es) [] pos) (tCallS sp (WE W) t) := by
  obtain ⟨f, fd, hm, hkp, _, hb, F⟩ := O
  exact pe_callS F (hr.mono hk) hg hm hkp hb (fun σ => passAt tk σ) ha hdb he hpl
/-- the same, the defaults fill up -/
def tCallD (sp : Sp) (dvs : List V) (E : L2.St → XK) (t : TA) : TE := fun σ H Q => t σ H fun vs H1 => sp (vs ++ dvs) H1 Q (E σ)
theorem pe_cxd (O : OkD X.prog X.w X.K X.mg X.base (L2.CX X.prog X.w) k x ps dvs sp) (hr : Room k' X.A) (tk : Takes X W) (ha : PA X (e :: es) t) (hk : k ≤ k' := by decide) (hg : Gl X x := by rfl)
    (hdb : (x == ("__debug__" : Str)) = false := by decide) (he : starEach (e :: es) X.env = (false, eval e X.env) :: starEach es X.env := by rfl) (hpl : (backTo pos (starEach es X.env)).any (·.1) = false := by rfl) :
    PE X (.Call (.Name x p) (e :: es) [] pos) (tCallD sp dvs (WE W) t) := by
  obtain ⟨f, fd, hm, hkp, ⟨ds, hv, hb⟩, _, F⟩ := O
  refine ⟨fun pins s σ H Q I h => ?_⟩
  refine wpAny_Call_Name_kw (ld_glob I hg hm ?_ hdb)
  refine PySem.W.callWith_K (h₀ := X.base) I.ok.mod.kin hkp (thn (ha.run pos pins s σ H _ I h) fun us s1 ⟨vs, H1, I1, r, q⟩ => ⟨I1.kIn, ?_⟩) he hpl
  have hl : (vs ++ dvs).length = ps.length := F.len _ _ _ _ q
  have b := hb s1 us I1.kIn (by rw [← hl, List.length_append, List.length_append, r.length, hv.length])
  refine wpAny_call (codeAny_mono (F.run X.A X.stack s1 H1 ⟨us, []⟩ (us ++ ds) (vs ++ dvs) Q (WE W σ) (hr.mono hk) I1.env0 b (r.append hv) q) fun rr s2 hq => ?_)
  cases rr with
  | error e => exact passAt tk σ pins H1 s1 e s2 I1 hq
  | ok fl =>
    cases fl with
    | ret u => exact I1.after hq
    | next => exact False.elim hq
    | brk => exact False.elim hq
    | cont => exact False.elim hq
end
end Dear

namespace Dear
open PySem PySem.Spec PyProof.Rows L2
/-! ### own exceptions with an own __init__: X(DearError), DearError.__init__(self, f'..{f}'), self.f = f -/
/-- what may stand in such a field -/
def FmtV (v : V) : Prop := v = .non ∨ (∃ y : Str, v = .str y ∧ y.length ≤ 900) ∨ ∃ i : Int, v = .int i ∧ i.natAbs < 2 ^ 64
theorem int_len {i : Int} (h : i.natAbs < 2 ^ 64) : (Str.ofString (toString i)).length ≤ 900 ∧ i.natAbs.log2 < 1920 := by
  constructor
  · have e := int_text_length_le10 (k := 30) (a := i) (by decide) (Nat.lt_of_lt_of_le h (by decide))
    rw [PySem.ofString_length]
    omega
  · have e : i.natAbs.log2 < 64 := PySem.Flt.log2_lt_of (by decide) h
    omega
section
variable {X : Cx}
/-- {x} of None, a text, a number: some short text -/
def tFmtN (te : TE) : TE := fun σ H Q => te σ H fun x H1 => FmtV x ∧ ∀ z : Str, z.length ≤ 900 → Q (.str z) H1
theorem pe_fmtN {e : Expr} {te : TE} {pos : Pos} (he : PE X e te) : PE X (.FormattedValue e (-1) none pos) (tFmtN te) := by
  refine ⟨fun pins s σ H Q I h => wpAny_FormattedValue_plain (thn (he.run pins s σ H _ I h) fun v s1 hv => ?_)⟩
  obtain ⟨x, H1, J, r, hx, q⟩ := hv
  rcases hx with e | ⟨y, e, hy⟩ | ⟨i, e, hi⟩
  · subst e
    cases (show v = Value.none from r)
    exact wpAny_formatField_none ⟨.str "None", H1, (J.tok _), ⟨_, rfl⟩, q _ (by decide +kernel)⟩
  · subst e
    obtain ⟨t, e⟩ := r
    subst e
    have q' := q y hy
    exact wpAny_formatField_str ⟨.str y, H1, J, ⟨t, rfl⟩, q'⟩ ⟨.str y, H1, J.tok _, ⟨_, rfl⟩, q'⟩ (Nat.le_trans hy (by decide))
  · subst e
    obtain ⟨t, e⟩ := r
    subst e
    exact wpAny_formatField_int (int_len hi).2 ⟨.str (Str.ofString (toString i)), H1, J.tok _, ⟨_, rfl⟩, q _ (int_len hi).1⟩
end
/-- C.__init__ of an own exception class without an own one is ValueError's -/
structure DrI (K : PySem.W.Frag) (mg : Str → Option Value) (x : Str) (C : Addr) : Prop where
  g : mg x = some (.ref C)
  s : PySem.W.specialIn K (.ref C) "__getattribute__" = some (some (.builtin "type.__getattribute__"))
  r : PySem.W.readsIn K C (.type "type") = true
  v : PySem.W.findCls K (.ref C) (.type "type") "__init__" = some (.val (.builtin "ValueError.__init__"))
section
variable {X : Cx}
theorem pe_drinit {e : Expr} {es : List Expr} {ta : TA} {x : Str} {C0 : Addr} {pl : Sem Bool} {p1 p2 pos : Pos} (T : DrI X.K X.mg x C0) (ha : PA X (e :: es) ta) (hg : Gl X x := by rfl) (hdb : (x == ("__debug__" : Str)) = false := by decide)
    (hc : eval (.Call (.Attribute (.Name x p1) "__init__" p2) (e :: es) [] pos) X.env = (do
      let o9 ← eval (.Name x p1) X.env
      standAt p2.atName
      let (f9, r9) ← holding [o9] (getMethod o9 "__init__" pl)
      callWith pos f9 r9 (backTo pos (starEach (e :: es) X.env)) (backToKw pos (keywordEach [] X.env))) := by rfl)
    (he : starEach (e :: es) X.env = (false, eval e X.env) :: starEach es X.env := by rfl) (hpl : (backTo pos (starEach es X.env)).any (·.1) = false := by rfl) :
    PE X (.Call (.Attribute (.Name x p1) "__init__" p2) (e :: es) [] pos) (tVeI X.K ta) := by
  refine ⟨fun pins s σ H Q I h => PySem.W.methodCall_KW (ld_glob I hg T.g ?_ hdb) hc⟩
  refine PySem.W.method_cls I.kIn T.s (PySem.W.cls_value I.kIn T.r T.v (by decide +kernel) ?_)
  show wpAny (model X.prog X.w) X.A (callWith pos (Value.builtin "ValueError.__init__") [] (backTo pos (starEach (e :: es) X.env)) []) _ _ _
  refine PyProof.Rows.callWith_method1 (thn (ha.run pos pins _ σ H _ (I.tok _) h) fun us s1 hh => ?_) he hpl
  obtain ⟨vs, H1, J, r, a, C, ws, ev, hl, O, ea, q⟩ := hh
  subst ev
  cases r with
  | @cons _ u0 _ ur ra rr =>
    cases (show u0 = Value.ref a from ra)
    exact oinit_ok O J ea (by rw [← Paired.length rr]; exact Nat.le_trans hl (by decide)) fun s' J' => ⟨.non, H1, J', rfl, q⟩
end
/-- the promise of such an __init__ -/
def spExI (f : Str) (K : PySem.W.Frag) : Sp := fun vs H Q _ => ∃ (a C : Addr) (v : V), vs = [.ref a, v] ∧ OexC K C ∧ PySem.W.findIn K (.ref C) f = some none ∧ H a = some (exo a C none) ∧ FmtV v ∧
  ∀ dx, H dx = none → dx ≠ a → Q .non (upd (upd H dx (exd dx [(f, v)])) a (exo a C (some dx)))
/-- what the written part says of the class at C -/
structure ExInit (K : PySem.W.Frag) (mg : Str → Option Value) (x f : Str) (C : Addr) : Prop where
  g : mg x = some (.ref C)
  o : OexC K C
  n : PySem.W.findIn K (.ref C) f = some none
  c : ExcC K C
def OkI (P : Program) (w : World) (K : PySem.W.Frag) (mg : Str → Option Value) (base : Heap) (x f : Str) (C : Addr) : Prop :=
  ∃ (fI : Addr) (fd : FuncData), PySem.W.findIn K (.ref C) "__init__" = some (some (.ref fI)) ∧ PySem.W.typeIn K (.ref fI) = some (.type "function") ∧ FnOk P w K mg base CX0 1 fI fd ["self", f] (spExI f K) ∧ Binds K fd ["self", f] [] ∧ ExInit K mg x f C
/-- the def __init__ of the class at C -/
def DfI (K : PySem.W.Frag) (C : Addr) (q : Str) (st : Stmt) (f : Str) : Prop := ∃ (fI : Addr) (fd : FuncData), PySem.W.findIn K (.ref C) "__init__" = some (some (.ref fI)) ∧ PySem.W.typeIn K (.ref fI) = some (.type "function") ∧ Fun K "__init__" q st fI fd ∧ Binds K fd ["self", f] []
section
variable {X : Cx}
theorem pmk_i {k' : Nat} {x f : Str} {C : Addr} {e : Expr} {ta : TA} {p pos : Pos} (O : OkI X.prog X.w X.K X.mg X.base x f C) (hr : Room k' X.A) (ha : PA X [e] ta) (hk : 2 ≤ k' := by decide) (hg : Gl X x := by rfl) (hdb : (x == ("__debug__" : Str)) = false := by decide)
    (he : starEach [e] X.env = (false, eval e X.env) :: starEach [] X.env := by rfl) (hpl : (backTo pos (starEach [] X.env)).any (·.1) = false := by rfl) : PMk X (.Call (.Name x p) [e] [] pos) (tMkO C (spExI f X.K) [] ta) := by
  obtain ⟨fI, fd, h1, h2, F, b, T⟩ := O
  exact pmk_oex T.o h1 h2 F (hr.mono hk) b .nil pass0 hg T.g ha hdb he hpl
end
/-- making it, at its reading -/
theorem mkx {K : PySem.W.Frag} {mg : Str → Option Value} {x f : Str} {C : Addr} {H : Hp} {v : V} {Q : XK} (T : ExInit K mg x f C) (fv : FmtV v) (q : ∀ d, H d = none → Q (.ref C) (some d) (upd H d (.xd [(f, v)]))) :
    [v].length ≤ 1000 ∧ ∀ a, H a = none → spExI f K (.ref a :: ([v] ++ [])) (upd H a (exo a C none)) (fun u H2 => u = .non ∧ ∃ (d : Addr) (fs : List (Str × V)), H2 a = some (exo a C (some d)) ∧ H2 d = some (exd d fs) ∧ H d = none ∧ Q (.ref C) (some d) (upd (del H2 a) d (.xd fs))) (fun _ _ _ => False) := by
  refine ⟨(by decide : 1 ≤ 1000), fun a ha => ⟨a, C, v, rfl, T.o, T.n, upd_same, fv, fun dx hd ne => ⟨rfl, dx, [(f, v)], upd_same, ?_, ?_, ?_⟩⟩⟩
  · rw [upd_ne ne, upd_same]
  · rw [upd_ne ne] at hd
    exact hd
  · rw [upd_ne ne] at hd
    have e : upd (del (upd (upd (upd H a (exo a C none)) dx (exd dx [(f, v)])) a (exo a C (some dx))) a) dx (.xd [(f, v)]) = upd H dx (.xd [(f, v)]) := by
      funext b
      by_cases h1 : b = dx
      · subst h1
        rw [upd_same, upd_same]
      · rw [upd_ne h1, upd_ne h1]
        by_cases h2 : b = a
        · subst h2
          rw [del_same, ha]
        · rw [del_ne h2, upd_ne h2, upd_ne h1, upd_ne h2]
    rw [e]
    exact q dx hd
/-! ### a kept exception with a dict: isinstance, its field -/
/-- the exception of the class D at a, with its dict or without -/
def ExAt (H : Hp) (D a : Addr) : Prop := H a = some (ExK (.ref D) none a) ∨ ∃ (dd : Addr) (fs : List (Str × V)), H a = some (ExK (.ref D) (some dd) a) ∧ H dd = some (.xd fs)
section
variable {prog : Program} {w : World} {A : Around} {E : Value → Shared → Prop} {s : Shared} {K : PySem.W.Frag} {x D : Addr} {ox : Obj} {od : Option Obj}
open PySem.W in
theorem class_of_exc {Q : Option Value → Shared → Prop} (C : ExcC K D) (X : K.In s.heap) (I : InstAt s.heap x ox D od) (h : Q (some (.ref D)) { s with toks := s.toks + 1 }) : wpAny (model prog w) A (getAttr? (.ref x) "__class__") Q E s := by
  obtain ⟨cd, hc, _⟩ := any_some C.hd
  have found : findObj K D od "__class__" = some (.bind (.builtin "getset_descriptor.__get__") (.builtin "object.__class__")) := by
    unfold findObj
    rw [hc, Option.bind_some, C.ha, Option.bind_some]
    simp [C.hn, C.ht]
  obtain ⟨hp, g, d, t, os⟩ := s
  have M0 := I.type (M := model prog w)
  have no : (Value.builtin "BaseException.__getattribute__" == Value.builtin "object.__getattribute__") = false := by decide +kernel
  have isE : Looks (model prog w) hp (isInstance (.ref x) (.type "BaseException")) true := M0.andThen (looks_subIn X C.hs)
  unfold getAttr? getAttrBy? getAttrBy
  refine wpAny_bind (wpAny_mkText (wpAny_bind (wpAny_attempt (wpAny_holding (wpAny_bind (M0.at (wpAny_bind ((looks_findIn (M := model prog w) X C.hg).at ?_))))))))
  show wpAny (model prog w) _ (if (true && Value.builtin "BaseException.__getattribute__" == Value.builtin "object.__getattribute__") = true then _ else _) _ _ _
  rw [no, if_neg (by decide)]
  unfold getAttrByItsOwn hookBefore
  refine wpAny_bind ?_
  rw [if_pos (show onTheHeap (.ref D) = true from rfl)]
  refine (looks_findIn (M := model prog w) X C.hk).at (wpAny_bind (wpAny_attempt (wpAny_holding ?_)))
  unfold callGetattribute
  rw [if_neg (by decide)]
  unfold boundAndCalled
  rw [F.excAttr_ValueError.ga.bind (.ref x)]
  refine wpAny_bind (wpAny_pure ?_)
  show wpAny (model prog w) _ (call (.builtin "BaseException.__getattribute__") [.ref x, .str "__class__" t]) _ _ _
  refine wpAny_call (codeAny_call_builtin F.excAttr_ValueError.ga.plain F.entry_bexc_ga (@check_slot (model prog w) _ _ ⟨hp, g, d, t + 1, os⟩ "BaseException.__getattribute__" "BaseException" "__getattribute__" (.ref x) [.str "__class__" t] [] _ (by decide +kernel) (by decide +kernel) isE (F.args_bexc_ga (.ref x) (.str "__class__" t)) ?_))
  unfold Builtin.«object.__getattribute__»
  refine wpAny_bind (wpAny_of_eq (a := ((Value.ref x : Value), [Value.str "__class__" t])) (by first | (simp only [slotArgs]; rfl) | rfl) (wpAny_bind (wpAny_pure (wpAny_bind (M0.at (wpAny_bind ((looks_find (M := model prog w) X I found).at ?_)))))))
  show wpAny (model prog w) _ (holding [Value.builtin "object.__class__"] (call (.builtin "getset_descriptor.__get__") [.builtin "object.__class__", .ref x, .ref D]) >>= ret) _ _ _
  refine wpAny_bind (wpAny_holding (wpAny_call (class_get (s := ⟨hp, g, d, t + 1, os⟩) (ox := ox) (od := od) X I C.hm (wpAny_pure ?_))))
  show wpAny (model prog w) _ (handedOut (.ref D)) _ _ _
  rw [handedOut_of (v := .ref D) rfl]
  first
    | exact wpAny_pure (wpAny_pure h)
    | exact wpAny_pure h
    | exact wpAny_pure (wpAny_bind (wpAny_pure (wpAny_pure h)))
open PySem.W in
theorem kitx_own (C : ExcC K D) : KitX K (.ref x) (.ref D) (fun h => InstAt h x ox D od) := by
  have Z := handS_kitx_exc (x := x) (ox := ox) C.hg C.hk C.hs C.hd C.ha C.hn C.ht C.hm
  refine ⟨fun _ _ _ I => I.type, fun M h X _ => ?_, Z.ne, fun X I k => class_of_exc C X I k⟩
  obtain ⟨cd, hc, _⟩ := any_some C.hd
  unfold clsIn at hc
  split at hc
  · rename_i ho
    intro A' Q' E' s' k q
    unfold isType loadHead
    exact wpAny_bind (wpAny_loadPart (k _ _ (X _ _ ho)) (wpAny_pure q))
  · cases hc
end
def rIsY (K : PySem.W.Frag) : List V → Hp → VK → Prop := fun xs H Q => ∃ (a D : Addr) (c : V) (u : Value) (b : Bool), xs = [.ref a, c] ∧ ExAt H D a ∧ ExcC K D ∧ ClsV c u ∧ PySem.W.kitOne K (.ref D) u = some b ∧ Q (.bl b) H
def rIsYT (K : PySem.W.Frag) : List V → Hp → VK → Prop := fun xs H Q => ∃ (a D tp : Addr) (cs : List V) (us : List Value) (b : Bool), xs = [.ref a, .ref tp] ∧ ExAt H D a ∧ ExcC K D ∧ H tp = some (.tup cs) ∧ Paired ClsV cs us ∧ PySem.W.kitAny K (.ref D) us = some b ∧ Q (.bl b) H
section
variable {X : Cx} {pins : List (Addr × Obj)} {σ : L2.St} {H : Hp} {s : Shared}
theorem inst_of (I : Inv X pins σ H s) {D a : Addr} (h : ExAt H D a) : ∃ oe od, PySem.W.InstAt s.heap a oe D od := by
  rcases h with h | ⟨dd, fs, h, hd⟩
  · obtain ⟨⟨oe, vs, he, hz, hv⟩, _⟩ := I.hok a _ h
    exact ⟨oe, none, instAt_kept he hz hv⟩
  · obtain ⟨⟨oe, vs, he, hz, hv⟩, _⟩ := I.hok a _ h
    have hx : ObjOk X.prog X.w H s.heap dd (.xd fs) := I.hok dd _ hd
    obtain ⟨mA, hns, _⟩ := hx
    obtain ⟨od, ho, _⟩ := lookIn_ns hns
    exact ⟨oe, some od, he, hz.1, by unfold PySem.W.notCls; rw [hv] <;> rfl, by rw [hz.2]; exact ho⟩
end
section
variable {X : Cx} (K : PySem.W.Frag)
theorem call_isY_k (hk : X.K = K := by rfl) : CallR X (.builtin "isinstance") (rIsY K) := by
  subst hk
  intro pins s σ H xs us Q I r h
  obtain ⟨a, D, c, u, b, rfl, ha, C, k, e, q⟩ := h
  obtain ⟨u1, u2, rfl, r1, r2⟩ := vals2 r
  have e2 := k.eq r2
  subst e2
  cases r1
  obtain ⟨oe, od, J⟩ := inst_of I ha
  exact PySem.W.kia_one (kitx_own C) I.kIn J e (fun z => nomatch z) fun tk => ⟨.bl b, H, I.tok tk, rfl, q⟩
theorem call_isYT_k (hk : X.K = K := by rfl) : CallR X (.builtin "isinstance") (rIsYT K) := by
  subst hk
  intro pins s σ H xs us Q I r h
  obtain ⟨a, D, tp, cs, ws, b, rfl, ha, C, hT, k, e, q⟩ := h
  obtain ⟨u1, u2, rfl, r1, r2⟩ := vals2 r
  cases r1
  cases (show u2 = Value.ref tp from r2)
  obtain ⟨oe, od9, J⟩ := inst_of I ha
  obtain ⟨_, its, rv, o, h1, h2, n, h3⟩ := (show ObjOk X.prog X.w H s.heap tp (.tup cs) from I.hok tp _ hT)
  have e3 := ClsV.all k rv
  subst e3
  obtain ⟨oc, od, dt, sl⟩ := o
  simp only at h2 h3
  subst h2 h3
  exact PySem.W.kia_tup (kitx_own C) I.kIn J h1 e (fun z => nomatch z) fun tk => ⟨.bl b, H, I.tok tk, rfl, q⟩
/-- e.f, e a kept exception -/
def tXfK (K : PySem.W.Frag) (f : Str) (te : TE) : TE := fun σ H Q => te σ H fun x H1 => ∃ (a C dd : Addr) (fs : List (Str × V)) (v : V), x = .ref a ∧ H1 a = some (ExK (.ref C) (some dd) a) ∧ H1 dd = some (.xd fs) ∧ ExcC K C ∧ PySem.W.findIn K (.ref C) f = some none ∧ fs.lookup f = some v ∧ Q v H1
theorem pe_xfK {e : Expr} {te : TE} {pos : Pos} {f : Str} (he : PE X e te) (hk : X.K = K := by rfl) (hb : attributeBase e f X.env (eval e X.env) = eval e X.env := by rfl) : PE X (.Attribute e f pos) (tXfK K f te) := by
  subst hk
  refine ⟨fun pins s σ H Q I h => attr_of hb (thn (he.run pins s σ H _ I h) fun u s1 hh => ?_)⟩
  obtain ⟨x, H1, J, rx, a, C, dd, fs, v, ex, ea, ed, T, hno, l, q⟩ := hh
  subst ex
  cases (show u = Value.ref a from rx)
  obtain ⟨⟨oe, vs, hoe, hz, hv⟩, _⟩ := J.hok a _ ea
  have hx : ObjOk X.prog X.w H1 s1.heap dd (.xd fs) := J.hok dd _ ed
  obtain ⟨mA, hns, hr⟩ := hx
  obtain ⟨od, ho, hl⟩ := lookIn_ns hns
  obtain ⟨u, hu, ru⟩ := RelO.some_of (v := v) (o := mA f) (by rw [← l]; exact hr f)
  have Z : PySem.W.InstAt s1.heap a oe C (some od) := ⟨hoe, hz.1, by unfold PySem.W.notCls; rw [hv] <;> rfl, by rw [hz.2]; exact ho⟩
  exact HandSPX.exc_get J.kIn Z T.hg T.hk T.hs (PySem.W.findObj_own T.hd hno rfl (by rw [hl, hu])) (handed_of ru) ⟨v, H1, J.tok _, ru, q⟩
end
end Dear

namespace Dear
open PySem PySem.Spec PyProof.Rows L2
/-! ### own classes: making an object, its methods; both may raise -/
def DfM (K : PySem.W.Frag) (C : Addr) (m q : Str) (st : Stmt) (ps : List Str) : Prop := ∃ (f : Addr) (fd : FuncData), Meth K C m f ∧ Fun K m q st f fd ∧ Binds K fd ps []
def DfC (K : PySem.W.Frag) (mg : Str → Option Value) (x : Str) (C : Addr) (q : Str) (st : Stmt) (ps : List Str) : Prop := mg x = some (.ref C) ∧ ∃ (f : Addr) (fd : FuncData), L2.Mk K C f ∧ Fun K "__init__" q st f fd ∧ Binds K fd ps []
def OkM (P : Program) (w : World) (K : PySem.W.Frag) (mg : Str → Option Value) (base : Heap) (CX : CXT) (k : Nat) (C : Addr) (m : Str) (ps : List Str) (sp : Sp) : Prop :=
  ∃ (f : Addr) (fd : FuncData), Meth K C m f ∧ Binds K fd ps [] ∧ FnOk P w K mg base CX k f fd ps sp
def OkC (P : Program) (w : World) (K : PySem.W.Frag) (mg : Str → Option Value) (base : Heap) (CX : CXT) (k : Nat) (x : Str) (C : Addr) (ps : List Str) (sp : Sp) : Prop :=
  mg x = some (.ref C) ∧ ∃ (f : Addr) (fd : FuncData), L2.Mk K C f ∧ Binds K fd ps [] ∧ FnOk P w K mg base CX k f fd ps sp
section
variable {P : Program} {w : World} {K : PySem.W.Frag} {mg : Str → Option Value} {base : Heap} {C : Addr} {x m q : Str} {st : Stmt} {N ps : List Str} {k : Nat} {sp : Sp}
theorem DfM.ok (D : DfM K C m q st ps) (S : FnScope N ps (defScope st)) (len : ∀ vs H Q E, sp vs H Q E → vs.length = ps.length)
    (body : ∀ (f : Addr) (cdv : Value) (A : Around) (outer : List Env) (s : Shared) (H : Hp) (vs : List V) (Q : VK) (E : XK), Room k (A.deeper (envOfC q (defScope st) s.heap.objs.size f cdv)) → sp vs H Q E →
      ∃ t, PSs (cxOf CX0 P w K mg base N q (defScope st) f cdv A outer s H E).nox (defBody st) t ∧ t { nx := fun _ H' => Q .non H', rt := Q } (start N vs) H) : OkM P w K mg base CX0 (k + 1) C m ps sp := by
  obtain ⟨f, fd, hm, F, hb⟩ := D
  exact ⟨f, fd, hm, hb, F.ok S len (body f)⟩
theorem DfM.okX (D : DfM K C m q st ps) (S : FnScope N ps (defScope st)) (len : ∀ vs H Q E, sp vs H Q E → vs.length = ps.length)
    (body : ∀ (f : Addr) (cdv : Value) (A : Around) (outer : List Env) (s : Shared) (H : Hp) (vs : List V) (Q : VK) (E : XK), Room k (A.deeper (envOfC q (defScope st) s.heap.objs.size f cdv)) → sp vs H Q E →
      ∃ t, PSs (cxOf (L2.CX P w) P w K mg base N q (defScope st) f cdv A outer s H E) (defBody st) t ∧ t { nx := fun _ H' => Q .non H', rt := Q } (start N vs) H) : OkM P w K mg base (L2.CX P w) (k + 1) C m ps sp := by
  obtain ⟨f, fd, hm, F, hb⟩ := D
  exact ⟨f, fd, hm, hb, F.okX S len (body f)⟩
theorem DfC.okX (D : DfC K mg x C q st ps) (S : FnScope N ps (defScope st)) (len : ∀ vs H Q E, sp vs H Q E → vs.length = ps.length)
    (body : ∀ (f : Addr) (cdv : Value) (A : Around) (outer : List Env) (s : Shared) (H : Hp) (vs : List V) (Q : VK) (E : XK), Room k (A.deeper (envOfC q (defScope st) s.heap.objs.size f cdv)) → sp vs H Q E →
      ∃ t, PSs (cxOf (L2.CX P w) P w K mg base N q (defScope st) f cdv A outer s H E) (defBody st) t ∧ t { nx := fun _ H' => Q .non H', rt := Q } (start N vs) H) : OkC P w K mg base (L2.CX P w) (k + 1) x C ps sp := by
  obtain ⟨g, f, fd, hm, F, hb⟩ := D
  exact ⟨g, f, fd, hm, hb, F.okX S len (body f)⟩
theorem DfC.ok (D : DfC K mg x C q st ps) (S : FnScope N ps (defScope st)) (len : ∀ vs H Q E, sp vs H Q E → vs.length = ps.length)
    (body : ∀ (f : Addr) (cdv : Value) (A : Around) (outer : List Env) (s : Shared) (H : Hp) (vs : List V) (Q : VK) (E : XK), Room k (A.deeper (envOfC q (defScope st) s.heap.objs.size f cdv)) → sp vs H Q E →
      ∃ t, PSs (cxOf CX0 P w K mg base N q (defScope st) f cdv A outer s H E).nox (defBody st) t ∧ t { nx := fun _ H' => Q .non H', rt := Q } (start N vs) H) : OkC P w K mg base CX0 (k + 1) x C ps sp := by
  obtain ⟨g, f, fd, hm, F, hb⟩ := D
  exact ⟨g, f, fd, hm, hb, F.ok S len (body f)⟩
end
/-- o.m(..), the way out for a raise told at the names' values -/
def tMethX (C : Addr) (m : Str) (sp : Sp) (E : L2.St → XK) (ta : TE) (t : TA) : TE := fun σ H Q => ta σ H fun x H1 => ∃ a dx fs, x = .ref a ∧ H1 a = some (.ins C dx fs) ∧ fs.lookup m = none ∧ t σ H1 fun vs H2 => sp (x :: vs) H2 Q (E σ)
def tMakeX (C : Addr) (sp : Sp) (E : L2.St → XK) (t : TA) : TE := fun σ H Q => t σ H fun vs H1 => ∀ x dx, H1 x = none → H1 dx = none → dx ≠ x → sp (.ref x :: vs) (upd (upd H1 dx (.own x)) x (.ins C dx [])) (fun v H2 => v = .non ∧ Q (.ref x) H2) (E σ)
section
variable {X : Cx} {k k' : Nat} {C : Addr} {x m : Str} {ps : List Str} {sp : Sp} {o e : Expr} {es : List Expr} {ta : TE} {t : TA} {p pos apos : Pos} {W : WX}
/-- o.m(e, ..) -/
theorem pe_m {pl : Sem Bool} (O : OkM X.prog X.w X.K X.mg X.base CX0 k C m ps sp) (c : Cls X.K C) (hr : Room k' X.A) (he : PE X o ta) (ha : PA X (e :: es) t) (hk : k ≤ k' := by decide)
    (hst : starEach (e :: es) X.env = (false, eval e X.env) :: starEach es X.env := by rfl) (hpl : (backTo pos (starEach es X.env)).any (·.1) = false := by rfl)
    (ht : eval (.Call (.Attribute o m apos) (e :: es) [] pos) X.env = (do
      let u ← eval o X.env
      standAt apos.atName
      let (g, fst) ← holding [u] (getMethod u m pl)
      callWith pos g fst (backTo pos (starEach (e :: es) X.env)) (backToKw pos (keywordEach [] X.env))) := by rfl) : PE X (.Call (.Attribute o m apos) (e :: es) [] pos) (tMeth C m sp [] E0 ta t) := by
  obtain ⟨f, fd, hm, hb, F⟩ := O
  exact pe_meth he c hm F (hr.mono hk) hb .nil pass0 ha hst hpl ht
theorem pe_mz {pl : Sem Bool} (O : OkM X.prog X.w X.K X.mg X.base CX0 k C m ps sp) (c : Cls X.K C) (hr : Room k' X.A) (he : PE X o ta) (hk : k ≤ k' := by decide)
    (ht : eval (.Call (.Attribute o m apos) [] [] pos) X.env = (do
      let u ← eval o X.env
      standAt apos.atName
      let (g, fst) ← holding [u] (getMethod u m pl)
      callWith pos g fst (backTo pos (starEach [] X.env)) (backToKw pos (keywordEach [] X.env))) := by rfl) : PE X (.Call (.Attribute o m apos) [] [] pos) (tMeth C m sp [] E0 ta tNil) := by
  obtain ⟨f, fd, hm, hb, F⟩ := O
  exact pe_meth0 he c hm F (hr.mono hk) hb .nil pass0 ht
/-- o.m(e, ..) that may raise -/
theorem pe_mx {pl : Sem Bool} (O : OkM X.prog X.w X.K X.mg X.base (L2.CX X.prog X.w) k C m ps sp) (c : Cls X.K C) (hr : Room k' X.A) (tk : Takes X W) (he : PE X o ta) (ha : PA X (e :: es) t) (hk : k ≤ k' := by decide)
    (hst : starEach (e :: es) X.env = (false, eval e X.env) :: starEach es X.env := by rfl) (hpl : (backTo pos (starEach es X.env)).any (·.1) = false := by rfl)
    (ht : eval (.Call (.Attribute o m apos) (e :: es) [] pos) X.env = (do
      let u ← eval o X.env
      standAt apos.atName
      let (g, fst) ← holding [u] (getMethod u m pl)
      callWith pos g fst (backTo pos (starEach (e :: es) X.env)) (backToKw pos (keywordEach [] X.env))) := by rfl) : PE X (.Call (.Attribute o m apos) (e :: es) [] pos) (tMethX C m sp (WE W) ta t) := by
  obtain ⟨f, fd, hm, hb, F⟩ := O
  refine ⟨fun pins s σ H Q I h => ?_⟩
  refine PySem.W.methodCall_KW (pl := pl) (thn (he.run pins s σ H _ I h) fun u s1 ⟨y, H1, I1, ry, b, dx, fs, ey, eb, lk, q⟩ => ?_) ht
  subst ey
  obtain rfl : u = Value.ref b := ry
  refine getmeth_ok I1 eb c hm lk ?_
  refine PySem.W.callWith_K (first := [.ref b]) (h₀ := X.base) I.ok.mod.kin hm.kp (thn (ha.run pos pins s1 σ H1 _ I1 q) fun us s2 ⟨vs, H2, I2, r, q2⟩ => ⟨I2.kIn, ?_⟩) hst hpl
  exact run_fnS (us := .ref b :: us) (vs := .ref b :: vs) F (hr.mono hk) hb (E := WE W) (passAt tk σ) I2 (.cons rfl r) q2
/-- C(e, ..) whose __init__ may raise -/
theorem pe_mkx (O : OkC X.prog X.w X.K X.mg X.base (L2.CX X.prog X.w) k x C ps sp) (hr : Room k' X.A) (tk : Takes X W) (ha : PA X (e :: es) t) (hk : k + 1 ≤ k' := by decide) (hg : Gl X x := by rfl)
    (hdb : (x == ("__debug__" : Str)) = false := by decide) (he : starEach (e :: es) X.env = (false, eval e X.env) :: starEach es X.env := by rfl) (hpl : (backTo pos (starEach es X.env)).any (·.1) = false := by rfl) :
    PE X (.Call (.Name x p) (e :: es) [] pos) (tMakeX C sp (WE W) t) := by
  obtain ⟨hm, f, fd, M, hb, F⟩ := O
  refine ⟨fun pins s σ H Q I h => ?_⟩
  refine wpAny_Call_Name_kw (ld_glob I hg hm ?_ hdb)
  refine PySem.W.callWith_K (h₀ := X.base) I.ok.mod.kin M.kp (thn (ha.run pos pins s σ H _ I h) fun us s1 ⟨vs, H1, I1, r, q⟩ => ⟨I1.kIn, ?_⟩) he hpl
  have q1 := q (s1.heap.objs.size + 1) s1.heap.objs.size (I1.hok.fresh (Nat.le_succ _)) (I1.hok.fresh (Nat.le_refl _)) (Nat.ne_of_lt (Nat.lt_succ_self _))
  have J := Inv.made (C := C) I1
  have r1 : Vals (V.ref (s1.heap.objs.size + 1) :: vs) (Value.ref (s1.heap.objs.size + 1) :: us) := .cons rfl r
  have ln : (Value.ref (s1.heap.objs.size + 1) :: us ++ []).length = ps.length := by
    rw [List.append_nil, ← r1.length]
    exact F.len _ _ _ _ q1
  have b := hb _ (Value.ref (s1.heap.objs.size + 1) :: us) J.kIn ln
  rw [List.append_nil] at b
  refine wpAny_call (make_map (f := f) I1.kIn M.makes M.init (beq_iff_eq.mp M.fn) (codeAny_mono (F.run _ X.stack _ _ ⟨Value.ref (s1.heap.objs.size + 1) :: us, []⟩ _ _ _ (WE W σ) ((hr.mono hk).make C us [])
    (J.env0.make C us []) b r1 q1) fun rr s2 hq => ?_))
  cases rr with
  | error er => exact passAt tk σ pins _ _ er s2 J hq
  | ok fl =>
    cases fl with
    | ret u =>
      obtain ⟨v, H3, I3, rv, ev, q3⟩ := J.after hq
      subst ev
      exact ⟨rv, ⟨V.ref (s1.heap.objs.size + 1), H3, I3, rfl, q3⟩⟩
    | next => exact False.elim hq
    | brk => exact False.elim hq
    | cont => exact False.elim hq
end
/-- text += text, on an attribute -/
def rAddT : V → V → Hp → VK → Prop := fun x y H Q => ∃ i j, x = .str i ∧ y = .str j ∧ i.length + j.length ≤ sizeLine ∧ Q (.str (i ++ j)) H
theorem in_addT {X : Cx} : InOp X .Add rAddT := fun pins s σ H x y u v Q I rx ry h => iop_add_str pins s σ H x y u v Q I rx ry h
theorem pe_fld_k {X : Cx} (K : PySem.W.Frag) {e : Expr} {f : Str} {pos : Pos} {ta : TE} (he : PE X e ta) (hb : attributeBase e f X.env (eval e X.env) = eval e X.env) (hk : X.K = K := by rfl) : PE X (.Attribute e f pos) (tFld K ta f) := hk ▸ pe_fld he hb
end Dear

namespace Dear
open PySem PySem.Spec PyProof.Rows L2
/-! ### the set of a list of texts (any number), and how many it has -/
def dd1 (m : List Str) (v : Str) : List Str := if v ∈ m then m else m ++ [v]
def dd (xs : List Str) : List Str := xs.foldl dd1 []
theorem dd1_any (m : List Str) (v k : Str) : (m.any (· == k) || decide (k = v)) = (dd1 m v).any (· == k) := by
  unfold dd1
  by_cases h : v ∈ m
  · rw [if_pos h]
    by_cases e : k = v
    · subst e
      have : m.any (· == k) = true := List.any_eq_true.mpr ⟨k, h, by simp⟩
      rw [this]
      rfl
    · rw [decide_eq_false e, Bool.or_false]
  · rw [if_neg h, List.any_append]
    congr 1
    by_cases e : k = v
    · subst e; simp
    · have : ¬ v = k := fun z => e z.symm
      simp [e, this]
theorem dd1_len (m : List Str) (v : Str) : (if m.any (· == v) = true then m.length else m.length + 1) = (dd1 m v).length := by
  unfold dd1
  by_cases h : v ∈ m
  · have : m.any (· == v) = true := List.any_eq_true.mpr ⟨v, h, by simp⟩
    rw [if_pos h, if_pos this]
  · have : ¬ m.any (· == v) = true := fun z => by
      obtain ⟨x, hx, e⟩ := List.any_eq_true.mp z
      have e' : x = v := by simpa using e
      subst e'
      exact h hx
    rw [if_neg h, if_neg this, List.length_append]
    rfl
theorem dd_le : ∀ (xs m : List Str), (xs.foldl dd1 m).length ≤ m.length + xs.length
  | [], m => by simp
  | v :: r, m => by
    rw [List.foldl_cons]
    have h1 := dd_le r (dd1 m v)
    have h2 : (dd1 m v).length ≤ m.length + 1 := by
      unfold dd1
      split
      · omega
      · simp
    rw [List.length_cons]
    omega
theorem dd_more {xs : List Str} {i : Nat} {v : Str} (h : xs[i]? = some v) : dd (xs.take (i + 1)) = dd1 (dd (xs.take i)) v := by
  unfold dd
  rw [List.take_succ, h, List.foldl_append]
  rfl
/-- unlike ones: as many as there are -/
theorem dd_nodup : ∀ {xs : List Str} (m : List Str), (m ++ xs).Nodup → xs.foldl dd1 m = m ++ xs
  | [], m, _ => by simp
  | v :: r, m, h => by
    have hv : ¬ v ∈ m := fun z => by
      have := List.nodup_append.mp h
      exact this.2.2 v z v List.mem_cons_self rfl
    rw [List.foldl_cons]
    have e : dd1 m v = m ++ [v] := if_neg hv
    rw [e, dd_nodup (m ++ [v]) (by rw [List.append_assoc]; exact h), List.append_assoc]
    rfl
theorem dd_mem : ∀ (xs m : List Str) (k : Str), k ∈ xs.foldl dd1 m ↔ k ∈ m ∨ k ∈ xs
  | [], m, k => by simp
  | v :: r, m, k => by
    rw [List.foldl_cons, dd_mem r (dd1 m v) k]
    unfold dd1
    split
    · rename_i h
      constructor
      · rintro (h1 | h1)
        · exact .inl h1
        · exact .inr (List.mem_cons_of_mem _ h1)
      · rintro (h1 | h1)
        · exact .inl h1
        · rcases List.mem_cons.mp h1 with rfl | h1
          · exact .inl h
          · exact .inr h1
    · simp [or_assoc]
theorem dd_uniq : ∀ (xs m : List Str), m.Nodup → (xs.foldl dd1 m).Nodup
  | [], m, h => h
  | v :: r, m, h => by
    rw [List.foldl_cons]
    refine dd_uniq r _ ?_
    unfold dd1
    split
    · exact h
    · rename_i hv
      rw [List.nodup_append]
      exact ⟨h, by simp, fun a ha b hb e => by
        have : b = v := by simpa using hb
        subst this; subst e; exact hv ha⟩
/-- just unlike ones come to as many -/
theorem dd_full {xs : List Str} (h : (dd xs).length = xs.length) : xs.Nodup := by
  have key : ∀ (ys m : List Str), m.Nodup → (ys.foldl dd1 m).length = m.length + ys.length → (m ++ ys).Nodup := by
    intro ys
    induction ys with
    | nil => intro m hm _; simpa using hm
    | cons v r ih =>
      intro m hm e
      rw [List.foldl_cons] at e
      have hv : ¬ v ∈ m := fun z => by
        have e1 : dd1 m v = m := if_pos z
        rw [e1] at e
        have := dd_le r m
        rw [List.length_cons] at e
        omega
      have e1 : dd1 m v = m ++ [v] := if_neg hv
      rw [e1] at e
      have hm2 : (m ++ [v]).Nodup := by
        rw [List.nodup_append]
        exact ⟨hm, by simp, fun a ha b hb e2 => by
          have : b = v := by simpa using hb
          exact hv (this ▸ e2 ▸ ha)⟩
      have := ih (m ++ [v]) hm2 (by rw [e, List.length_append, List.length_cons]; simp; omega)
      rw [List.append_assoc] at this
      exact this
  have := key xs [] List.nodup_nil (by rw [List.length_nil, Nat.zero_add]; exact h)
  simpa using this
/-! ### a set of texts that can be walked -/
def signE (e : Int × Value) : Str := match e.2 with | .str z _ => z | _ => Str.empty
def TextE (P : Program) (w : World) (e : Int × Value) : Prop := ∃ z tk, e.2 = Value.str z tk ∧ e.1 = (PySem.strKind P w).hash z
/-- at a lies the set of the texts m -/
def SetW (P : Program) (w : World) (h : Heap) (a : Addr) (m : List Str) : Prop :=
  ∃ ob ms n tb, h.get? a = some ob ∧ ob.ExactSet ∧ ob.data = .set ms n tb ∧ (∀ e ∈ ms.toList, TextE P w e) ∧ (ms.toList.map signE).Perm m ∧
    ms.size < scanBound ∧ tb.fits ms.size = true ∧ Ris tb.place.toList ∧ (w.params.followText "set-order" = true ∨ tb.led = true)
section
variable {P : Program} {w : World} {A : Around} {E : Value → Shared → Prop} {s : Shared} {a : Addr} {m : List Str}
theorem text_elems {l : List (Int × Value)} (g : ∀ e ∈ l, TextE P w e) : ElemsOf (PySem.strKind P w) l := fun e he => by
  obtain ⟨z, tk, e1, e2⟩ := g e he
  exact ⟨⟨z, by rw [e1]; exact strKind_is P w z tk, e2⟩, by rw [e1]; rfl⟩
theorem text_is {e : Int × Value} (g : TextE P w e) (z : Str) : (PySem.strKind P w).is z e.2 = true ↔ signE e = z := by
  obtain ⟨y, tk, e1, _⟩ := g
  unfold signE
  rw [e1]
  show ((y == z) = true) ↔ y = z
  exact beq_iff_eq
/-- behind the laying: the table may be laid anew -/
theorem add_rest {gave : Bool → Sem Unit} (hg : ∀ (b : Bool) (s1 : Shared) (Q1 : Unit → Shared → Prop), Q1 () s1 → wpAny (model P w) A (gave b) Q1 E s1)
    {ob : Obj} {ms : Array (Int × Value)} {n : Nat} {tb : SetTable} (at0 : s.heap.get? a = some ob) (ex : ob.ExactSet) (da : ob.data = .set ms n tb)
    {ms1 : Array (Int × Value)} {tb1 : SetTable} (te : ∀ e ∈ ms1.toList, TextE P w e) (pm1 : (ms1.toList.map signE).Perm m)
    (few : ms1.size < scanBound) (fit : tb1.fits ms1.size = true) (ris : Ris tb1.place.toList) (led : w.params.followText "set-order" = true ∨ tb1.led = true) {dum : Bool} {R : Option Bool → Shared → Prop}
    (hR : ∀ h1, Heap.SameBut a s.heap h1 → SetW P w h1 a m → R (some true) { s with heap := h1 }) :
    wpAny (model P w) A (do
        storeSet a ms1 tb1
        if (!dum && tb1.tooFull) = true then do
            gave (relayAll tb1 ms1 (SetTable.grown ms1.size)).2.2
            storeSet a (relayAll tb1 ms1 (SetTable.grown ms1.size)).1 (relayAll tb1 ms1 (SetTable.grown ms1.size)).2.1
            pure (some true)
          else pure (some true)) R E s := by
  refine wpAny_bind (wpAny_storeSet_of at0 da ?_ (fits_of_scanBound few))
  have at1 := store_at (es' := ms1) (t' := tb1) at0 da
  have same1 := Heap.SameBut.update s.heap a (Obj.putSet ms1 tb1)
  split
  · have q1 := relayAll_perm tb1 ms1 (SetTable.grown ms1.size)
    have q2 := relayAll_fits tb1 ms1 (SetTable.grown ms1.size)
    have q3 := relayAll_ris tb1 ms1 (SetTable.grown ms1.size)
    have q4 := relayAll_led tb1 ms1 (SetTable.grown ms1.size)
    generalize relayAll tb1 ms1 (SetTable.grown ms1.size) = Z at q1 q2 q3 q4 ⊢
    obtain ⟨ms2, tb2, gv⟩ := Z
    dsimp only at q1 q2 q3 q4 ⊢
    have sz : ms2.size = ms1.size := by rw [← Array.length_toList, q1.length_eq, Array.length_toList]
    have few2 : ms2.size < scanBound := by rw [sz]; exact few
    refine wpAny_bind (hg _ _ _ ?_)
    refine wpAny_bind (wpAny_storeSet_of at1 rfl ?_ (fits_of_scanBound few2))
    have at2 := store_at (es' := ms2) (t' := tb2) at1 rfl
    refine wpAny_pure (hR _ (same1.trans (Heap.SameBut.update _ a _)) ?_)
    exact ⟨_, ms2, _, tb2, at2, ex, rfl, fun e he => te e (q1.mem_iff.mp he), (q1.map signE).trans pm1, few2, q2, q3, led.imp id fun z => by rw [q4]; exact z⟩
  · exact wpAny_pure (hR _ same1 ⟨_, ms1, _, tb1, at1, ex, rfl, te, pm1, few, fit, ris, led⟩)
theorem setW_add {k : Str} {tk : Tok} {Q : Bool → Shared → Prop} (W : SetW P w s.heap a m) (room : m.length + 1 < scanBound)
    (hQ : ∀ h1 b, Heap.SameBut a s.heap h1 → SetW P w h1 a (dd1 m k) → Q b { s with heap := h1 }) :
    wpAny (model P w) A (setAddHashed a (.str k tk) ((PySem.strKind P w).hash k)) Q E s := by
  obtain ⟨ob, ms, n, tb, at0, ex, da, te, pm, few, fit, ris, led⟩ := W
  have isk : (PySem.strKind P w).is k (.str k tk) = true := strKind_is P w k tk
  have sc : (Value.str k tk).scannable = true := rfl
  have el : ElemsOf (PySem.strKind P w) ms.toList := text_elems te
  unfold setAddHashed setAddHashedIn
  refine wpAny_holding (wpAny_bind (wpAny_setState_of at0 da fit ?_))
  dsimp only
  rw [byScan_of sc few el]
  simp only [↓reduceIte]
  unfold setAddByScan
  refine wpAny_bind (wpAny_bind (wpAny_rule (wpAny_bind (wpAny_setScan_of isk at0 da fit el ?_))))
  cases found : List.findIdx? (fun e => (PySem.strKind P w).is k e.2) ms.toList with
  | some j =>
    dsimp only
    obtain ⟨lt, ej, _⟩ := List.findIdx?_eq_some_iff_getElem.mp found
    have km : k ∈ m := pm.mem_iff.mp (List.mem_map.mpr ⟨_, List.getElem_mem lt, (text_is (te _ (List.getElem_mem lt)) k).mp ej⟩)
    refine wpAny_pure (wpAny_pure ?_)
    refine hQ s.heap _ (Heap.SameBut.refl a s.heap) ⟨ob, ms, n, tb, at0, ex, da, te, ?_, few, fit, ris, led⟩
    unfold dd1
    rw [if_pos km]
    exact pm
  | none =>
    dsimp only
    have km : k ∉ m := fun z => by
      obtain ⟨e, he, q⟩ := List.mem_map.mp (pm.mem_iff.mpr z)
      have c := List.findIdx?_eq_none_iff.mp found e he
      rw [(text_is (te e he) k).mpr q] at c
      cases c
    have q1 := layNew_perm tb ms ((PySem.strKind P w).hash k) (.str k tk)
    have q2 := layNew_fits tb ms ((PySem.strKind P w).hash k) (.str k tk)
    have q3 := layNew_ris tb ms ((PySem.strKind P w).hash k) (.str k tk) ris
    have q4 := layNew_led tb ms ((PySem.strKind P w).hash k) (.str k tk)
    generalize layNew tb ms ((PySem.strKind P w).hash k) (.str k tk) = Z at q1 q2 q3 q4 ⊢
    obtain ⟨ms1, tb1, dum, gv⟩ := Z
    dsimp only at q1 q2 q3 q4 ⊢
    rw [Array.toList_push] at q1
    have te1 : ∀ e ∈ ms1.toList, TextE P w e := fun e he => by
      rcases List.mem_append.mp (q1.mem_iff.mp he) with z | z
      · exact te e z
      · rw [List.mem_singleton.mp z]
        exact ⟨k, tk, rfl, rfl⟩
    have pm1 : (ms1.toList.map signE).Perm (dd1 m k) := by
      have q := q1.map signE
      rw [List.map_append] at q
      unfold dd1
      rw [if_neg km]
      exact q.trans (pm.append_right _)
    have sz : ms1.size = m.length + 1 := by
      rw [← Array.length_toList, q1.length_eq, List.length_append, ← pm.length_eq, List.length_map]
      rfl
    have few1 : ms1.size < scanBound := by rw [sz]; exact room
    have led1 : w.params.followText "set-order" = true ∨ tb1.led = true := led.imp id fun z => by rw [q4]; exact z
    refine wpAny_bind (?_ : wpAny _ _ (match gv with | true => rule "set.scan.the-table-gave-way" | false => pure ()) _ _ _)
    have hgv : ∀ (b : Bool) {s1 : Shared} {Q1 : Unit → Shared → Prop}, Q1 () s1 → wpAny (model P w) A (match b with | true => rule "set.scan.the-table-gave-way" | false => pure ()) Q1 E s1 := fun b s1 Q1 q => by
      cases b
      · exact wpAny_pure q
      · exact wpAny_rule q
    refine hgv _ ?_
    split
    · refine wpAny_bind ?_
      rw [hashByValue_scannable 8 sc]
      refine wpAny_pure ?_
      refine add_rest ?_ at0 ex da te1 pm1 few1 ?_ ?_ ?_ ?_
      · intro b s1 Q1 q; cases b <;> first | exact wpAny_pure q | exact wpAny_rule q
      · first | (split <;> first | exact q2 | exact SetTable.fits_plain_off q2) | exact q2
      · first | (split <;> exact q3) | exact q3
      · first | (split <;> exact led1) | exact led1
      · intro h1 sb r; dsimp only; exact wpAny_pure (hQ h1 _ sb r)
    · refine wpAny_bind (wpAny_pure ?_)
      simp only [↓reduceIte]
      refine add_rest ?_ at0 ex da te1 pm1 few1 q2 q3 led1 ?_
      · intro b s1 Q1 q; cases b <;> first | exact wpAny_pure q | exact wpAny_rule q
      · intro h1 sb r; dsimp only; exact wpAny_pure (hQ h1 _ sb r)
/-- a new set -/
theorem new_set (x : Value) {Q1 : Value → Shared → Prop}
    (q : ∀ tb : SetTable, tb = .fresh 0 0 (!w.params.followText "set-order") → Q1 (.ref s.heap.objs.size) { s with heap := s.heap.push { cls := .type "set", dict := none, data := .set #[] 0 tb } }) :
    codeAny (model P w) A (.call (.builtin "set.__new__") ⟨[.type "set", x], []⟩) (wants Q1 E) s := by
  refine codeAny_of_tree (?_ : wpAny _ A.in1 (do checkBuiltinCall "set.__new__" ⟨[.type "set", x], []⟩; again (.builtin "set.__new__" ⟨[.type "set", x], []⟩)) _ _ s)
  refine wpAny_bind (wpAny_of_eq (PySem.F.newCall_set_1 x) (wpAny_pure ⟨plainId_quiet PySem.F.plain_set_new _, codeAny_builtin PySem.F.entry_set_new (?_ : wpAny _ _ _ _ _ s)⟩))
  rw [Around.under_plainId PySem.F.plain_set_new _]
  have below := sub_set_self
  unfold Builtin.«set.__new__» Builtin.Frozenset.newClass
  obtain ⟨h0, g0, d0, t0, o0⟩ := s
  dsimp only
  wp_walk
  refine wpAny_askSetting (wpAny_pure ?_)
  dsimp only
  simp only [newObj]
  exact wpAny_bind (wpAny_alloc (wpAny_pure (wpAny_pure (q _ rfl))))
theorem setW_fresh {h : Heap} (g : h.get? a = some { cls := .type "set", dict := none, data := .set #[] 0 (.fresh 0 0 (!w.params.followText "set-order")) }) : SetW P w h a [] := by
  refine ⟨_, #[], 0, _, g, ⟨rfl, rfl, rfl⟩, rfl, (fun e he => by simp at he), (by simp), (by decide), (by rfl), List.Pairwise.nil, ?_⟩
  show _ ∨ (!w.params.followText "set-order") = true
  cases w.params.followText "set-order"
  · exact .inr rfl
  · exact .inl rfl
end
section
variable {prog : Program} {w : World} {A : Around} {R : Result → Shared → Prop} {I : Addr} {fp wr : List Addr} {G : Array GenState → Array GenState → Prop} {n : Nat} {Pn : Nat → Value → Prop} {St : Nat → Shared → Prop}
/-- S holds the unlike ones of the first i -/
def SetAtS (prog : Program) (w : World) (h : Heap) (S : Addr) (xs : List Str) : Prop := SetW prog w h S (dd xs)
theorem set_loop (W : WalksS prog w A.in1 I fp wr G n Pn St) (S : Addr) (out : S ∉ fp) (xs : List Str) (size : xs.length = n) (room : n + 1 < scanBound)
    (vals : ∀ i v, Pn i v → ∃ t, v = .str (xs.getD i Str.empty) t) :
    ∀ (m i : Nat) (s : Shared), i + m = n → St i s → SetAtS prog w s.heap S (xs.take i) →
      (∀ s', Moved (S :: wr) G s s' → SetAtS prog w s'.heap S xs → R (.ok (.ret .none)) s') →
      codeAny (model prog w) A (.builtin "set.update.loop" ⟨[.ref S, .ref I], []⟩) R s := by
  have outw : S ∉ wr := fun z => out (W.sub _ z)
  have more : ∀ b ∈ wr, b ∈ S :: wr := fun b z => List.mem_cons_of_mem _ z
  have stay : ∀ {s s' : Shared} {ys : List Str}, Moved wr G s s' → SetAtS prog w s.heap S ys → SetAtS prog w s'.heap S ys := fun mv hS => by
    obtain ⟨o, es, ep, tb, ho, rest⟩ := hS
    exact ⟨o, es, ep, tb, mv.heap S _ outw ho, rest⟩
  intro m
  induction m with
  | zero =>
    intro i s im hst hS hR
    have ei : i = n := by omega
    subst ei
    rw [← size, List.take_length] at hS
    refine codeAny_builtin PyProof.Rows.F.entry_set_update_loop (?_ : wpAny _ _ _ _ _ s)
    rw [Around.under_plainId PyProof.Rows.F.plain_set_update_loop _]
    show wpAny _ A.in1 (pyNext (.ref I) >>= _) _ _ s
    exact wpAny_bind (W.done s _ _ hst fun s' mv => wpAny_pure (hR s' (mv.mono more) (stay mv hS)))
  | succ m ih =>
    intro i s im hst hS hR
    have lt : i < n := by omega
    refine codeAny_builtin PyProof.Rows.F.entry_set_update_loop (?_ : wpAny _ _ _ _ _ s)
    rw [Around.under_plainId PyProof.Rows.F.plain_set_update_loop _]
    show wpAny _ A.in1 (pyNext (.ref I) >>= _) _ _ s
    refine wpAny_bind (W.item i s _ _ lt hst fun v s1 pv st1 mv => ?_)
    obtain ⟨t, rfl⟩ := vals i v pv
    have e : xs[i]? = some (xs.getD i Str.empty) := by
      rw [List.getD_eq_getElem?_getD, List.getElem?_eq_getElem (by omega)]
      rfl
    generalize xs.getD i Str.empty = x at e
    have hS1 := stay mv hS
    show wpAny _ A.in1 (holding [Value.str x t] (setAdd S (.str x t)) >>= _) _ _ s1
    refine wpAny_bind (wpAny_holding ?_)
    unfold setAdd
    refine wpAny_holding (wpAny_bind ((PySem.strKind prog w).pyHash (k := x) (strKind_is _ _ _ _) ?_))
    have few : (dd (xs.take i)).length + 1 < scanBound := by
      have := dd_le (xs.take i) []
      have h2 : (xs.take i).length ≤ n := by rw [List.length_take]; omega
      have h3 : (dd (xs.take i)).length ≤ (xs.take i).length := by simpa [dd] using this
      omega
    refine setW_add (s := { s1 with toks := s1.toks + 1 }) hS1 few fun h2 _ same hS2 => ?_
    have next : SetAtS prog w h2 S (xs.take (i + 1)) := by
      unfold SetAtS
      rw [dd_more e]
      exact hS2
    refine wpAny_pure ⟨plainId_quiet PyProof.Rows.F.plain_set_update_loop _, ih (i + 1) _ (by omega) (W.frame _ s1 _ _ st1 (Nat.le_succ _) fun b hb o z => ?_) next fun s3 mv3 hS3 => hR s3 (Moved.trans W.gtrans ((mv.mono more).then_heap (Nat.le_succ _) fun b o hb z => ?_) mv3) hS3⟩
    · rw [same.2 b fun q => out (q ▸ hb)]
      exact z
    · rw [same.2 b fun q => hb (q ▸ List.mem_cons_self)]
      exact z
end
section
variable {prog : Program} {w : World} {A : Around} {E : Value → Shared → Prop} {s : Shared}
/-- an empty set, new -/
abbrev set0 (led : Bool) : Obj := { cls := .type "set", dict := none, data := .set #[] 0 (.fresh 0 0 led) }
set_option maxHeartbeats 3200000 in
/-- set(xs), xs a list of texts -/
theorem set_of_list {l : Addr} {its : Array Value} {xs : List Str} {Q : Value → Shared → Prop} (calm : A.handled = none) (hl : s.heap.IsList l its) (hi : StrsAre its.toList xs) (room : xs.length + 1 < scanBound)
    (q : ∀ (h2 : Heap) (tk : Nat), SetAtS prog w h2 s.heap.objs.size xs → (∀ b o, b < s.heap.objs.size → s.heap.get? b = some o → h2.get? b = some o) → Q (.ref s.heap.objs.size) { s with heap := h2, toks := tk }) :
    wpAny (model prog w) A (call (.type "set") [.ref l]) Q E s := by
  obtain ⟨_, _, way⟩ := PySem.F.called_set.mro
  have f1 := PySem.F.called_set.made
  have f2 := PySem.F.called_set.sub
  have f3 := PySem.F.called_set.notType
  have f4 := PySem.F.called_set.canCreate
  have f5 := PySem.F.typeCall_set_1 (.ref l)
  refine wpAny_call (codeAny_of_tree (?_ : wpAny _ _ (callAny (.type "set") _) _ _ _))
  refine wpAny_pure ⟨Code.quiet_builtin _ (by decide +kernel), codeAny_builtin PySem.F.entry_type_call (?_ : wpAny _ _ _ _ _ _)⟩
  rw [Around.under_plain (weight_type_call_type "set" [.ref l] []) rfl]
  repeat (any_goals (first | assumption | wp_step))
  refine codeAny_mono (new_set (.ref l) (E := E) (Q1 := fun u s1 => ∃ led : Bool, u = .ref s.heap.objs.size ∧ s1 = { s with heap := s.heap.push (set0 led) } ∧ led = !w.params.followText "set-order") fun tb e => ⟨_, rfl, by rw [e], rfl⟩) fun r s1 hr => ?_
  cases r with
  | error e => exact hr
  | ok fl =>
    cases fl with
    | next => exact hr.elim
    | brk => exact hr.elim
    | cont => exact hr.elim
    | ret u =>
      obtain ⟨led, rfl, rfl, eled⟩ := hr
      have g0 : (s.heap.push (set0 led)).get? s.heap.objs.size = some (set0 led) := Heap.get?_push_size _ rfl
      have ty : Shared.TypeIs { s with heap := s.heap.push (set0 led) } (.ref s.heap.objs.size) "set" := ⟨_, g0, rfl⟩
      have f6 := PySem.F.called_set.init.lookup
      have f7 := PySem.F.called_set.init.bind (.ref s.heap.objs.size)
      repeat (any_goals (first | assumption | wp_step))
      refine codeAny_mono (codeAny_call_builtin (R := wants (fun r s2 => r = .none ∧ ∃ h2 tk, s2 = { s with heap := h2, toks := tk } ∧ SetAtS prog w h2 s.heap.objs.size xs ∧ (∀ b o, b < s.heap.objs.size → s.heap.get? b = some o → h2.get? b = some o)) E)
        PySem.F.called_set.init.plain PySem.F.entry_set_init (check_set_init_1 ty ?_)) fun r2 s2 hr2 => ?_
      · obtain ⟨⟨c, d, da, sl⟩, ol, cl, nl, dl⟩ := hl
        simp only at cl dl
        subst cl dl
        have ol1 : (s.heap.push (set0 led)).get? l = some { cls := .type "list", dict := d, data := .seq its nl, slots := sl } := Heap.get?_push_of_some _ ol
        have f8 := PySem.F.sub_list_set
        have f9 := PySem.F.sub_list_frozenset
        have f10 : (Value.type "list" == Value.type "dict") = false := by decide
        have hl1 : (s.heap.push (set0 led)).IsList l its := ⟨_, ol1, rfl, nl, rfl⟩
        unfold Builtin.«set.__init__» noKeywords Builtin.Frozenset.updateFrom
        generalize hPI : pyIter = PI
        wp_walk
        subst hPI
        refine wpAny_pyIter_list hl1 (wpAny_bind (wpAny_runValue ?_))
        have below : l < s.heap.objs.size := Heap.lt_size ol
        have sz1 : (s.heap.push (set0 led)).objs.size = s.heap.objs.size + 1 := Heap.size_push _ _
        have n1 : l ≠ (s.heap.push (set0 led)).objs.size := by
          rw [sz1]
          exact Nat.ne_of_lt (Nat.lt_succ_of_lt below)
        have out : s.heap.objs.size ∉ [(s.heap.push (set0 led)).objs.size, l] := by
          rw [sz1]
          simp only [List.mem_cons, List.not_mem_nil, or_false, not_or]
          exact ⟨Nat.ne_of_lt (Nat.lt_succ_self _), Nat.ne_of_gt below⟩
        have size : xs.length = its.size := by rw [← StrsAre.len_eq hi, Array.length_toList]
        have vals : ∀ (i : Nat) (v : Value), its[i]? = some v → ∃ t, v = .str (xs.getD i Str.empty) t := fun i v z => SS.strs_at hi i v (by rw [Array.getElem?_toList]; exact z)
        refine set_loop ((Walks.list (show A.in1.in1.in1.handled = none by simp [calm]) _ l n1 its).toS) s.heap.objs.size out xs size (by rw [← size]; exact room) vals its.size 0 _ (by omega) ⟨⟨_, Heap.get?_push_size _ rfl, rfl, rfl⟩, (hl1.push _)⟩ ?start ?stop
        case start =>
          have g1 : ((s.heap.push (set0 led)).push { cls := .type "list_iterator", data := .fields #[.ref l, .int 0 0] }).get? s.heap.objs.size = some (set0 led) := Heap.get?_push_of_some _ g0
          exact setW_fresh (g1.trans (by rw [eled]))
        case stop =>
          rintro ⟨h2, g2, d2, tk2, os2⟩ mv hS
          obtain rfl : g2 = s.gens := mv.gens
          obtain rfl : d2 = s.drawn := mv.drawn
          obtain rfl : os2 = s.os := mv.os
          refine wpAny_pure (?_ : wpAny _ _ (ret Value.none) _ _ _)
          refine wpAny_pure ⟨rfl, h2, tk2, rfl, hS, fun b o hb z => mv.heap b o ?_ (Heap.get?_push_of_some _ (Heap.get?_push_of_some _ z))⟩
          simp only [List.mem_cons, List.not_mem_nil, or_false, not_or]
          exact ⟨Nat.ne_of_lt hb, by rw [sz1]; exact Nat.ne_of_lt (Nat.lt_succ_of_lt hb)⟩
      · cases r2 with
        | error e => exact hr2
        | ok fl2 =>
          cases fl2 with
          | next => exact hr2.elim
          | brk => exact hr2.elim
          | cont => exact hr2.elim
          | ret r =>
            obtain ⟨rfl, h2, tk, rfl, hS, keep⟩ := hr2
            repeat (any_goals (first | assumption | wp_step))
            exact q _ _ hS keep
end
/-- len(set(xs)) -/
def tLenSetS (K : PySem.W.Frag) (ta : TE) : TE := fun σ H Q => ta σ H fun x H1 => ∃ (l : Addr) (xs : List Str), x = .ref l ∧ SqL K H1 l (xs.map V.str) ∧ xs.length ≤ 1000 ∧ Q (.int ((dd xs).length : Nat)) H1
theorem pe_lenSetS {X : Cx} (K : PySem.W.Frag) {a : Expr} {ta : TE} {p p2 q pos : Pos} (hc : X.calm = true) (hm : X.mg "len" = none) (hm2 : X.mg "set" = none) (ha : PE X a ta) (hk : X.K = K := by rfl) (hg : Gl X "len" := by rfl) (hg2 : Gl X "set" := by rfl)
    (na : starEach [a] X.env = (false, eval a X.env) :: starEach [] X.env := by rfl) : PE X (.Call (.Name "len" p) [.Call (.Name "set" p2) [a] [] q] [] pos) (tLenSetS K ta) := by
  subst hk
  refine ⟨fun pins s σ H Q I h => ?_⟩
  refine Call_ (ld_blt I hg hm boot_len (PyProof.Rows.callWith_builtin1 (PyProof.Rows.args_cons ?_ rfl) rfl rfl))
  refine Call_ (ld_blt I hg2 hm2 boot_set ?_)
  refine PyProof.Rows.callWith_type1 (PyProof.Rows.args_cons (thn (ha.run pins s σ H _ I h) fun v s1 ⟨x, H1, I1, r1, q1⟩ => PyProof.Rows.args_nil ?_) na) na rfl
  obtain ⟨l, xs, rfl, hq, small, q1⟩ := q1
  cases r1
  obtain ⟨its, r, pl, hz⟩ := I1.list hq
  refine set_of_list (I1.ok.hd hc) pl.isList (by simpa using strsAre_of r) (by unfold scanBound; omega) fun h2 tk hS keep => PyProof.Rows.args_nil ?_
  obtain ⟨o, es, ep, t, ho, hex, hd, _, pm, _, hf, _⟩ := hS
  have hn : es.size = (dd xs).length := by rw [← pm.length_eq, List.length_map, Array.length_toList]
  have I2 : Inv X pins σ H1 { s1 with heap := h2, toks := tk } := I1.kept fun b o e => keep b o (Heap.lt_size e) e
  have few := dd_le xs []
  have few2 : (dd xs).length ≤ xs.length := by simpa [dd] using few
  exact call_len_set ho hex hd hf (by rw [hn]; omega) ⟨.int ((dd xs).length : Nat), H1, I2.tok _, ⟨_, by rw [hn]⟩, q1⟩
/-- sorted(set(xs)) -/
def tSortSetS (K : PySem.W.Frag) (ta : TE) : TE := fun σ H Q => ta σ H fun x H1 => ∃ (l : Addr) (xs : List Str), x = .ref l ∧ SqL K H1 l (xs.map V.str) ∧ xs.length < 64 ∧
  ∀ (ys : List Str) (p : Addr), ys.Perm (dd xs) → sortedS ys = true → H1 p = none → Q (.ref p) (upd H1 p (.lst (ys.map V.str)))
theorem texts_are {P : Program} {w : World} : ∀ {es : List (Int × Value)}, (∀ e ∈ es, TextE P w e) → StrsAre (es.map (·.2)) (es.map signE)
  | [], _ => .nil
  | e :: es, h => by
    obtain ⟨z, tk, e1, _⟩ := h e List.mem_cons_self
    have e2 : signE e = z := by
      unfold signE
      rw [e1]
    rw [List.map_cons, List.map_cons, e1, e2]
    exact .cons _ _ (texts_are fun x hx => h x (List.mem_cons_of_mem _ hx))
theorem strs_perm {us vs : List Value} (p : us.Perm vs) : ∀ {xs : List Str}, StrsAre vs xs → ∃ ys, StrsAre us ys ∧ ys.Perm xs := by
  induction p with
  | nil => exact fun h => ⟨_, h, .refl _⟩
  | cons x _ ih =>
    intro xs h
    cases h with
    | cons z tk h =>
      obtain ⟨ys, h1, h2⟩ := ih h
      exact ⟨_, .cons z tk h1, h2.cons z⟩
  | swap x y l =>
    intro xs h
    cases h with
    | cons z tk h =>
      cases h with
      | cons z2 tk2 h => exact ⟨_, .cons z2 tk2 (.cons z tk h), .swap z z2 _⟩
  | trans _ _ ih1 ih2 =>
    intro xs h
    obtain ⟨ys, h1, h2⟩ := ih2 h
    obtain ⟨zs, h3, h4⟩ := ih1 h1
    exact ⟨zs, h3, h4.trans h2⟩
theorem pe_sortSetS {X : Cx} (K : PySem.W.Frag) {a : Expr} {ta : TE} {p p2 q pos : Pos} (hc : X.calm = true) (hm : X.mg "sorted" = none) (hm2 : X.mg "set" = none) (ha : PE X a ta) (hk : X.K = K := by rfl) (hg : Gl X "sorted" := by rfl) (hg2 : Gl X "set" := by rfl)
    (na : starEach [a] X.env = (false, eval a X.env) :: starEach [] X.env := by rfl) : PE X (.Call (.Name "sorted" p) [.Call (.Name "set" p2) [a] [] q] [] pos) (tSortSetS K ta) := by
  subst hk
  refine ⟨fun pins s σ H Q I h => ?_⟩
  refine Call_ (ld_blt I hg hm boot_sorted (PyProof.Rows.callWith_builtin1 (PyProof.Rows.args_cons ?_ rfl) rfl rfl))
  refine Call_ (ld_blt I hg2 hm2 boot_set ?_)
  refine PyProof.Rows.callWith_type1 (PyProof.Rows.args_cons (thn (ha.run pins s σ H _ I h) fun v s1 ⟨x, H1, I1, r1, q1⟩ => PyProof.Rows.args_nil ?_) na) na rfl
  obtain ⟨l, xs, rfl, hq, small, q1⟩ := q1
  cases r1
  obtain ⟨its, r, pl, hz⟩ := I1.list hq
  refine set_of_list (I1.ok.hd hc) pl.isList (by simpa using strsAre_of r) (by unfold scanBound; omega) fun h2 tk hS keep => PyProof.Rows.args_nil ?_
  obtain ⟨o, ms, n, tb, ho, hex, hd, te, pm, few, fit, ris, led⟩ := hS
  have I2 : Inv X pins σ H1 { s1 with heap := h2, toks := tk } := I1.kept fun b o e => keep b o (Heap.lt_size e) e
  have few2 : (dd xs).length ≤ xs.length := by
    have := dd_le xs []
    simpa [dd] using this
  refine Calls.call_function_entry PyProof.Rows.kind_sorted PyProof.Rows.plain_sorted PyProof.Rows.entry_sorted (PyProof.Rows.args_sorted1 _) ?_
  unfold Builtin.«sorted»
  refine wpAny_bind (m := checkCount "sorted" 1 1 _) (wpAny_pure ?_)
  refine wpAny_bind (collect_set (A := X.A.in1) (I1.ok.hd hc) ⟨o, ho, hex.1, hd⟩ fit few ris led fun s3 vs k3 z3 g3 o3 p3 => ?_)
  obtain ⟨zs, sA, pz⟩ := strs_perm p3 (texts_are te)
  have vl : vs.length < 64 := by
    have e1 := StrsAre.len_eq sA
    have e2 := pz.length_eq
    have e3 := pm.length_eq
    omega
  refine wpAny_bind (wpAny_newList ?_ (small64 vl))
  have at4 : (s3.heap.push (seqObj "list" vs.toArray 0)).get? s3.heap.objs.size = some (seqObj "list" vs.toArray 0) := Heap.get?_push_size _ rfl
  refine wpAny_bind (wpAny_holding (wpAny_call_entry PyProof.Rows.slot_list_sort ⟨_, at4, rfl⟩ PyProof.Rows.entry_list_sort
    (list_sort_treeK strKind_oneLt (s := { s3 with heap := s3.heap.push (seqObj "list" vs.toArray 0) }) at4 sA.keysOf (fun v1 v2 rest e => keyKind_strs (by rw [← e]; exact sA)) vl fun st2 hp hs => ⟨_, rfl, ?_⟩)
    (PyProof.Rows.args_list_sort _)))
  obtain ⟨ys, y1, y2, y3⟩ := sorted_out_str sA hp hs
  obtain ⟨n5, at5⟩ := PyProof.Rows.sortedHeap_at (vs := vs) (out := (arrOf st2).map (·.2)) at4
  have yl : (ys.map V.str).length ≤ sizeLine := by
    rw [List.length_map, y2.length_eq, ← StrsAre.len_eq sA]
    exact small64 vl
  have k4 : ∀ b u, s1.heap.get? b = some u → (PyProof.Rows.sortedHeap (s3.heap.push (seqObj "list" vs.toArray 0)) s3.heap.objs.size vs ((arrOf st2).map (·.2))).get? b = some u := fun b u e => by
    have e3 := k3 b u (keep b u (Heap.lt_size e) e)
    have lt3 : b < s3.heap.objs.size := Heap.lt_size e3
    rw [PyProof.Rows.sortedHeap_old (Nat.ne_of_lt lt3) (by rw [size_push']; exact Nat.lt_succ_of_lt lt3)]
    exact Heap.get?_push_of_some _ e3
  have up : s1.heap.objs.size ≤ s3.heap.objs.size := Nat.le_trans (Nat.le_of_lt (Heap.lt_size ho)) z3
  have fr : H1 s3.heap.objs.size = none := I1.hok.fresh up
  have J : Inv X pins σ (upd H1 s3.heap.objs.size (.lst (ys.map V.str))) { s1 with heap := PyProof.Rows.sortedHeap (s3.heap.push (seqObj "list" vs.toArray 0)) s3.heap.objs.size vs ((arrOf st2).map (·.2)), gens := s3.gens, drawn := s3.drawn, toks := s3.toks } :=
    I1.call (ch := []) (Un.laid k4 up fr) (I1.hok.laid k4 up ⟨yl, ((arrOf st2).map (·.2)).toList, n5, vals_of_strs y1, by rw [Array.toArray_toList]; exact at5⟩) (by rw [g3]; exact I1.bare) (fun _ z => nomatch z)
  have es : ({ s3 with heap := PyProof.Rows.sortedHeap (s3.heap.push (seqObj "list" vs.toArray 0)) s3.heap.objs.size vs ((arrOf st2).map (·.2)) } : Shared) = { s1 with heap := PyProof.Rows.sortedHeap (s3.heap.push (seqObj "list" vs.toArray 0)) s3.heap.objs.size vs ((arrOf st2).map (·.2)), gens := s3.gens, drawn := s3.drawn, toks := s3.toks } := by
    cases s3
    cases s1
    cases o3
    rfl
  refine wpAny_pure ⟨_, rfl, ?_⟩
  show EP X pins σ Q (.ref s3.heap.objs.size) { s3 with heap := PyProof.Rows.sortedHeap (s3.heap.push (seqObj "list" vs.toArray 0)) s3.heap.objs.size vs ((arrOf st2).map (·.2)) }
  rw [es]
  exact ⟨.ref _, _, J, rfl, q1 ys _ (y2.trans (pz.trans pm)) y3 fr⟩
end Dear

namespace Dear
open PySem PySem.Spec PyProof.Rows L2
/-! ### data, and how the heap bears them -/
inductive D where
  | non | bl (b : Bool) | int (i : Int) | str (z : Str) | lst (ds : List D) | tup (ds : List D) | dct
def kind : D → String
  | .non => "NoneType" | .bl _ => "bool" | .int _ => "int" | .str _ => "str" | .lst _ => "list" | .tup _ => "tuple" | .dct => "dict"
mutual
inductive Dt (H : Hp) : V → D → Prop
  | non : Dt H .non .non
  | bl (b : Bool) : Dt H (.bl b) (.bl b)
  | int (i : Int) : Dt H (.int i) (.int i)
  | str (z : Str) : Dt H (.str z) (.str z)
  | lst {a : Addr} {xs : List V} {ds : List D} : H a = some (.lst xs) → DtAll H xs ds → Dt H (.ref a) (.lst ds)
  | tup {a : Addr} {xs : List V} {ds : List D} : H a = some (.tup xs) → DtAll H xs ds → Dt H (.ref a) (.tup ds)
  | dct {a : Addr} {kvs : List (Key × V)} : H a = some (.dK kvs) → Dt H (.ref a) .dct
inductive DtAll (H : Hp) : List V → List D → Prop
  | nil : DtAll H [] []
  | cons {v : V} {vs : List V} {d : D} {ds : List D} : Dt H v d → DtAll H vs ds → DtAll H (v :: vs) (d :: ds)
end
mutual
theorem Dt.same {H H' : Hp} (s : Same H H') : ∀ {v : V} {d : D}, Dt H v d → Dt H' v d
  | _, _, .non => .non
  | _, _, .bl b => .bl b
  | _, _, .int i => .int i
  | _, _, .str z => .str z
  | _, _, .lst h a => .lst (s _ _ h) (DtAll.same s a)
  | _, _, .tup h a => .tup (s _ _ h) (DtAll.same s a)
  | _, _, .dct h => .dct (s _ _ h)
theorem DtAll.same {H H' : Hp} (s : Same H H') : ∀ {vs : List V} {ds : List D}, DtAll H vs ds → DtAll H' vs ds
  | _, _, .nil => .nil
  | _, _, .cons a b => .cons (Dt.same s a) (DtAll.same s b)
end
theorem DtAll.length {H : Hp} : ∀ {vs : List V} {ds : List D}, DtAll H vs ds → vs.length = ds.length
  | _, _, .nil => rfl
  | _, _, .cons _ b => by rw [List.length_cons, List.length_cons, DtAll.length b]
theorem DtAll.get {H : Hp} : ∀ {vs : List V} {ds : List D} {i : Nat} {v : V}, DtAll H vs ds → vs[i]? = some v → ∃ d, ds[i]? = some d ∧ Dt H v d
  | _, _, _, _, .nil, e => by simp at e
  | _, _, 0, _, .cons a _, e => by
    simp at e
    subst e
    exact ⟨_, rfl, a⟩
  | _, _, i + 1, v, .cons _ b, e => by
    obtain ⟨d, h1, h2⟩ := DtAll.get (i := i) (v := v) b (by simpa using e)
    exact ⟨d, by simpa using h1, h2⟩
theorem DtAll.app {H : Hp} : ∀ {vs us : List V} {ds es : List D}, DtAll H vs ds → DtAll H us es → DtAll H (vs ++ us) (ds ++ es)
  | _, _, _, _, .nil, s => s
  | _, _, _, _, .cons a b, s => .cons a (DtAll.app b s)
theorem DtAll.map {α : Type} {H : Hp} {f : α → V} {g : α → D} (h : ∀ a, Dt H (f a) (g a)) : ∀ l : List α, DtAll H (l.map f) (l.map g)
  | [] => .nil
  | a :: l => .cons (h a) (DtAll.map h l)
theorem Dt.ty {K : PySem.W.Frag} {H : Hp} {v : V} {d : D} (h : Dt H v d) : TyX K H v (.type (kind d)) := by
  cases h with
  | non => exact .base .non
  | bl b => exact .base (.bl b)
  | int i => exact .base (.int i)
  | str z => exact .base (.str z)
  | lst h _ => exact .base (.lst h)
  | tup h _ => exact .base (.tup h)
  | dct h => exact .base (.dK h)
/-! ### a heap without one object -/
def Off (l : Addr) (H : Hp) : Hp := fun b => if b = l then none else H b
theorem Off.sub (l : Addr) (H : Hp) : Same (Off l H) H := fun b o e => by
  unfold Off at e
  by_cases h : b = l
  · rw [if_pos h] at e
    cases e
  · rw [if_neg h] at e
    exact e
theorem off_ne {l b : Addr} {H : Hp} (h : b ≠ l) : Off l H b = H b := if_neg h
theorem But.off {l : Addr} {H H' : Hp} (a : But l H H') : Same (Off l H) (Off l H') := fun b o e => by
  by_cases h : b = l
  · have z := (if_pos h).symm.trans e
    cases z
  · rw [off_ne h] at e ⊢
    exact a b o e h
theorem sOff {l : Addr} {H H' : Hp} (a : Same H H') : Same (Off l H) (Off l H') := (But.of a).off
theorem Dt.on {l : Addr} {H : Hp} {v : V} {d : D} (h : Dt (Off l H) v d) : Dt H v d := h.same (Off.sub l H)
/-! ### what a display makes -/
def Mk (l : Addr) (σ : L2.St) (t : TE) (H : Hp) (d : D) : Prop := ∀ H1, Same H H1 → ∀ Q : VK, (∀ v H2, Same H1 H2 → Dt (Off l H2) v d → Q v H2) → t σ H1 Q
def MkA (l : Addr) (σ : L2.St) (t : TA) (H : Hp) (ds : List D) : Prop := ∀ H1, Same H H1 → ∀ Q : List V → Hp → Prop, (∀ vs H2, Same H1 H2 → DtAll (Off l H2) vs ds → Q vs H2) → t σ H1 Q
section
variable {l : Addr} {σ : L2.St} {H : Hp}
theorem mk_c {v : V} {d : D} (h : Dt (Off l H) v d) : Mk l σ (tC v) H d := fun H1 s _ q => q v H1 (Same.refl _) (h.same (sOff s))
theorem mk_var {i : Nat} {v : V} {d : D} (e : σ[i]? = some (some v)) (h : Dt (Off l H) v d) : Mk l σ (tVar i) H d := fun H1 s _ q => ⟨v, e, q v H1 (Same.refl _) (h.same (sOff s))⟩
theorem mka_nil : MkA l σ tNil H [] := fun H1 _ _ q => q [] H1 (Same.refl _) .nil
theorem mka_cons {t : TE} {u : TA} {d : D} {ds : List D} (h1 : Mk l σ t H d) (h2 : MkA l σ u H ds) : MkA l σ (tCons t u) H (d :: ds) := fun H1 s Q q => by
  refine h1 H1 s _ fun v H2 s2 d2 => ?_
  refine h2 H2 (s.trans s2) _ fun vs H3 s3 d3 => ?_
  exact q (v :: vs) H3 (s2.trans s3) (.cons (d2.same (sOff s3)) d3)
theorem sz_lit {n : Nat} (h : n ≤ 1000) : n ≤ sizeLine := Nat.le_of_lt (small1000 h)
theorem mk_tup {u : TA} {ds : List D} (h : MkA l σ u H ds) {o : HO} (hl : H l = some o) (hz : Nat.ble ds.length 1000 = true := by rfl) : Mk l σ (tTup u) H (.tup ds) := fun H1 s Q q => by
  refine h H1 s _ fun vs H2 s2 d2 => ?_
  refine ⟨sz_lit (by rw [d2.length]; exact Nat.le_of_ble_eq_true hz), fun p hp => ?_⟩
  have ne : p ≠ l := fun e => by
    subst e
    rw [s2 _ _ (s _ _ hl)] at hp
    cases hp
  exact q (.ref p) _ (s2.trans (Same.upd hp)) (.tup (by rw [off_ne ne]; exact upd_same) (d2.same (sOff (Same.upd hp))))
theorem mk_lst {u : TA} {ds : List D} (h : MkA l σ u H ds) {o : HO} (hl : H l = some o) (hz : Nat.ble ds.length 1000 = true := by rfl) : Mk l σ (tLst u) H (.lst ds) := fun H1 s Q q => by
  refine h H1 s _ fun vs H2 s2 d2 => ?_
  refine ⟨sz_lit (by rw [d2.length]; exact Nat.le_of_ble_eq_true hz), fun p hp => ?_⟩
  have ne : p ≠ l := fun e => by
    subst e
    rw [s2 _ _ (s _ _ hl)] at hp
    cases hp
  exact q (.ref p) _ (s2.trans (Same.upd hp)) (.lst (by rw [off_ne ne]; exact upd_same) (d2.same (sOff (Same.upd hp))))
theorem mk_dnew {o : HO} (hl : H l = some o) : Mk l σ tDNewK H .dct := fun H1 s Q q p hp => by
  have ne : p ≠ l := fun e => by
    subst e
    rw [s _ _ hl] at hp
    cases hp
  exact q (.ref p) _ (Same.upd hp) (.dct (by rw [off_ne ne]; exact upd_same))
theorem mk_neg {i : Int} : Mk l σ (tUn (rU fun i => .int (-i)) (tC (.int i))) H (.int (-i)) := fun H1 _ _ q => ⟨i, rfl, q _ H1 (Same.refl _) (.int _)⟩
/-- {k: v} -/
theorem mk_disp1 {o : HO} {k : Int} {v : V} (hl : H l = some o) : Mk l σ (tDisp [(tC (.int k), tC v)]) H .dct := fun H1 s Q q p hp => by
  have ne : p ≠ l := fun e => by
    subst e
    rw [s _ _ hl] at hp
    cases hp
  refine ⟨upd_same, [(.inl k, v)], rfl, (by show 1 ≤ 15; decide), ?_⟩
  rw [upd_upd]
  exact q (.ref p) _ (Same.upd hp) (.dct (by rw [off_ne ne]; exact upd_same))
theorem Mk.go {t : TE} {d : D} (h : Mk l σ t H d) {Q : VK} (q : ∀ v H2, Same H H2 → Dt (Off l H2) v d → Q v H2) : t σ H Q := h H (Same.refl H) Q q
/-- xs + [..] -/
theorem mk_cat {t u : TE} {ds es : List D} (h1 : Mk l σ t H (.lst ds)) (h2 : Mk l σ u H (.lst es)) {o : HO} (hl : H l = some o) (hz : Nat.ble (ds.length + es.length) 1000 = true := by rfl) : Mk l σ (tOp rCat t u) H (.lst (ds ++ es)) := fun H1 s Q q => by
  refine h1 H1 s _ fun v H2 s2 d2 => ?_
  refine h2 H2 (s.trans s2) _ fun v3 H3 s3 d3 => ?_
  cases d2 with
  | lst ha2 hall2 =>
    cases d3 with
    | lst ha3 hall3 =>
      have ha2' := s3 _ _ (Off.sub _ _ _ _ ha2)
      have ha3' := Off.sub _ _ _ _ ha3
      refine ⟨_, _, _, _, rfl, rfl, ha2', ha3', sz_lit (by rw [hall2.length, hall3.length]; exact Nat.le_of_ble_eq_true hz), fun p hp => ?_⟩
      have ne : p ≠ l := fun e => by
        subst e
        rw [s3 _ _ (s2 _ _ (s _ _ hl))] at hp
        cases hp
      exact q (.ref p) _ ((s2.trans s3).trans (Same.upd hp)) (.lst (by rw [off_ne ne]; exact upd_same) (((hall2.same (sOff s3)).app hall3).same (sOff (Same.upd hp))))
end
/-! ### sizes of data -/
abbrev Asc (z : Str) : Prop := ∀ c ∈ z.cps.toList, c < 128
mutual
def Ok : D → Prop
  | .int i => i.natAbs < 2 ^ 300
  | .str z => z.length ≤ 3000 ∧ Asc z
  | .lst ds => OkAll ds
  | .tup ds => OkAll ds
  | _ => True
def OkAll : List D → Prop
  | [] => True
  | d :: ds => Ok d ∧ OkAll ds
end
theorem OkAll.mem : ∀ {ds : List D} {d : D}, OkAll ds → d ∈ ds → Ok d
  | [], _, _, m => by simp at m
  | e :: r, d, h, m => by
    rcases List.mem_cons.mp m with rfl | m
    · exact h.1
    · exact OkAll.mem h.2 m
/-- places of a list -/
theorem at_lt {α : Type} {xs : List α} {r : Int} (h0 : 0 ≤ r) (h1 : r < xs.length) : ∃ v, atI xs r = some v ∧ v ∈ xs ∧ xs[r.toNat]? = some v := by
  obtain ⟨n, rfl⟩ := Int.eq_ofNat_of_zero_le h0
  have hn : n < xs.length := by omega
  exact ⟨xs[n], atI_nat (by simp [hn]), List.getElem_mem hn, by simp [hn]⟩
/-! ### the law's draws -/
def Src (H : Hp) (l : Addr) : Prop := ∃ n s : Int, H l = some (.lst [.int n, .int s]) ∧ 0 ≤ n ∧ 0 ≤ s ∧ s < 2147483647
theorem Src.same {H H' : Hp} {l : Addr} (h : Src H l) (s : Same H H') : Src H' l := by
  obtain ⟨n, z, e, r⟩ := h
  exact ⟨n, z, s _ _ e, r⟩
theorem Src.some {H : Hp} {l : Addr} (h : Src H l) : ∃ o, H l = Option.some o := by
  obtain ⟨n, z, e, r⟩ := h
  exact ⟨_, e⟩
theorem Src.ne {H : Hp} {l p : Addr} (h : Src H l) (hp : H p = none) : p ≠ l := fun e => by
  obtain ⟨o, ho⟩ := h.some
  rw [e, ho] at hp
  cases hp
theorem bit_lt (k : Bool) : -(2 ^ 64) < (if k = true then 1 else 0 : Int) ∧ (if k = true then 1 else 0 : Int) < 2 ^ 64 := by
  cases k <;> decide
theorem bit_ge (k : Bool) : 0 ≤ (if k = true then 1 else 0 : Int) := by
  cases k <;> decide
def spSource : Sp := fun vs H Q _ => ∃ (c k : Int), vs = [.int c, .int k] ∧ ∀ (l : Addr) (H' : Hp), H l = none → Same H H' → Src H' l → Q (.ref l) H'
def spDraw : Sp := fun vs H Q _ => ∃ (l : Addr) (m : Int), vs = [.ref l, .int m] ∧ Src H l ∧ 0 < m ∧ m.natAbs.log2 < 9000 ∧ ∀ (r : Int) (H' : Hp), 0 ≤ r → r < m → But l H H' → Src H' l → Q (.int r) H'
theorem log_small {m : Int} {n : Nat} (h0 : 0 < n) (h : m.natAbs < 2 ^ n) (hn : n ≤ 9000) : m.natAbs.log2 < 9000 := Nat.lt_of_lt_of_le (PySem.Flt.log2_lt_of h0 h) hn
end Dear

namespace Dear
open PySem PySem.Spec PyProof.Rows L2
/-! ### kinds of things -/
def isInt : D → Bool
  | .int _ => true
  | _ => false
def isBl : D → Bool
  | .bl _ => true
  | _ => false
def isStr : D → Bool
  | .str _ => true
  | _ => false
def isLst : D → Bool
  | .lst _ => true
  | _ => false
def isTup : D → Bool
  | .tup _ => true
  | _ => false
def isDct : D → Bool
  | .dct => true
  | _ => false
theorem kd_int : ∀ d : D, kitB (kind d) "int" = some (isInt d || isBl d)
  | .non => (by decide +kernel : kitB "NoneType" "int" = some false)
  | .bl _ => (by decide +kernel : kitB "bool" "int" = some true)
  | .int _ => (by decide +kernel : kitB "int" "int" = some true)
  | .str _ => (by decide +kernel : kitB "str" "int" = some false)
  | .lst _ => (by decide +kernel : kitB "list" "int" = some false)
  | .tup _ => (by decide +kernel : kitB "tuple" "int" = some false)
  | .dct => (by decide +kernel : kitB "dict" "int" = some false)
theorem kd_bool : ∀ d : D, kitB (kind d) "bool" = some (isBl d)
  | .non => (by decide +kernel : kitB "NoneType" "bool" = some false)
  | .bl _ => (by decide +kernel : kitB "bool" "bool" = some true)
  | .int _ => (by decide +kernel : kitB "int" "bool" = some false)
  | .str _ => (by decide +kernel : kitB "str" "bool" = some false)
  | .lst _ => (by decide +kernel : kitB "list" "bool" = some false)
  | .tup _ => (by decide +kernel : kitB "tuple" "bool" = some false)
  | .dct => (by decide +kernel : kitB "dict" "bool" = some false)
theorem kd_str : ∀ d : D, kitB (kind d) "str" = some (isStr d)
  | .non => (by decide +kernel : kitB "NoneType" "str" = some false)
  | .bl _ => (by decide +kernel : kitB "bool" "str" = some false)
  | .int _ => (by decide +kernel : kitB "int" "str" = some false)
  | .str _ => (by decide +kernel : kitB "str" "str" = some true)
  | .lst _ => (by decide +kernel : kitB "list" "str" = some false)
  | .tup _ => (by decide +kernel : kitB "tuple" "str" = some false)
  | .dct => (by decide +kernel : kitB "dict" "str" = some false)
theorem kd_list : ∀ d : D, kitB (kind d) "list" = some (isLst d)
  | .non => (by decide +kernel : kitB "NoneType" "list" = some false)
  | .bl _ => (by decide +kernel : kitB "bool" "list" = some false)
  | .int _ => (by decide +kernel : kitB "int" "list" = some false)
  | .str _ => (by decide +kernel : kitB "str" "list" = some false)
  | .lst _ => (by decide +kernel : kitB "list" "list" = some true)
  | .tup _ => (by decide +kernel : kitB "tuple" "list" = some false)
  | .dct => (by decide +kernel : kitB "dict" "list" = some false)
theorem kd_tuple : ∀ d : D, kitB (kind d) "tuple" = some (isTup d)
  | .non => (by decide +kernel : kitB "NoneType" "tuple" = some false)
  | .bl _ => (by decide +kernel : kitB "bool" "tuple" = some false)
  | .int _ => (by decide +kernel : kitB "int" "tuple" = some false)
  | .str _ => (by decide +kernel : kitB "str" "tuple" = some false)
  | .lst _ => (by decide +kernel : kitB "list" "tuple" = some false)
  | .tup _ => (by decide +kernel : kitB "tuple" "tuple" = some true)
  | .dct => (by decide +kernel : kitB "dict" "tuple" = some false)
theorem kd_dict : ∀ d : D, kitB (kind d) "dict" = some (isDct d)
  | .non => (by decide +kernel : kitB "NoneType" "dict" = some false)
  | .bl _ => (by decide +kernel : kitB "bool" "dict" = some false)
  | .int _ => (by decide +kernel : kitB "int" "dict" = some false)
  | .str _ => (by decide +kernel : kitB "str" "dict" = some false)
  | .lst _ => (by decide +kernel : kitB "list" "dict" = some false)
  | .tup _ => (by decide +kernel : kitB "tuple" "dict" = some false)
  | .dct => (by decide +kernel : kitB "dict" "dict" = some true)
/-! ### is_whole, divisor, lowest, is_fraction, is_name -/
def spWhole : Sp := fun vs H Q _ => ∃ (v : V) (d : D), vs = [v] ∧ Dt H v d ∧ Q (.bl (isInt d)) H
def spDivisor : Sp := fun vs H Q _ => ∃ (a b : Int), vs = [.int a, .int b] ∧ 0 ≤ a ∧ 0 ≤ b ∧ Q (.int (Int.gcd a b)) H
/-- in lowest terms -/
def lowT (t b : Int) : Int := t / (Int.gcd b t : Int)
def lowB (t b : Int) : Int := b / (Int.gcd b t : Int)
def spLowest : Sp := fun vs H Q _ => ∃ (t b : Int), vs = [.int t, .int b] ∧ 0 < b ∧ b.natAbs.log2 < 9000 ∧ ∀ (p : Addr) (H' : Hp), H p = none → Same H H' → H' p = some (.tup [.int (lowT t b), .int (lowB t b)]) → Q (.ref p) H'
def isFr : D → Bool
  | .tup [.int t, .int b] => decide (0 < b) && (Int.gcd b t == 1)
  | _ => false
theorem isFr_len : ∀ {ds : List D}, ds.length ≠ 2 → isFr (.tup ds) = false
  | [], _ => rfl
  | [d], _ => by cases d <;> rfl
  | [_, _], h => absurd rfl h
  | d :: e :: _ :: _, _ => by cases d <;> cases e <;> rfl
def spFr : Sp := fun vs H Q _ => ∃ (v : V) (d : D), vs = [v] ∧ Dt H v d ∧ Ok d ∧ ∀ H', Same H H' → Q (.bl (isFr d)) H'
def letters : Str := "abcdefghijklmnopqrstuvwxyz"
def isNm : D → Bool
  | .str z => decide (1 ≤ z.length ∧ z.length ≤ 8) && z.cps.toList.all fun c => decide (c ∈ letters.cps.toList)
  | _ => false
def spNm : Sp := fun vs H Q _ => ∃ (v : V) (d : D), vs = [v] ∧ Dt H v d ∧ Ok d ∧ ∀ H', Same H H' → Q (.bl (isNm d)) H'
theorem gcd_step {a b : Int} (h0 : 0 ≤ a) (h : 0 < b) : Int.gcd b (a % b) = Int.gcd a b := by
  obtain ⟨m, rfl⟩ := Int.eq_ofNat_of_zero_le h0
  obtain ⟨n, rfl⟩ := Int.eq_ofNat_of_zero_le (Int.le_of_lt h)
  show Nat.gcd n (((m : Int) % (n : Int)).natAbs) = Nat.gcd m n
  rw [← Int.natCast_emod, Int.natAbs_natCast, Nat.gcd_comm n, ← Nat.gcd_rec, Nat.gcd_comm]
theorem abs_if (t : Int) : (if t < 0 then -t else t) = (t.natAbs : Int) := by
  split <;> omega
theorem gcd_abs (b t : Int) : Int.gcd b (t.natAbs : Int) = Int.gcd b t := by
  show Nat.gcd b.natAbs ((t.natAbs : Int).natAbs) = Nat.gcd b.natAbs t.natAbs
  rw [Int.natAbs_natCast]
theorem gcd_pos {b : Int} (t : Int) (h : 0 < b) : 0 < (Int.gcd b t : Int) := by
  have h1 : 0 < Int.gcd b t := Nat.gcd_pos_of_pos_left _ (by omega)
  omega
theorem gcd_le {b : Int} (t : Int) (h : 0 < b) : (Int.gcd b t : Int) ≤ b := by
  have h1 : Int.gcd b t ≤ b.natAbs := Nat.le_of_dvd (by omega) (Nat.gcd_dvd_left _ _)
  omega
theorem gcd_log {b : Int} (t : Int) (h : 0 < b) (hl : b.natAbs.log2 < 9000) : ((Int.gcd b t : Nat) : Int).natAbs.log2 < 9000 := by
  have h1 := gcd_le t h
  have h2 : b.natAbs < 2 ^ 9000 := Nat.lt_of_lt_of_le Nat.lt_log2_self (Nat.pow_le_pow_right (by decide) hl)
  have h3 : ((Int.gcd b t : Nat) : Int).natAbs < 2 ^ 9000 := Nat.lt_of_le_of_lt (by omega) h2
  exact PySem.Flt.log2_lt_of (by decide) h3
/-- a fraction is in lowest terms just where it is what lowest makes of it -/
theorem low_eq {t b : Int} (h : 0 < b) : ((lowT t b == t) && (lowB t b == b)) = (Int.gcd b t == 1) := by
  have g0 := gcd_pos t h
  by_cases e : Int.gcd b t = 1
  · have e1 : lowT t b = t := by unfold lowT; rw [e]; exact Int.ediv_one t
    have e2 : lowB t b = b := by unfold lowB; rw [e]; exact Int.ediv_one b
    rw [e1, e2, e]
    simp
  · have e3 : lowB t b ≠ b := by
      unfold lowB
      have g2 : (Int.gcd b t : Int) ≠ 1 := by omega
      have := Int.ediv_lt_self_of_pos_of_ne_one h g2
      omega
    have e4 : (lowB t b == b) = false := by simpa using e3
    have e5 : (Int.gcd b t == 1) = false := by simpa using e
    rw [e4, e5, Bool.and_false]
/-! ### texts -/
theorem in_letters_asc {c : Nat} (h : c ∈ letters.cps.toList) : c < 128 := by
  have : ∀ c ∈ letters.cps.toList, c < 128 := by decide +kernel
  exact this c h
end Dear

namespace Dear
open PySem PySem.Spec PyProof.Rows L2
/-! ### texts and lists of texts -/
theorem join_tl (ys : List Str) : (Txt.join "" ys).cps.toList = (ys.map fun y => y.cps.toList).flatten := by
  rw [TL.join_eq]
  have e := TL.tl_join ("" : Str) ys
  have e0 : TL.tl ("" : Str) = [] := by decide +kernel
  rw [e0] at e
  have g : ∀ l : List (List Nat), TL.joinL [] l = l.flatten := by
    intro l
    induction l with
    | nil => rfl
    | cons a r ih =>
      cases r with
      | nil => simp [TL.joinL]
      | cons b r =>
        rw [List.flatten_cons, ← ih]
        simp [TL.joinL]
  rw [g] at e
  exact e
/-- texts of one sign each -/
def Ones (ys : List Str) : Prop := ∀ y ∈ ys, y.length = 1 ∧ Asc y
theorem ones_join {ys : List Str} (h : Ones ys) : (Txt.join "" ys).length = ys.length ∧ Asc (Txt.join "" ys) := by
  constructor
  · rw [TL.len_tl, TL.tl, join_tl]
    induction ys with
    | nil => rfl
    | cons a r ih =>
      rw [List.map_cons, List.flatten_cons, List.length_append, ih fun y hy => h y (List.mem_cons_of_mem _ hy), List.length_cons]
      have h1 := (h a List.mem_cons_self).1
      rw [TL.len_tl] at h1
      have h2 : a.cps.toList.length = 1 := h1
      show a.cps.toList.length + r.length = r.length + 1
      omega
  · intro c hc
    rw [join_tl] at hc
    obtain ⟨l, hl, hc⟩ := List.mem_flatten.mp hc
    obtain ⟨y, hy, rfl⟩ := List.mem_map.mp hl
    exact (h y hy).2 c hc
theorem ones_size {ys : List Str} (h : Ones ys) (hl : ys.length ≤ 1000) : (ys.map (·.length)).sum + ys.length * ("" : Str).length ≤ 16777216 := by
  have e : (ys.map (·.length)).sum = ys.length := by
    clear hl
    induction ys with
    | nil => rfl
    | cons a r ih =>
      rw [List.map_cons, List.sum_cons, ih fun y hy => h y (List.mem_cons_of_mem _ hy), (h a List.mem_cons_self).1, List.length_cons]
      omega
  have e0 : ("" : Str).length = 0 := by decide +kernel
  rw [e, e0]
  omega
theorem dp_strs {K : PySem.W.Frag} {H : Hp} : ∀ ys : List Str, DpAll K H (ys.map V.str) (ys.map PyData.str)
  | [] => .nil
  | y :: ys => .cons (.str y) (dp_strs ys)
theorem strOk_asc {z : Str} (h : Asc z) : PyData.strOk z = true := by
  unfold PyData.strOk
  rw [Array.all_eq_true']
  intro c hc
  have := h c (by simpa using hc)
  simp
  omega
theorem depth_strs : ∀ ys : List Str, PyData.depthAll (ys.map PyData.str) = 0
  | [] => rfl
  | y :: ys => by
    rw [List.map_cons]
    show max (PyData.depth (.str y)) (PyData.depthAll (ys.map PyData.str)) = 0
    rw [depth_strs ys]
    rfl
theorem lay_strs : ∀ {ys : List Str}, (∀ y ∈ ys, Asc y) → PyData.canLayAll0 (ys.map PyData.str) = true
  | [], _ => rfl
  | y :: ys, h => by
    rw [List.map_cons]
    show (PyData.canLay0 (.str y) && PyData.canLayAll0 (ys.map PyData.str)) = true
    rw [lay_strs fun z hz => h z (List.mem_cons_of_mem _ hz), Bool.and_true]
    exact strOk_asc (h y List.mem_cons_self)
theorem shaped_strs {ys : List Str} (h : ∀ y ∈ ys, Asc y) : SeqAt.shaped (.list (ys.map PyData.str)) = true := by
  show (PyData.canLayAll0 (ys.map PyData.str) && decide (PyData.depthAll (ys.map PyData.str) + 1 ≤ 64)) = true
  rw [lay_strs h, depth_strs]
  rfl
theorem shaped_nil : SeqAt.shaped (.list []) = true := by decide +kernel
theorem eqv_nil : ∀ ds : List PyData, PyData.eqv (.list ds) (.list []) = ds.isEmpty
  | [] => by simp [PyData.eqv, PyData.eqvAll]
  | _ :: _ => by simp [PyData.eqv, PyData.eqvAll]
theorem all_empty {α β : Type} (l : List α) (p : α → Bool) (f : α → β) : l.all p = ((l.filter fun c => !p c).map f).isEmpty := by
  induction l with
  | nil => rfl
  | cons a r ih =>
    rw [List.all_cons, ih, List.filter_cons]
    cases p a <;> simp
theorem asc_one {c : Nat} (h : c < 128) : Asc ⟨#[c]⟩ := fun x hx => by
  have : x = c := by simpa using hx
  omega
theorem ixN_lt {n : Nat} {r : Int} (h0 : 0 ≤ r) (h1 : r < n) : ixN n r = some r.toNat := by
  unfold ixN
  rw [if_pos h0, if_pos h1]
theorem off_some {l p : Addr} {H : Hp} {o : HO} (h : Off l H p = some o) : p ≠ l ∧ H p = some o := by
  have ne : p ≠ l := fun e => by
    have z := (if_pos e).symm.trans h
    cases z
  rw [off_ne ne] at h
  exact ⟨ne, h⟩
theorem mem_cut {xs : List V} {lo hi : Option Int} {v : V} (h : v ∈ cutV xs lo hi) : v ∈ xs := List.mem_of_mem_drop (List.mem_of_mem_take h)
theorem get_ints {ns : List Int} {xs : List V} (h : ∀ v ∈ xs, v ∈ ns.map V.int) {i : Nat} {v : V} (e : xs[i]? = some v) : ∃ z, v = .int z ∧ z ∈ ns := by
  have := h v (List.mem_of_getElem? e)
  obtain ⟨z, hz, rfl⟩ := List.mem_map.mp this
  exact ⟨z, rfl, hz⟩
/-- one of a list that was made -/
theorem pick {l : Addr} {H H1 : Hp} {p : Addr} {ds : List D} (h : Dt (Off l H) (.ref p) (.lst ds)) (ok : OkAll ds) (B : But l H H1) {r : Int} (r0 : 0 ≤ r) (r1 : r < ds.length) :
    ∃ (xs : List V) (v : V) (d : D), H1 p = some (.lst xs) ∧ atI xs r = some v ∧ Dt (Off l H1) v d ∧ Ok d ∧ d ∈ ds := by
  cases h with
  | lst ha hall =>
    rename_i xs
    obtain ⟨ne, hp⟩ := off_some ha
    obtain ⟨v, hv, _, hr⟩ := at_lt (xs := xs) r0 (by rw [hall.length]; exact r1)
    obtain ⟨d, hd, h⟩ := hall.get hr
    have hm := List.mem_of_getElem? hd
    exact ⟨xs, v, d, B _ _ hp ne, hv, h.same B.off, ok.mem hm, hm⟩
theorem But.same0 {l : Addr} {H H1 H2 : Hp} (s : Same H H1) (h : H l = none) (B : But l H1 H2) : Same H H2 := fun c o e => B c o (s c o e) (ne_of_none e h)
theorem log_le {m : Int} (n : Nat) (h : m.natAbs ≤ n) (hn : n < 2 ^ 40 := by decide) : m.natAbs.log2 < 9000 := log_small (n := 40) (by decide) (Nat.lt_of_le_of_lt h hn) (by decide)
end Dear

namespace Dear
open PySem PySem.Spec PyProof.Rows L2
/-! ### list(text), tuple(text) -/
def sgnsV (z : Str) : List V := z.cps.toList.map fun c => V.str ⟨#[c]⟩
theorem valsAt : ∀ {xs : List V} {us : List Value}, xs.length = us.length → (∀ (j : Nat) (x : V) (u : Value), xs[j]? = some x → us[j]? = some u → RelV x u) → Vals xs us
  | [], [], _, _ => .nil
  | [], _ :: _, h, _ => by simp at h
  | _ :: _, [], h, _ => by simp at h
  | x :: xs, u :: us, h, f => .cons (f 0 x u rfl rfl) (valsAt (by simpa using h) fun j y w h1 h2 => f (j + 1) y w (by simpa using h1) (by simpa using h2))
theorem vals_signs {z : Str} {acc : Array Value} (h : ItemsOf (SignAt z) acc z.cps.size) : Vals (sgnsV z) acc.toList := by
  have el : acc.toList.length = z.cps.size := by rw [Array.length_toList]; exact h.1
  refine valsAt (by unfold sgnsV; rw [List.length_map, el, Array.length_toList]) fun j x u h1 h2 => ?_
  obtain ⟨c, t, e1, e2⟩ := h.2 j u (by rw [← h2, Array.getElem?_toList])
  unfold sgnsV at h1
  rw [List.getElem?_map, Array.getElem?_toList, e1] at h1
  cases h1
  exact ⟨t, e2⟩
section
variable {X : Cx}
def rListTx : List V → Hp → VK → Prop := fun xs H Q => ∃ z, xs = [.str z] ∧ z.length ≤ 1000 ∧ ∀ l, H l = none → Q (.ref l) (upd H l (.lst (sgnsV z)))
def rTupTx : List V → Hp → VK → Prop := fun xs H Q => ∃ z, xs = [.str z] ∧ z.length ≤ 1000 ∧ ∀ l, H l = none → Q (.ref l) (upd H l (.tup (sgnsV z)))
theorem call_list_tx (hc : X.calm = true) : CallR X (.type "list") rListTx := by
  intro pins s σ H xs us Q I r h
  obtain ⟨z, e, hz, q⟩ := h
  subst e
  obtain ⟨u, eu, t, rfl⟩ := vals1 r
  subst eu
  have hz' : z.cps.size ≤ sizeLine := sz_lit hz
  refine call_list_str (hn := hz') (I.ok.hd hc) z t fun h' tk acc c' hk e' hi => ?_
  refine ⟨.ref s.heap.objs.size, upd H s.heap.objs.size (.lst (sgnsV z)), I.laid hk (Nat.le_refl _) (show ObjOk X.prog X.w _ _ _ (.lst (sgnsV z)) from ⟨?_, acc.toList, c', vals_signs hi, ?_⟩), rfl, q _ (I.hok.fresh (Nat.le_refl _))⟩
  · unfold sgnsV
    rw [List.length_map, Array.length_toList]
    exact hz'
  · rw [Array.toArray_toList]; exact e'
theorem call_tuple_tx (hc : X.calm = true) : CallR X (.type "tuple") rTupTx := by
  intro pins s σ H xs us Q I r h
  obtain ⟨z, e, hz, q⟩ := h
  subst e
  obtain ⟨u, eu, t, rfl⟩ := vals1 r
  subst eu
  have hz' : z.cps.size ≤ sizeLine := sz_lit hz
  refine call_tuple_str (hsz := hz') (I.ok.hd hc) z t fun h' tk acc hk hi => ?_
  have I2 : Inv X pins σ H { s with heap := h', toks := tk } := I.kept hk
  refine ⟨.ref h'.objs.size, upd H h'.objs.size (.tup (sgnsV z)), I2.laid (t' := tk) (fun c o e => Heap.get?_push_of_some _ e) (Nat.le_refl _) (show ObjOk X.prog X.w _ _ _ (.tup (sgnsV z)) from ⟨?_, acc.toList, vals_signs hi, ?_⟩), rfl, q _ (I2.hok.fresh (Nat.le_refl _))⟩
  · unfold sgnsV
    rw [List.length_map, Array.length_toList]
    exact hz'
  · rw [Array.toArray_toList]; exact IsTup.new _ _
end
section
variable {l : Addr} {σ : L2.St} {H : Hp}
theorem dt_signs {H : Hp} : ∀ cs : List Nat, DtAll H (cs.map fun c => V.str ⟨#[c]⟩) (cs.map fun c => D.str ⟨#[c]⟩)
  | [] => .nil
  | c :: cs => .cons (.str _) (dt_signs cs)
theorem mk_ltx {i : Nat} {z : Str} {o : HO} (e : σ[i]? = some (some (.str z))) (hz : z.length ≤ 1000) (hl : H l = some o) : Mk l σ (tCB rListTx (tCons (tVar i) tNil)) H (.lst (z.cps.toList.map fun c => D.str ⟨#[c]⟩)) := fun H1 s Q q => by
  refine ⟨_, e, z, rfl, hz, fun p hp => ?_⟩
  have ne : p ≠ l := fun e => by
    subst e
    rw [s _ _ hl] at hp
    cases hp
  exact q (.ref p) _ (Same.upd hp) (.lst (by rw [off_ne ne]; exact upd_same) (dt_signs _))
theorem mk_ttx {i : Nat} {z : Str} {o : HO} (e : σ[i]? = some (some (.str z))) (hz : z.length ≤ 1000) (hl : H l = some o) : Mk l σ (tCB rTupTx (tCons (tVar i) tNil)) H (.tup (z.cps.toList.map fun c => D.str ⟨#[c]⟩)) := fun H1 s Q q => by
  refine ⟨_, e, z, rfl, hz, fun p hp => ?_⟩
  have ne : p ≠ l := fun e => by
    subst e
    rw [s _ _ hl] at hp
    cases hp
  exact q (.ref p) _ (Same.upd hp) (.tup (by rw [off_ne ne]; exact upd_same) (dt_signs _))
end
end Dear

namespace Dear
open PySem PySem.Spec PyProof.Rows L2
/-- law's: a list of at most 63 ints is handed in, True comes out -/
def spLaw (K : PySem.W.Frag) : Sp := fun vs H Q _ => ∃ (a : Addr) (ns : List Int), vs = [.ref a] ∧ SqL K H a (ns.map V.int) ∧ ns.length ≤ 63 ∧ ∀ H', Q (.bl true) H'
end Dear

namespace Dear
open PySem PySem.Spec PyProof.Rows L2
/-! ### slices of texts -/
def sgn (c : Nat) : Str := ⟨#[c]⟩
theorem str_one {z : Str} (h : z.length = 1) : ∃ c, z = ⟨#[c]⟩ := by
  obtain ⟨⟨l⟩⟩ := z
  match l, h with
  | [c], _ => exact ⟨c, rfl⟩
theorem inV_strs (z : Str) : ∀ ys : List Str, inV (.str z) (ys.map V.str) = decide (z ∈ ys)
  | [] => by simp [inV]
  | y :: ys => by
    have ih := inV_strs z ys
    unfold inV at ih ⊢
    rw [List.map_cons, List.any_cons, ih]
    by_cases e : y = z
    · subst e
      simp [eqV]
    · have e' : ¬ z = y := fun q => e q.symm
      have h1 : eqV (.str y) (.str z) = false := by simp [eqV, e]
      simp [h1, e']
theorem flat_str (ys : List Str) : (ys.map V.str).all flatV = true := by
  rw [List.all_eq_true]
  intro x hx
  obtain ⟨y, _, rfl⟩ := List.mem_map.mp hx
  rfl
theorem sgn_inj {a b : Nat} (h : sgn a = sgn b) : a = b := by
  have := congrArg (fun z : Str => z.cps.toList) h
  simpa [sgn] using this
/-- the text of these code points -/
def txt (l : List Nat) : Str := ⟨l.toArray⟩
theorem txt_list (l : List Nat) : (txt l).cps.toList = l := List.toList_toArray ..
theorem txt_length (l : List Nat) : (txt l).length = l.length := List.size_toArray ..
theorem txt_of (z : Str) : z = txt z.cps.toList := by
  cases z
  rfl
theorem str_len (a b : Str) : (a ++ b).length = a.length + b.length := by
  show (a.cps ++ b.cps).size = _
  exact Array.size_append
theorem txt_inj {a b : List Nat} (h : txt a = txt b) : a = b := by
  have := congrArg (fun z : Str => z.cps.toList) h
  simpa [txt_list] using this
theorem txt_app (a b : List Nat) : txt a ++ txt b = txt (a ++ b) := by
  show (⟨a.toArray ++ b.toArray⟩ : Str) = ⟨(a ++ b).toArray⟩
  simp
theorem cut_txt (l : List Nat) (lo hi : Option Int) : cutS (txt l) lo hi = txt ((l.drop (HT.sIx l.length 0 lo)).take (HT.sIx l.length l.length hi - HT.sIx l.length 0 lo)) := by
  unfold cutS
  rw [txt_list, txt_length]
  rfl
theorem cut_pre (l : List Nat) (j : Nat) : cutS (txt l) none (some (j : Int)) = txt (l.take j) := by
  rw [cut_txt, HT.sIx_none, HT.sIx_nat, List.drop_zero, Nat.sub_zero]
  congr 1
  by_cases h : j ≤ l.length
  · rw [Nat.min_eq_left h]
  · rw [Nat.min_eq_right (by omega), List.take_length, List.take_of_length_le (by omega)]
theorem cut_from (l : List Nat) (j : Nat) : cutS (txt l) (some (j : Int)) none = txt (l.drop j) := by
  rw [cut_txt, HT.sIx_none, HT.sIx_nat]
  congr 1
  by_cases h : j ≤ l.length
  · rw [Nat.min_eq_left h, List.take_of_length_le (by rw [List.length_drop]; exact Nat.le_refl _)]
  · rw [Nat.min_eq_right (by omega), List.drop_length, List.drop_of_length_le (by omega), List.take_nil]
theorem cut_last0 : cutS (txt []) (some (-1)) none = "" := by decide +kernel
theorem cut_last (l : List Nat) (c : Nat) : cutS (txt (l ++ [c])) (some (-1)) none = txt [c] := by
  rw [cut_txt, HT.sIx_none]
  have e1 : HT.sIx (l ++ [c]).length 0 (some (-1)) = l.length := by
    show (if (-1 : Int) < 0 then (-1 + ((l ++ [c]).length : Int)).toNat else min (-1 : Int).toNat (l ++ [c]).length) = l.length
    rw [if_pos (by decide), List.length_append]
    show (-1 + ((l.length + 1 : Nat) : Int)).toNat = _
    omega
  rw [e1, List.drop_left, List.take_of_length_le]
  rw [List.length_append]
  show 1 ≤ l.length + 1 - l.length
  omega
theorem cut_init {l : List Nat} {e : Nat} : cutS (txt (l ++ [e])) none (some (-1)) = txt l := by
  have e1 : HT.sIx (l ++ [e]).length (l ++ [e]).length (some (-1)) = l.length := by
    show (if (-1 : Int) < 0 then (-1 + ((l ++ [e]).length : Int)).toNat else min (-1 : Int).toNat (l ++ [e]).length) = l.length
    rw [if_pos (by decide), List.length_append]
    show (-1 + ((l.length + 1 : Nat) : Int)).toNat = _
    omega
  rw [cut_txt, HT.sIx_none, e1, List.drop_zero, Nat.sub_zero, List.take_left]
theorem at_last {l : List Nat} {e : Nat} : atI (txt (l ++ [e])).cps.toList (-1) = some e := by
  rw [txt_list]
  unfold atI ixN
  rw [if_neg (by decide), if_pos (by rw [List.length_append]; show -((l.length + 1 : Nat) : Int) ≤ -1; omega)]
  have e1 : (-1 + ((l ++ [e]).length : Int)).toNat = l.length := by
    rw [List.length_append]
    show (-1 + ((l.length + 1 : Nat) : Int)).toNat = _
    omega
  rw [e1]
  show (l ++ [e])[l.length]? = some e
  rw [List.getElem?_append_right (Nat.le_refl _), Nat.sub_self]
  rfl
theorem sgn_txt (c : Nat) : sgn c = txt [c] := rfl
theorem txt_snoc (l : List Nat) (c : Nat) : txt l ++ sgn c = txt (l ++ [c]) := by
  show (⟨l.toArray ++ #[c]⟩ : Str) = ⟨(l ++ [c]).toArray⟩
  simp
/-- the sign ahead of the j-th one -/
def aheadOf (l : List Nat) (j : Nat) : Str := cutS (cutS (txt l) none (some (j : Int))) (some (-1)) none
theorem ahead_zero (l : List Nat) : aheadOf l 0 = "" := by
  unfold aheadOf
  rw [cut_pre, List.take_zero]
  exact cut_last0
theorem ahead_succ {l : List Nat} {j : Nat} {c : Nat} (h : l[j]? = some c) : aheadOf l (j + 1) = txt [c] := by
  unfold aheadOf
  rw [cut_pre, List.take_add_one, h, Option.toList_some, cut_last]
end Dear

namespace Dear
open PySem PySem.Spec PyProof.Rows L2
/-! ### data of tuples alone: they stay whatever lists are changed -/
mutual
def Pu : D → Prop
  | .lst _ => False
  | .dct => False
  | .tup ds => PuAll ds
  | _ => True
def PuAll : List D → Prop
  | [] => True
  | d :: ds => Pu d ∧ PuAll ds
end
def TP (H H' : Hp) : Prop := ∀ b xs, H b = some (.tup xs) → H' b = some (.tup xs)
theorem TP.refl (H : Hp) : TP H H := fun _ _ h => h
theorem TP.trans {H H1 H2 : Hp} (a : TP H H1) (b : TP H1 H2) : TP H H2 := fun c xs h => b c xs (a c xs h)
theorem TP.same {H H' : Hp} (s : Same H H') : TP H H' := fun b xs h => s b _ h
theorem TP.but {l : Addr} {H H' : Hp} (s : But l H H') {xs : List V} (hl : H l = some (.lst xs)) : TP H H' := fun b ys h => s b _ h (ne_of h hl (by intro z; cases z))
theorem TP.src {l : Addr} {H H' : Hp} (s : But l H H') (hl : Src H l) : TP H H' := by
  obtain ⟨n, z, e, _⟩ := hl
  exact TP.but s e
theorem TP.upd {H : Hp} {p : Addr} {xs : List V} {o : HO} (h : H p = some (.lst xs)) : TP H (L2.upd H p o) := fun b ys e => by
  rw [upd_ne (ne_of e h (by intro z; cases z))]
  exact e
mutual
theorem Dt.tp {H H' : Hp} (t : TP H H') : ∀ {v : V} {d : D}, Pu d → Dt H v d → Dt H' v d
  | _, _, _, .non => .non
  | _, _, _, .bl b => .bl b
  | _, _, _, .int i => .int i
  | _, _, _, .str z => .str z
  | _, _, p, .lst _ _ => p.elim
  | _, _, p, .tup h a => .tup (t _ _ h) (DtAll.tp t p a)
  | _, _, p, .dct _ => p.elim
theorem DtAll.tp {H H' : Hp} (t : TP H H') : ∀ {vs : List V} {ds : List D}, PuAll ds → DtAll H vs ds → DtAll H' vs ds
  | _, _, _, .nil => .nil
  | _, _, p, .cons a b => .cons (Dt.tp t p.1 a) (DtAll.tp t p.2 b)
end
theorem PuAll.app : ∀ {ds es : List D}, PuAll ds → PuAll es → PuAll (ds ++ es)
  | [], _, _, h => h
  | _ :: _, _, a, h => ⟨a.1, PuAll.app a.2 h⟩
theorem OkAll.app : ∀ {ds es : List D}, OkAll ds → OkAll es → OkAll (ds ++ es)
  | [], _, _, h => h
  | _ :: _, _, a, h => ⟨a.1, OkAll.app a.2 h⟩
theorem DtAll.strs {H : Hp} : ∀ {xs : List V} {pre : List Str}, DtAll H xs (pre.map D.str) → xs = pre.map V.str
  | _, [], .nil => rfl
  | _, _ :: _, .cons (.str z) t => by
    rw [DtAll.strs t]
    rfl
theorem DtAll.take {H : Hp} : ∀ {xs : List V} {ds : List D} (n : Nat), DtAll H xs ds → DtAll H (xs.take n) (ds.take n)
  | _, _, 0, _ => .nil
  | _, _, _ + 1, .nil => .nil
  | _, _, n + 1, .cons a b => .cons a (DtAll.take n b)
theorem drop_get {α : Type} {l : List α} {i : Nat} {x : α} (h : l[i]? = some x) : l.drop i = x :: l.drop (i + 1) := by
  obtain ⟨h1, h2⟩ := List.getElem?_eq_some_iff.mp h
  rw [List.drop_eq_getElem_cons h1, h2]
theorem take_more {α : Type} {l : List α} {i : Nat} {x : α} (h : l[i]? = some x) : l.take (i + 1) = l.take i ++ [x] := by
  rw [List.take_succ, h]
  rfl
end Dear

namespace Dear
open PySem PySem.Spec PyProof.Rows L2
/-! ### what a tongue is, of any thing -/
def topPos : D → Bool
  | .tup (.int t :: _) => decide (0 < t)
  | _ => false
def isPrice (d : D) : Bool := isFr d && topPos d
def isLetter : D → Bool
  | .str z => z.length == 1 && z.cps.toList.all fun c => decide (c ∈ letters.cps.toList)
  | _ => false
def isNon : D → Bool
  | .non => true
  | _ => false
def isSign : D → Bool
  | .tup [s, p, l] => isLetter s && isPrice p && (isNon l || isPrice l)
  | _ => false
def headS : D → Str
  | .tup (.str z :: _) => z
  | _ => Str.empty
def areSigns : D → Bool
  | .lst ds => decide (2 ≤ ds.length ∧ ds.length ≤ 6) && ds.all isSign && (dd (ds.map headS)).length == ds.length
  | _ => false
def unl (n : Int) (L : List Str) : List Str → List D → Bool
  | _, [] => true
  | pre, .str z :: r => decide ((z.length : Int) = n) && !decide (z ∈ pre) && (z.cps.toList.all fun c => decide (sgn c ∈ L)) && unl n L (pre ++ [z]) r
  | _, _ :: _ => false
def unlike (n : Int) (L : List Str) : D → Bool
  | .lst ds => unl n L [] ds
  | _ => false
def heads : D → List Str
  | .lst ds => ds.map headS
  | _ => []
def isLong : D → Bool
  | .int i => decide (1 ≤ i ∧ i ≤ 8)
  | _ => false
def lookOk : D → Bool
  | .tup [s, f, p, l] => areSigns s && unlike 1 (heads s) f && unlike 2 (heads s) p && isLong l
  | _ => false
def spPrice : Sp := fun vs H Q _ => ∃ (v : V) (d : D), vs = [v] ∧ Dt H v d ∧ Ok d ∧ ∀ H', Same H H' → Q (.bl (isPrice d)) H'
def spLetter : Sp := fun vs H Q _ => ∃ (v : V) (d : D), vs = [v] ∧ Dt H v d ∧ Ok d ∧ Q (.bl (isLetter d)) H
def spSign : Sp := fun vs H Q _ => ∃ (v : V) (d : D), vs = [v] ∧ Dt H v d ∧ Ok d ∧ ∀ H', Same H H' → Q (.bl (isSign d)) H'
def spSigns : Sp := fun vs H Q _ => ∃ (v : V) (d : D), vs = [v] ∧ Dt H v d ∧ Ok d ∧ ∀ H', Same H H' → Q (.bl (areSigns d)) H'
def spUnlike : Sp := fun vs H Q _ => ∃ (v : V) (d : D) (n : Int) (b : Addr) (L : List Str), vs = [v, .int n, .ref b] ∧ Dt H v d ∧ Ok d ∧ H b = some (.lst (L.map V.str)) ∧ ∀ H', Same H H' → Q (.bl (unlike n L d)) H'
/-- of a good one: None -/
def spLook : Sp := fun vs H Q _ => ∃ (v : V) (d : D), vs = [v] ∧ Dt H v d ∧ Ok d ∧ lookOk d = true ∧ ∀ H', Same H H' → Q .non H'
theorem fr_shape {d : D} (h : isFr d = true) : ∃ t b : Int, d = .tup [.int t, .int b] ∧ 0 < b := by
  match d, h with
  | .tup [.int t, .int b], h =>
    refine ⟨t, b, rfl, ?_⟩
    have h : (decide (0 < b) && (Int.gcd b t == 1)) = true := h
    simp only [Bool.and_eq_true, decide_eq_true_eq] at h
    exact h.1
end Dear

namespace Dear
open PySem PySem.Spec PyProof.Rows L2
/-! ### prices and signs -/
structure PrOk (t b : Int) : Prop where
  t0 : 0 < t
  b0 : 0 < b
  t1 : t ≤ 999999999
  b1 : b ≤ 999999999
  g : Int.gcd b t = 1
theorem PrOk.is {t b : Int} (h : PrOk t b) : isPrice (.tup [.int t, .int b]) = true := by
  show (decide (0 < b) && (Int.gcd b t == 1) && decide (0 < t)) = true
  rw [decide_eq_true h.t0, decide_eq_true h.b0, h.g]
  rfl
theorem pow300 {n : Nat} (h : n < 2 ^ 40) : n < 2 ^ 300 := Nat.lt_of_lt_of_le h (Nat.pow_le_pow_right (by decide) (by decide))
theorem PrOk.ok {t b : Int} (h : PrOk t b) : Ok (.tup [.int t, .int b]) := by
  obtain ⟨h1, h2, h3, h4, _⟩ := h
  exact ⟨pow300 (by omega), pow300 (by omega), trivial⟩
theorem low_pos {t b : Int} (ht : 0 < t) (hb : 0 < b) : 0 < lowT t b ∧ 0 < lowB t b ∧ lowT t b ≤ t ∧ lowB t b ≤ b ∧ Int.gcd (lowB t b) (lowT t b) = 1 := by
  obtain ⟨m, rfl⟩ := Int.eq_ofNat_of_zero_le (Int.le_of_lt ht)
  obtain ⟨n, rfl⟩ := Int.eq_ofNat_of_zero_le (Int.le_of_lt hb)
  have hm : 0 < m := by omega
  have hn : 0 < n := by omega
  have hg : 0 < Nat.gcd n m := Nat.gcd_pos_of_pos_left _ hn
  have e1 : lowT (m : Int) (n : Int) = ((m / Nat.gcd n m : Nat) : Int) := by
    show (m : Int) / ((Nat.gcd n m : Nat) : Int) = _
    exact (Int.natCast_ediv _ _).symm
  have e2 : lowB (m : Int) (n : Int) = ((n / Nat.gcd n m : Nat) : Int) := by
    show (n : Int) / ((Nat.gcd n m : Nat) : Int) = _
    exact (Int.natCast_ediv _ _).symm
  rw [e1, e2]
  have d1 : 0 < m / Nat.gcd n m := Nat.div_pos (Nat.le_of_dvd hm (Nat.gcd_dvd_right n m)) hg
  have d2 : 0 < n / Nat.gcd n m := Nat.div_pos (Nat.le_of_dvd hn (Nat.gcd_dvd_left n m)) hg
  have d3 : m / Nat.gcd n m ≤ m := Nat.div_le_self _ _
  have d4 : n / Nat.gcd n m ≤ n := Nat.div_le_self _ _
  refine ⟨by omega, by omega, by omega, by omega, ?_⟩
  show Nat.gcd (n / Nat.gcd n m) (m / Nat.gcd n m) = 1
  rw [Nat.gcd_div (Nat.gcd_dvd_left n m) (Nat.gcd_dvd_right n m)]
  exact Nat.div_self hg
theorem sgn_small (c : Nat) : (sgn c).length ≤ 3000 := (by decide : 1 ≤ 3000)
/-- a price, or none -/
def LastD : D → Prop
  | .non => True
  | .tup [.int t, .int b] => PrOk t b
  | _ => False
structure SgD (d : D) (c : Nat) : Prop where
  ex : ∃ (t b : Int) (l : D), d = .tup [.str (sgn c), .tup [.int t, .int b], l] ∧ PrOk t b ∧ LastD l
  let_ : c ∈ letters.cps.toList
theorem LastD.facts {l : D} (h : LastD l) : (isNon l || isPrice l) = true ∧ Ok l ∧ Pu l := by
  match l, h with
  | .non, _ => exact ⟨rfl, trivial, trivial⟩
  | .tup [.int t, .int b], h =>
    have h : PrOk t b := h
    exact ⟨by rw [h.is, Bool.or_true], h.ok, trivial, trivial, trivial⟩
theorem SgD.facts {d : D} {c : Nat} (h : SgD d c) : isSign d = true ∧ Ok d ∧ Pu d ∧ headS d = sgn c := by
  obtain ⟨⟨t, b, l, rfl, hp, hl⟩, hc⟩ := h
  obtain ⟨l1, l2, l3⟩ := hl.facts
  have hlt : isLetter (.str (sgn c)) = true := by
    show ((sgn c).length == 1 && _) = true
    have : ((sgn c).length == 1) = true := rfl
    rw [this, Bool.true_and]
    simpa [sgn] using hc
  refine ⟨?_, ⟨⟨sgn_small c, asc_one (in_letters_asc hc)⟩, hp.ok, l2, trivial⟩, ⟨trivial, ⟨trivial, trivial, trivial⟩, l3, trivial⟩, rfl⟩
  show (isLetter (.str (sgn c)) && isPrice (.tup [.int t, .int b]) && (isNon l || isPrice l)) = true
  rw [hlt, hp.is, l1]
  rfl
/-- signs with their letters -/
inductive SgAll : List D → List Nat → Prop
  | nil : SgAll [] []
  | cons {d : D} {c : Nat} {ds : List D} {cs : List Nat} : SgD d c → SgAll ds cs → SgAll (d :: ds) (c :: cs)
theorem SgAll.app : ∀ {ds : List D} {cs : List Nat} {d : D} {c : Nat}, SgAll ds cs → SgD d c → SgAll (ds ++ [d]) (cs ++ [c])
  | _, _, _, _, .nil, h => .cons h .nil
  | _, _, _, _, .cons a b, h => .cons a (SgAll.app b h)
theorem SgAll.facts : ∀ {ds : List D} {cs : List Nat}, SgAll ds cs → ds.all isSign = true ∧ OkAll ds ∧ PuAll ds ∧ ds.map headS = cs.map sgn ∧ ds.length = cs.length ∧ ∀ c ∈ cs, c ∈ letters.cps.toList
  | _, _, .nil => ⟨rfl, trivial, trivial, rfl, rfl, fun _ h => nomatch h⟩
  | _, _, .cons a b => by
    obtain ⟨h1, h2, h3, h4⟩ := a.facts
    obtain ⟨g1, g2, g3, g4, g5, g6⟩ := SgAll.facts b
    refine ⟨by rw [List.all_cons, h1, g1]; rfl, ⟨h2, g2⟩, ⟨h3, g3⟩, by rw [List.map_cons, List.map_cons, h4, g4], by rw [List.length_cons, List.length_cons, g5], fun c hc => ?_⟩
    rcases List.mem_cons.mp hc with rfl | hc
    · exact a.let_
    · exact g6 c hc
theorem SgAll.get : ∀ {ds : List D} {cs : List Nat} {i : Nat} {d : D}, SgAll ds cs → ds[i]? = some d → ∃ c, cs[i]? = some c ∧ SgD d c
  | _, _, _, _, .nil, e => by simp at e
  | _, _, 0, _, .cons a _, e => by
    simp at e
    subst e
    exact ⟨_, rfl, a⟩
  | _, _, i + 1, d, .cons _ b, e => by
    obtain ⟨c, h1, h2⟩ := SgAll.get (i := i) (d := d) b (by simpa using e)
    exact ⟨c, by simpa using h1, h2⟩
theorem nodup_sgn {cs : List Nat} (h : cs.Nodup) : (cs.map sgn).Nodup := by
  rw [List.nodup_iff_pairwise_ne] at *
  rw [List.pairwise_map]
  exact h.imp fun hne e => hne (sgn_inj e)
/-- letters by start and step -/
def codeAt (s st : Int) (j : Nat) : Nat := letters.cps.toList.getD ((s + st * (j : Int)) % 26).toNat 0
theorem let_nodup : letters.cps.toList.Nodup := by decide +kernel
theorem let_len : letters.cps.toList.length = 26 := by decide +kernel
theorem code_mem (s st : Int) (j : Nat) : letters.cps.toList[((s + st * (j : Int)) % 26).toNat]? = some (codeAt s st j) := by
  have h0 : 0 ≤ (s + st * (j : Int)) % 26 := Int.emod_nonneg _ (by decide)
  have h1 : (s + st * (j : Int)) % 26 < 26 := Int.emod_lt_of_pos _ (by decide)
  have h2 : ((s + st * (j : Int)) % 26).toNat < letters.cps.toList.length := by rw [let_len]; omega
  unfold codeAt
  rw [List.getD_eq_getElem?_getD, List.getElem?_eq_getElem h2]
  rfl
theorem code_inj {s st : Int} (hst : st = 1 ∨ st = 3 ∨ st = 7 ∨ st = 25) {i j : Nat} (hi : i < 6) (hj : j < 6) (h : codeAt s st i = codeAt s st j) : i = j := by
  have a := code_mem s st i
  have b := code_mem s st j
  rw [← h] at b
  have e := nd_ix let_nodup a b
  have i0 : 0 ≤ (s + st * (i : Int)) % 26 := Int.emod_nonneg _ (by decide)
  have j0 : 0 ≤ (s + st * (j : Int)) % 26 := Int.emod_nonneg _ (by decide)
  rcases hst with rfl | rfl | rfl | rfl <;> omega
theorem codes_nodup {s st : Int} (hst : st = 1 ∨ st = 3 ∨ st = 7 ∨ st = 25) {n : Nat} (hn : n ≤ 6) : ((List.range n).map (codeAt s st)).Nodup := by
  rw [List.nodup_iff_pairwise_ne, List.pairwise_map]
  refine List.Pairwise.imp_of_mem ?_ (List.nodup_iff_pairwise_ne.mp List.nodup_range)
  intro a b ha hb hne e
  exact hne (code_inj hst (by have := List.mem_range.mp ha; omega) (by have := List.mem_range.mp hb; omega) e)
/-! ### firsts and pairs -/
theorem unl_ok {n : Int} {L : List Str} : ∀ {zs pre : List Str}, (∀ z ∈ zs, (z.length : Int) = n ∧ ∀ c ∈ z.cps.toList, sgn c ∈ L) → (pre ++ zs).Nodup → unl n L pre (zs.map D.str) = true
  | [], _, _, _ => rfl
  | z :: zs, pre, h, nd => by
    obtain ⟨h1, h2⟩ := h z List.mem_cons_self
    have h3 : ¬ z ∈ pre := fun q => (List.nodup_append.mp nd).2.2 z q z List.mem_cons_self rfl
    show (decide ((z.length : Int) = n) && !decide (z ∈ pre) && (z.cps.toList.all fun c => decide (sgn c ∈ L)) && unl n L (pre ++ [z]) (zs.map D.str)) = true
    have h4 : (z.cps.toList.all fun c => decide (sgn c ∈ L)) = true := List.all_eq_true.mpr fun c hc => decide_eq_true (h2 c hc)
    rw [decide_eq_true h1, decide_eq_false h3, h4, unl_ok (fun y hy => h y (List.mem_cons_of_mem _ hy)) (by rw [List.append_assoc]; exact nd)]
    rfl
theorem tl_sgn2 (a b : Nat) : (sgn a ++ sgn b).cps.toList = [a, b] := TL.tl_append (sgn a) (sgn b)
theorem sgn2_inj {a b c d : Nat} (h : sgn a ++ sgn b = sgn c ++ sgn d) : a = c ∧ b = d := by
  have := congrArg (fun z : Str => z.cps.toList) h
  simp only [tl_sgn2] at this
  injection this with h1 h2
  injection h2 with h2 _
  exact ⟨h1, h2⟩
/-- pairs out of cs, of those that begin with one of bs -/
structure PairsOf (bs cs : List Nat) (zs : List Str) : Prop where
  nd : zs.Nodup
  of : ∀ z ∈ zs, ∃ a ∈ bs, ∃ b ∈ cs, z = sgn a ++ sgn b
theorem pairs_len {a b : Nat} : (sgn a ++ sgn b).length = 2 := by
  rw [TL.len_tl]
  show (sgn a ++ sgn b).cps.toList.length = 2
  rw [tl_sgn2]
  rfl
theorem PairsOf.more {bs cs : List Nat} {zs ws : List Str} {a : Nat} (h : PairsOf bs cs zs) (ha : ¬ a ∈ bs) (hw : ws.Nodup) (ho : ∀ z ∈ ws, ∃ b ∈ cs, z = sgn a ++ sgn b) : PairsOf (bs ++ [a]) cs (zs ++ ws) where
  nd := by
    rw [List.nodup_append]
    refine ⟨h.nd, hw, fun x hx y hy e => ?_⟩
    obtain ⟨a1, h1, b1, _, rfl⟩ := h.of x hx
    obtain ⟨b2, _, rfl⟩ := ho y hy
    have := (sgn2_inj e).1
    subst this
    exact ha h1
  of := fun z hz => by
    rcases List.mem_append.mp hz with hz | hz
    · obtain ⟨a1, h1, b1, h2, rfl⟩ := h.of z hz
      exact ⟨a1, List.mem_append_left _ h1, b1, h2, rfl⟩
    · obtain ⟨b2, h2, rfl⟩ := ho z hz
      exact ⟨a, List.mem_append_right _ List.mem_cons_self, b2, h2, rfl⟩
theorem pairs_unlike {cs : List Nat} {zs : List Str} (h : PairsOf cs cs zs) : unlike 2 (cs.map sgn) (.lst (zs.map D.str)) = true := by
  refine unl_ok (fun z hz => ?_) (by simpa using h.nd)
  obtain ⟨a, ha, b, hb, rfl⟩ := h.of z hz
  refine ⟨by rw [pairs_len]; rfl, fun c hc => ?_⟩
  rw [tl_sgn2] at hc
  simp only [List.mem_cons, List.not_mem_nil, or_false] at hc
  rcases hc with rfl | rfl
  · exact List.mem_map_of_mem ha
  · exact List.mem_map_of_mem hb
theorem firsts_unlike {cs fs : List Nat} (nd : fs.Nodup) (h : ∀ c ∈ fs, c ∈ cs) : unlike 1 (cs.map sgn) (.lst ((fs.map sgn).map D.str)) = true := by
  refine unl_ok (fun z hz => ?_) (by simpa using nodup_sgn nd)
  obtain ⟨c, hc, rfl⟩ := List.mem_map.mp hz
  refine ⟨rfl, fun x hx => ?_⟩
  have : x = c := by simpa [sgn] using hx
  subst this
  exact List.mem_map_of_mem (h _ hc)
theorem signs_ok {ds : List D} {cs : List Nat} (h : SgAll ds cs) (nd : cs.Nodup) (l2 : 2 ≤ cs.length) (l6 : cs.length ≤ 6) : areSigns (.lst ds) = true := by
  obtain ⟨h1, h2, h3, h4, h5, h6⟩ := h.facts
  show (decide (2 ≤ ds.length ∧ ds.length ≤ 6) && ds.all isSign && (dd (ds.map headS)).length == ds.length) = true
  rw [decide_eq_true (by omega), h1, h4]
  have e : dd (cs.map sgn) = cs.map sgn := by
    have := dd_nodup [] (xs := cs.map sgn) (by simpa using nodup_sgn nd)
    rw [List.nil_append] at this
    exact this
  rw [e, List.length_map, h5]
  simp
/-! ### the tongue that the law draws -/
structure TgD (d : D) (ds : List D) (cs fs : List Nat) (zs : List Str) (i : Int) : Prop where
  eq : d = .tup [.lst ds, .lst ((fs.map sgn).map D.str), .lst (zs.map D.str), .int i]
  sg : SgAll ds cs
  nd : cs.Nodup
  l2 : 2 ≤ cs.length
  l6 : cs.length ≤ 6
  fn : fs.Nodup
  fo : ∀ c ∈ fs, c ∈ cs
  po : PairsOf cs cs zs
  i1 : 1 ≤ i
  i8 : i ≤ 8
theorem okStrs : ∀ {zs : List Str}, (∀ z ∈ zs, z.length ≤ 3000 ∧ Asc z) → OkAll (zs.map D.str)
  | [], _ => trivial
  | z :: zs, h => ⟨h z List.mem_cons_self, okStrs fun y hy => h y (List.mem_cons_of_mem _ hy)⟩
theorem TgD.look {d : D} {ds : List D} {cs fs : List Nat} {zs : List Str} {i : Int} (t : TgD d ds cs fs zs i) : lookOk d = true := by
  obtain ⟨rfl, sg, nd, l2, l6, fn, fo, po, i1, i8⟩ := t
  obtain ⟨h1, h2, h3, h4, h5, h6⟩ := sg.facts
  show (areSigns (.lst ds) && unlike 1 (ds.map headS) _ && unlike 2 (ds.map headS) _ && decide (1 ≤ i ∧ i ≤ 8)) = true
  rw [signs_ok sg nd l2 l6, h4, firsts_unlike fn fo, pairs_unlike po, decide_eq_true ⟨i1, i8⟩]
  rfl
theorem TgD.ok {d : D} {ds : List D} {cs fs : List Nat} {zs : List Str} {i : Int} (t : TgD d ds cs fs zs i) : Ok d := by
  obtain ⟨rfl, sg, nd, l2, l6, fn, fo, po, i1, i8⟩ := t
  obtain ⟨h1, h2, h3, h4, h5, h6⟩ := sg.facts
  refine ⟨h2, okStrs fun z hz => ?_, okStrs fun z hz => ?_, pow300 (by omega), trivial⟩
  · obtain ⟨c, hc, rfl⟩ := List.mem_map.mp hz
    exact ⟨sgn_small c, asc_one (in_letters_asc (h6 c (fo c hc)))⟩
  · obtain ⟨a, ha, b, hb, rfl⟩ := po.of z hz
    refine ⟨by rw [pairs_len]; decide, fun c hc => ?_⟩
    rw [tl_sgn2] at hc
    simp only [List.mem_cons, List.not_mem_nil, or_false] at hc
    rcases hc with rfl | rfl
    · exact in_letters_asc (h6 _ ha)
    · exact in_letters_asc (h6 _ hb)
end Dear

namespace Dear
open PySem PySem.Spec PyProof.Rows L2
/-! ### data as the library's, for == -/
mutual
def py : D → PyData
  | .non => .none
  | .bl b => .bool b
  | .int i => .int i
  | .str z => .str z
  | .lst ds => .list (pyAll ds)
  | .tup ds => .tuple (pyAll ds)
  | .dct => .none
def pyAll : List D → List PyData
  | [] => []
  | d :: ds => py d :: pyAll ds
end
mutual
def NoD : D → Prop
  | .dct => False
  | .lst ds => NoDAll ds
  | .tup ds => NoDAll ds
  | _ => True
def NoDAll : List D → Prop
  | [] => True
  | d :: ds => NoD d ∧ NoDAll ds
end
mutual
theorem Dt.dp {K : PySem.W.Frag} {H : Hp} : ∀ {v : V} {d : D}, NoD d → Dt H v d → Dp K H v (py d)
  | _, _, _, .non => .non
  | _, _, _, .bl b => .bl b
  | _, _, _, .int i => .int i
  | _, _, _, .str z => .str z
  | _, _, n, .lst h a => .lst (SqL.of h) (DtAll.dp n a)
  | _, _, n, .tup h a => .tup (SqT.of h) (DtAll.dp n a)
  | _, _, n, .dct _ => n.elim
theorem DtAll.dp {K : PySem.W.Frag} {H : Hp} : ∀ {vs : List V} {ds : List D}, NoDAll ds → DtAll H vs ds → DpAll K H vs (pyAll ds)
  | _, _, _, .nil => .nil
  | _, _, n, .cons a b => .cons (Dt.dp n.1 a) (DtAll.dp n.2 b)
end
mutual
theorem lay_py : ∀ {d : D}, Ok d → NoD d → PyData.canLay0 (py d) = true
  | .non, _, _ => rfl
  | .bl _, _, _ => rfl
  | .int _, _, _ => rfl
  | .str _, o, _ => strOk_asc o.2
  | .lst _, o, n => layAll_py o n
  | .tup _, o, n => layAll_py o n
  | .dct, _, n => n.elim
theorem layAll_py : ∀ {ds : List D}, OkAll ds → NoDAll ds → PyData.canLayAll0 (pyAll ds) = true
  | [], _, _ => rfl
  | d :: ds, o, n => by
    show (PyData.canLay0 (py d) && PyData.canLayAll0 (pyAll ds)) = true
    rw [lay_py o.1 n.1, layAll_py o.2 n.2]
    rfl
end
/-! how deep -/
mutual
def dep : D → Nat
  | .lst ds => depAll ds + 1
  | .tup ds => depAll ds + 1
  | _ => 0
def depAll : List D → Nat
  | [] => 0
  | d :: ds => max (dep d) (depAll ds)
end
mutual
theorem dep_py : ∀ d : D, PyData.depth (py d) = dep d
  | .non => rfl
  | .bl _ => rfl
  | .int _ => rfl
  | .str _ => rfl
  | .lst ds => congrArg (· + 1) (depAll_py ds)
  | .tup ds => congrArg (· + 1) (depAll_py ds)
  | .dct => rfl
theorem depAll_py : ∀ ds : List D, PyData.depthAll (pyAll ds) = depAll ds
  | [] => rfl
  | d :: ds => by
    show max (PyData.depth (py d)) (PyData.depthAll (pyAll ds)) = max (dep d) (depAll ds)
    rw [dep_py d, depAll_py ds]
end
theorem shaped_py {d : D} (o : Ok d) (n : NoD d) (h : dep d ≤ 64) : SeqAt.shaped (py d) = true := by
  show (PyData.canLay0 (py d) && decide (PyData.depth (py d) ≤ 64)) = true
  rw [lay_py o n, dep_py, decide_eq_true h]
  rfl
theorem depAll_le : ∀ {ds : List D} {n : Nat}, (∀ d ∈ ds, dep d ≤ n) → depAll ds ≤ n
  | [], _, _ => Nat.zero_le _
  | d :: ds, n, h => Nat.max_le.mpr ⟨h d List.mem_cons_self, depAll_le fun x hx => h x (List.mem_cons_of_mem _ hx)⟩
theorem noAll_of : ∀ {ds : List D}, (∀ d ∈ ds, NoD d) → NoDAll ds
  | [], _ => trivial
  | d :: ds, h => ⟨h d List.mem_cons_self, noAll_of fun x hx => h x (List.mem_cons_of_mem _ hx)⟩
theorem strs_flat (zs : List Str) : (∀ d ∈ zs.map D.str, dep d ≤ 0) ∧ ∀ d ∈ zs.map D.str, NoD d := by
  constructor <;> intro d hd <;> obtain ⟨z, _, rfl⟩ := List.mem_map.mp hd
  · exact Nat.le_refl _
  · trivial
theorem eqv_same {d : PyData} (h : SeqAt.shaped d = true) : PyData.eqv d d = true := SeqAt.eqv_refl _ (SeqAt.canLay_of_shaped h)
end Dear

namespace Dear
open PySem PySem.Spec PyProof.Rows L2
theorem LastD.flat {l : D} (h : LastD l) : dep l ≤ 1 ∧ NoD l := by
  match l, h with
  | .non, _ => exact ⟨Nat.zero_le _, trivial⟩
  | .tup [.int t, .int b], _ => exact ⟨Nat.le_refl _, trivial, trivial, trivial⟩
theorem SgD.flat {d : D} {c : Nat} (h : SgD d c) : dep d ≤ 2 ∧ NoD d := by
  obtain ⟨⟨t, b, l, rfl, _, hl⟩, _⟩ := h
  obtain ⟨h1, h2⟩ := hl.flat
  refine ⟨?_, trivial, ⟨trivial, trivial, trivial⟩, h2, trivial⟩
  show max 0 (max (max 0 (max 0 0) + 1) (max (dep l) 0)) + 1 ≤ 2
  omega
theorem SgAll.flat : ∀ {ds : List D} {cs : List Nat}, SgAll ds cs → depAll ds ≤ 2 ∧ NoDAll ds
  | _, _, .nil => ⟨Nat.zero_le _, trivial⟩
  | _, _, .cons a b => ⟨Nat.max_le.mpr ⟨a.flat.1, (SgAll.flat b).1⟩, a.flat.2, (SgAll.flat b).2⟩
theorem TgD.flat {d : D} {ds : List D} {cs fs : List Nat} {zs : List Str} {i : Int} (t : TgD d ds cs fs zs i) : dep d ≤ 64 ∧ NoD d := by
  rw [t.eq]
  obtain ⟨h1, h2⟩ := t.sg.flat
  have a1 := depAll_le (strs_flat (fs.map sgn)).1
  have a2 := depAll_le (strs_flat zs).1
  refine ⟨?_, h2, noAll_of (strs_flat _).2, noAll_of (strs_flat _).2, trivial, trivial⟩
  show max (depAll ds + 1) (max (depAll ((fs.map sgn).map D.str) + 1) (max (depAll (zs.map D.str) + 1) (max 0 0))) + 1 ≤ 64
  omega
theorem TgD.shaped {d : D} {ds : List D} {cs fs : List Nat} {zs : List Str} {i : Int} (t : TgD d ds cs fs zs i) : SeqAt.shaped (py d) = true := shaped_py t.ok t.flat.2 t.flat.1
end Dear

namespace Dear
open PySem PySem.Spec PyProof.Rows L2
/-! ### text * number -/
theorem fold_rep (a : Array Nat) : ∀ (k : Nat) (acc : Array Nat), ((List.replicate k a).foldl (· ++ ·) acc).toList = acc.toList ++ (List.replicate k a.toList).flatten
  | 0, acc => by simp
  | k + 1, acc => by
    rw [List.replicate_succ, List.replicate_succ, List.foldl_cons, fold_rep a k, List.flatten_cons, Array.toList_append, List.append_assoc]
def repT (l : List Nat) (k : Nat) : List Nat := (List.replicate k l).flatten
theorem repT_len (l : List Nat) (k : Nat) : (repT l k).length = k * l.length := by
  unfold repT
  simp
def rRepS : R2 := fun x y H Q => ∃ (l : List Nat) (n : Int), x = .str (txt l) ∧ y = .int n ∧ 0 ≤ n ∧ n ≤ 1000 ∧ l.length ≤ 1000 ∧ Q (.str (txt (repT l n.toNat))) H
theorem op_repS {X : Cx} : OpR X (binaryOp .Mult) rRepS := by
  intro pins s σ H x y v u Q I rx ry h
  obtain ⟨l, n, rfl, rfl, h0, h1, hl, q⟩ := h
  obtain ⟨t, rfl⟩ := rx
  obtain ⟨t', rfl⟩ := ry
  have ln := txt_length l
  have big : l.length * n.toNat ≤ 1000 * 1000 := Nat.mul_le_mul hl (by omega)
  refine PySem.P.mul_str (x := txt l) (by rw [decide_eq_false (by omega), decide_eq_false (by omega)]; rfl) (fun h2 _ => ?_) (fun _ _ => ?_) ?_
  · have h3 : 0 < n := by omega
    have h4 : ((txt l).length : Int) ≤ (2 ^ 63 - 1) / n := by
      rw [Int.le_ediv_iff_mul_le h3, ln]
      have e : ((l.length * n.toNat : Nat) : Int) = (l.length : Int) * n := by
        rw [Int.natCast_mul, Int.toNat_of_nonneg h0]
      rw [← e]
      omega
    omega
  · unfold Builtin.Str.tooLong
    rw [ln]
    refine decide_eq_false ?_
    have := sz_lit (n := 0) (by decide)
    rw [sizeLine_eq]
    omega
  · by_cases e1 : n < 1
    · rw [if_pos e1]
      have e2 : n = 0 := by omega
      subst e2
      exact ⟨by decide, .str (txt (repT l 0)), H, I.tok _, ⟨_, rfl⟩, q⟩
    · rw [if_neg e1]
      by_cases e2 : (n == 1 || (txt l).length == 0) = true
      · rw [if_pos e2]
        have e3 : repT l n.toNat = l := by
          rw [ln] at e2
          simp only [Bool.or_eq_true, beq_iff_eq] at e2
          rcases e2 with e2 | e2
          · subst e2
            simp [repT]
          · have e3 : l = [] := List.length_eq_zero_iff.mp e2
            subst e3
            simp [repT]
        rw [e3] at q
        exact ⟨.str (txt l), H, I, ⟨_, rfl⟩, q⟩
      · rw [if_neg e2]
        have e3 : (⟨(List.replicate n.toNat (txt l).cps).foldl (· ++ ·) #[]⟩ : Str) = txt (repT l n.toNat) := by
          rw [txt_of ⟨(List.replicate n.toNat (txt l).cps).foldl (· ++ ·) #[]⟩]
          congr 1
          show ((List.replicate n.toNat (txt l).cps).foldl (· ++ ·) #[]).toList = _
          rw [fold_rep, txt_list]
          rfl
        rw [e3]
        refine ⟨?_, .str (txt (repT l n.toNat)), H, I.tok _, ⟨_, rfl⟩, q⟩
        rw [txt_length, repT_len, Nat.mul_comm, sizeLine_eq]
        omega
end Dear

namespace Dear
open PySem PySem.Spec PyProof.Rows L2
/-! ### names and wants as author B's laws draw them -/
def letN (i : Nat) : Nat := letters.cps.toList.getD i 0
def sufL (a : Nat) : List Nat := if a / 26 = 0 then [] else if a / 26 = 1 then [97] else [122, 122]
def tellL (a : Nat) : List Nat := letN (a % 26) :: sufL a
def moreL (s : Nat) : List Nat := repT [letN (s % 26)] (s / 26 % 6)
def nameL (k s : Nat) : List Nat := if s % 2 = 0 then moreL s ++ tellL ((37 * k + s) % 61) else tellL ((37 * k + s) % 61) ++ moreL s
theorem letN_at {i : Nat} (h : i < 26) : letters.cps.toList[i]? = some (letN i) := by
  have hl : i < letters.cps.toList.length := by
    rw [show letters.cps.toList.length = 26 from by decide +kernel]
    exact h
  unfold letN
  rw [List.getD_eq_getElem?_getD, List.getElem?_eq_getElem hl]
  rfl
theorem letN_mem {i : Nat} (h : i < 26) : letN i ∈ letters.cps.toList := List.mem_of_getElem? (letN_at h)
theorem letN_atI {i : Nat} (h : i < 26) : atI letters.cps.toList (i : Int) = some (letN i) := atI_nat (letN_at h)
theorem suf_mem (a : Nat) : ∀ c ∈ sufL a, c ∈ letters.cps.toList := by
  unfold sufL
  split
  · exact fun _ h => nomatch h
  · split
    · decide +kernel
    · decide +kernel
theorem suf_len (a : Nat) : (sufL a).length ≤ 2 := by
  unfold sufL
  split
  · decide
  · split <;> decide
theorem tell_inj : ∀ a < 61, ∀ b < 61, tellL a = tellL b → a = b := by decide +kernel
theorem name_of (k s : Nat) : (∀ c ∈ nameL k s, c ∈ letters.cps.toList) ∧ 1 ≤ (nameL k s).length ∧ (nameL k s).length ≤ 8 := by
  have m1 : ∀ c ∈ moreL s, c ∈ letters.cps.toList := fun c hc => by
    unfold moreL repT at hc
    obtain ⟨l, hl, hc⟩ := List.mem_flatten.mp hc
    have := List.eq_of_mem_replicate hl
    subst this
    have : c = letN (s % 26) := by simpa using hc
    subst this
    exact letN_mem (Nat.mod_lt _ (by decide))
  have m2 : (moreL s).length ≤ 5 := by
    unfold moreL
    rw [repT_len]
    show s / 26 % 6 * 1 ≤ 5
    omega
  have t1 : ∀ a, ∀ c ∈ tellL a, c ∈ letters.cps.toList := fun a c hc => by
    rcases List.mem_cons.mp hc with rfl | hc
    · exact letN_mem (Nat.mod_lt _ (by decide))
    · exact suf_mem a c hc
  have t2 : ∀ a, (tellL a).length = (sufL a).length + 1 := fun _ => rfl
  have t3 := suf_len ((37 * k + s) % 61)
  have t4 := t2 ((37 * k + s) % 61)
  unfold nameL
  split
  · refine ⟨fun c hc => ?_, ?_, ?_⟩
    · rcases List.mem_append.mp hc with hc | hc
      · exact m1 c hc
      · exact t1 _ c hc
    · rw [List.length_append]; omega
    · rw [List.length_append]; omega
  · refine ⟨fun c hc => ?_, ?_, ?_⟩
    · rcases List.mem_append.mp hc with hc | hc
      · exact t1 _ c hc
      · exact m1 c hc
    · rw [List.length_append]; omega
    · rw [List.length_append]; omega
theorem name_inj {s i j : Nat} (hi : i < 61) (hj : j < 61) (h : nameL i s = nameL j s) : i = j := by
  have e : tellL ((37 * i + s) % 61) = tellL ((37 * j + s) % 61) := by
    unfold nameL at h
    split at h
    · exact List.append_cancel_left h
    · exact List.append_cancel_right h
  have := tell_inj _ (Nat.mod_lt _ (by decide)) _ (Nat.mod_lt _ (by decide)) e
  omega
/-! ### wants -/
def wantD (w : List Nat × Int) : D := .tup [.str (txt w.1), .int w.2]
structure WOk (w : List Nat × Int) : Prop where
  l : ∀ c ∈ w.1, c ∈ letters.cps.toList
  n1 : 1 ≤ w.1.length
  n8 : w.1.length ≤ 8
  c0 : 0 ≤ w.2
  c9 : w.2 ≤ 1000000000
structure WsOk (ws : List (List Nat × Int)) : Prop where
  all : ∀ w ∈ ws, WOk w
  nd : (ws.map Prod.fst).Nodup
theorem names_nodup (s n : Nat) (h : n ≤ 61) : ((List.range n).map fun k => nameL k s).Nodup := by
  rw [List.nodup_iff_pairwise_ne, List.pairwise_map]
  refine List.Pairwise.imp_of_mem ?_ (List.nodup_iff_pairwise_ne.mp List.nodup_range)
  intro a b ha hb hne e
  exact hne (name_inj (by have := List.mem_range.mp ha; omega) (by have := List.mem_range.mp hb; omega) e)
def isWant : D → Bool
  | .tup [a, .int c] => isNm a && decide (0 ≤ c ∧ c ≤ 1000000000)
  | _ => false
def nameD : D → Str
  | .tup (.str z :: _) => z
  | _ => ""
/-- the first that can't stand -/
def badAt (i : Nat) : List Str → List D → Option V
  | _, [] => none
  | seen, d :: r => if isWant d && !decide (nameD d ∈ seen) then badAt (i + 1) (seen ++ [nameD d]) r else some (.int (i : Nat))
def wantsBad : D → Option V
  | .lst ds => if 1 ≤ ds.length ∧ ds.length ≤ 20 then badAt 0 [] ds else some .non
  | _ => some .non
theorem nm_txt {l : List Nat} (h : ∀ c ∈ l, c ∈ letters.cps.toList) (h1 : 1 ≤ l.length) (h8 : l.length ≤ 8) : isNm (.str (txt l)) = true := by
  show (decide (1 ≤ (txt l).length ∧ (txt l).length ≤ 8) && (txt l).cps.toList.all fun c => decide (c ∈ letters.cps.toList)) = true
  rw [txt_length, txt_list, decide_eq_true ⟨h1, h8⟩, Bool.true_and, List.all_eq_true]
  exact fun c hc => decide_eq_true (h c hc)
theorem WOk.is {w : List Nat × Int} (h : WOk w) : isWant (wantD w) = true := by
  show (isNm (.str (txt w.1)) && decide (0 ≤ w.2 ∧ w.2 ≤ 1000000000)) = true
  rw [nm_txt h.l h.n1 h.n8, decide_eq_true ⟨h.c0, h.c9⟩]
  rfl
theorem bad_none : ∀ {ws : List (List Nat × Int)} {seen : List (List Nat)} {i : Nat}, (∀ w ∈ ws, WOk w) → (seen ++ ws.map Prod.fst).Nodup → badAt i (seen.map txt) (ws.map wantD) = none
  | [], _, _, _, _ => rfl
  | w :: ws, seen, i, h, nd => by
    have h1 := (h w List.mem_cons_self).is
    have h2 : ¬ txt w.1 ∈ seen.map txt := fun q => by
      obtain ⟨l, hl, e⟩ := List.mem_map.mp q
      have e := txt_inj e
      subst e
      exact (List.nodup_append.mp nd).2.2 _ hl _ (List.mem_cons_self ..) rfl
    show (if isWant (wantD w) && !decide (txt w.1 ∈ seen.map txt) then badAt (i + 1) (seen.map txt ++ [txt w.1]) (ws.map wantD) else _) = none
    rw [h1, decide_eq_false h2, if_pos (by rfl)]
    have := bad_none (ws := ws) (seen := seen ++ [w.1]) (i := i + 1) (fun x hx => h x (List.mem_cons_of_mem _ hx)) (by rw [List.append_assoc]; exact nd)
    rw [List.map_append] at this
    exact this
theorem wants_good {ws : List (List Nat × Int)} (h : WsOk ws) (h1 : 1 ≤ ws.length) (h2 : ws.length ≤ 20) : wantsBad (.lst (ws.map wantD)) = none := by
  show (if 1 ≤ (ws.map wantD).length ∧ (ws.map wantD).length ≤ 20 then badAt 0 [] (ws.map wantD) else some .non) = none
  rw [List.length_map, if_pos ⟨h1, h2⟩]
  exact bad_none (seen := []) h.all h.nd
theorem WOk.facts {w : List Nat × Int} (h : WOk w) : Ok (wantD w) ∧ NoD (wantD w) ∧ dep (wantD w) ≤ 1 := by
  refine ⟨⟨⟨?_, fun c hc => ?_⟩, ?_, trivial⟩, ⟨trivial, trivial, trivial⟩, Nat.le_refl _⟩
  · rw [txt_length]
    have := h.n8
    omega
  · rw [txt_list] at hc
    exact in_letters_asc (h.l c hc)
  · have h1 := h.c0
    have h2 := h.c9
    exact Nat.lt_of_lt_of_le (show w.2.natAbs < 2 ^ 40 by omega) (Nat.pow_le_pow_right (by decide) (by decide))
theorem wants_facts {ws : List (List Nat × Int)} (h : ∀ w ∈ ws, WOk w) : Ok (.lst (ws.map wantD)) ∧ NoD (.lst (ws.map wantD)) ∧ dep (.lst (ws.map wantD)) ≤ 64 := by
  refine ⟨?_, ?_, ?_⟩
  · show OkAll (ws.map wantD)
    induction ws with
    | nil => trivial
    | cons w r ih => exact ⟨(h w List.mem_cons_self).facts.1, ih fun x hx => h x (List.mem_cons_of_mem _ hx)⟩
  · refine noAll_of fun d hd => ?_
    obtain ⟨w, hw, rfl⟩ := List.mem_map.mp hd
    exact (h w hw).facts.2.1
  · have := depAll_le (ds := ws.map wantD) (n := 1) fun d hd => by
      obtain ⟨w, hw, rfl⟩ := List.mem_map.mp hd
      exact (h w hw).facts.2.2
    show depAll (ws.map wantD) + 1 ≤ 64
    omega
end Dear

namespace Dear
open PySem PySem.Spec PyProof.Rows L2
/-! ### what a display makes, of new objects alone -/
def New (H0 H : Hp) : Hp := fun b => if (H0 b).isSome then none else H b
theorem new_at {H0 H : Hp} {b : Addr} (h : H0 b = none) : New H0 H b = H b := by
  unfold New
  rw [h]
  rfl
theorem new_some {H0 H : Hp} {b : Addr} {o : HO} (h : New H0 H b = some o) : H0 b = none ∧ H b = some o := by
  unfold New at h
  cases e : H0 b with
  | none =>
    rw [e] at h
    exact ⟨rfl, h⟩
  | some u =>
    rw [e] at h
    cases h
theorem New.sub (H0 H : Hp) : Same (New H0 H) H := fun _ _ e => (new_some e).2
theorem New.mono {H0 H H' : Hp} (s : Same H H') : Same (New H0 H) (New H0 H') := fun b o e => by
  obtain ⟨h1, h2⟩ := new_some e
  rw [new_at h1]
  exact s _ _ h2
theorem New.but {H0 H H' : Hp} {l : Addr} {o : HO} (hl : H0 l = some o) (s : But l H H') : Same (New H0 H) (New H0 H') := fun b o e => by
  obtain ⟨h1, h2⟩ := new_some e
  rw [new_at h1]
  exact s _ _ h2 fun z => by
    rw [z, hl] at h1
    cases h1
theorem New.off {H0 H : Hp} {l : Addr} {o : HO} (hl : H0 l = some o) : Same (New H0 H) (Off l H) := fun b o e => by
  obtain ⟨h1, h2⟩ := new_some e
  rw [off_ne fun z => by
    rw [z, hl] at h1
    cases h1]
  exact h2
/-- one base heap in the other's place -/
theorem New.base {H0 H1 H : Hp} (s : Same H0 H1) : Same (New H1 H) (New H0 H) := fun b o e => by
  obtain ⟨h1, h2⟩ := new_some e
  rw [new_at]
  · exact h2
  · cases q : H0 b with
    | none => rfl
    | some u =>
      rw [s _ _ q] at h1
      cases h1
theorem same_none {H0 H1 : Hp} {p : Addr} (s : Same H0 H1) (h : H1 p = none) : H0 p = none := by
  cases q : H0 p with
  | none => rfl
  | some u =>
    rw [s _ _ q] at h
    cases h
def MkN (σ : L2.St) (t : TE) (H : Hp) (d : D) : Prop := ∀ H1, Same H H1 → ∀ Q : VK, (∀ v H2, Same H1 H2 → Dt (New H H2) v d → Q v H2) → t σ H1 Q
def MkNA (σ : L2.St) (t : TA) (H : Hp) (ds : List D) : Prop := ∀ H1, Same H H1 → ∀ Q : List V → Hp → Prop, (∀ vs H2, Same H1 H2 → DtAll (New H H2) vs ds → Q vs H2) → t σ H1 Q
section
variable {σ : L2.St} {H : Hp}
theorem mkn_c {v : V} {d : D} (h : ∀ H', Dt H' v d) : MkN σ (tC v) H d := fun H1 _ _ q => q v H1 (Same.refl _) (h _)
theorem mkn_var {i : Nat} {v : V} {d : D} (e : σ[i]? = some (some v)) (h : ∀ H', Dt H' v d) : MkN σ (tVar i) H d := fun H1 _ _ q => ⟨v, e, q v H1 (Same.refl _) (h _)⟩
/-- a number, reckoned -/
theorem mkn_i {t : TE} {i : Int} (h : ∀ (H1 : Hp) (Q : VK), Q (.int i) H1 → t σ H1 Q) : MkN σ t H (.int i) := fun H1 _ Q q => h H1 Q (q _ H1 (Same.refl _) (.int i))
theorem mkna_nil : MkNA σ tNil H [] := fun H1 _ _ q => q [] H1 (Same.refl _) .nil
theorem mkna_cons {t : TE} {u : TA} {d : D} {ds : List D} (h1 : MkN σ t H d) (h2 : MkNA σ u H ds) : MkNA σ (tCons t u) H (d :: ds) := fun H1 s Q q => by
  refine h1 H1 s _ fun v H2 s2 d2 => ?_
  refine h2 H2 (s.trans s2) _ fun vs H3 s3 d3 => ?_
  exact q (v :: vs) H3 (s2.trans s3) (.cons (d2.same (New.mono s3)) d3)
theorem mkn_tup {u : TA} {ds : List D} (h : MkNA σ u H ds) (hz : Nat.ble ds.length 1000 = true := by rfl) : MkN σ (tTup u) H (.tup ds) := fun H1 s Q q => by
  refine h H1 s _ fun vs H2 s2 d2 => ?_
  refine ⟨sz_lit (by rw [d2.length]; exact Nat.le_of_ble_eq_true hz), fun p hp => ?_⟩
  exact q (.ref p) _ (s2.trans (Same.upd hp)) (.tup (by rw [new_at (same_none (s.trans s2) hp)]; exact upd_same) (d2.same (New.mono (Same.upd hp))))
theorem mkn_lst {u : TA} {ds : List D} (h : MkNA σ u H ds) (hz : Nat.ble ds.length 1000 = true := by rfl) : MkN σ (tLst u) H (.lst ds) := fun H1 s Q q => by
  refine h H1 s _ fun vs H2 s2 d2 => ?_
  refine ⟨sz_lit (by rw [d2.length]; exact Nat.le_of_ble_eq_true hz), fun p hp => ?_⟩
  exact q (.ref p) _ (s2.trans (Same.upd hp)) (.lst (by rw [new_at (same_none (s.trans s2) hp)]; exact upd_same) (d2.same (New.mono (Same.upd hp))))
theorem mkn_dnew : MkN σ tDNewK H .dct := fun H1 s Q q p hp => q (.ref p) _ (Same.upd hp) (.dct (by rw [new_at (same_none s hp)]; exact upd_same))
theorem mkn_neg {i : Int} : MkN σ (tUn (rU fun i => .int (-i)) (tC (.int i))) H (.int (-i)) := fun H1 _ _ q => ⟨i, rfl, q _ H1 (Same.refl _) (.int _)⟩
theorem MkN.go {t : TE} {d : D} (h : MkN σ t H d) {Q : VK} (q : ∀ v H2, Same H H2 → Dt (New H H2) v d → Q v H2) : t σ H Q := h H (Same.refl H) Q q
theorem MkNA.go {t : TA} {ds : List D} (h : MkNA σ t H ds) {Q : List V → Hp → Prop} (q : ∀ vs H2, Same H H2 → DtAll (New H H2) vs ds → Q vs H2) : t σ H Q := h H (Same.refl H) Q q
end
section
variable {σ : L2.St} {H : Hp}
theorem s_tup {u : TA} {Q : VK} (h : u σ H fun vs H' => vs.length ≤ sizeLine ∧ ∀ p, H' p = none → Q (.ref p) (upd H' p (.tup vs))) : tTup u σ H Q := h
theorem s_lst {u : TA} {Q : VK} (h : u σ H fun vs H' => vs.length ≤ sizeLine ∧ ∀ p, H' p = none → Q (.ref p) (upd H' p (.lst vs))) : tLst u σ H Q := h
theorem s_cons {t : TE} {u : TA} {Q : List V → Hp → Prop} (h : t σ H fun v H1 => u σ H1 fun vs H2 => Q (v :: vs) H2) : tCons t u σ H Q := h
end
/-! data that avoid l and avoid q avoid both -/
mutual
theorem Dt.off2 {H : Hp} {l q : Addr} : ∀ {v : V} {d : D}, Dt (Off l H) v d → Dt (Off q H) v d → Dt (Off q (Off l H)) v d
  | _, _, .non, _ => .non
  | _, _, .bl b, _ => .bl b
  | _, _, .int i, _ => .int i
  | _, _, .str z, _ => .str z
  | _, _, .lst h1 a1, .lst h2 a2 => by
    obtain ⟨n1, e1⟩ := off_some h1
    obtain ⟨n2, e2⟩ := off_some h2
    rw [e1] at e2
    cases e2
    exact .lst (by rw [off_ne n2, off_ne n1]; exact e1) (DtAll.off2 a1 a2)
  | _, _, .tup h1 a1, .tup h2 a2 => by
    obtain ⟨n1, e1⟩ := off_some h1
    obtain ⟨n2, e2⟩ := off_some h2
    rw [e1] at e2
    cases e2
    exact .tup (by rw [off_ne n2, off_ne n1]; exact e1) (DtAll.off2 a1 a2)
  | _, _, .dct h1, .dct h2 => by
    obtain ⟨n1, e1⟩ := off_some h1
    obtain ⟨n2, e2⟩ := off_some h2
    exact .dct (by rw [off_ne n2, off_ne n1]; exact e1)
theorem DtAll.off2 {H : Hp} {l q : Addr} : ∀ {vs : List V} {ds : List D}, DtAll (Off l H) vs ds → DtAll (Off q H) vs ds → DtAll (Off q (Off l H)) vs ds
  | _, _, .nil, _ => .nil
  | _, _, .cons a b, .cons c d => .cons (Dt.off2 a c) (DtAll.off2 b d)
end
theorem TP.off {H : Hp} {l : Addr} {xs : List V} (h : H l = some (.lst xs)) : TP H (Off l H) := fun b ys e => by
  rw [off_ne (ne_of e h (by intro z; cases z))]
  exact e
theorem lt300 {n : Nat} (h : n < 2 ^ 200) : n < 2 ^ 300 := Nat.lt_of_lt_of_le h (Nat.pow_le_pow_right (by decide) (by decide))
theorem cutV_pre (l : List V) (j : Nat) : cutV l none (some (j : Int)) = l.take j := by
  unfold cutV
  rw [HT.sIx_none, HT.sIx_nat, List.drop_zero, Nat.sub_zero]
  by_cases h : j ≤ l.length
  · rw [Nat.min_eq_left h]
  · rw [Nat.min_eq_right (by omega), List.take_length, List.take_of_length_le (by omega)]
theorem cutV_from (l : List V) (j : Nat) : cutV l (some (j : Int)) none = l.drop j := by
  unfold cutV
  rw [HT.sIx_none, HT.sIx_nat]
  by_cases h : j ≤ l.length
  · rw [Nat.min_eq_left h, List.take_of_length_le (by rw [List.length_drop]; exact Nat.le_refl _)]
  · rw [Nat.min_eq_right (by omega), List.drop_length, List.drop_of_length_le (by omega), List.take_nil]
theorem DtAll.drop {H : Hp} : ∀ {vs : List V} {ds : List D} (n : Nat), DtAll H vs ds → DtAll H (vs.drop n) (ds.drop n)
  | _, _, 0, h => h
  | _, _, _ + 1, .nil => .nil
  | _, _, n + 1, .cons _ b => DtAll.drop n b
theorem DtAll.set {H : Hp} {v : V} {d : D} (h : Dt H v d) : ∀ {vs : List V} {ds : List D} (n : Nat), DtAll H vs ds → DtAll H (vs.set n v) (ds.set n d)
  | _, _, _, .nil => .nil
  | _, _, 0, .cons _ b => .cons h b
  | _, _, n + 1, .cons a b => .cons a (DtAll.set h n b)
theorem OkAll.take : ∀ {ds : List D} (n : Nat), OkAll ds → OkAll (ds.take n)
  | _, 0, _ => trivial
  | [], _ + 1, _ => trivial
  | _ :: _, n + 1, h => ⟨h.1, OkAll.take n h.2⟩
theorem OkAll.drop : ∀ {ds : List D} (n : Nat), OkAll ds → OkAll (ds.drop n)
  | _, 0, h => h
  | [], _ + 1, _ => trivial
  | _ :: _, n + 1, h => OkAll.drop n h.2
theorem OkAll.set {d : D} (h : Ok d) : ∀ {ds : List D} (n : Nat), OkAll ds → OkAll (ds.set n d)
  | [], _, _ => trivial
  | _ :: _, 0, g => ⟨h, g.2⟩
  | _ :: _, n + 1, g => ⟨g.1, OkAll.set h n g.2⟩
/-- a list's item at a drawn place -/
theorem pickN {H0 H : Hp} {xs : List V} {ds : List D} (hall : DtAll (New H0 H) xs ds) (ok : OkAll ds) {r : Int} (r0 : 0 ≤ r) (r1 : r < ds.length) : ∃ (v : V) (d : D), atI xs r = some v ∧ Dt (New H0 H) v d ∧ Ok d := by
  obtain ⟨v, hv, _, hr⟩ := at_lt (xs := xs) r0 (by rw [hall.length]; exact r1)
  obtain ⟨d, hd, h⟩ := hall.get hr
  exact ⟨v, d, hv, h, ok.mem (List.mem_of_getElem? hd)⟩
theorem okS {z : Str} (h : z.length ≤ 3000 := by decide +kernel) (a : Asc z := by decide +kernel) : Ok (.str z) := ⟨h, a⟩
theorem okI {i : Int} (h : i.natAbs < 2 ^ 200 := by decide) : Ok (.int i) := lt300 h
theorem But.none {l p : Addr} {H H' : Hp} (B : But l H H') (h : H' p = none) (ne : p ≠ l) : H p = none := by
  cases e : H p with
  | none => rfl
  | some o =>
    rw [B _ _ e ne] at h
    cases h
theorem new_back {H H1 H2 : Hp} {l : Addr} (B : But l H H1) (S1 : Src H1 l) : Same (New H1 H2) (New H H2) := fun b o e => by
  obtain ⟨h1, h2⟩ := new_some e
  rw [new_at (B.none h1 (S1.ne h1))]
  exact h2
section
variable {l : Addr} {σ : L2.St} {H : Hp} {K : PySem.W.Frag}
theorem mk_tupof {i : Nat} {p : Addr} {xs : List V} {ds : List D} {o : HO} (e : σ[i]? = some (some (.ref p))) (hp : H p = some (.lst xs)) (hd : DtAll (Off l H) xs ds) (hl : H l = some o) : Mk l σ (tCB (rTupOf K) (tCons (tVar i) tNil)) H (.tup ds) := fun H1 s Q q => by
  refine ⟨_, e, p, xs, rfl, .inl ⟨SqL.of (s _ _ hp), fun r hr => ?_⟩⟩
  have ne : r ≠ l := fun z => by
    subst z
    rw [s _ _ hl] at hr
    cases hr
  exact q (.ref r) _ (Same.upd hr) (.tup (by rw [off_ne ne]; exact upd_same) (hd.same (sOff (s.trans (Same.upd hr)))))
end
theorem dt_rep {H : Hp} {v : V} {d : D} (h : Dt H v d) : ∀ n : Nat, DtAll H (List.replicate n [v]).flatten (List.replicate n d)
  | 0 => .nil
  | n + 1 => by
    rw [List.replicate_succ, List.replicate_succ, List.flatten_cons]
    exact .cons h (dt_rep h n)
theorem ok_rep {d : D} (h : Ok d) : ∀ n : Nat, OkAll (List.replicate n d)
  | 0 => trivial
  | n + 1 => ⟨h, ok_rep h n⟩
theorem Src.lst {H : Hp} {l : Addr} (S : Src H l) : ∃ xs, H l = Option.some (.lst xs) := by
  obtain ⟨n, z, e, _⟩ := S
  exact ⟨_, e⟩
end Dear

namespace Dear
open PySem PySem.Spec PyProof.Rows L2
/-! ### numbers and their figures -/
def figL (n : Nat) : List Nat := (Nat.toDigits 10 n).map Char.toNat
theorem digitC : ∀ d : Nat, d < 10 → (Nat.digitChar d).toNat = 48 + d := by decide
theorem fig_small {n : Nat} (h : n < 10) : figL n = [48 + n] := by
  unfold figL
  rw [Nat.toDigits_of_lt_base h]
  show [(Nat.digitChar n).toNat] = _
  rw [digitC n h]
theorem fig_step {n : Nat} (h : ¬ n < 10) : figL n = figL (n / 10) ++ [48 + n % 10] := by
  have hm : n % 10 < 10 := Nat.mod_lt n (by decide)
  have t : Nat.toDigits 10 (n / 10) ++ Nat.toDigits 10 (n % 10) = Nat.toDigits 10 (10 * (n / 10) + n % 10) := Nat.toDigits_append_toDigits (by decide) (by omega) hm
  rw [Nat.div_add_mod] at t
  have e := fig_small hm
  unfold figL at e ⊢
  rw [← t, List.map_append, e]
theorem fig_ne (n : Nat) : figL n ≠ [] := by
  by_cases h : n < 10
  · rw [fig_small h]
    exact List.cons_ne_nil _ _
  · rw [fig_step h]
    exact List.append_ne_nil_of_right_ne_nil _ (List.cons_ne_nil _ _)
theorem fig_dig (n : Nat) : ∀ c ∈ figL n, 48 ≤ c ∧ c ≤ 57 := by
  intro c hc
  obtain ⟨ch, hch, rfl⟩ := List.mem_map.mp hc
  exact digit_range (Nat.isDigit_of_mem_toDigits (by decide) (by decide) hch)
theorem fig_head (n : Nat) : 0 < n → (figL n).head? ≠ some 48 := by
  induction n using Nat.strongRecOn with
  | _ n ih =>
    intro h0
    by_cases h : n < 10
    · rw [fig_small h]
      intro e
      injection e with e
      omega
    · rw [fig_step h]
      have := ih (n / 10) (by omega) (by omega)
      have ne := fig_ne (n / 10)
      cases e : figL (n / 10) with
      | nil => exact absurd e ne
      | cons c r =>
        rw [e] at this
        exact this
theorem fig_len {n k : Nat} (hk : 1 ≤ k) (h : n < 10 ^ k) : (figL n).length ≤ k := by
  unfold figL
  rw [List.length_map]
  exact PySem.toDigits_len_pow (by decide) hk h
theorem fig_val (n : Nat) : PySem.NumText.digitsVal (figL n) = n := PySem.W.KIN.val_back n
theorem str_num (n : Nat) : Str.ofString (toString (n : Int)) = txt (figL n) := by
  rw [txt_of (Str.ofString (toString (n : Int))), PySem.W.KIN.signs_num]
  rfl
theorem str_neg {n : Nat} (h : 0 < n) : Str.ofString (toString (-(n : Int))) = txt (45 :: figL n) := by
  obtain ⟨m, rfl⟩ : ∃ m, n = m + 1 := ⟨n - 1, by omega⟩
  have e : toString (-((m + 1 : Nat) : Int)) = "-" ++ Nat.repr (m + 1) := rfl
  rw [txt_of (Str.ofString (toString (-((m + 1 : Nat) : Int)))), e, signs_ofString, String.toList_append, List.map_append]
  have e2 : (Nat.repr (m + 1)).toList.map Char.toNat = figL (m + 1) := by
    rw [Nat.toList_repr]
    rfl
  rw [e2]
  rfl
def figures : Str := "0123456789"
theorem fig_in {c : Nat} (h : 48 ≤ c ∧ c ≤ 57) : c ∈ figures.cps.toList := by
  have e : figures.cps.toList = [48, 49, 50, 51, 52, 53, 54, 55, 56, 57] := by decide +kernel
  rw [e]
  simp only [List.mem_cons, List.not_mem_nil, or_false]
  omega
theorem in_fig {c : Nat} (h : c ∈ figures.cps.toList) : 48 ≤ c ∧ c ≤ 57 := by
  have e : figures.cps.toList = [48, 49, 50, 51, 52, 53, 54, 55, 56, 57] := by decide +kernel
  rw [e] at h
  simp only [List.mem_cons, List.not_mem_nil, or_false] at h
  omega
theorem fig_at {d : Nat} (h : d < 10) : atI figures.cps.toList (d : Int) = some (48 + d) := by
  have e : figures.cps.toList = [48, 49, 50, 51, 52, 53, 54, 55, 56, 57] := by decide +kernel
  rw [e]
  refine atI_nat ?_
  have : d = 0 ∨ d = 1 ∨ d = 2 ∨ d = 3 ∨ d = 4 ∨ d = 5 ∨ d = 6 ∨ d = 7 ∨ d = 8 ∨ d = 9 := by omega
  rcases this with rfl | rfl | rfl | rfl | rfl | rfl | rfl | rfl | rfl | rfl <;> rfl
/-- what whole_in tells -/
def wholeOk (m : Int) (l : List Nat) : Bool := decide (1 ≤ (l.length : Int) ∧ (l.length : Int) ≤ m) && !(decide (1 < l.length) && decide (l.head? = some 48)) && l.all fun c => decide (c ∈ figures.cps.toList)
def wholeIn (m : Int) (l : List Nat) : V := if wholeOk m l then .int (PySem.NumText.digitsVal l : Nat) else .non
theorem whole_fig {n : Nat} (h : n < 10 ^ 60) : wholeIn 60 (figL n) = .int (n : Nat) := by
  have hl := fig_len (by decide) h
  have h1 : 1 ≤ (figL n).length := List.length_pos_iff.mpr (fig_ne n)
  have e : wholeOk 60 (figL n) = true := by
    unfold wholeOk
    rw [decide_eq_true (show 1 ≤ ((figL n).length : Int) ∧ ((figL n).length : Int) ≤ 60 by omega), Bool.true_and, Bool.and_eq_true]
    refine ⟨?_, List.all_eq_true.mpr fun c hc => decide_eq_true (fig_in (fig_dig n c hc))⟩
    by_cases h0 : 0 < n
    · rw [decide_eq_false (fig_head n h0), Bool.and_false]
      rfl
    · have : n = 0 := by omega
      subst this
      rw [fig_small (by decide)]
      rfl
  unfold wholeIn
  rw [if_pos e, fig_val]
theorem int_text {l : List Nat} {m : Int} (h : wholeOk m l = true) (hm : m ≤ 600) : PySem.intText? (txt l) = some ((PySem.NumText.digitsVal l : Nat) : Int) := by
  unfold wholeOk at h
  rw [Bool.and_eq_true, Bool.and_eq_true, decide_eq_true_eq, List.all_eq_true] at h
  obtain ⟨⟨h1, _⟩, h3⟩ := h
  have e := PySem.intText_digits (x := txt l) (fun c hc => in_fig (of_decide_eq_true (h3 c (by rw [txt_list] at hc; exact hc)))) (by rw [txt_list]; intro z; rw [z] at h1; exact absurd h1.1 (by decide)) (by rw [txt_length]; omega)
  rw [txt_list] at e
  exact e
/-- the text of a fraction -/
def fracL (t b : Int) : List Nat := (if t < 0 then [45] else []) ++ figL t.natAbs ++ (if b = 1 then [] else 47 :: figL b.natAbs)
theorem split_txt {l : List Nat} {parts : List (List Nat)} (h : TL.spl [47] 0 [] l = parts) : Txt.split (txt l) "/" = parts.map txt := by
  have e0 : TL.tl ("/" : Str) = [47] := by decide +kernel
  have k1 : Builtin.Str.strKind ("/" : Str) ≤ Builtin.Str.strKind (txt l) := by
    have e : Builtin.Str.strKind ("/" : Str) = 1 := by decide +kernel
    rw [e]
    unfold Builtin.Str.strKind
    (repeat' split) <;> decide
  have := TL.split_spl (txt l) "/" (by rw [e0]; exact List.cons_ne_nil _ _) (Nat.not_lt.mpr k1)
  rw [e0, show TL.tl (txt l) = l from txt_list l, h] at this
  have g : ∀ (zs : List Str), (zs.map TL.tl).map txt = zs := fun zs => by
    rw [List.map_map]
    conv => rhs; rw [← List.map_id' zs]
    refine List.map_congr_left fun z _ => ?_
    exact (txt_of z).symm
  rw [← this, g]
theorem fig_noslash (n : Nat) : 47 ∉ figL n := fun h => by
  have := fig_dig n 47 h
  omega
theorem split_one (n : Nat) : Txt.split (txt (figL n)) "/" = [txt (figL n)] := split_txt (parts := [figL n]) (by
  have := TL.spl_last1 (S := []) (acc := []) (fig_noslash n)
  rw [List.nil_append] at this
  exact this)
theorem split_two (n m : Nat) : Txt.split (txt (figL n ++ 47 :: figL m)) "/" = [txt (figL n), txt (figL m)] := split_txt (parts := [figL n, figL m]) (by
  have := TL.spl_part1 (S := []) (acc := []) (rest := figL m) (fig_noslash n)
  rw [List.nil_append] at this
  have e2 := TL.spl_last1 (S := []) (acc := []) (fig_noslash m)
  rw [List.nil_append] at e2
  rw [e2] at this
  exact this)
end Dear

namespace Dear
open PySem PySem.Spec PyProof.Rows L2
/-! ### plain books: texts of which none begins another -/
theorem starts_txt (a b : List Nat) : Txt.startswith (txt a) (txt b) = decide (b <+: a) := by
  unfold Txt.startswith
  rw [PySem.StrLaws.subAt_eq, txt_list, txt_list, txt_length, txt_length, List.drop_zero, Nat.zero_add]
  by_cases h : b <+: a
  · have h1 := List.prefix_iff_eq_take.mp h
    have h2 := h.length_le
    rw [decide_eq_true h, decide_eq_true h2, ← h1]
    simp
  · rw [decide_eq_false h]
    have h1 : ¬ b = a.take b.length := fun e => h (List.prefix_iff_eq_take.mpr e)
    have h2 : (a.take b.length == b) = false := by
      simp only [beq_eq_false_iff_ne, ne_eq]
      exact fun e => h1 e.symm
    rw [h2, Bool.and_false]
def Apart (a b : List Nat) : Prop := ¬ a <+: b ∧ ¬ b <+: a
theorem Apart.symm {a b : List Nat} (h : Apart a b) : Apart b a := ⟨h.2, h.1⟩
abbrev PF (bs : List (List Nat)) : Prop := bs.Pairwise Apart
structure WdOk (n : Nat) (w : List Nat) : Prop where
  l : ∀ c ∈ w, c ∈ letters.cps.toList
  lo : n ≤ w.length
  hi : w.length ≤ 8
/-- a plain book -/
structure BkOk (bs : List (List Nat)) : Prop where
  pf : PF bs
  all : ∀ w ∈ bs, WdOk 1 w
  l1 : 1 ≤ bs.length
  l20 : bs.length ≤ 20
/-- the ends of a tree -/
structure EnOk (bs : List (List Nat)) : Prop where
  pf : PF bs
  all : ∀ w ∈ bs, WdOk 0 w
  l1 : 1 ≤ bs.length
  l20 : bs.length ≤ 20
theorem EnOk.start : EnOk [[]] := ⟨List.pairwise_singleton _ _, fun w h => by
  have : w = [] := by simpa using h
  subst this
  exact ⟨fun _ h => (nomatch h), Nat.zero_le _, Nat.zero_le _⟩, Nat.le_refl _, by decide⟩
theorem apart_ext {b w : List Nat} {c : Nat} (h : Apart b w) : Apart (b ++ [c]) w := by
  constructor
  · exact fun e => h.1 ((List.prefix_append b [c]).trans e)
  · intro e
    rcases List.prefix_concat_iff.mp e with e | e
    · exact h.1 (by rw [e]; exact List.prefix_append b [c])
    · exact h.2 e
theorem apart_new {b : List Nat} {c d : Nat} (h : c ≠ d) : Apart (b ++ [c]) (b ++ [d]) := by
  have key : ∀ {x y : Nat}, x ≠ y → ¬ (b ++ [x]) <+: (b ++ [y]) := fun {x y} hn e => by
    have := e.eq_of_length (by rw [List.length_append, List.length_append]; rfl)
    have := List.append_cancel_left this
    exact hn (by simpa using this)
  exact ⟨key h, key (Ne.symm h)⟩
theorem EnOk.step {pre post : List (List Nat)} {b : List Nat} {cs : List Nat} (h : EnOk (pre ++ [b] ++ post)) (hb : b.length < 8) (nd : cs.Nodup) (hc : ∀ c ∈ cs, c ∈ letters.cps.toList) (c1 : 1 ≤ cs.length) (hl : pre.length + 1 + post.length + cs.length < 22) :
    EnOk (pre ++ cs.map (fun c => b ++ [c]) ++ post) := by
  obtain ⟨pf, all, l1, l20⟩ := h
  have hp := List.pairwise_append.mp pf
  have hp1 := List.pairwise_append.mp hp.1
  have wb := all b (by simp)
  refine ⟨?_, ?_, ?_, ?_⟩
  · refine List.pairwise_append.mpr ⟨List.pairwise_append.mpr ⟨hp1.1, ?_, ?_⟩, hp.2.1, ?_⟩
    · rw [List.pairwise_map]
      exact (List.nodup_iff_pairwise_ne.mp nd).imp fun e => apart_new e
    · intro x hx y hy
      obtain ⟨c, _, rfl⟩ := List.mem_map.mp hy
      exact (apart_ext (hp1.2.2 x hx b List.mem_cons_self).symm).symm
    · intro x hx y hy
      rcases List.mem_append.mp hx with hx | hx
      · exact hp.2.2 x (List.mem_append_left _ hx) y hy
      · obtain ⟨c, _, rfl⟩ := List.mem_map.mp hx
        exact apart_ext (hp.2.2 b (by simp) y hy)
  · intro w hw
    rcases List.mem_append.mp hw with hw | hw
    · rcases List.mem_append.mp hw with hw | hw
      · exact all w (by simp [hw])
      · obtain ⟨c, hcc, rfl⟩ := List.mem_map.mp hw
        refine ⟨fun x hx => ?_, Nat.zero_le _, ?_⟩
        · rcases List.mem_append.mp hx with hx | hx
          · exact wb.l x hx
          · have : x = c := by simpa using hx
            subst this
            exact hc _ hcc
        · rw [List.length_append]
          show _ + 1 ≤ 8
          omega
    · exact all w (by simp [hw])
  · rw [List.length_append, List.length_append, List.length_map]
    omega
  · rw [List.length_append, List.length_append, List.length_map]
    omega
/-- none is without signs, but where there is no other -/
theorem EnOk.book {bs : List (List Nat)} (h : EnOk bs) (hn : bs ≠ [[]]) : BkOk bs := by
  refine ⟨h.pf, fun w hw => ?_, h.l1, h.l20⟩
  have hw0 := h.all w hw
  refine ⟨hw0.l, ?_, hw0.hi⟩
  cases w with
  | cons c w => exact Nat.succ_le_succ (Nat.zero_le _)
  | nil =>
    exfalso
    obtain ⟨pre, post, e⟩ := List.append_of_mem hw
    have pf := h.pf
    rw [e] at pf
    have h2 := List.pairwise_append.mp pf
    cases post with
    | cons x r =>
      have := (List.pairwise_cons.mp h2.2.1).1 x List.mem_cons_self
      exact this.1 List.nil_prefix
    | nil =>
      cases pre with
      | nil => exact hn e
      | cons x r =>
        have := h2.2.2 x List.mem_cons_self [] List.mem_cons_self
        exact this.2 List.nil_prefix
theorem BkOk.perm {bs cs : List (List Nat)} (h : BkOk bs) (p : bs.Perm cs) : BkOk cs :=
  ⟨(p.pairwise_iff (fun h => h.symm)).mp h.pf, fun w hw => h.all w (p.mem_iff.mpr hw), by rw [← p.length_eq]; exact h.l1, by rw [← p.length_eq]; exact h.l20⟩
/-- letters by shift and step -/
def lettB (s st j : Nat) : Nat := letN ((s + st * j) % 26)
theorem lettB_nodup {s st n : Nat} (hst : st = 1 ∨ st = 3 ∨ st = 5 ∨ st = 7) (hn : n ≤ 8) : ((List.range n).map (lettB s st)).Nodup := by
  have inj : ∀ a < 26, ∀ b < 26, letN a = letN b → a = b := by decide +kernel
  rw [List.nodup_iff_pairwise_ne, List.pairwise_map]
  refine List.Pairwise.imp_of_mem ?_ (List.nodup_iff_pairwise_ne.mp List.nodup_range)
  intro a b ha hb hne e
  have ha := List.mem_range.mp ha
  have hb := List.mem_range.mp hb
  have := inj _ (Nat.mod_lt _ (by decide)) _ (Nat.mod_lt _ (by decide)) e
  rcases hst with rfl | rfl | rfl | rfl <;> omega
theorem lettB_mem {s st j : Nat} : lettB s st j ∈ letters.cps.toList := letN_mem (Nat.mod_lt _ (by decide))
/-! ### what look_at_plain asks -/
def bkD (bs : List (List Nat)) : D := .lst (bs.map fun w => .str (txt w))
def strOf : D → Str
  | .str z => z
  | _ => ""
/-- some text begins another one -/
def pfB (zs : List Str) : Bool := (List.range zs.length).all fun i => (List.range zs.length).all fun j => decide (i = j) || !Txt.startswith (zs.getD j "") (zs.getD i "")
def plainOk : D → Bool
  | .lst ds => decide (1 ≤ ds.length ∧ ds.length ≤ 20) && ds.all isNm && pfB (ds.map strOf)
  | _ => false
theorem PF.not_prefix {bs : List (List Nat)} (h : PF bs) {i j : Nat} {a b : List Nat} (ha : bs[i]? = some a) (hb : bs[j]? = some b) (hn : i ≠ j) : ¬ a <+: b := by
  have key : ∀ {i j : Nat} {a b : List Nat}, bs[i]? = some a → bs[j]? = some b → i < j → Apart a b := fun {i j a b} ha hb hlt => by
    obtain ⟨h1, e1⟩ := List.getElem?_eq_some_iff.mp ha
    obtain ⟨h2, e2⟩ := List.getElem?_eq_some_iff.mp hb
    have := List.pairwise_iff_getElem.mp h i j h1 h2 hlt
    rw [e1, e2] at this
    exact this
  by_cases hlt : i < j
  · exact (key ha hb hlt).1
  · exact (key hb ha (by omega)).2
theorem BkOk.plain {bs : List (List Nat)} (h : BkOk bs) : plainOk (bkD bs) = true := by
  have e : (bs.map fun w => D.str (txt w)).map strOf = bs.map txt := by
    rw [List.map_map]
    rfl
  show (decide (1 ≤ (bs.map fun w => D.str (txt w)).length ∧ (bs.map fun w => D.str (txt w)).length ≤ 20) && (bs.map fun w => D.str (txt w)).all isNm && pfB ((bs.map fun w => D.str (txt w)).map strOf)) = true
  rw [e, List.length_map, decide_eq_true ⟨h.l1, h.l20⟩, Bool.true_and, Bool.and_eq_true]
  constructor
  · rw [List.all_eq_true]
    intro d hd
    obtain ⟨w, hw, rfl⟩ := List.mem_map.mp hd
    have := h.all w hw
    exact nm_txt this.l this.lo this.hi
  · unfold pfB
    rw [List.all_eq_true]
    intro i hi
    rw [List.all_eq_true]
    intro j hj
    have hi := List.mem_range.mp hi
    have hj := List.mem_range.mp hj
    rw [List.length_map] at hi hj
    by_cases e : i = j
    · rw [decide_eq_true e]
      rfl
    · have ei : (bs.map txt).getD i "" = txt bs[i] := by
        rw [List.getD_eq_getElem?_getD, List.getElem?_map, List.getElem?_eq_getElem hi]
        rfl
      have ej : (bs.map txt).getD j "" = txt bs[j] := by
        rw [List.getD_eq_getElem?_getD, List.getElem?_map, List.getElem?_eq_getElem hj]
        rfl
      rw [ei, ej, starts_txt, decide_eq_false (h.pf.not_prefix (List.getElem?_eq_getElem hi) (List.getElem?_eq_getElem hj) e)]
      simp
theorem BkOk.ok {bs : List (List Nat)} (h : BkOk bs) : Ok (bkD bs) ∧ NoD (bkD bs) ∧ dep (bkD bs) ≤ 64 := by
  have all := h.all
  clear h
  refine ⟨?_, ?_, ?_⟩
  · show OkAll (bs.map fun w => .str (txt w))
    induction bs with
    | nil => trivial
    | cons w r ih =>
      have hw := all w List.mem_cons_self
      refine ⟨⟨by rw [txt_length]; have := hw.hi; omega, fun c hc => by rw [txt_list] at hc; exact in_letters_asc (hw.l c hc)⟩, ih fun x hx => all x (List.mem_cons_of_mem _ hx)⟩
  · refine noAll_of fun d hd => ?_
    obtain ⟨w, hw, rfl⟩ := List.mem_map.mp hd
    trivial
  · have := depAll_le (ds := bs.map fun w => D.str (txt w)) (n := 0) fun d hd => by
      obtain ⟨w, hw, rfl⟩ := List.mem_map.mp hd
      exact Nat.le_refl _
    show depAll (bs.map fun w => D.str (txt w)) + 1 ≤ 64
    omega
/-- texts of a list of code points, as values -/
def vsT (bs : List (List Nat)) : List V := bs.map fun w => V.str (txt w)
theorem dt_vsT {H : Hp} : ∀ bs : List (List Nat), DtAll H (vsT bs) (bs.map fun w => D.str (txt w))
  | [] => .nil
  | _ :: bs => .cons (.str _) (dt_vsT bs)
theorem vsT_get {bs : List (List Nat)} {i : Nat} {v : V} (h : (vsT bs)[i]? = some v) : ∃ w, bs[i]? = some w ∧ v = .str (txt w) := by
  unfold vsT at h
  rw [List.getElem?_map] at h
  cases e : bs[i]? with
  | none =>
    rw [e] at h
    cases h
  | some w =>
    rw [e] at h
    exact ⟨w, rfl, (Option.some.inj h).symm⟩
end Dear

namespace Dear
open PySem PySem.Spec PyProof.Rows L2
/-! ### texts put together -/
def MkS (σ : L2.St) (t : TE) (H : Hp) (l : List Nat) : Prop := l.length ≤ 1000 → ∀ H1, Same H H1 → ∀ Q : VK, Q (.str (txt l)) H1 → t σ H1 Q
section
variable {σ : L2.St} {H : Hp}
theorem mks_c {z : Str} {l : List Nat} (h : z = txt l) : MkS σ (tC (.str z)) H l := fun _ H1 _ Q q => by
  subst h
  exact q
theorem mks_var {i : Nat} {l : List Nat} (e : σ[i]? = some (some (.str (txt l)))) : MkS σ (tVar i) H l := fun _ H1 _ Q q => ⟨_, e, q⟩
theorem mks_add {t u : TE} {a b : List Nat} (h1 : MkS σ t H a) (h2 : MkS σ u H b) : MkS σ (tOp (fun x y H Q => ∃ i j, x = .str i ∧ y = .str j ∧ i.length + j.length ≤ sizeLine ∧ Q (.str (i ++ j)) H) t u) H (a ++ b) := fun hl H1 s Q q => by
  rw [List.length_append] at hl
  refine h1 (by omega) H1 s _ (h2 (by omega) H1 s _ ⟨_, _, rfl, rfl, sz_lit (by rw [txt_length, txt_length]; exact hl), ?_⟩)
  rw [txt_app]
  exact q
theorem mks_rep {z : Str} {l : List Nat} {n : Nat} (h : z = txt l) (hn : n ≤ 1000) (hl : l.length ≤ 1000) : MkS σ (tOp rRepS (tC (.str z)) (tC (.int (n : Nat)))) H (repT l n) := fun _ H1 _ Q q => by
  subst h
  exact ⟨l, n, rfl, rfl, by omega, by omega, hl, q⟩
theorem mks_str {t : TA} {n : Nat} (hn : n < 2 ^ 250) (h : ∀ H1, Same H H1 → ∀ Q : List V → Hp → Prop, Q [.int (n : Nat)] H1 → t σ H1 Q) : MkS σ (tCB (fun xs H Q => ∃ i, xs = [.int i] ∧ i.natAbs.log2 < 1920 ∧ Q (.str (toString i)) H) t) H (figL n) := fun _ H1 s Q q => by
  refine h H1 s _ ⟨_, rfl, ?_, ?_⟩
  · rw [Int.natAbs_natCast]
    exact Nat.lt_of_lt_of_le (PySem.Flt.log2_lt_of (by decide) hn) (by decide)
  · have e := str_num n
    rw [show (toString (n : Int) : Str) = txt (figL n) from e]
    exact q
theorem MkS.go {r : R2} {t u : TE} {l : List Nat} (h : MkS σ (tOp r t u) H l) (hl : l.length ≤ 1000) {Q : VK} (q : Q (.str (txt l)) H) : tOp r t u σ H Q := h hl H (Same.refl H) Q q
theorem mkn_s {t : TE} {l : List Nat} (hl : l.length ≤ 1000) (h : MkS σ t H l) : MkN σ t H (.str (txt l)) := fun H1 s Q q => h hl H1 s Q (q _ H1 (Same.refl _) (.str _))
/-- a display of texts -/
def MkSA (σ : L2.St) (t : TA) (H : Hp) (ls : List (List Nat)) : Prop := (∀ l ∈ ls, l.length ≤ 1000) → ∀ H1, Same H H1 → ∀ Q : List V → Hp → Prop, Q (vsT ls) H1 → t σ H1 Q
theorem mksa_nil : MkSA σ tNil H [] := fun _ H1 _ Q q => q
theorem mksa_cons {t : TE} {u : TA} {l : List Nat} {ls : List (List Nat)} (h1 : MkS σ t H l) (h2 : MkSA σ u H ls) : MkSA σ (tCons t u) H (l :: ls) := fun hl H1 s Q q => h1 (hl l List.mem_cons_self) H1 s _ (h2 (fun x hx => hl x (List.mem_cons_of_mem _ hx)) H1 s _ q)
theorem MkSA.go {u : TA} {ls : List (List Nat)} (h : MkSA σ u H ls) (hl : ∀ l ∈ ls, l.length ≤ 1000) {Q : List V → Hp → Prop} (q : Q (vsT ls) H) : u σ H Q := h hl H (Same.refl H) _ q
theorem lst_after {ls : List (List Nat)} (hn : ls.length ≤ 1000) {Q : VK} (q : ∀ p H', H p = none → Same H H' → H' p = some (.lst (vsT ls)) → Q (.ref p) H') : (vsT ls).length ≤ sizeLine ∧ ∀ p, H p = none → Q (.ref p) (upd H p (.lst (vsT ls))) :=
  ⟨sz_lit (by show (List.map _ ls).length ≤ 1000; rw [List.length_map]; exact hn), fun p hp => q p _ hp (Same.upd hp) upd_same⟩
theorem s_cat {u : TA} {i : Nat} {a : Addr} (e : σ[i]? = some (some (.ref a))) {Q : VK} (h : u σ H fun vs H' => vs.length ≤ sizeLine ∧ ∀ p, H' p = none → rCat (.ref a) (.ref p) (upd H' p (.lst vs)) Q) : tOp rCat (tVar i) (tLst u) σ H Q := ⟨_, e, h⟩
/-- put behind a list of texts -/
theorem cat_after {a : Addr} {ks ls : List (List Nat)} (ha : H a = some (.lst (vsT ks))) (hn : ks.length + ls.length ≤ 1000) {Q : VK}
    (q : ∀ p H', H p = none → Same H H' → H' p = some (.lst (vsT (ks ++ ls))) → Q (.ref p) H') : (vsT ls).length ≤ sizeLine ∧ ∀ p, H p = none → rCat (.ref a) (.ref p) (upd H p (.lst (vsT ls))) Q :=
  lst_after (Q := fun v H' => rCat (.ref a) v H' Q) (by omega) fun p H1 hp u1 e1 => by
  refine ⟨a, p, _, _, rfl, rfl, u1 _ _ ha, e1, sz_lit (by show (List.map _ ks).length + (List.map _ ls).length ≤ 1000; rw [List.length_map, List.length_map]; exact hn), fun r hr => ?_⟩
  refine q r _ (same_none u1 hr) (u1.trans (Same.upd hr)) ?_
  rw [upd_same]
  unfold vsT
  rw [List.map_append]
theorem MkSA.lst {u : TA} {ls : List (List Nat)} (h : MkSA σ u H ls) (hl : ∀ l ∈ ls, l.length ≤ 1000) (hn : ls.length ≤ 1000) {Q : VK} (q : ∀ p H', H p = none → Same H H' → H' p = some (.lst (vsT ls)) → Q (.ref p) H') : tLst u σ H Q := h.go hl (lst_after hn q)
theorem MkSA.cat {u : TA} {i : Nat} {a : Addr} {ks ls : List (List Nat)} (h : MkSA σ u H ls) (e : σ[i]? = some (some (.ref a))) (ha : H a = some (.lst (vsT ks))) (hl : ∀ l ∈ ls, l.length ≤ 1000) (hn : ks.length + ls.length ≤ 1000) {Q : VK}
    (q : ∀ p H', H p = none → Same H H' → H' p = some (.lst (vsT (ks ++ ls))) → Q (.ref p) H') : tOp rCat (tVar i) (tLst u) σ H Q := s_cat e (h.go hl (cat_after ha hn q))
end
end Dear

namespace Dear
open PySem PySem.Spec PyProof.Rows L2
/-! ### == of data, and of a dict with a list -/
section
variable {A : Around} {s : Shared}
theorem dict_eq_declines_list (l b : Addr) (es : Array DictEntry) (ep : Nat) (items2 : Array Value) (n2 : Nat) (dd dd2 : Option Addr) (sl sl2 : Array (Option Value)) :
    Meets (Builtin.«dict.__eq__» ⟨[.ref l, .ref b], []⟩) (fun _ R s => s.heap.get? l = some { cls := .type "dict", dict := dd, data := .dict es ep, slots := sl } ∧ s.heap.get? b = some { cls := .type "list", dict := dd2, data := .seq items2 n2, slots := sl2 } ∧ R (.ok (.ret .notImplemented)) s) :=
  .of_wp fun prog w A R s h => by obtain ⟨hp, g, d, tk, os⟩ := s; obtain ⟨hl, hb, h⟩ := h; have f1 := F.sub_list_dict; wp_walk using wpAny_loadPart' hl, wpAny_loadPart' hb; exact ⟨_, rfl, h⟩
theorem list_eq_declines_dict (l b : Addr) (items : Array Value) (n : Nat) (es : Array DictEntry) (ep : Nat) (dd dd2 : Option Addr) (sl sl2 : Array (Option Value)) :
    Meets (Builtin.«list.__eq__» ⟨[.ref l, .ref b], []⟩) (fun _ R s => s.heap.get? l = some { cls := .type "list", dict := dd, data := .seq items n, slots := sl } ∧ s.heap.get? b = some { cls := .type "dict", dict := dd2, data := .dict es ep, slots := sl2 } ∧ R (.ok (.ret .notImplemented)) s) :=
  .of_wp fun prog w A R s h => by obtain ⟨hp, g, d, tk, os⟩ := s; obtain ⟨hl, hb, h⟩ := h; have f1 := F.sub_dict_list; wp_walk using wpAny_loadPart' hl, wpAny_loadPart' hb; exact ⟨_, rfl, h⟩
theorem rc_dict_list {l b : Addr} {es : Array DictEntry} {ep : Nat} {items2 : Array Value} {n2 : Nat} {dd dd2 : Option Addr} {sl sl2 : Array (Option Value)} (hne : l ≠ b) (ho : s.heap.get? l = some { cls := .type "dict", dict := dd, data := .dict es ep, slots := sl }) (ho2 : s.heap.get? b = some { cls := .type "list", dict := dd2, data := .seq items2 n2, slots := sl2 }) (hu : A.units < cLine) : SeqAt.RcAt A s (.ref l) (.ref b) false := fun prog w E Q h => by
  exact SeqAt.rc_eq_decline_or (k := false) ⟨_, ho, rfl⟩ ⟨_, ho2, rfl⟩ (by decide) F.sub_list_dict F.slot_dict_eq F.slot_list_eq_refl
    (fun _ hq => call_meets F.slot_dict_eq ⟨_, ho, rfl⟩ F.entry_dict_eq (F.args_dict_eq_2 _ _) (dict_eq_declines_list l b es ep items2 n2 dd dd2 sl sl2) ⟨ho, ho2, hq⟩)
    (fun _ hq => call_meets F.slot_list_eq_refl ⟨_, ho2, rfl⟩ F.entry_list_eq (F.args_list_eq_2 _ _) (list_eq_declines_dict b l items2 n2 es ep dd2 dd sl2 sl) ⟨ho2, ho, hq⟩)
    (fun _ hq => wpAny_isSame_ref_other hne ho ho2 (by simp) hq) (.inr hu) h
end
def rEqDX (K : PySem.W.Frag) : R2 := fun x y H Q => rEqD K x y H Q ∨ ∃ (a b : Addr) (kvs : List (Key × V)) (ys : List V), x = .ref a ∧ y = .ref b ∧ H a = some (.dK kvs) ∧ SqL K H b ys ∧ Q (.bl false) H
theorem op_eqDX_k {X : Cx} (K : PySem.W.Frag) (hu : X.A.units + 64 < cLine) (hk : X.K = K := by rfl) : OpR X (compareOp .Eq) (rEqDX K) := by
  subst hk
  intro pins s σ H x y v u Q I rx ry h
  rcases h with h | ⟨a, b, kvs, ys, rfl, rfl, ha, hb, q⟩
  · exact op_eqD hu pins s σ H x y v u Q I rx ry h
  · cases rx
    cases ry
    obtain ⟨_, _, vs, _, ⟨o, es, ep, ho, hex, hdt, _⟩⟩ := I.hok _ _ ha
    obtain ⟨cls, dd, data, sl⟩ := o
    simp only at hdt
    subst hdt
    obtain ⟨hc, hdd⟩ := hex
    simp only at hc
    subst hc
    obtain ⟨its, r, pl, hz⟩ := I.list hb
    obtain ⟨⟨cls2, dd2, data2, sl2⟩, ho2, hc2, n2, hd2⟩ := pl.isList
    simp only at hc2 hd2
    subst hc2 hd2
    have ne : a ≠ b := fun e => by
      subst e
      rw [ho] at ho2
      exact absurd (congrArg (fun o => o.map Obj.cls) ho2) (by simp)
    exact rc_dict_list ne ho ho2 (by omega) X.prog X.w _ _ ⟨.bl false, H, I, rfl, q⟩
end Dear

namespace Dear
open PySem PySem.Spec PyProof.Rows L2
/-! ### what an expression makes: a value that bears d, nothing that was there is changed -/
def MkE (σ : L2.St) (t : TE) (H : Hp) (d : D) : Prop := ∀ H1, Same H H1 → ∀ Q : VK, (∀ v H2, Same H1 H2 → Dt H2 v d → Q v H2) → t σ H1 Q
def MkEA (σ : L2.St) (t : TA) (H : Hp) (ds : List D) : Prop := ∀ H1, Same H H1 → ∀ Q : List V → Hp → Prop, (∀ vs H2, Same H1 H2 → DtAll H2 vs ds → Q vs H2) → t σ H1 Q
theorem cutV_init (l : List V) : cutV l none (some (-1)) = l.take (l.length - 1) := by
  unfold cutV
  rw [HT.sIx_none, List.drop_zero, Nat.sub_zero]
  congr 1
  show (if (-1 : Int) < 0 then (-1 + (l.length : Int)).toNat else min (-1 : Int).toNat l.length) = l.length - 1
  rw [if_pos (by decide)]
  omega
theorem DtAll.rep {H : Hp} {xs : List V} {ds : List D} (h : DtAll H xs ds) : ∀ n : Nat, DtAll H (List.replicate n xs).flatten (List.replicate n ds).flatten
  | 0 => .nil
  | n + 1 => by
    rw [List.replicate_succ, List.replicate_succ, List.flatten_cons, List.flatten_cons]
    exact h.app (DtAll.rep h n)
theorem DtAll.atN {H : Hp} : ∀ {vs : List V} {ds : List D} {i : Nat} {d : D}, DtAll H vs ds → ds[i]? = some d → ∃ v, vs[i]? = some v ∧ Dt H v d
  | _, _, _, _, .nil, e => by simp at e
  | _, _, 0, _, .cons a _, e => by
    simp at e
    subst e
    exact ⟨_, rfl, a⟩
  | _, _, i + 1, d, .cons _ b, e => by
    obtain ⟨v, h1, h2⟩ := DtAll.atN (i := i) (d := d) b (by simpa using e)
    exact ⟨v, by simpa using h1, h2⟩
theorem Dt.lstAt {H : Hp} {v : V} {ds : List D} (h : Dt H v (.lst ds)) : ∃ (a : Addr) (xs : List V), v = .ref a ∧ H a = some (.lst xs) ∧ DtAll H xs ds := by
  cases h with
  | lst ha hall => exact ⟨_, _, rfl, ha, hall⟩
theorem Dt.tupAt {H : Hp} {v : V} {ds : List D} (h : Dt H v (.tup ds)) : ∃ (a : Addr) (xs : List V), v = .ref a ∧ H a = some (.tup xs) ∧ DtAll H xs ds := by
  cases h with
  | tup ha hall => exact ⟨_, _, rfl, ha, hall⟩
theorem Dt.intAt {H : Hp} {v : V} {i : Int} (h : Dt H v (.int i)) : v = .int i := by
  cases h
  rfl
theorem Dt.strAt {H : Hp} {v : V} {z : Str} (h : Dt H v (.str z)) : v = .str z := by
  cases h
  rfl
section
variable {σ : L2.St} {H : Hp} {K : PySem.W.Frag}
theorem mke_c {v : V} {d : D} (h : ∀ H', Dt H' v d) : MkE σ (tC v) H d := fun H1 _ _ q => q v H1 (Same.refl _) (h _)
theorem mke_var {i : Nat} {v : V} {d : D} (e : σ[i]? = some (some v)) (h : Dt H v d) : MkE σ (tVar i) H d := fun H1 s _ q => ⟨v, e, q v H1 (Same.refl _) (h.same s)⟩
theorem mkea_nil : MkEA σ tNil H [] := fun H1 _ _ q => q [] H1 (Same.refl _) .nil
theorem mkea_cons {t : TE} {u : TA} {d : D} {ds : List D} (h1 : MkE σ t H d) (h2 : MkEA σ u H ds) : MkEA σ (tCons t u) H (d :: ds) := fun H1 s Q q => by
  refine h1 H1 s _ fun v H2 s2 d2 => ?_
  refine h2 H2 (s.trans s2) _ fun vs H3 s3 d3 => ?_
  exact q (v :: vs) H3 (s2.trans s3) (.cons (d2.same s3) d3)
theorem mke_tup {u : TA} {ds : List D} (h : MkEA σ u H ds) (hz : Nat.ble ds.length 1000 = true := by rfl) : MkE σ (tTup u) H (.tup ds) := fun H1 s Q q => by
  refine h H1 s _ fun vs H2 s2 d2 => ?_
  refine ⟨sz_lit (by rw [d2.length]; exact Nat.le_of_ble_eq_true hz), fun p hp => ?_⟩
  exact q (.ref p) _ (s2.trans (Same.upd hp)) (.tup upd_same (d2.same (Same.upd hp)))
theorem mke_lst {u : TA} {ds : List D} (h : MkEA σ u H ds) (hz : Nat.ble ds.length 1000 = true := by rfl) : MkE σ (tLst u) H (.lst ds) := fun H1 s Q q => by
  refine h H1 s _ fun vs H2 s2 d2 => ?_
  refine ⟨sz_lit (by rw [d2.length]; exact Nat.le_of_ble_eq_true hz), fun p hp => ?_⟩
  exact q (.ref p) _ (s2.trans (Same.upd hp)) (.lst upd_same (d2.same (Same.upd hp)))
theorem mke_dnew : MkE σ tDNewK H .dct := fun H1 s Q q p hp => q (.ref p) _ (Same.upd hp) (.dct upd_same)
theorem mke_neg {i : Int} : MkE σ (tUn (rU fun i => .int (-i)) (tC (.int i))) H (.int (-i)) := fun H1 _ _ q => ⟨i, rfl, q _ H1 (Same.refl _) (.int _)⟩
theorem mke_cat {t u : TE} {ds es : List D} (h1 : MkE σ t H (.lst ds)) (h2 : MkE σ u H (.lst es)) (hz : ds.length + es.length ≤ 1000) : MkE σ (tOp rCat t u) H (.lst (ds ++ es)) := fun H1 s Q q => by
  refine h1 H1 s _ fun v H2 s2 d2 => ?_
  refine h2 H2 (s.trans s2) _ fun v3 H3 s3 d3 => ?_
  obtain ⟨a, xs, rfl, ha, hall⟩ := d2.lstAt
  obtain ⟨b, ys, rfl, hb, hbll⟩ := d3.lstAt
  refine ⟨a, b, xs, ys, rfl, rfl, s3 _ _ ha, hb, sz_lit (by rw [hall.length, hbll.length]; exact hz), fun p hp => ?_⟩
  exact q (.ref p) _ ((s2.trans s3).trans (Same.upd hp)) (.lst upd_same (((hall.same s3).app hbll).same (Same.upd hp)))
theorem mke_rep {t u : TE} {ds : List D} {n : Nat} (h1 : MkE σ t H (.lst ds)) (h2 : MkE σ u H (.int (n : Nat))) (hn : n ≤ 1000) (hz : ds.length * n ≤ 1000) : MkE σ (tOp rRep t u) H (.lst (List.replicate n ds).flatten) := fun H1 s Q q => by
  refine h1 H1 s _ fun v H2 s2 d2 => ?_
  refine h2 H2 (s.trans s2) _ fun v3 H3 s3 d3 => ?_
  obtain ⟨a, xs, rfl, ha, hall⟩ := d2.lstAt
  have := d3.intAt
  subst this
  refine ⟨a, (n : Nat), xs, rfl, rfl, s3 _ _ ha, by omega, by omega, sz_lit (by rw [hall.length]; exact hz), fun p hp => ?_⟩
  exact q (.ref p) _ ((s2.trans s3).trans (Same.upd hp)) (.lst upd_same (((hall.same s3).rep n).same (Same.upd hp)))
theorem mke_len {t : TE} {ds : List D} (h : MkE σ t H (.lst ds)) : MkE σ (tCB (rLen K) (tCons t tNil)) H (.int (ds.length : Nat)) := fun H1 s Q q => by
  refine h H1 s _ fun v H2 s2 d2 => ?_
  obtain ⟨a, xs, rfl, ha, hall⟩ := d2.lstAt
  refine ⟨a, xs, rfl, .inl (SqL.of ha), ?_⟩
  rw [hall.length]
  exact q _ H2 s2 (.int _)
theorem mke_tupof {t : TE} {ds : List D} (h : MkE σ t H (.lst ds)) : MkE σ (tCB (rTupOf K) (tCons t tNil)) H (.tup ds) := fun H1 s Q q => by
  refine h H1 s _ fun v H2 s2 d2 => ?_
  obtain ⟨a, xs, rfl, ha, hall⟩ := d2.lstAt
  exact ⟨a, xs, rfl, .inl ⟨SqL.of ha, fun r hr => q (.ref r) _ (s2.trans (Same.upd hr)) (.tup upd_same (hall.same (Same.upd hr)))⟩⟩
theorem mke_lstof {t : TE} {ds : List D} (h : MkE σ t H (.lst ds)) : MkE σ (tCB (rListOf K) (tCons t tNil)) H (.lst ds) := fun H1 s Q q => by
  refine h H1 s _ fun v H2 s2 d2 => ?_
  obtain ⟨a, xs, rfl, ha, hall⟩ := d2.lstAt
  exact ⟨a, xs, rfl, .inl (SqL.of ha), fun r hr => q (.ref r) _ (s2.trans (Same.upd hr)) (.lst upd_same (hall.same (Same.upd hr)))⟩
theorem mke_from {t : TE} {ds : List D} {i : Int} {n : Nat} (h : MkE σ t H (.lst ds)) (hi : i = (n : Nat) := by rfl) : MkE σ (tSl (rSlL K) t (tPart (tC (.int i))) tNoPart) H (.lst (ds.drop n)) := fun H1 s Q q => by
  subst hi
  refine h H1 s _ fun v H2 s2 d2 => ?_
  obtain ⟨a, xs, rfl, ha, hall⟩ := d2.lstAt
  refine ⟨_, rfl, a, xs, rfl, SqL.of ha, fun p hp => ?_⟩
  rw [cutV_from]
  exact q (.ref p) _ (s2.trans (Same.upd hp)) (.lst upd_same ((hall.drop n).same (Same.upd hp)))
theorem mke_upto {t : TE} {ds : List D} {i : Int} {n : Nat} (h : MkE σ t H (.lst ds)) (hi : i = (n : Nat) := by rfl) : MkE σ (tSl (rSlL K) t tNoPart (tPart (tC (.int i)))) H (.lst (ds.take n)) := fun H1 s Q q => by
  subst hi
  refine h H1 s _ fun v H2 s2 d2 => ?_
  obtain ⟨a, xs, rfl, ha, hall⟩ := d2.lstAt
  refine ⟨_, rfl, a, xs, rfl, SqL.of ha, fun p hp => ?_⟩
  rw [cutV_pre]
  exact q (.ref p) _ (s2.trans (Same.upd hp)) (.lst upd_same ((hall.take n).same (Same.upd hp)))
theorem mke_init {t : TE} {ds : List D} (h : MkE σ t H (.lst ds)) : MkE σ (tSl (rSlL K) t tNoPart (tPart (tUn (rU fun i => .int (-i)) (tC (.int 1))))) H (.lst (ds.take (ds.length - 1))) := fun H1 s Q q => by
  refine h H1 s _ fun v H2 s2 d2 => ?_
  obtain ⟨a, xs, rfl, ha, hall⟩ := d2.lstAt
  refine ⟨_, rfl, _, rfl, a, xs, rfl, SqL.of ha, fun p hp => ?_⟩
  rw [show (-(1 : Int)) = -1 from rfl, cutV_init, hall.length]
  exact q (.ref p) _ (s2.trans (Same.upd hp)) (.lst upd_same ((hall.take _).same (Same.upd hp)))
theorem mke_ix {t u : TE} {ds : List D} {n : Nat} {d : D} (h : MkE σ t H (.lst ds)) (h2 : MkE σ u H (.int (n : Nat))) (hd : ds[n]? = some d) : MkE σ (tOp (rIxL K) t u) H d := fun H1 s Q q => by
  refine h H1 s _ fun v H2 s2 d2 => ?_
  refine h2 H2 (s.trans s2) _ fun v3 H3 s3 d3 => ?_
  obtain ⟨a, xs, rfl, ha, hall⟩ := d2.lstAt
  have := d3.intAt
  subst this
  obtain ⟨v, hv, dv⟩ := hall.atN hd
  exact ⟨a, xs, _, v, rfl, rfl, SqL.of (s3 _ _ ha), atI_nat hv, q v H3 (s2.trans s3) (dv.same s3)⟩
theorem at_end {α : Type} {xs : List α} {v : α} (h : xs[xs.length - 1]? = some v) : atI xs (-1) = some v := by
  have hl : 0 < xs.length := by
    cases xs with
    | nil => simp at h
    | cons _ _ => simp
  unfold atI ixN
  rw [if_neg (by decide), if_pos (by omega)]
  show xs[(-1 + (xs.length : Int)).toNat]? = some v
  rw [show (-1 + (xs.length : Int)).toNat = xs.length - 1 by omega]
  exact h
theorem mke_last {t : TE} {ds : List D} {d : D} (h : MkE σ t H (.lst ds)) (hd : ds[ds.length - 1]? = some d) : MkE σ (tOp (rIxL K) t (tUn (rU fun i => .int (-i)) (tC (.int 1)))) H d := fun H1 s Q q => by
  refine h H1 s _ fun v H2 s2 d2 => ?_
  obtain ⟨a, xs, rfl, ha, hall⟩ := d2.lstAt
  obtain ⟨v, hv, dv⟩ := hall.atN hd
  exact ⟨_, rfl, a, xs, _, v, rfl, rfl, SqL.of ha, at_end (by rw [hall.length]; exact hv), q v H2 s2 dv⟩
theorem mke_add {t u : TE} {i j : Int} (h1 : MkE σ t H (.int i)) (h2 : MkE σ u H (.int j)) : MkE σ (tOp (rI0 fun i j => .int (i + j)) t u) H (.int (i + j)) := fun H1 s Q q => by
  refine h1 H1 s _ fun v H2 s2 d2 => ?_
  refine h2 H2 (s.trans s2) _ fun v3 H3 s3 d3 => ?_
  have := d2.intAt
  subst this
  have := d3.intAt
  subst this
  exact ⟨_, _, rfl, rfl, q _ H3 (s2.trans s3) (.int _)⟩
theorem mke_sub {t u : TE} {i j : Int} (h1 : MkE σ t H (.int i)) (h2 : MkE σ u H (.int j)) : MkE σ (tOp (rI0 fun i j => .int (i - j)) t u) H (.int (i - j)) := fun H1 s Q q => by
  refine h1 H1 s _ fun v H2 s2 d2 => ?_
  refine h2 H2 (s.trans s2) _ fun v3 H3 s3 d3 => ?_
  have := d2.intAt
  subst this
  have := d3.intAt
  subst this
  exact ⟨_, _, rfl, rfl, q _ H3 (s2.trans s3) (.int _)⟩
theorem mke_mul {t u : TE} {i j : Int} (h1 : MkE σ t H (.int i)) (h2 : MkE σ u H (.int j)) (h : CMul i j) : MkE σ (tOp (rI CMul fun i j => .int (i * j)) t u) H (.int (i * j)) := fun H1 s Q q => by
  refine h1 H1 s _ fun v H2 s2 d2 => ?_
  refine h2 H2 (s.trans s2) _ fun v3 H3 s3 d3 => ?_
  have := d2.intAt
  subst this
  have := d3.intAt
  subst this
  exact ⟨_, _, rfl, rfl, h, q _ H3 (s2.trans s3) (.int _)⟩
theorem mke_mod {t u : TE} {i j : Int} (h1 : MkE σ t H (.int i)) (h2 : MkE σ u H (.int j)) (h : 0 < j) : MkE σ (tOp (rI (fun _ j => 0 < j) fun i j => .int (i % j)) t u) H (.int (i % j)) := fun H1 s Q q => by
  refine h1 H1 s _ fun v H2 s2 d2 => ?_
  refine h2 H2 (s.trans s2) _ fun v3 H3 s3 d3 => ?_
  have := d2.intAt
  subst this
  have := d3.intAt
  subst this
  exact ⟨_, _, rfl, rfl, h, q _ H3 (s2.trans s3) (.int _)⟩
theorem mke_min2 {t u : TE} {i j : Int} (h1 : MkE σ t H (.int i)) (h2 : MkE σ u H (.int j)) : MkE σ (tCB (fun xs H Q => ∃ i j, xs = [.int i, .int j] ∧ Q (.int (if j < i then j else i)) H) (tCons t (tCons u tNil))) H (.int (if j < i then j else i)) := fun H1 s Q q => by
  refine h1 H1 s _ fun v H2 s2 d2 => ?_
  refine h2 H2 (s.trans s2) _ fun v3 H3 s3 d3 => ?_
  have := d2.intAt
  subst this
  have := d3.intAt
  subst this
  exact ⟨_, _, rfl, q _ H3 (s2.trans s3) (.int _)⟩
theorem mke_pow {i j : Int} (h : CPow i j) : MkE σ (tOp (rI CPow fun i j => .int (i ^ j.toNat)) (tC (.int i)) (tC (.int j))) H (.int (i ^ j.toNat)) := fun H1 _ _ q => ⟨_, _, rfl, rfl, h, q _ H1 (Same.refl _) (.int _)⟩
theorem mke_eq {t : TE} {d e : D} (h : MkE σ t H d) (he : d = e) : MkE σ t H e := he ▸ h
theorem MkE.go {t : TE} {d : D} (h : MkE σ t H d) {Q : VK} (q : ∀ v H2, Same H H2 → Dt H2 v d → Q v H2) : t σ H Q := h H (Same.refl H) Q q
theorem MkEA.go {t : TA} {ds : List D} (h : MkEA σ t H ds) {Q : List V → Hp → Prop} (q : ∀ vs H2, Same H H2 → DtAll H2 vs ds → Q vs H2) : t σ H Q := h H (Same.refl H) Q q
theorem s_op2 {r : R2} {ta tb : TE} {Q : VK} (h : ta σ H fun x H1 => tb σ H1 fun y H2 => r x y H2 Q) : tOp r ta tb σ H Q := h
end
end Dear

namespace Dear
open PySem PySem.Spec PyProof.Rows L2
/-! ### a builtin's method, K named (for comprehensions) -/
theorem pe_bm_k {X : Cx} (K : PySem.W.Frag) {o e : Expr} {es : List Expr} {to : TE} {t : TA} {name : Str} {apos cpos : Pos} {T id : String} {r : V → List V → Hp → VK → Prop} (pa : PlainAttrs T) (slot : Slot T name id) (hty : typeOf (.builtin id) = pure (.type "method_descriptor")) (hm : MtR X id r) (ho : PE X o to) (ha : PA X (e :: es) t) (h : X.K = K := by rfl)
    (hbase : attributeBase o name X.env (eval o X.env) = eval o X.env := by rfl)
    (hfew : ((backTo cpos (starEach (e :: es) X.env)).all (fun x => !x.1) && (backToKw cpos (keywordEach [] X.env)).all (fun x => x.1.isSome)
      && decide ((e :: es).length + ([] : List Keyword).length + (if ([] : List Keyword).isEmpty then 0 else 1) < 30)) = true := by rfl)
    (hline : (apos.endLine == cpos.line) = true := by rfl) (hs : starEach (e :: es) X.env = (false, eval e X.env) :: starEach es X.env := by rfl) (hplain : (backTo cpos (starEach es X.env)).any (·.1) = false := by rfl) :
    PE X (.Call (.Attribute o name apos) (e :: es) [] cpos) (tBM K T r to t) := h ▸ pe_bm pa slot hty hm ho ha hbase hfew hline hs hplain
end Dear

namespace Dear
open PySem PySem.Spec PyProof.Rows L2
section
variable {K : PySem.W.Frag} {H : Hp} {Q : VK}
theorem neS {x y : V} {d : D} (h1 : Dt H x d) (h2 : Dt H y d) (f : Ok d ∧ NoD d ∧ dep d ≤ 64) (q : Q (.bl false) H) : rNeD K x y H Q := by
  have sh := shaped_py f.1 f.2.1 f.2.2
  refine ⟨py d, py d, h1.dp f.2.1, h2.dp f.2.1, sh, sh, ?_⟩
  rw [eqv_same sh]
  exact q
theorem eqS {x y : V} {d : D} (h1 : Dt H x d) (h2 : Dt H y d) (f : Ok d ∧ NoD d ∧ dep d ≤ 64) (q : Q (.bl true) H) : rEqD K x y H Q := by
  have sh := shaped_py f.1 f.2.1 f.2.2
  refine ⟨py d, py d, h1.dp f.2.1, h2.dp f.2.1, sh, sh, ?_⟩
  rw [eqv_same sh]
  exact q
end
end Dear

namespace Dear
open PySem PySem.Spec PyProof.Rows L2
theorem len_sub {α : Type} [DecidableEq α] : ∀ {l m : List α}, l.Nodup → (∀ a ∈ l, a ∈ m) → l.length ≤ m.length
  | [], _, _, _ => Nat.zero_le _
  | a :: l, m, nd, h => by
    have ha := h a List.mem_cons_self
    have nd' := List.nodup_cons.mp nd
    have := len_sub (l := l) (m := m.erase a) nd'.2 fun b hb => by
      have ne : b ≠ a := fun e => nd'.1 (by rw [← e]; exact hb)
      exact (List.mem_erase_of_ne ne).mpr (h b (List.mem_cons_of_mem _ hb))
    rw [List.length_erase_of_mem ha] at this
    have hp : 0 < m.length := List.length_pos_of_mem ha
    rw [List.length_cons]
    omega
theorem len_prod {α β γ : Type} {f : α → β → γ} : ∀ {l : List α} {m : List β}, (l.flatMap fun a => m.map (f a)).length = l.length * m.length
  | [], m => by simp
  | a :: l, m => by
    rw [List.flatMap_cons, List.length_append, len_prod, List.length_map, List.length_cons, Nat.succ_mul, Nat.add_comm]
theorem TgD.fs6 {d : D} {ds : List D} {cs fs : List Nat} {zs : List Str} {i : Int} (t : TgD d ds cs fs zs i) : fs.length ≤ 6 := Nat.le_trans (len_sub t.fn t.fo) t.l6
theorem TgD.zs36 {d : D} {ds : List D} {cs fs : List Nat} {zs : List Str} {i : Int} (t : TgD d ds cs fs zs i) : zs.length ≤ 36 := by
  have h := len_sub (m := cs.flatMap fun a => cs.map fun b => sgn a ++ sgn b) t.po.nd fun z hz => by
    obtain ⟨a, ha, b, hb, rfl⟩ := t.po.of z hz
    exact List.mem_flatMap.mpr ⟨a, ha, List.mem_map_of_mem hb⟩
  rw [len_prod] at h
  have := Nat.mul_le_mul t.l6 t.l6
  omega
end Dear

namespace Dear
open PySem PySem.Spec PyProof.Rows L2
theorem TgD.dep4 {d : D} {ds : List D} {cs fs : List Nat} {zs : List Str} {i : Int} (t : TgD d ds cs fs zs i) : dep d ≤ 4 := by
  rw [t.eq]
  obtain ⟨h1, h2⟩ := t.sg.flat
  have a1 := depAll_le (strs_flat (fs.map sgn)).1
  have a2 := depAll_le (strs_flat zs).1
  show max (depAll ds + 1) (max (depAll ((fs.map sgn).map D.str) + 1) (max (depAll (zs.map D.str) + 1) (max 0 0))) + 1 ≤ 4
  omega
theorem wants_dep : ∀ {ws : List (List Nat × Int)}, dep (.lst (ws.map wantD)) ≤ 2
  | [] => (by show 0 + 1 ≤ 2; decide)
  | w :: ws => by
    have h : depAll (ws.map wantD) + 1 ≤ 2 := wants_dep (ws := ws)
    show max (dep (wantD w)) (depAll (ws.map wantD)) + 1 ≤ 2
    have : dep (wantD w) = 1 := rfl
    omega
end Dear

namespace Dear
open PySem PySem.Spec PyProof.Rows L2
def top (i : Nat) : Stmt := PySem.Challenge.pw_dearsigns_k65_whole_case_rows_refused.main.body.getD i (.Pass ⟨0, 0, 0, 0⟩)
abbrev s_NoTongue___init__ : Stmt := inClass (top 11) 0
abbrev s_NoWants___init__ : Stmt := inClass (top 12) 0
abbrev s_NoThing___init__ : Stmt := inClass (top 13) 0
abbrev s_BadSign___init__ : Stmt := inClass (top 14) 0
abbrev s_NoText___init__ : Stmt := inClass (top 15) 0
abbrev s_is_whole : Stmt := top 19
abbrev s_is_name : Stmt := top 20
abbrev s_divisor : Stmt := top 21
abbrev s_lowest : Stmt := top 22
abbrev s_fraction : Stmt := top 23
abbrev s_whole_in : Stmt := top 34
abbrev s_fraction_in : Stmt := top 35
abbrev s_price_in : Stmt := top 36
abbrev s_CaseRows___init__ : Stmt := inClass (top 37) 0
abbrev s_CaseRows_takes_sign : Stmt := inClass (top 37) 1
abbrev s_CaseRows_is_open : Stmt := inClass (top 37) 2
abbrev s_CaseRows_takes_first : Stmt := inClass (top 37) 3
abbrev s_CaseRows_takes_pair : Stmt := inClass (top 37) 4
abbrev s_CaseRows_takes_longest : Stmt := inClass (top 37) 5
abbrev s_CaseRows_takes_thing : Stmt := inClass (top 37) 6
abbrev s_CaseRows_takes_word : Stmt := inClass (top 37) 7
abbrev s_CaseRows_takes : Stmt := inClass (top 37) 8
abbrev s_CaseRows_lacks : Stmt := inClass (top 37) 9
abbrev s_CaseRows_made : Stmt := inClass (top 37) 10
abbrev s_read_case : Stmt := top 38
abbrev s__law_pool : Stmt := top 40
abbrev s__law_take : Stmt := top 41
abbrev s__law_low : Stmt := top 42
abbrev s__law_price : Stmt := top 43
abbrev s__law_tongue : Stmt := top 44
abbrev s__law_name : Stmt := top 45
abbrev s__law_wants : Stmt := top 46
abbrev s__law_texts : Stmt := top 47
abbrev s__law_case : Stmt := top 48
abbrev s__law_fraction : Stmt := top 49
abbrev s__law_rows : Stmt := top 50
abbrev s__law_same : Stmt := top 51
abbrev s__law_never : Stmt := top 52
abbrev s__law_fresh : Stmt := top 53
abbrev s__law_told_again : Stmt := top 54
abbrev s__law_barred : Stmt := top 55
abbrev s__law_first_rows : Stmt := top 56
abbrev s__law_told : Stmt := top 57
abbrev s__law_asked : Stmt := top 58
abbrev s_law : Stmt := top 59
abbrev n_NoTongue___init__ : List Str := ["self", "part"]
theorem c_NoTongue___init__ : FnScope n_NoTongue___init__ ["self", "part"] (defScope s_NoTongue___init__) := ⟨rfl, rfl, rfl, by decide +kernel, rfl, by decide +kernel, by decide +kernel⟩
abbrev n_NoWants___init__ : List Str := ["self", "number"]
theorem c_NoWants___init__ : FnScope n_NoWants___init__ ["self", "number"] (defScope s_NoWants___init__) := ⟨rfl, rfl, rfl, by decide +kernel, rfl, by decide +kernel, by decide +kernel⟩
abbrev n_NoThing___init__ : List Str := ["self", "place"]
theorem c_NoThing___init__ : FnScope n_NoThing___init__ ["self", "place"] (defScope s_NoThing___init__) := ⟨rfl, rfl, rfl, by decide +kernel, rfl, by decide +kernel, by decide +kernel⟩
abbrev n_BadSign___init__ : List Str := ["self", "place"]
theorem c_BadSign___init__ : FnScope n_BadSign___init__ ["self", "place"] (defScope s_BadSign___init__) := ⟨rfl, rfl, rfl, by decide +kernel, rfl, by decide +kernel, by decide +kernel⟩
abbrev n_NoText___init__ : List Str := ["self", "row"]
theorem c_NoText___init__ : FnScope n_NoText___init__ ["self", "row"] (defScope s_NoText___init__) := ⟨rfl, rfl, rfl, by decide +kernel, rfl, by decide +kernel, by decide +kernel⟩
abbrev n_is_whole : List Str := ["thing"]
theorem c_is_whole : FnScope n_is_whole ["thing"] (defScope s_is_whole) := ⟨rfl, rfl, rfl, by decide +kernel, rfl, by decide +kernel, by decide +kernel⟩
abbrev n_is_name : List Str := ["thing", "sign"]
theorem c_is_name : FnScope n_is_name ["thing"] (defScope s_is_name) := ⟨rfl, rfl, rfl, by decide +kernel, rfl, by decide +kernel, by decide +kernel⟩
abbrev n_divisor : List Str := ["one", "other"]
theorem c_divisor : FnScope n_divisor ["one", "other"] (defScope s_divisor) := ⟨rfl, rfl, rfl, by decide +kernel, rfl, by decide +kernel, by decide +kernel⟩
abbrev n_lowest : List Str := ["top", "bottom", "share"]
theorem c_lowest : FnScope n_lowest ["top", "bottom"] (defScope s_lowest) := ⟨rfl, rfl, rfl, by decide +kernel, rfl, by decide +kernel, by decide +kernel⟩
abbrev n_fraction : List Str := ["top", "bottom"]
theorem c_fraction : FnScope n_fraction ["top", "bottom"] (defScope s_fraction) := ⟨rfl, rfl, rfl, by decide +kernel, rfl, by decide +kernel, by decide +kernel⟩
abbrev n_whole_in : List Str := ["word", "most", "sign"]
theorem c_whole_in : FnScope n_whole_in ["word", "most"] (defScope s_whole_in) := ⟨rfl, rfl, rfl, by decide +kernel, rfl, by decide +kernel, by decide +kernel⟩
abbrev n_fraction_in : List Str := ["word", "most", "figures", "numbers", "one", "part"]
theorem c_fraction_in : FnScope n_fraction_in ["word", "most"] (defScope s_fraction_in) := ⟨rfl, rfl, rfl, by decide +kernel, rfl, by decide +kernel, by decide +kernel⟩
abbrev n_price_in : List Str := ["word", "one"]
theorem c_price_in : FnScope n_price_in ["word"] (defScope s_price_in) := ⟨rfl, rfl, rfl, by decide +kernel, rfl, by decide +kernel, by decide +kernel⟩
abbrev n_CaseRows___init__ : List Str := ["self"]
theorem c_CaseRows___init__ : FnScope n_CaseRows___init__ ["self"] (defScope s_CaseRows___init__) := ⟨rfl, rfl, rfl, by decide +kernel, rfl, by decide +kernel, by decide +kernel⟩
abbrev n_CaseRows_takes_sign : List Str := ["self", "parts", "sign", "price", "last", "amid", "end"]
theorem c_CaseRows_takes_sign : FnScope n_CaseRows_takes_sign ["self", "parts"] (defScope s_CaseRows_takes_sign) := ⟨rfl, rfl, rfl, by decide +kernel, rfl, by decide +kernel, by decide +kernel⟩
abbrev n_CaseRows_is_open : List Str := ["self", "parts", "many", "sign"]
theorem c_CaseRows_is_open : FnScope n_CaseRows_is_open ["self", "parts", "many"] (defScope s_CaseRows_is_open) := ⟨rfl, rfl, rfl, by decide +kernel, rfl, by decide +kernel, by decide +kernel⟩
abbrev n_CaseRows_takes_first : List Str := ["self", "parts"]
theorem c_CaseRows_takes_first : FnScope n_CaseRows_takes_first ["self", "parts"] (defScope s_CaseRows_takes_first) := ⟨rfl, rfl, rfl, by decide +kernel, rfl, by decide +kernel, by decide +kernel⟩
abbrev n_CaseRows_takes_pair : List Str := ["self", "parts"]
theorem c_CaseRows_takes_pair : FnScope n_CaseRows_takes_pair ["self", "parts"] (defScope s_CaseRows_takes_pair) := ⟨rfl, rfl, rfl, by decide +kernel, rfl, by decide +kernel, by decide +kernel⟩
abbrev n_CaseRows_takes_longest : List Str := ["self", "parts", "number"]
theorem c_CaseRows_takes_longest : FnScope n_CaseRows_takes_longest ["self", "parts"] (defScope s_CaseRows_takes_longest) := ⟨rfl, rfl, rfl, by decide +kernel, rfl, by decide +kernel, by decide +kernel⟩
abbrev n_CaseRows_takes_thing : List Str := ["self", "parts", "count", "name", "many"]
theorem c_CaseRows_takes_thing : FnScope n_CaseRows_takes_thing ["self", "parts"] (defScope s_CaseRows_takes_thing) := ⟨rfl, rfl, rfl, by decide +kernel, rfl, by decide +kernel, by decide +kernel⟩
abbrev n_CaseRows_takes_word : List Str := ["self", "parts"]
theorem c_CaseRows_takes_word : FnScope n_CaseRows_takes_word ["self", "parts"] (defScope s_CaseRows_takes_word) := ⟨rfl, rfl, rfl, by decide +kernel, rfl, by decide +kernel, by decide +kernel⟩
abbrev n_CaseRows_takes : List Str := ["self", "row", "kind", "parts"]
theorem c_CaseRows_takes : FnScope n_CaseRows_takes ["self", "row"] (defScope s_CaseRows_takes) := ⟨rfl, rfl, rfl, by decide +kernel, rfl, by decide +kernel, by decide +kernel⟩
abbrev n_CaseRows_lacks : List Str := ["self"]
theorem c_CaseRows_lacks : FnScope n_CaseRows_lacks ["self"] (defScope s_CaseRows_lacks) := ⟨rfl, rfl, rfl, by decide +kernel, rfl, by decide +kernel, by decide +kernel⟩
abbrev n_CaseRows_made : List Str := ["self", "book"]
theorem c_CaseRows_made : FnScope n_CaseRows_made ["self"] (defScope s_CaseRows_made) := ⟨rfl, rfl, rfl, by decide +kernel, rfl, by decide +kernel, by decide +kernel⟩
abbrev n_read_case : List Str := ["text", "told", "rows", "number", "row"]
theorem c_read_case : FnScope n_read_case ["text"] (defScope s_read_case) := ⟨rfl, rfl, rfl, by decide +kernel, rfl, by decide +kernel, by decide +kernel⟩
abbrev n__law_pool : List Str := ["_law_script", "_law_k", "_law_cell", "_law_seed"]
theorem c__law_pool : FnScope n__law_pool ["_law_script", "_law_k"] (defScope s__law_pool) := ⟨rfl, rfl, rfl, by decide +kernel, rfl, by decide +kernel, by decide +kernel⟩
abbrev n__law_take : List Str := ["_law_pool_here", "_law_many", "_law_found"]
theorem c__law_take : FnScope n__law_take ["_law_pool_here", "_law_many"] (defScope s__law_take) := ⟨rfl, rfl, rfl, by decide +kernel, rfl, by decide +kernel, by decide +kernel⟩
abbrev n__law_low : List Str := ["_law_top", "_law_bottom", "_law_one", "_law_other"]
theorem c__law_low : FnScope n__law_low ["_law_top", "_law_bottom"] (defScope s__law_low) := ⟨rfl, rfl, rfl, by decide +kernel, rfl, by decide +kernel, by decide +kernel⟩
abbrev n__law_price : List Str := ["_law_pool_here", "_law_way", "_law_top", "_law_bottom"]
theorem c__law_price : FnScope n__law_price ["_law_pool_here"] (defScope s__law_price) := ⟨rfl, rfl, rfl, by decide +kernel, rfl, by decide +kernel, by decide +kernel⟩
abbrev n__law_tongue : List Str := ["_law_pool_here", "_law_most_signs", "_law_most_long", "_law_many", "_law_shift", "_law_step", "_law_letters", "_law_signs", "_law_letter", "_law_price_here", "_law_last", "_law_firsts", "_law_pairs", "_law_k", "_law_pair"]
theorem c__law_tongue : FnScope n__law_tongue ["_law_pool_here", "_law_most_signs", "_law_most_long"] (defScope s__law_tongue) := ⟨rfl, rfl, rfl, by decide +kernel, rfl, by decide +kernel, by decide +kernel⟩
abbrev n__law_name : List Str := ["_law_k", "_law_salt", "_law_letters", "_law_at", "_law_tell", "_law_more"]
theorem c__law_name : FnScope n__law_name ["_law_k", "_law_salt"] (defScope s__law_name) := ⟨rfl, rfl, rfl, by decide +kernel, rfl, by decide +kernel, by decide +kernel⟩
abbrev n__law_wants : List Str := ["_law_pool_here", "_law_many", "_law_salt", "_law_wants_here", "_law_k", "_law_way", "_law_count"]
theorem c__law_wants : FnScope n__law_wants ["_law_pool_here", "_law_many"] (defScope s__law_wants) := ⟨rfl, rfl, rfl, by decide +kernel, rfl, by decide +kernel, by decide +kernel⟩
abbrev n__law_texts : List Str := ["_law_pool_here", "_law_many", "_law_found", "_law_k", "_law_at", "_law_step", "_law_size", "_law_j"]
theorem c__law_texts : FnScope n__law_texts ["_law_pool_here", "_law_many"] (defScope s__law_texts) := ⟨rfl, rfl, rfl, by decide +kernel, rfl, by decide +kernel, by decide +kernel⟩
abbrev n__law_case : List Str := ["_law_script", "_law_most_things", "_law_pool_here", "_law_tongue_here", "_law_wants_here", "_law_book"]
theorem c__law_case : FnScope n__law_case ["_law_script", "_law_most_things"] (defScope s__law_case) := ⟨rfl, rfl, rfl, by decide +kernel, rfl, by decide +kernel, by decide +kernel⟩
abbrev n__law_fraction : List Str := ["_law_one"]
theorem c__law_fraction : FnScope n__law_fraction ["_law_one"] (defScope s__law_fraction) := ⟨rfl, rfl, rfl, by decide +kernel, rfl, by decide +kernel, by decide +kernel⟩
abbrev n__law_rows : List Str := ["_law_case_here", "_law_tongue_here", "_law_wants_here", "_law_book", "_law_rows_here", "_law_sign", "_law_price_here", "_law_last", "_law_row", "_law_pair", "_law_want", "_law_text"]
theorem c__law_rows : FnScope n__law_rows ["_law_case_here"] (defScope s__law_rows) := ⟨rfl, rfl, rfl, by decide +kernel, rfl, by decide +kernel, by decide +kernel⟩
abbrev n__law_same : List Str := ["_law_found", "_law_due", "_law_k"]
theorem c__law_same : FnScope n__law_same ["_law_found", "_law_due"] (defScope s__law_same) := ⟨rfl, rfl, rfl, by decide +kernel, rfl, by decide +kernel, by decide +kernel⟩
abbrev n__law_never : List Str := ["_law_pool_here", "_law_some"]
theorem c__law_never : FnScope n__law_never ["_law_pool_here"] (defScope s__law_never) := ⟨rfl, rfl, rfl, by decide +kernel, rfl, by decide +kernel, by decide +kernel⟩
abbrev n__law_fresh : List Str := ["_law_case_here", "_law_letters", "_law_row", "_law_letter"]
theorem c__law_fresh : FnScope n__law_fresh ["_law_case_here"] (defScope s__law_fresh) := ⟨rfl, rfl, rfl, by decide +kernel, rfl, by decide +kernel, by decide +kernel⟩
abbrev n__law_told_again : List Str := ["_law_pool_here", "_law_case_here", "_law_rows_here", "_law_at", "_law_signs", "_law_firsts", "_law_pairs", "_law_longest", "_law_head", "_law_way", "_law_number"]
theorem c__law_told_again : FnScope n__law_told_again ["_law_pool_here", "_law_case_here", "_law_rows_here", "_law_at"] (defScope s__law_told_again) := ⟨rfl, rfl, rfl, by decide +kernel, rfl, by decide +kernel, by decide +kernel⟩
abbrev n__law_barred : List Str := ["_law_pool_here", "_law_case_here", "_law_rows_here", "_law_signs", "_law_firsts", "_law_pairs", "_law_longest", "_law_fresh_here", "_law_own", "_law_head", "_law_tail", "_law_way", "_law_at", "_law_others", "_law_row"]
theorem c__law_barred : FnScope n__law_barred ["_law_pool_here", "_law_case_here", "_law_rows_here"] (defScope s__law_barred) := ⟨rfl, rfl, rfl, by decide +kernel, rfl, by decide +kernel, by decide +kernel⟩
abbrev n__law_first_rows : List Str := ["_law_case_here", "_law_rows_here", "_law_at", "_law_tongue_here", "_law_wants_here", "_law_book", "_law_head"]
theorem c__law_first_rows : FnScope n__law_first_rows ["_law_case_here", "_law_rows_here", "_law_at"] (defScope s__law_first_rows) := ⟨rfl, rfl, rfl, by decide +kernel, rfl, by decide +kernel, by decide +kernel⟩
abbrev n__law_told : List Str := ["_law_text", "_law_error", "_law_found", "e"]
theorem c__law_told : FnScope n__law_told ["_law_text"] (defScope s__law_told) := ⟨rfl, rfl, rfl, by decide +kernel, rfl, by decide +kernel, by decide +kernel⟩
abbrev n__law_asked : List Str := ["_law_pool_here", "_law_case_here", "_law_rows_here", "_law_way", "_law_at", "_law_row", "_law_rest"]
theorem c__law_asked : FnScope n__law_asked ["_law_pool_here", "_law_case_here", "_law_rows_here"] (defScope s__law_asked) := ⟨rfl, rfl, rfl, by decide +kernel, rfl, by decide +kernel, by decide +kernel⟩
abbrev n_law : List Str := ["_law_script", "_law_case_here", "_law_rows_here", "_law_k", "_law_text", "_law_due", "_law_found"]
theorem c_law : FnScope n_law ["_law_script"] (defScope s_law) := ⟨rfl, rfl, rfl, by decide +kernel, rfl, by decide +kernel, by decide +kernel⟩
structure Ads where
  DearError : Addr
  NoNumber : Addr
  NoBook : Addr
  NoTree : Addr
  TooMany : Addr
  NoCount : Addr
  NoUndo : Addr
  NoTurn : Addr
  NoRow : Addr
  Unknown : Addr
  NoTongue : Addr
  NoWants : Addr
  NoThing : Addr
  BadSign : Addr
  NoText : Addr
  CaseRows : Addr
/-- what the top has left -/
structure Txt (K : PySem.W.Frag) (mg : Str → Option Value) where
  A : Ads
  C_DearError : mg "DearError" = some (.ref A.DearError)
  C_NoNumber : mg "NoNumber" = some (.ref A.NoNumber)
  C_NoBook : mg "NoBook" = some (.ref A.NoBook)
  C_NoTree : mg "NoTree" = some (.ref A.NoTree)
  C_TooMany : mg "TooMany" = some (.ref A.TooMany)
  C_NoCount : mg "NoCount" = some (.ref A.NoCount)
  C_NoUndo : mg "NoUndo" = some (.ref A.NoUndo)
  C_NoTurn : mg "NoTurn" = some (.ref A.NoTurn)
  C_NoRow : mg "NoRow" = some (.ref A.NoRow)
  C_Unknown : mg "Unknown" = some (.ref A.Unknown)
  C_NoTongue : mg "NoTongue" = some (.ref A.NoTongue)
  C_NoWants : mg "NoWants" = some (.ref A.NoWants)
  C_NoThing : mg "NoThing" = some (.ref A.NoThing)
  C_BadSign : mg "BadSign" = some (.ref A.BadSign)
  C_NoText : mg "NoText" = some (.ref A.NoText)
  X_NoNumber : ExOwn K mg "NoNumber" A.NoNumber
  D_DearError : DrI K mg "DearError" A.DearError
  X_NoText : ExInit K mg "NoText" "row" A.NoText
  F_NoText : DfI K A.NoText "NoText.__init__" s_NoText___init__ "row"
  q_NoNumber_DearError : PySem.W.kitOne K (.ref A.NoNumber) (.ref A.DearError) = some true
  q_NoNumber_NoNumber : PySem.W.kitOne K (.ref A.NoNumber) (.ref A.NoNumber) = some true
  q_NoNumber_NoBook : PySem.W.kitOne K (.ref A.NoNumber) (.ref A.NoBook) = some false
  q_NoNumber_NoTree : PySem.W.kitOne K (.ref A.NoNumber) (.ref A.NoTree) = some false
  q_NoNumber_TooMany : PySem.W.kitOne K (.ref A.NoNumber) (.ref A.TooMany) = some false
  q_NoNumber_NoCount : PySem.W.kitOne K (.ref A.NoNumber) (.ref A.NoCount) = some false
  q_NoNumber_NoUndo : PySem.W.kitOne K (.ref A.NoNumber) (.ref A.NoUndo) = some false
  q_NoNumber_NoTurn : PySem.W.kitOne K (.ref A.NoNumber) (.ref A.NoTurn) = some false
  q_NoNumber_NoRow : PySem.W.kitOne K (.ref A.NoNumber) (.ref A.NoRow) = some false
  q_NoNumber_Unknown : PySem.W.kitOne K (.ref A.NoNumber) (.ref A.Unknown) = some false
  q_NoNumber_NoTongue : PySem.W.kitOne K (.ref A.NoNumber) (.ref A.NoTongue) = some false
  q_NoNumber_NoWants : PySem.W.kitOne K (.ref A.NoNumber) (.ref A.NoWants) = some false
  q_NoNumber_NoThing : PySem.W.kitOne K (.ref A.NoNumber) (.ref A.NoThing) = some false
  q_NoNumber_BadSign : PySem.W.kitOne K (.ref A.NoNumber) (.ref A.BadSign) = some false
  q_NoNumber_NoText : PySem.W.kitOne K (.ref A.NoNumber) (.ref A.NoText) = some false
  q_NoNumber_ValueError : PySem.W.kitOne K (.ref A.NoNumber) (.type "ValueError") = some true
  m_NoNumber : PySem.W.exmOne K (.ref A.NoNumber) (.ref A.DearError) = some true
  q_NoText_DearError : PySem.W.kitOne K (.ref A.NoText) (.ref A.DearError) = some true
  q_NoText_NoNumber : PySem.W.kitOne K (.ref A.NoText) (.ref A.NoNumber) = some false
  q_NoText_NoBook : PySem.W.kitOne K (.ref A.NoText) (.ref A.NoBook) = some false
  q_NoText_NoTree : PySem.W.kitOne K (.ref A.NoText) (.ref A.NoTree) = some false
  q_NoText_TooMany : PySem.W.kitOne K (.ref A.NoText) (.ref A.TooMany) = some false
  q_NoText_NoCount : PySem.W.kitOne K (.ref A.NoText) (.ref A.NoCount) = some false
  q_NoText_NoUndo : PySem.W.kitOne K (.ref A.NoText) (.ref A.NoUndo) = some false
  q_NoText_NoTurn : PySem.W.kitOne K (.ref A.NoText) (.ref A.NoTurn) = some false
  q_NoText_NoRow : PySem.W.kitOne K (.ref A.NoText) (.ref A.NoRow) = some false
  q_NoText_Unknown : PySem.W.kitOne K (.ref A.NoText) (.ref A.Unknown) = some false
  q_NoText_NoTongue : PySem.W.kitOne K (.ref A.NoText) (.ref A.NoTongue) = some false
  q_NoText_NoWants : PySem.W.kitOne K (.ref A.NoText) (.ref A.NoWants) = some false
  q_NoText_NoThing : PySem.W.kitOne K (.ref A.NoText) (.ref A.NoThing) = some false
  q_NoText_BadSign : PySem.W.kitOne K (.ref A.NoText) (.ref A.BadSign) = some false
  q_NoText_NoText : PySem.W.kitOne K (.ref A.NoText) (.ref A.NoText) = some true
  q_NoText_ValueError : PySem.W.kitOne K (.ref A.NoText) (.type "ValueError") = some true
  m_NoText : PySem.W.exmOne K (.ref A.NoText) (.ref A.DearError) = some true
  K_CaseRows : Cls K A.CaseRows
  N_CaseRows_signs : NoAttr K A.CaseRows "signs"
  N_CaseRows_letters : NoAttr K A.CaseRows "letters"
  N_CaseRows_firsts : NoAttr K A.CaseRows "firsts"
  N_CaseRows_pairs : NoAttr K A.CaseRows "pairs"
  N_CaseRows_longest : NoAttr K A.CaseRows "longest"
  N_CaseRows_wants : NoAttr K A.CaseRows "wants"
  N_CaseRows_words : NoAttr K A.CaseRows "words"
  I_CaseRows : DfC K mg "CaseRows" A.CaseRows "CaseRows.__init__" s_CaseRows___init__ ["self"]
  M_CaseRows_takes_sign : DfM K A.CaseRows "takes_sign" "CaseRows.takes_sign" s_CaseRows_takes_sign ["self", "parts"]
  M_CaseRows_is_open : DfM K A.CaseRows "is_open" "CaseRows.is_open" s_CaseRows_is_open ["self", "parts", "many"]
  M_CaseRows_takes_first : DfM K A.CaseRows "takes_first" "CaseRows.takes_first" s_CaseRows_takes_first ["self", "parts"]
  M_CaseRows_takes_pair : DfM K A.CaseRows "takes_pair" "CaseRows.takes_pair" s_CaseRows_takes_pair ["self", "parts"]
  M_CaseRows_takes_longest : DfM K A.CaseRows "takes_longest" "CaseRows.takes_longest" s_CaseRows_takes_longest ["self", "parts"]
  M_CaseRows_takes_thing : DfM K A.CaseRows "takes_thing" "CaseRows.takes_thing" s_CaseRows_takes_thing ["self", "parts"]
  M_CaseRows_takes_word : DfM K A.CaseRows "takes_word" "CaseRows.takes_word" s_CaseRows_takes_word ["self", "parts"]
  M_CaseRows_takes : DfM K A.CaseRows "takes" "CaseRows.takes" s_CaseRows_takes ["self", "row"]
  M_CaseRows_lacks : DfM K A.CaseRows "lacks" "CaseRows.lacks" s_CaseRows_lacks ["self"]
  M_CaseRows_made : DfM K A.CaseRows "made" "CaseRows.made" s_CaseRows_made ["self"]
  f_is_whole : Df K mg "is_whole" s_is_whole ["thing"]
  f_is_name : Df K mg "is_name" s_is_name ["thing"]
  f_divisor : Df K mg "divisor" s_divisor ["one", "other"]
  f_lowest : Df K mg "lowest" s_lowest ["top", "bottom"]
  f_fraction : DfD K mg "fraction" s_fraction ["top", "bottom"] [.int 1]
  f_whole_in : Df K mg "whole_in" s_whole_in ["word", "most"]
  f_fraction_in : Df K mg "fraction_in" s_fraction_in ["word", "most"]
  f_price_in : Df K mg "price_in" s_price_in ["word"]
  f_read_case : Df K mg "read_case" s_read_case ["text"]
  f__law_pool : Df K mg "_law_pool" s__law_pool ["_law_script", "_law_k"]
  f__law_take : Df K mg "_law_take" s__law_take ["_law_pool_here", "_law_many"]
  f__law_low : Df K mg "_law_low" s__law_low ["_law_top", "_law_bottom"]
  f__law_price : Df K mg "_law_price" s__law_price ["_law_pool_here"]
  f__law_tongue : Df K mg "_law_tongue" s__law_tongue ["_law_pool_here", "_law_most_signs", "_law_most_long"]
  f__law_name : Df K mg "_law_name" s__law_name ["_law_k", "_law_salt"]
  f__law_wants : Df K mg "_law_wants" s__law_wants ["_law_pool_here", "_law_many"]
  f__law_texts : Df K mg "_law_texts" s__law_texts ["_law_pool_here", "_law_many"]
  f__law_case : Df K mg "_law_case" s__law_case ["_law_script", "_law_most_things"]
  f__law_fraction : Df K mg "_law_fraction" s__law_fraction ["_law_one"]
  f__law_rows : Df K mg "_law_rows" s__law_rows ["_law_case_here"]
  f__law_same : Df K mg "_law_same" s__law_same ["_law_found", "_law_due"]
  f__law_never : Df K mg "_law_never" s__law_never ["_law_pool_here"]
  f__law_fresh : Df K mg "_law_fresh" s__law_fresh ["_law_case_here"]
  f__law_told_again : Df K mg "_law_told_again" s__law_told_again ["_law_pool_here", "_law_case_here", "_law_rows_here", "_law_at"]
  f__law_barred : Df K mg "_law_barred" s__law_barred ["_law_pool_here", "_law_case_here", "_law_rows_here"]
  f__law_first_rows : Df K mg "_law_first_rows" s__law_first_rows ["_law_case_here", "_law_rows_here", "_law_at"]
  f__law_told : Df K mg "_law_told" s__law_told ["_law_text"]
  f__law_asked : Df K mg "_law_asked" s__law_asked ["_law_pool_here", "_law_case_here", "_law_rows_here"]
  f_law : Df K mg "law" s_law ["_law_script"]
  g_LETTERS_numbers : ∃ t, mg "LETTERS_numbers" = some (.str "abcdefghijklmnopqrstuvwxyz" t)
  g_LONGEST : ∃ t, mg "LONGEST" = some (.int 8 t)
  g_FIGURES : ∃ t, mg "FIGURES" = some (.str "0123456789" t)
  g_LETTERS_casereader : ∃ t, mg "LETTERS_casereader" = some (.str "abcdefghijklmnopqrstuvwxyz" t)
  g_PRICE_FIGURES : ∃ t, mg "PRICE_FIGURES" = some (.int 9 t)
  g_COUNT_FIGURES : ∃ t, mg "COUNT_FIGURES" = some (.int 10 t)
  g_FEWEST_SIGNS : ∃ t, mg "FEWEST_SIGNS" = some (.int 2 t)
  g_MOST_SIGNS : ∃ t, mg "MOST_SIGNS" = some (.int 6 t)
  g_GREATEST_LONGEST : ∃ t, mg "GREATEST_LONGEST" = some (.int 8 t)
  g_MOST_THINGS : ∃ t, mg "MOST_THINGS" = some (.int 20 t)
  g_GREATEST_COUNT : ∃ t, mg "GREATEST_COUNT" = some (.int 1000000000 t)
  b_ValueError : mg "ValueError" = none
  b_abs : mg "abs" = none
  b_all : mg "all" = none
  b_bool : mg "bool" = none
  b_enumerate : mg "enumerate" = none
  b_int : mg "int" = none
  b_isinstance : mg "isinstance" = none
  b_len : mg "len" = none
  b_list : mg "list" = none
  b_max : mg "max" = none
  b_min : mg "min" = none
  b_range : mg "range" = none
  b_str : mg "str" = none
  b_tuple : mg "tuple" = none
def txt_mk {K : PySem.W.Frag} {h : Heap} {mg : Str → Option Value} (X : K.In h) (G : h.Ns mainGlobals mg)
    {C_DearError : Addr} {C_NoNumber : Addr} {C_NoBook : Addr} {C_NoTree : Addr} {C_TooMany : Addr} {C_NoCount : Addr} {C_NoUndo : Addr} {C_NoTurn : Addr} {C_NoRow : Addr} {C_Unknown : Addr} {C_NoTongue : Addr} {C_NoWants : Addr} {C_NoThing : Addr} {C_BadSign : Addr} {C_NoText : Addr} {C_CaseRows : Addr} 
    {nm_NoText qn_NoText : Str} {N_NoText I_NoText : Addr} {bs_NoText sb_NoText : List Value} {sn_NoText : List Str} {ab_NoText : Bool} {col_NoText : Option Bool} {dd_NoText odI_NoText anI_NoText : Option Addr} {m0_NoText m1_NoText m2_NoText m3_NoText m5_NoText : Option Value} {slI_NoText : Array (Option Value)} {ocI_NoText kVI_NoText dcI_NoText pmI_NoText cdI_NoText ctI_NoText : Value}
    {F_CaseRows___init__ : Addr} {od_CaseRows___init__ an_CaseRows___init__ : Option Addr} {sl_CaseRows___init__ : Array (Option Value)} {oc_CaseRows___init__ kV_CaseRows___init__ dc_CaseRows___init__ pm_CaseRows___init__ cd_CaseRows___init__ ct_CaseRows___init__ : Value}
    {F_CaseRows_takes_sign : Addr} {od_CaseRows_takes_sign an_CaseRows_takes_sign : Option Addr} {sl_CaseRows_takes_sign : Array (Option Value)} {oc_CaseRows_takes_sign kV_CaseRows_takes_sign dc_CaseRows_takes_sign pm_CaseRows_takes_sign cd_CaseRows_takes_sign ct_CaseRows_takes_sign : Value}
    {F_CaseRows_is_open : Addr} {od_CaseRows_is_open an_CaseRows_is_open : Option Addr} {sl_CaseRows_is_open : Array (Option Value)} {oc_CaseRows_is_open kV_CaseRows_is_open dc_CaseRows_is_open pm_CaseRows_is_open cd_CaseRows_is_open ct_CaseRows_is_open : Value}
    {F_CaseRows_takes_first : Addr} {od_CaseRows_takes_first an_CaseRows_takes_first : Option Addr} {sl_CaseRows_takes_first : Array (Option Value)} {oc_CaseRows_takes_first kV_CaseRows_takes_first dc_CaseRows_takes_first pm_CaseRows_takes_first cd_CaseRows_takes_first ct_CaseRows_takes_first : Value}
    {F_CaseRows_takes_pair : Addr} {od_CaseRows_takes_pair an_CaseRows_takes_pair : Option Addr} {sl_CaseRows_takes_pair : Array (Option Value)} {oc_CaseRows_takes_pair kV_CaseRows_takes_pair dc_CaseRows_takes_pair pm_CaseRows_takes_pair cd_CaseRows_takes_pair ct_CaseRows_takes_pair : Value}
    {F_CaseRows_takes_longest : Addr} {od_CaseRows_takes_longest an_CaseRows_takes_longest : Option Addr} {sl_CaseRows_takes_longest : Array (Option Value)} {oc_CaseRows_takes_longest kV_CaseRows_takes_longest dc_CaseRows_takes_longest pm_CaseRows_takes_longest cd_CaseRows_takes_longest ct_CaseRows_takes_longest : Value}
    {F_CaseRows_takes_thing : Addr} {od_CaseRows_takes_thing an_CaseRows_takes_thing : Option Addr} {sl_CaseRows_takes_thing : Array (Option Value)} {oc_CaseRows_takes_thing kV_CaseRows_takes_thing dc_CaseRows_takes_thing pm_CaseRows_takes_thing cd_CaseRows_takes_thing ct_CaseRows_takes_thing : Value}
    {F_CaseRows_takes_word : Addr} {od_CaseRows_takes_word an_CaseRows_takes_word : Option Addr} {sl_CaseRows_takes_word : Array (Option Value)} {oc_CaseRows_takes_word kV_CaseRows_takes_word dc_CaseRows_takes_word pm_CaseRows_takes_word cd_CaseRows_takes_word ct_CaseRows_takes_word : Value}
    {F_CaseRows_takes : Addr} {od_CaseRows_takes an_CaseRows_takes : Option Addr} {sl_CaseRows_takes : Array (Option Value)} {oc_CaseRows_takes kV_CaseRows_takes dc_CaseRows_takes pm_CaseRows_takes cd_CaseRows_takes ct_CaseRows_takes : Value}
    {F_CaseRows_lacks : Addr} {od_CaseRows_lacks an_CaseRows_lacks : Option Addr} {sl_CaseRows_lacks : Array (Option Value)} {oc_CaseRows_lacks kV_CaseRows_lacks dc_CaseRows_lacks pm_CaseRows_lacks cd_CaseRows_lacks ct_CaseRows_lacks : Value}
    {F_CaseRows_made : Addr} {od_CaseRows_made an_CaseRows_made : Option Addr} {sl_CaseRows_made : Array (Option Value)} {oc_CaseRows_made kV_CaseRows_made dc_CaseRows_made pm_CaseRows_made cd_CaseRows_made ct_CaseRows_made : Value}
    {f1 : Addr} {od1 an1 : Option Addr} {sl1 : Array (Option Value)} {oc1 kV1 dc1 pm1 cd1 ct1 : Value}
    {f2 : Addr} {od2 an2 : Option Addr} {sl2 : Array (Option Value)} {oc2 kV2 dc2 pm2 cd2 ct2 : Value}
    {f3 : Addr} {od3 an3 : Option Addr} {sl3 : Array (Option Value)} {oc3 kV3 dc3 pm3 cd3 ct3 : Value}
    {f4 : Addr} {od4 an4 : Option Addr} {sl4 : Array (Option Value)} {oc4 kV4 dc4 pm4 cd4 ct4 : Value}
    {f5 T5 : Addr} {od5 an5 oD5 : Option Addr} {sl5 sD5 : Array (Option Value)} {oc5 kV5 dc5 pm5 cd5 ct5 oC5 : Value} {n5 : Nat} {u5_0 : Tok}
    {f6 : Addr} {od6 an6 : Option Addr} {sl6 : Array (Option Value)} {oc6 kV6 dc6 pm6 cd6 ct6 : Value}
    {f7 : Addr} {od7 an7 : Option Addr} {sl7 : Array (Option Value)} {oc7 kV7 dc7 pm7 cd7 ct7 : Value}
    {f8 : Addr} {od8 an8 : Option Addr} {sl8 : Array (Option Value)} {oc8 kV8 dc8 pm8 cd8 ct8 : Value}
    {f9 : Addr} {od9 an9 : Option Addr} {sl9 : Array (Option Value)} {oc9 kV9 dc9 pm9 cd9 ct9 : Value}
    {f10 : Addr} {od10 an10 : Option Addr} {sl10 : Array (Option Value)} {oc10 kV10 dc10 pm10 cd10 ct10 : Value}
    {f11 : Addr} {od11 an11 : Option Addr} {sl11 : Array (Option Value)} {oc11 kV11 dc11 pm11 cd11 ct11 : Value}
    {f12 : Addr} {od12 an12 : Option Addr} {sl12 : Array (Option Value)} {oc12 kV12 dc12 pm12 cd12 ct12 : Value}
    {f13 : Addr} {od13 an13 : Option Addr} {sl13 : Array (Option Value)} {oc13 kV13 dc13 pm13 cd13 ct13 : Value}
    {f14 : Addr} {od14 an14 : Option Addr} {sl14 : Array (Option Value)} {oc14 kV14 dc14 pm14 cd14 ct14 : Value}
    {f15 : Addr} {od15 an15 : Option Addr} {sl15 : Array (Option Value)} {oc15 kV15 dc15 pm15 cd15 ct15 : Value}
    {f16 : Addr} {od16 an16 : Option Addr} {sl16 : Array (Option Value)} {oc16 kV16 dc16 pm16 cd16 ct16 : Value}
    {f17 : Addr} {od17 an17 : Option Addr} {sl17 : Array (Option Value)} {oc17 kV17 dc17 pm17 cd17 ct17 : Value}
    {f18 : Addr} {od18 an18 : Option Addr} {sl18 : Array (Option Value)} {oc18 kV18 dc18 pm18 cd18 ct18 : Value}
    {f19 : Addr} {od19 an19 : Option Addr} {sl19 : Array (Option Value)} {oc19 kV19 dc19 pm19 cd19 ct19 : Value}
    {f20 : Addr} {od20 an20 : Option Addr} {sl20 : Array (Option Value)} {oc20 kV20 dc20 pm20 cd20 ct20 : Value}
    {f21 : Addr} {od21 an21 : Option Addr} {sl21 : Array (Option Value)} {oc21 kV21 dc21 pm21 cd21 ct21 : Value}
    {f22 : Addr} {od22 an22 : Option Addr} {sl22 : Array (Option Value)} {oc22 kV22 dc22 pm22 cd22 ct22 : Value}
    {f23 : Addr} {od23 an23 : Option Addr} {sl23 : Array (Option Value)} {oc23 kV23 dc23 pm23 cd23 ct23 : Value}
    {f24 : Addr} {od24 an24 : Option Addr} {sl24 : Array (Option Value)} {oc24 kV24 dc24 pm24 cd24 ct24 : Value}
    {f25 : Addr} {od25 an25 : Option Addr} {sl25 : Array (Option Value)} {oc25 kV25 dc25 pm25 cd25 ct25 : Value}
    {f26 : Addr} {od26 an26 : Option Addr} {sl26 : Array (Option Value)} {oc26 kV26 dc26 pm26 cd26 ct26 : Value}
    {f27 : Addr} {od27 an27 : Option Addr} {sl27 : Array (Option Value)} {oc27 kV27 dc27 pm27 cd27 ct27 : Value}
    {f28 : Addr} {od28 an28 : Option Addr} {sl28 : Array (Option Value)} {oc28 kV28 dc28 pm28 cd28 ct28 : Value}
    {f29 : Addr} {od29 an29 : Option Addr} {sl29 : Array (Option Value)} {oc29 kV29 dc29 pm29 cd29 ct29 : Value}
    {t30 : Tok}
    {t31 : Tok}
    {t32 : Tok}
    {t33 : Tok}
    {t34 : Tok}
    {t35 : Tok}
    {t36 : Tok}
    {t37 : Tok}
    {t38 : Tok}
    {t39 : Tok}
    {t40 : Tok}
    (g_DearError : PySem.W.nsIn K mainGlobals "DearError" = some (some (.ref C_DearError)))
    (i_DearError : PySem.W.isClsIn K C_DearError = true) (t_DearError : PySem.W.typeIn K (.ref C_DearError) = some (.type "type"))
    (g_NoNumber : PySem.W.nsIn K mainGlobals "NoNumber" = some (some (.ref C_NoNumber)))
    (i_NoNumber : PySem.W.isClsIn K C_NoNumber = true) (t_NoNumber : PySem.W.typeIn K (.ref C_NoNumber) = some (.type "type"))
    (g_NoBook : PySem.W.nsIn K mainGlobals "NoBook" = some (some (.ref C_NoBook)))
    (i_NoBook : PySem.W.isClsIn K C_NoBook = true) (t_NoBook : PySem.W.typeIn K (.ref C_NoBook) = some (.type "type"))
    (g_NoTree : PySem.W.nsIn K mainGlobals "NoTree" = some (some (.ref C_NoTree)))
    (i_NoTree : PySem.W.isClsIn K C_NoTree = true) (t_NoTree : PySem.W.typeIn K (.ref C_NoTree) = some (.type "type"))
    (g_TooMany : PySem.W.nsIn K mainGlobals "TooMany" = some (some (.ref C_TooMany)))
    (i_TooMany : PySem.W.isClsIn K C_TooMany = true) (t_TooMany : PySem.W.typeIn K (.ref C_TooMany) = some (.type "type"))
    (g_NoCount : PySem.W.nsIn K mainGlobals "NoCount" = some (some (.ref C_NoCount)))
    (i_NoCount : PySem.W.isClsIn K C_NoCount = true) (t_NoCount : PySem.W.typeIn K (.ref C_NoCount) = some (.type "type"))
    (g_NoUndo : PySem.W.nsIn K mainGlobals "NoUndo" = some (some (.ref C_NoUndo)))
    (i_NoUndo : PySem.W.isClsIn K C_NoUndo = true) (t_NoUndo : PySem.W.typeIn K (.ref C_NoUndo) = some (.type "type"))
    (g_NoTurn : PySem.W.nsIn K mainGlobals "NoTurn" = some (some (.ref C_NoTurn)))
    (i_NoTurn : PySem.W.isClsIn K C_NoTurn = true) (t_NoTurn : PySem.W.typeIn K (.ref C_NoTurn) = some (.type "type"))
    (g_NoRow : PySem.W.nsIn K mainGlobals "NoRow" = some (some (.ref C_NoRow)))
    (i_NoRow : PySem.W.isClsIn K C_NoRow = true) (t_NoRow : PySem.W.typeIn K (.ref C_NoRow) = some (.type "type"))
    (g_Unknown : PySem.W.nsIn K mainGlobals "Unknown" = some (some (.ref C_Unknown)))
    (i_Unknown : PySem.W.isClsIn K C_Unknown = true) (t_Unknown : PySem.W.typeIn K (.ref C_Unknown) = some (.type "type"))
    (g_NoTongue : PySem.W.nsIn K mainGlobals "NoTongue" = some (some (.ref C_NoTongue)))
    (i_NoTongue : PySem.W.isClsIn K C_NoTongue = true) (t_NoTongue : PySem.W.typeIn K (.ref C_NoTongue) = some (.type "type"))
    (g_NoWants : PySem.W.nsIn K mainGlobals "NoWants" = some (some (.ref C_NoWants)))
    (i_NoWants : PySem.W.isClsIn K C_NoWants = true) (t_NoWants : PySem.W.typeIn K (.ref C_NoWants) = some (.type "type"))
    (g_NoThing : PySem.W.nsIn K mainGlobals "NoThing" = some (some (.ref C_NoThing)))
    (i_NoThing : PySem.W.isClsIn K C_NoThing = true) (t_NoThing : PySem.W.typeIn K (.ref C_NoThing) = some (.type "type"))
    (g_BadSign : PySem.W.nsIn K mainGlobals "BadSign" = some (some (.ref C_BadSign)))
    (i_BadSign : PySem.W.isClsIn K C_BadSign = true) (t_BadSign : PySem.W.typeIn K (.ref C_BadSign) = some (.type "type"))
    (g_NoText : PySem.W.nsIn K mainGlobals "NoText" = some (some (.ref C_NoText)))
    (i_NoText : PySem.W.isClsIn K C_NoText = true) (t_NoText : PySem.W.typeIn K (.ref C_NoText) = some (.type "type"))
    (b_DearError : PySem.W.subIn K (.ref C_DearError) (.type "BaseException") = some true)
    (x1_NoNumber : PySem.W.excIn K C_NoNumber [.type "ValueError", .type "Exception", .type "BaseException", .type "object"] "ValueError.__new__" = true)
    (x2_NoNumber : PySem.W.keepIn K (.ref C_NoNumber) = true)
    (x3_NoNumber : PySem.W.subIn K (.ref C_NoNumber) (.type "BaseException") = some true)
    (x4_NoNumber : PySem.W.typeIn K (.ref C_NoNumber) = some (.type "type"))
    (x5_NoNumber : PySem.W.findIn K (.ref C_NoNumber) "__getattribute__" = some (some (.builtin "BaseException.__getattribute__")))
    (x6_NoNumber : PySem.W.findIn K (.ref C_NoNumber) "__getattr__" = some none)
    (x7_NoNumber : PySem.W.hasDictIn K C_NoNumber = true)
    (x8_NoNumber : PySem.W.findIn K (.ref C_NoNumber) "__class__" = some (some (.builtin "object.__class__")))
    (x9_NoNumber : PySem.W.specialIn K (.builtin "object.__class__") "__get__" = some (some (.builtin "getset_descriptor.__get__")))
    (x10_NoNumber : PySem.W.takesIn K (.builtin "object.__class__") = some true)
    (x11_NoNumber : PySem.W.mroIn K C_NoNumber (.type "object") = some true)
    (d1 : PySem.W.specialIn K (.ref C_DearError) "__getattribute__" = some (some (.builtin "type.__getattribute__")))
    (d2 : PySem.W.readsIn K C_DearError (.type "type") = true)
    (d3 : PySem.W.findCls K (.ref C_DearError) (.type "type") "__init__" = some (.val (.builtin "ValueError.__init__")))
    (xl_NoText : K.lookup C_NoText = some (excClassObj nm_NoText qn_NoText C_NoText N_NoText bs_NoText [.ref C_DearError, .type "ValueError", .type "Exception", .type "BaseException", .type "object"] true sn_NoText sb_NoText ab_NoText col_NoText dd_NoText m0_NoText m1_NoText m2_NoText m3_NoText m5_NoText "ValueError.__new__"))
    (sa_NoText : PySem.W.findIn K (.ref C_NoText) "__setattr__" = some (some (.builtin "object.__setattr__")))
    (x2_NoText : PySem.W.keepIn K (.ref C_NoText) = true)
    (x3_NoText : PySem.W.subIn K (.ref C_NoText) (.type "BaseException") = some true)
    (x4_NoText : PySem.W.typeIn K (.ref C_NoText) = some (.type "type"))
    (x5_NoText : PySem.W.findIn K (.ref C_NoText) "__getattribute__" = some (some (.builtin "BaseException.__getattribute__")))
    (x6_NoText : PySem.W.findIn K (.ref C_NoText) "__getattr__" = some none)
    (x7_NoText : PySem.W.hasDictIn K C_NoText = true)
    (x8_NoText : PySem.W.findIn K (.ref C_NoText) "__class__" = some (some (.builtin "object.__class__")))
    (x9_NoText : PySem.W.specialIn K (.builtin "object.__class__") "__get__" = some (some (.builtin "getset_descriptor.__get__")))
    (x10_NoText : PySem.W.takesIn K (.builtin "object.__class__") = some true)
    (x11_NoText : PySem.W.mroIn K C_NoText (.type "object") = some true)
    (fn_NoText : PySem.W.findIn K (.ref C_NoText) "row" = some none)
    (i1_NoText : PySem.W.findIn K (.ref C_NoText) "__init__" = some (some (.ref I_NoText)))
    (i2_NoText : PySem.W.typeIn K (.ref I_NoText) = some (.type "function"))
    (i3_NoText : K.lookup I_NoText = some ⟨ocI_NoText, odI_NoText, .func (PySem.W.fnOf "__init__" "NoText.__init__" (defArgs s_NoText___init__) (defBody s_NoText___init__) (defScope s_NoText___init__) .none kVI_NoText dcI_NoText pmI_NoText anI_NoText cdI_NoText ctI_NoText), slI_NoText⟩)
    (i4_NoText : PySem.W.codeIn K cdI_NoText "NoText.__init__" = true)
    (i5_NoText : PySem.W.keepIn K (.ref I_NoText) = true)
    (q_NoNumber_DearError : PySem.W.subIn K (.ref C_NoNumber) (.ref C_DearError) = some true)
    (n_NoNumber_DearError : (Value.ref C_NoNumber == Value.ref C_DearError) = false)
    (q_NoNumber_NoNumber : PySem.W.subIn K (.ref C_NoNumber) (.ref C_NoNumber) = some true)
    (q_NoNumber_NoBook : PySem.W.subIn K (.ref C_NoNumber) (.ref C_NoBook) = some false)
    (n_NoNumber_NoBook : (Value.ref C_NoNumber == Value.ref C_NoBook) = false)
    (q_NoNumber_NoTree : PySem.W.subIn K (.ref C_NoNumber) (.ref C_NoTree) = some false)
    (n_NoNumber_NoTree : (Value.ref C_NoNumber == Value.ref C_NoTree) = false)
    (q_NoNumber_TooMany : PySem.W.subIn K (.ref C_NoNumber) (.ref C_TooMany) = some false)
    (n_NoNumber_TooMany : (Value.ref C_NoNumber == Value.ref C_TooMany) = false)
    (q_NoNumber_NoCount : PySem.W.subIn K (.ref C_NoNumber) (.ref C_NoCount) = some false)
    (n_NoNumber_NoCount : (Value.ref C_NoNumber == Value.ref C_NoCount) = false)
    (q_NoNumber_NoUndo : PySem.W.subIn K (.ref C_NoNumber) (.ref C_NoUndo) = some false)
    (n_NoNumber_NoUndo : (Value.ref C_NoNumber == Value.ref C_NoUndo) = false)
    (q_NoNumber_NoTurn : PySem.W.subIn K (.ref C_NoNumber) (.ref C_NoTurn) = some false)
    (n_NoNumber_NoTurn : (Value.ref C_NoNumber == Value.ref C_NoTurn) = false)
    (q_NoNumber_NoRow : PySem.W.subIn K (.ref C_NoNumber) (.ref C_NoRow) = some false)
    (n_NoNumber_NoRow : (Value.ref C_NoNumber == Value.ref C_NoRow) = false)
    (q_NoNumber_Unknown : PySem.W.subIn K (.ref C_NoNumber) (.ref C_Unknown) = some false)
    (n_NoNumber_Unknown : (Value.ref C_NoNumber == Value.ref C_Unknown) = false)
    (q_NoNumber_NoTongue : PySem.W.subIn K (.ref C_NoNumber) (.ref C_NoTongue) = some false)
    (n_NoNumber_NoTongue : (Value.ref C_NoNumber == Value.ref C_NoTongue) = false)
    (q_NoNumber_NoWants : PySem.W.subIn K (.ref C_NoNumber) (.ref C_NoWants) = some false)
    (n_NoNumber_NoWants : (Value.ref C_NoNumber == Value.ref C_NoWants) = false)
    (q_NoNumber_NoThing : PySem.W.subIn K (.ref C_NoNumber) (.ref C_NoThing) = some false)
    (n_NoNumber_NoThing : (Value.ref C_NoNumber == Value.ref C_NoThing) = false)
    (q_NoNumber_BadSign : PySem.W.subIn K (.ref C_NoNumber) (.ref C_BadSign) = some false)
    (n_NoNumber_BadSign : (Value.ref C_NoNumber == Value.ref C_BadSign) = false)
    (q_NoNumber_NoText : PySem.W.subIn K (.ref C_NoNumber) (.ref C_NoText) = some false)
    (n_NoNumber_NoText : (Value.ref C_NoNumber == Value.ref C_NoText) = false)
    (q_NoNumber_ValueError : PySem.W.subIn K (.ref C_NoNumber) (.type "ValueError") = some true)
    (q_NoText_DearError : PySem.W.subIn K (.ref C_NoText) (.ref C_DearError) = some true)
    (n_NoText_DearError : (Value.ref C_NoText == Value.ref C_DearError) = false)
    (q_NoText_NoNumber : PySem.W.subIn K (.ref C_NoText) (.ref C_NoNumber) = some false)
    (n_NoText_NoNumber : (Value.ref C_NoText == Value.ref C_NoNumber) = false)
    (q_NoText_NoBook : PySem.W.subIn K (.ref C_NoText) (.ref C_NoBook) = some false)
    (n_NoText_NoBook : (Value.ref C_NoText == Value.ref C_NoBook) = false)
    (q_NoText_NoTree : PySem.W.subIn K (.ref C_NoText) (.ref C_NoTree) = some false)
    (n_NoText_NoTree : (Value.ref C_NoText == Value.ref C_NoTree) = false)
    (q_NoText_TooMany : PySem.W.subIn K (.ref C_NoText) (.ref C_TooMany) = some false)
    (n_NoText_TooMany : (Value.ref C_NoText == Value.ref C_TooMany) = false)
    (q_NoText_NoCount : PySem.W.subIn K (.ref C_NoText) (.ref C_NoCount) = some false)
    (n_NoText_NoCount : (Value.ref C_NoText == Value.ref C_NoCount) = false)
    (q_NoText_NoUndo : PySem.W.subIn K (.ref C_NoText) (.ref C_NoUndo) = some false)
    (n_NoText_NoUndo : (Value.ref C_NoText == Value.ref C_NoUndo) = false)
    (q_NoText_NoTurn : PySem.W.subIn K (.ref C_NoText) (.ref C_NoTurn) = some false)
    (n_NoText_NoTurn : (Value.ref C_NoText == Value.ref C_NoTurn) = false)
    (q_NoText_NoRow : PySem.W.subIn K (.ref C_NoText) (.ref C_NoRow) = some false)
    (n_NoText_NoRow : (Value.ref C_NoText == Value.ref C_NoRow) = false)
    (q_NoText_Unknown : PySem.W.subIn K (.ref C_NoText) (.ref C_Unknown) = some false)
    (n_NoText_Unknown : (Value.ref C_NoText == Value.ref C_Unknown) = false)
    (q_NoText_NoTongue : PySem.W.subIn K (.ref C_NoText) (.ref C_NoTongue) = some false)
    (n_NoText_NoTongue : (Value.ref C_NoText == Value.ref C_NoTongue) = false)
    (q_NoText_NoWants : PySem.W.subIn K (.ref C_NoText) (.ref C_NoWants) = some false)
    (n_NoText_NoWants : (Value.ref C_NoText == Value.ref C_NoWants) = false)
    (q_NoText_NoThing : PySem.W.subIn K (.ref C_NoText) (.ref C_NoThing) = some false)
    (n_NoText_NoThing : (Value.ref C_NoText == Value.ref C_NoThing) = false)
    (q_NoText_BadSign : PySem.W.subIn K (.ref C_NoText) (.ref C_BadSign) = some false)
    (n_NoText_BadSign : (Value.ref C_NoText == Value.ref C_BadSign) = false)
    (q_NoText_NoText : PySem.W.subIn K (.ref C_NoText) (.ref C_NoText) = some true)
    (q_NoText_ValueError : PySem.W.subIn K (.ref C_NoText) (.type "ValueError") = some true)
    (g_CaseRows : PySem.W.nsIn K mainGlobals "CaseRows" = some (some (.ref C_CaseRows)))
    (pg_CaseRows : PySem.W.plainGet K C_CaseRows Str.empty = true)
    (hd_CaseRows : PySem.W.hasDictIn K C_CaseRows = true)
    (po_CaseRows : PySem.W.plainOver K C_CaseRows = true)
    (sa_CaseRows : PySem.W.findIn K (.ref C_CaseRows) "__setattr__" = some (some (.builtin "object.__setattr__")))
    (mk_CaseRows : PySem.W.makesIn K C_CaseRows = true)
    (kc_CaseRows : PySem.W.keepIn K (.ref C_CaseRows) = true)
    (na_CaseRows_signs : PySem.W.findIn K (.ref C_CaseRows) "signs" = some none)
    (na_CaseRows_letters : PySem.W.findIn K (.ref C_CaseRows) "letters" = some none)
    (na_CaseRows_firsts : PySem.W.findIn K (.ref C_CaseRows) "firsts" = some none)
    (na_CaseRows_pairs : PySem.W.findIn K (.ref C_CaseRows) "pairs" = some none)
    (na_CaseRows_longest : PySem.W.findIn K (.ref C_CaseRows) "longest" = some none)
    (na_CaseRows_wants : PySem.W.findIn K (.ref C_CaseRows) "wants" = some none)
    (na_CaseRows_words : PySem.W.findIn K (.ref C_CaseRows) "words" = some none)
    (ma_CaseRows___init__ : PySem.W.findIn K (.ref C_CaseRows) "__init__" = some (some (.ref F_CaseRows___init__)))
    (mi_CaseRows___init__ : PySem.W.isFn K (.ref F_CaseRows___init__) = true)
    (ml_CaseRows___init__ : K.lookup F_CaseRows___init__ = some ⟨oc_CaseRows___init__, od_CaseRows___init__, .func (PySem.W.fnOf "__init__" "CaseRows.__init__" (defArgs s_CaseRows___init__) (defBody s_CaseRows___init__) (defScope s_CaseRows___init__) .none kV_CaseRows___init__ dc_CaseRows___init__ pm_CaseRows___init__ an_CaseRows___init__ cd_CaseRows___init__ ct_CaseRows___init__), sl_CaseRows___init__⟩)
    (mc_CaseRows___init__ : PySem.W.codeIn K cd_CaseRows___init__ "CaseRows.__init__" = true)
    (me_CaseRows___init__ : PySem.W.keepIn K (.ref F_CaseRows___init__) = true)
    (ma_CaseRows_takes_sign : PySem.W.findIn K (.ref C_CaseRows) "takes_sign" = some (some (.ref F_CaseRows_takes_sign)))
    (mi_CaseRows_takes_sign : PySem.W.isFn K (.ref F_CaseRows_takes_sign) = true)
    (ml_CaseRows_takes_sign : K.lookup F_CaseRows_takes_sign = some ⟨oc_CaseRows_takes_sign, od_CaseRows_takes_sign, .func (PySem.W.fnOf "takes_sign" "CaseRows.takes_sign" (defArgs s_CaseRows_takes_sign) (defBody s_CaseRows_takes_sign) (defScope s_CaseRows_takes_sign) .none kV_CaseRows_takes_sign dc_CaseRows_takes_sign pm_CaseRows_takes_sign an_CaseRows_takes_sign cd_CaseRows_takes_sign ct_CaseRows_takes_sign), sl_CaseRows_takes_sign⟩)
    (mc_CaseRows_takes_sign : PySem.W.codeIn K cd_CaseRows_takes_sign "CaseRows.takes_sign" = true)
    (me_CaseRows_takes_sign : PySem.W.keepIn K (.ref F_CaseRows_takes_sign) = true)
    (ma_CaseRows_is_open : PySem.W.findIn K (.ref C_CaseRows) "is_open" = some (some (.ref F_CaseRows_is_open)))
    (mi_CaseRows_is_open : PySem.W.isFn K (.ref F_CaseRows_is_open) = true)
    (ml_CaseRows_is_open : K.lookup F_CaseRows_is_open = some ⟨oc_CaseRows_is_open, od_CaseRows_is_open, .func (PySem.W.fnOf "is_open" "CaseRows.is_open" (defArgs s_CaseRows_is_open) (defBody s_CaseRows_is_open) (defScope s_CaseRows_is_open) .none kV_CaseRows_is_open dc_CaseRows_is_open pm_CaseRows_is_open an_CaseRows_is_open cd_CaseRows_is_open ct_CaseRows_is_open), sl_CaseRows_is_open⟩)
    (mc_CaseRows_is_open : PySem.W.codeIn K cd_CaseRows_is_open "CaseRows.is_open" = true)
    (me_CaseRows_is_open : PySem.W.keepIn K (.ref F_CaseRows_is_open) = true)
    (ma_CaseRows_takes_first : PySem.W.findIn K (.ref C_CaseRows) "takes_first" = some (some (.ref F_CaseRows_takes_first)))
    (mi_CaseRows_takes_first : PySem.W.isFn K (.ref F_CaseRows_takes_first) = true)
    (ml_CaseRows_takes_first : K.lookup F_CaseRows_takes_first = some ⟨oc_CaseRows_takes_first, od_CaseRows_takes_first, .func (PySem.W.fnOf "takes_first" "CaseRows.takes_first" (defArgs s_CaseRows_takes_first) (defBody s_CaseRows_takes_first) (defScope s_CaseRows_takes_first) .none kV_CaseRows_takes_first dc_CaseRows_takes_first pm_CaseRows_takes_first an_CaseRows_takes_first cd_CaseRows_takes_first ct_CaseRows_takes_first), sl_CaseRows_takes_first⟩)
    (mc_CaseRows_takes_first : PySem.W.codeIn K cd_CaseRows_takes_first "CaseRows.takes_first" = true)
    (me_CaseRows_takes_first : PySem.W.keepIn K (.ref F_CaseRows_takes_first) = true)
    (ma_CaseRows_takes_pair : PySem.W.findIn K (.ref C_CaseRows) "takes_pair" = some (some (.ref F_CaseRows_takes_pair)))
    (mi_CaseRows_takes_pair : PySem.W.isFn K (.ref F_CaseRows_takes_pair) = true)
    (ml_CaseRows_takes_pair : K.lookup F_CaseRows_takes_pair = some ⟨oc_CaseRows_takes_pair, od_CaseRows_takes_pair, .func (PySem.W.fnOf "takes_pair" "CaseRows.takes_pair" (defArgs s_CaseRows_takes_pair) (defBody s_CaseRows_takes_pair) (defScope s_CaseRows_takes_pair) .none kV_CaseRows_takes_pair dc_CaseRows_takes_pair pm_CaseRows_takes_pair an_CaseRows_takes_pair cd_CaseRows_takes_pair ct_CaseRows_takes_pair), sl_CaseRows_takes_pair⟩)
    (mc_CaseRows_takes_pair : PySem.W.codeIn K cd_CaseRows_takes_pair "CaseRows.takes_pair" = true)
    (me_CaseRows_takes_pair : PySem.W.keepIn K (.ref F_CaseRows_takes_pair) = true)
    (ma_CaseRows_takes_longest : PySem.W.findIn K (.ref C_CaseRows) "takes_longest" = some (some (.ref F_CaseRows_takes_longest)))
    (mi_CaseRows_takes_longest : PySem.W.isFn K (.ref F_CaseRows_takes_longest) = true)
    (ml_CaseRows_takes_longest : K.lookup F_CaseRows_takes_longest = some ⟨oc_CaseRows_takes_longest, od_CaseRows_takes_longest, .func (PySem.W.fnOf "takes_longest" "CaseRows.takes_longest" (defArgs s_CaseRows_takes_longest) (defBody s_CaseRows_takes_longest) (defScope s_CaseRows_takes_longest) .none kV_CaseRows_takes_longest dc_CaseRows_takes_longest pm_CaseRows_takes_longest an_CaseRows_takes_longest cd_CaseRows_takes_longest ct_CaseRows_takes_longest), sl_CaseRows_takes_longest⟩)
    (mc_CaseRows_takes_longest : PySem.W.codeIn K cd_CaseRows_takes_longest "CaseRows.takes_longest" = true)
    (me_CaseRows_takes_longest : PySem.W.keepIn K (.ref F_CaseRows_takes_longest) = true)
    (ma_CaseRows_takes_thing : PySem.W.findIn K (.ref C_CaseRows) "takes_thing" = some (some (.ref F_CaseRows_takes_thing)))
    (mi_CaseRows_takes_thing : PySem.W.isFn K (.ref F_CaseRows_takes_thing) = true)
    (ml_CaseRows_takes_thing : K.lookup F_CaseRows_takes_thing = some ⟨oc_CaseRows_takes_thing, od_CaseRows_takes_thing, .func (PySem.W.fnOf "takes_thing" "CaseRows.takes_thing" (defArgs s_CaseRows_takes_thing) (defBody s_CaseRows_takes_thing) (defScope s_CaseRows_takes_thing) .none kV_CaseRows_takes_thing dc_CaseRows_takes_thing pm_CaseRows_takes_thing an_CaseRows_takes_thing cd_CaseRows_takes_thing ct_CaseRows_takes_thing), sl_CaseRows_takes_thing⟩)
    (mc_CaseRows_takes_thing : PySem.W.codeIn K cd_CaseRows_takes_thing "CaseRows.takes_thing" = true)
    (me_CaseRows_takes_thing : PySem.W.keepIn K (.ref F_CaseRows_takes_thing) = true)
    (ma_CaseRows_takes_word : PySem.W.findIn K (.ref C_CaseRows) "takes_word" = some (some (.ref F_CaseRows_takes_word)))
    (mi_CaseRows_takes_word : PySem.W.isFn K (.ref F_CaseRows_takes_word) = true)
    (ml_CaseRows_takes_word : K.lookup F_CaseRows_takes_word = some ⟨oc_CaseRows_takes_word, od_CaseRows_takes_word, .func (PySem.W.fnOf "takes_word" "CaseRows.takes_word" (defArgs s_CaseRows_takes_word) (defBody s_CaseRows_takes_word) (defScope s_CaseRows_takes_word) .none kV_CaseRows_takes_word dc_CaseRows_takes_word pm_CaseRows_takes_word an_CaseRows_takes_word cd_CaseRows_takes_word ct_CaseRows_takes_word), sl_CaseRows_takes_word⟩)
    (mc_CaseRows_takes_word : PySem.W.codeIn K cd_CaseRows_takes_word "CaseRows.takes_word" = true)
    (me_CaseRows_takes_word : PySem.W.keepIn K (.ref F_CaseRows_takes_word) = true)
    (ma_CaseRows_takes : PySem.W.findIn K (.ref C_CaseRows) "takes" = some (some (.ref F_CaseRows_takes)))
    (mi_CaseRows_takes : PySem.W.isFn K (.ref F_CaseRows_takes) = true)
    (ml_CaseRows_takes : K.lookup F_CaseRows_takes = some ⟨oc_CaseRows_takes, od_CaseRows_takes, .func (PySem.W.fnOf "takes" "CaseRows.takes" (defArgs s_CaseRows_takes) (defBody s_CaseRows_takes) (defScope s_CaseRows_takes) .none kV_CaseRows_takes dc_CaseRows_takes pm_CaseRows_takes an_CaseRows_takes cd_CaseRows_takes ct_CaseRows_takes), sl_CaseRows_takes⟩)
    (mc_CaseRows_takes : PySem.W.codeIn K cd_CaseRows_takes "CaseRows.takes" = true)
    (me_CaseRows_takes : PySem.W.keepIn K (.ref F_CaseRows_takes) = true)
    (ma_CaseRows_lacks : PySem.W.findIn K (.ref C_CaseRows) "lacks" = some (some (.ref F_CaseRows_lacks)))
    (mi_CaseRows_lacks : PySem.W.isFn K (.ref F_CaseRows_lacks) = true)
    (ml_CaseRows_lacks : K.lookup F_CaseRows_lacks = some ⟨oc_CaseRows_lacks, od_CaseRows_lacks, .func (PySem.W.fnOf "lacks" "CaseRows.lacks" (defArgs s_CaseRows_lacks) (defBody s_CaseRows_lacks) (defScope s_CaseRows_lacks) .none kV_CaseRows_lacks dc_CaseRows_lacks pm_CaseRows_lacks an_CaseRows_lacks cd_CaseRows_lacks ct_CaseRows_lacks), sl_CaseRows_lacks⟩)
    (mc_CaseRows_lacks : PySem.W.codeIn K cd_CaseRows_lacks "CaseRows.lacks" = true)
    (me_CaseRows_lacks : PySem.W.keepIn K (.ref F_CaseRows_lacks) = true)
    (ma_CaseRows_made : PySem.W.findIn K (.ref C_CaseRows) "made" = some (some (.ref F_CaseRows_made)))
    (mi_CaseRows_made : PySem.W.isFn K (.ref F_CaseRows_made) = true)
    (ml_CaseRows_made : K.lookup F_CaseRows_made = some ⟨oc_CaseRows_made, od_CaseRows_made, .func (PySem.W.fnOf "made" "CaseRows.made" (defArgs s_CaseRows_made) (defBody s_CaseRows_made) (defScope s_CaseRows_made) .none kV_CaseRows_made dc_CaseRows_made pm_CaseRows_made an_CaseRows_made cd_CaseRows_made ct_CaseRows_made), sl_CaseRows_made⟩)
    (mc_CaseRows_made : PySem.W.codeIn K cd_CaseRows_made "CaseRows.made" = true)
    (me_CaseRows_made : PySem.W.keepIn K (.ref F_CaseRows_made) = true)
    (a1 : PySem.W.nsIn K mainGlobals "is_whole" = some (some (.ref f1))) (l1 : K.lookup f1 = some ⟨oc1, od1, .func (PySem.W.fnOf "is_whole" "is_whole" (defArgs s_is_whole) (defBody s_is_whole) (defScope s_is_whole) .none kV1 dc1 pm1 an1 cd1 ct1), sl1⟩) (c1 : PySem.W.codeIn K cd1 "is_whole" = true) (k1 : PySem.W.keepIn K (.ref f1) = true)
    (a2 : PySem.W.nsIn K mainGlobals "is_name" = some (some (.ref f2))) (l2 : K.lookup f2 = some ⟨oc2, od2, .func (PySem.W.fnOf "is_name" "is_name" (defArgs s_is_name) (defBody s_is_name) (defScope s_is_name) .none kV2 dc2 pm2 an2 cd2 ct2), sl2⟩) (c2 : PySem.W.codeIn K cd2 "is_name" = true) (k2 : PySem.W.keepIn K (.ref f2) = true)
    (a3 : PySem.W.nsIn K mainGlobals "divisor" = some (some (.ref f3))) (l3 : K.lookup f3 = some ⟨oc3, od3, .func (PySem.W.fnOf "divisor" "divisor" (defArgs s_divisor) (defBody s_divisor) (defScope s_divisor) .none kV3 dc3 pm3 an3 cd3 ct3), sl3⟩) (c3 : PySem.W.codeIn K cd3 "divisor" = true) (k3 : PySem.W.keepIn K (.ref f3) = true)
    (a4 : PySem.W.nsIn K mainGlobals "lowest" = some (some (.ref f4))) (l4 : K.lookup f4 = some ⟨oc4, od4, .func (PySem.W.fnOf "lowest" "lowest" (defArgs s_lowest) (defBody s_lowest) (defScope s_lowest) .none kV4 dc4 pm4 an4 cd4 ct4), sl4⟩) (c4 : PySem.W.codeIn K cd4 "lowest" = true) (k4 : PySem.W.keepIn K (.ref f4) = true)
    (a5 : PySem.W.nsIn K mainGlobals "fraction" = some (some (.ref f5))) (l5 : K.lookup f5 = some ⟨oc5, od5, .func (PySem.W.fnOf "fraction" "fraction" (defArgs s_fraction) (defBody s_fraction) (defScope s_fraction) (.ref T5) kV5 dc5 pm5 an5 cd5 ct5), sl5⟩) (c5 : PySem.W.codeIn K cd5 "fraction" = true) (k5 : PySem.W.keepIn K (.ref f5) = true) (d5 : K.lookup T5 = some ⟨oC5, oD5, .seq #[.int 1 u5_0] n5, sD5⟩)
    (a6 : PySem.W.nsIn K mainGlobals "whole_in" = some (some (.ref f6))) (l6 : K.lookup f6 = some ⟨oc6, od6, .func (PySem.W.fnOf "whole_in" "whole_in" (defArgs s_whole_in) (defBody s_whole_in) (defScope s_whole_in) .none kV6 dc6 pm6 an6 cd6 ct6), sl6⟩) (c6 : PySem.W.codeIn K cd6 "whole_in" = true) (k6 : PySem.W.keepIn K (.ref f6) = true)
    (a7 : PySem.W.nsIn K mainGlobals "fraction_in" = some (some (.ref f7))) (l7 : K.lookup f7 = some ⟨oc7, od7, .func (PySem.W.fnOf "fraction_in" "fraction_in" (defArgs s_fraction_in) (defBody s_fraction_in) (defScope s_fraction_in) .none kV7 dc7 pm7 an7 cd7 ct7), sl7⟩) (c7 : PySem.W.codeIn K cd7 "fraction_in" = true) (k7 : PySem.W.keepIn K (.ref f7) = true)
    (a8 : PySem.W.nsIn K mainGlobals "price_in" = some (some (.ref f8))) (l8 : K.lookup f8 = some ⟨oc8, od8, .func (PySem.W.fnOf "price_in" "price_in" (defArgs s_price_in) (defBody s_price_in) (defScope s_price_in) .none kV8 dc8 pm8 an8 cd8 ct8), sl8⟩) (c8 : PySem.W.codeIn K cd8 "price_in" = true) (k8 : PySem.W.keepIn K (.ref f8) = true)
    (a9 : PySem.W.nsIn K mainGlobals "read_case" = some (some (.ref f9))) (l9 : K.lookup f9 = some ⟨oc9, od9, .func (PySem.W.fnOf "read_case" "read_case" (defArgs s_read_case) (defBody s_read_case) (defScope s_read_case) .none kV9 dc9 pm9 an9 cd9 ct9), sl9⟩) (c9 : PySem.W.codeIn K cd9 "read_case" = true) (k9 : PySem.W.keepIn K (.ref f9) = true)
    (a10 : PySem.W.nsIn K mainGlobals "_law_pool" = some (some (.ref f10))) (l10 : K.lookup f10 = some ⟨oc10, od10, .func (PySem.W.fnOf "_law_pool" "_law_pool" (defArgs s__law_pool) (defBody s__law_pool) (defScope s__law_pool) .none kV10 dc10 pm10 an10 cd10 ct10), sl10⟩) (c10 : PySem.W.codeIn K cd10 "_law_pool" = true) (k10 : PySem.W.keepIn K (.ref f10) = true)
    (a11 : PySem.W.nsIn K mainGlobals "_law_take" = some (some (.ref f11))) (l11 : K.lookup f11 = some ⟨oc11, od11, .func (PySem.W.fnOf "_law_take" "_law_take" (defArgs s__law_take) (defBody s__law_take) (defScope s__law_take) .none kV11 dc11 pm11 an11 cd11 ct11), sl11⟩) (c11 : PySem.W.codeIn K cd11 "_law_take" = true) (k11 : PySem.W.keepIn K (.ref f11) = true)
    (a12 : PySem.W.nsIn K mainGlobals "_law_low" = some (some (.ref f12))) (l12 : K.lookup f12 = some ⟨oc12, od12, .func (PySem.W.fnOf "_law_low" "_law_low" (defArgs s__law_low) (defBody s__law_low) (defScope s__law_low) .none kV12 dc12 pm12 an12 cd12 ct12), sl12⟩) (c12 : PySem.W.codeIn K cd12 "_law_low" = true) (k12 : PySem.W.keepIn K (.ref f12) = true)
    (a13 : PySem.W.nsIn K mainGlobals "_law_price" = some (some (.ref f13))) (l13 : K.lookup f13 = some ⟨oc13, od13, .func (PySem.W.fnOf "_law_price" "_law_price" (defArgs s__law_price) (defBody s__law_price) (defScope s__law_price) .none kV13 dc13 pm13 an13 cd13 ct13), sl13⟩) (c13 : PySem.W.codeIn K cd13 "_law_price" = true) (k13 : PySem.W.keepIn K (.ref f13) = true)
    (a14 : PySem.W.nsIn K mainGlobals "_law_tongue" = some (some (.ref f14))) (l14 : K.lookup f14 = some ⟨oc14, od14, .func (PySem.W.fnOf "_law_tongue" "_law_tongue" (defArgs s__law_tongue) (defBody s__law_tongue) (defScope s__law_tongue) .none kV14 dc14 pm14 an14 cd14 ct14), sl14⟩) (c14 : PySem.W.codeIn K cd14 "_law_tongue" = true) (k14 : PySem.W.keepIn K (.ref f14) = true)
    (a15 : PySem.W.nsIn K mainGlobals "_law_name" = some (some (.ref f15))) (l15 : K.lookup f15 = some ⟨oc15, od15, .func (PySem.W.fnOf "_law_name" "_law_name" (defArgs s__law_name) (defBody s__law_name) (defScope s__law_name) .none kV15 dc15 pm15 an15 cd15 ct15), sl15⟩) (c15 : PySem.W.codeIn K cd15 "_law_name" = true) (k15 : PySem.W.keepIn K (.ref f15) = true)
    (a16 : PySem.W.nsIn K mainGlobals "_law_wants" = some (some (.ref f16))) (l16 : K.lookup f16 = some ⟨oc16, od16, .func (PySem.W.fnOf "_law_wants" "_law_wants" (defArgs s__law_wants) (defBody s__law_wants) (defScope s__law_wants) .none kV16 dc16 pm16 an16 cd16 ct16), sl16⟩) (c16 : PySem.W.codeIn K cd16 "_law_wants" = true) (k16 : PySem.W.keepIn K (.ref f16) = true)
    (a17 : PySem.W.nsIn K mainGlobals "_law_texts" = some (some (.ref f17))) (l17 : K.lookup f17 = some ⟨oc17, od17, .func (PySem.W.fnOf "_law_texts" "_law_texts" (defArgs s__law_texts) (defBody s__law_texts) (defScope s__law_texts) .none kV17 dc17 pm17 an17 cd17 ct17), sl17⟩) (c17 : PySem.W.codeIn K cd17 "_law_texts" = true) (k17 : PySem.W.keepIn K (.ref f17) = true)
    (a18 : PySem.W.nsIn K mainGlobals "_law_case" = some (some (.ref f18))) (l18 : K.lookup f18 = some ⟨oc18, od18, .func (PySem.W.fnOf "_law_case" "_law_case" (defArgs s__law_case) (defBody s__law_case) (defScope s__law_case) .none kV18 dc18 pm18 an18 cd18 ct18), sl18⟩) (c18 : PySem.W.codeIn K cd18 "_law_case" = true) (k18 : PySem.W.keepIn K (.ref f18) = true)
    (a19 : PySem.W.nsIn K mainGlobals "_law_fraction" = some (some (.ref f19))) (l19 : K.lookup f19 = some ⟨oc19, od19, .func (PySem.W.fnOf "_law_fraction" "_law_fraction" (defArgs s__law_fraction) (defBody s__law_fraction) (defScope s__law_fraction) .none kV19 dc19 pm19 an19 cd19 ct19), sl19⟩) (c19 : PySem.W.codeIn K cd19 "_law_fraction" = true) (k19 : PySem.W.keepIn K (.ref f19) = true)
    (a20 : PySem.W.nsIn K mainGlobals "_law_rows" = some (some (.ref f20))) (l20 : K.lookup f20 = some ⟨oc20, od20, .func (PySem.W.fnOf "_law_rows" "_law_rows" (defArgs s__law_rows) (defBody s__law_rows) (defScope s__law_rows) .none kV20 dc20 pm20 an20 cd20 ct20), sl20⟩) (c20 : PySem.W.codeIn K cd20 "_law_rows" = true) (k20 : PySem.W.keepIn K (.ref f20) = true)
    (a21 : PySem.W.nsIn K mainGlobals "_law_same" = some (some (.ref f21))) (l21 : K.lookup f21 = some ⟨oc21, od21, .func (PySem.W.fnOf "_law_same" "_law_same" (defArgs s__law_same) (defBody s__law_same) (defScope s__law_same) .none kV21 dc21 pm21 an21 cd21 ct21), sl21⟩) (c21 : PySem.W.codeIn K cd21 "_law_same" = true) (k21 : PySem.W.keepIn K (.ref f21) = true)
    (a22 : PySem.W.nsIn K mainGlobals "_law_never" = some (some (.ref f22))) (l22 : K.lookup f22 = some ⟨oc22, od22, .func (PySem.W.fnOf "_law_never" "_law_never" (defArgs s__law_never) (defBody s__law_never) (defScope s__law_never) .none kV22 dc22 pm22 an22 cd22 ct22), sl22⟩) (c22 : PySem.W.codeIn K cd22 "_law_never" = true) (k22 : PySem.W.keepIn K (.ref f22) = true)
    (a23 : PySem.W.nsIn K mainGlobals "_law_fresh" = some (some (.ref f23))) (l23 : K.lookup f23 = some ⟨oc23, od23, .func (PySem.W.fnOf "_law_fresh" "_law_fresh" (defArgs s__law_fresh) (defBody s__law_fresh) (defScope s__law_fresh) .none kV23 dc23 pm23 an23 cd23 ct23), sl23⟩) (c23 : PySem.W.codeIn K cd23 "_law_fresh" = true) (k23 : PySem.W.keepIn K (.ref f23) = true)
    (a24 : PySem.W.nsIn K mainGlobals "_law_told_again" = some (some (.ref f24))) (l24 : K.lookup f24 = some ⟨oc24, od24, .func (PySem.W.fnOf "_law_told_again" "_law_told_again" (defArgs s__law_told_again) (defBody s__law_told_again) (defScope s__law_told_again) .none kV24 dc24 pm24 an24 cd24 ct24), sl24⟩) (c24 : PySem.W.codeIn K cd24 "_law_told_again" = true) (k24 : PySem.W.keepIn K (.ref f24) = true)
    (a25 : PySem.W.nsIn K mainGlobals "_law_barred" = some (some (.ref f25))) (l25 : K.lookup f25 = some ⟨oc25, od25, .func (PySem.W.fnOf "_law_barred" "_law_barred" (defArgs s__law_barred) (defBody s__law_barred) (defScope s__law_barred) .none kV25 dc25 pm25 an25 cd25 ct25), sl25⟩) (c25 : PySem.W.codeIn K cd25 "_law_barred" = true) (k25 : PySem.W.keepIn K (.ref f25) = true)
    (a26 : PySem.W.nsIn K mainGlobals "_law_first_rows" = some (some (.ref f26))) (l26 : K.lookup f26 = some ⟨oc26, od26, .func (PySem.W.fnOf "_law_first_rows" "_law_first_rows" (defArgs s__law_first_rows) (defBody s__law_first_rows) (defScope s__law_first_rows) .none kV26 dc26 pm26 an26 cd26 ct26), sl26⟩) (c26 : PySem.W.codeIn K cd26 "_law_first_rows" = true) (k26 : PySem.W.keepIn K (.ref f26) = true)
    (a27 : PySem.W.nsIn K mainGlobals "_law_told" = some (some (.ref f27))) (l27 : K.lookup f27 = some ⟨oc27, od27, .func (PySem.W.fnOf "_law_told" "_law_told" (defArgs s__law_told) (defBody s__law_told) (defScope s__law_told) .none kV27 dc27 pm27 an27 cd27 ct27), sl27⟩) (c27 : PySem.W.codeIn K cd27 "_law_told" = true) (k27 : PySem.W.keepIn K (.ref f27) = true)
    (a28 : PySem.W.nsIn K mainGlobals "_law_asked" = some (some (.ref f28))) (l28 : K.lookup f28 = some ⟨oc28, od28, .func (PySem.W.fnOf "_law_asked" "_law_asked" (defArgs s__law_asked) (defBody s__law_asked) (defScope s__law_asked) .none kV28 dc28 pm28 an28 cd28 ct28), sl28⟩) (c28 : PySem.W.codeIn K cd28 "_law_asked" = true) (k28 : PySem.W.keepIn K (.ref f28) = true)
    (a29 : PySem.W.nsIn K mainGlobals "law" = some (some (.ref f29))) (l29 : K.lookup f29 = some ⟨oc29, od29, .func (PySem.W.fnOf "law" "law" (defArgs s_law) (defBody s_law) (defScope s_law) .none kV29 dc29 pm29 an29 cd29 ct29), sl29⟩) (c29 : PySem.W.codeIn K cd29 "law" = true) (k29 : PySem.W.keepIn K (.ref f29) = true)
    (a30 : PySem.W.nsIn K mainGlobals "LETTERS_numbers" = some (some (.str "abcdefghijklmnopqrstuvwxyz" t30)))
    (a31 : PySem.W.nsIn K mainGlobals "LONGEST" = some (some (.int 8 t31)))
    (a32 : PySem.W.nsIn K mainGlobals "FIGURES" = some (some (.str "0123456789" t32)))
    (a33 : PySem.W.nsIn K mainGlobals "LETTERS_casereader" = some (some (.str "abcdefghijklmnopqrstuvwxyz" t33)))
    (a34 : PySem.W.nsIn K mainGlobals "PRICE_FIGURES" = some (some (.int 9 t34)))
    (a35 : PySem.W.nsIn K mainGlobals "COUNT_FIGURES" = some (some (.int 10 t35)))
    (a36 : PySem.W.nsIn K mainGlobals "FEWEST_SIGNS" = some (some (.int 2 t36)))
    (a37 : PySem.W.nsIn K mainGlobals "MOST_SIGNS" = some (some (.int 6 t37)))
    (a38 : PySem.W.nsIn K mainGlobals "GREATEST_LONGEST" = some (some (.int 8 t38)))
    (a39 : PySem.W.nsIn K mainGlobals "MOST_THINGS" = some (some (.int 20 t39)))
    (a40 : PySem.W.nsIn K mainGlobals "GREATEST_COUNT" = some (some (.int 1000000000 t40)))
    (a41 : PySem.W.nsIn K mainGlobals "ValueError" = some none)
    (a42 : PySem.W.nsIn K mainGlobals "abs" = some none)
    (a43 : PySem.W.nsIn K mainGlobals "all" = some none)
    (a44 : PySem.W.nsIn K mainGlobals "bool" = some none)
    (a45 : PySem.W.nsIn K mainGlobals "enumerate" = some none)
    (a46 : PySem.W.nsIn K mainGlobals "int" = some none)
    (a47 : PySem.W.nsIn K mainGlobals "isinstance" = some none)
    (a48 : PySem.W.nsIn K mainGlobals "len" = some none)
    (a49 : PySem.W.nsIn K mainGlobals "list" = some none)
    (a50 : PySem.W.nsIn K mainGlobals "max" = some none)
    (a51 : PySem.W.nsIn K mainGlobals "min" = some none)
    (a52 : PySem.W.nsIn K mainGlobals "range" = some none)
    (a53 : PySem.W.nsIn K mainGlobals "str" = some none)
    (a54 : PySem.W.nsIn K mainGlobals "tuple" = some none)
    : Txt K mg :=
  ⟨⟨C_DearError, C_NoNumber, C_NoBook, C_NoTree, C_TooMany, C_NoCount, C_NoUndo, C_NoTurn, C_NoRow, C_Unknown, C_NoTongue, C_NoWants, C_NoThing, C_BadSign, C_NoText, C_CaseRows⟩,
   PySem.W.mg_of X G g_DearError,
   PySem.W.mg_of X G g_NoNumber,
   PySem.W.mg_of X G g_NoBook,
   PySem.W.mg_of X G g_NoTree,
   PySem.W.mg_of X G g_TooMany,
   PySem.W.mg_of X G g_NoCount,
   PySem.W.mg_of X G g_NoUndo,
   PySem.W.mg_of X G g_NoTurn,
   PySem.W.mg_of X G g_NoRow,
   PySem.W.mg_of X G g_Unknown,
   PySem.W.mg_of X G g_NoTongue,
   PySem.W.mg_of X G g_NoWants,
   PySem.W.mg_of X G g_NoThing,
   PySem.W.mg_of X G g_BadSign,
   PySem.W.mg_of X G g_NoText,
   ⟨PySem.W.mg_of X G g_NoNumber, x1_NoNumber, x2_NoNumber, x3_NoNumber, x4_NoNumber, ⟨x5_NoNumber, x6_NoNumber, x3_NoNumber, x7_NoNumber, x8_NoNumber, x9_NoNumber, x10_NoNumber, x11_NoNumber⟩⟩,
   ⟨PySem.W.mg_of X G g_DearError, d1, d2, d3⟩,
   ⟨PySem.W.mg_of X G g_NoText, ⟨⟨nm_NoText, qn_NoText, N_NoText, bs_NoText, _, sn_NoText, sb_NoText, ab_NoText, col_NoText, dd_NoText, m0_NoText, m1_NoText, m2_NoText, m3_NoText, m5_NoText, xl_NoText, rfl⟩, sa_NoText, x3_NoText, x4_NoText, x2_NoText⟩, fn_NoText, ⟨x5_NoText, x6_NoText, x3_NoText, x7_NoText, x8_NoText, x9_NoText, x10_NoText, x11_NoText⟩⟩,
   ⟨I_NoText, _, i1_NoText, i2_NoText, fun_mk (st := s_NoText___init__) i3_NoText i4_NoText i5_NoText, (fun_mk (st := s_NoText___init__) i3_NoText i4_NoText i5_NoText).binds (ps := ["self", "row"]) fun _ _ _ _ _ _ us hl => match us, hl with | [_, _], _ => rfl⟩,
   kit_ref n_NoNumber_DearError i_DearError t_DearError q_NoNumber_DearError,
   kit_self,
   kit_ref n_NoNumber_NoBook i_NoBook t_NoBook q_NoNumber_NoBook,
   kit_ref n_NoNumber_NoTree i_NoTree t_NoTree q_NoNumber_NoTree,
   kit_ref n_NoNumber_TooMany i_TooMany t_TooMany q_NoNumber_TooMany,
   kit_ref n_NoNumber_NoCount i_NoCount t_NoCount q_NoNumber_NoCount,
   kit_ref n_NoNumber_NoUndo i_NoUndo t_NoUndo q_NoNumber_NoUndo,
   kit_ref n_NoNumber_NoTurn i_NoTurn t_NoTurn q_NoNumber_NoTurn,
   kit_ref n_NoNumber_NoRow i_NoRow t_NoRow q_NoNumber_NoRow,
   kit_ref n_NoNumber_Unknown i_Unknown t_Unknown q_NoNumber_Unknown,
   kit_ref n_NoNumber_NoTongue i_NoTongue t_NoTongue q_NoNumber_NoTongue,
   kit_ref n_NoNumber_NoWants i_NoWants t_NoWants q_NoNumber_NoWants,
   kit_ref n_NoNumber_NoThing i_NoThing t_NoThing q_NoNumber_NoThing,
   kit_ref n_NoNumber_BadSign i_BadSign t_BadSign q_NoNumber_BadSign,
   kit_ref n_NoNumber_NoText i_NoText t_NoText q_NoNumber_NoText,
   kit_val q_NoNumber_ValueError,
   exm_ref2 b_DearError i_DearError t_DearError q_NoNumber_DearError,
   kit_ref n_NoText_DearError i_DearError t_DearError q_NoText_DearError,
   kit_ref n_NoText_NoNumber i_NoNumber t_NoNumber q_NoText_NoNumber,
   kit_ref n_NoText_NoBook i_NoBook t_NoBook q_NoText_NoBook,
   kit_ref n_NoText_NoTree i_NoTree t_NoTree q_NoText_NoTree,
   kit_ref n_NoText_TooMany i_TooMany t_TooMany q_NoText_TooMany,
   kit_ref n_NoText_NoCount i_NoCount t_NoCount q_NoText_NoCount,
   kit_ref n_NoText_NoUndo i_NoUndo t_NoUndo q_NoText_NoUndo,
   kit_ref n_NoText_NoTurn i_NoTurn t_NoTurn q_NoText_NoTurn,
   kit_ref n_NoText_NoRow i_NoRow t_NoRow q_NoText_NoRow,
   kit_ref n_NoText_Unknown i_Unknown t_Unknown q_NoText_Unknown,
   kit_ref n_NoText_NoTongue i_NoTongue t_NoTongue q_NoText_NoTongue,
   kit_ref n_NoText_NoWants i_NoWants t_NoWants q_NoText_NoWants,
   kit_ref n_NoText_NoThing i_NoThing t_NoThing q_NoText_NoThing,
   kit_ref n_NoText_BadSign i_BadSign t_BadSign q_NoText_BadSign,
   kit_self,
   kit_val q_NoText_ValueError,
   exm_ref2 b_DearError i_DearError t_DearError q_NoText_DearError,
   ⟨pg_CaseRows, hd_CaseRows, po_CaseRows, sa_CaseRows⟩,
   na_CaseRows_signs,
   na_CaseRows_letters,
   na_CaseRows_firsts,
   na_CaseRows_pairs,
   na_CaseRows_longest,
   na_CaseRows_wants,
   na_CaseRows_words,
   ⟨PySem.W.mg_of X G g_CaseRows, F_CaseRows___init__, _, ⟨mk_CaseRows, ma_CaseRows___init__, mi_CaseRows___init__, kc_CaseRows⟩, fun_mk (st := s_CaseRows___init__) ml_CaseRows___init__ mc_CaseRows___init__ me_CaseRows___init__, (fun_mk (st := s_CaseRows___init__) ml_CaseRows___init__ mc_CaseRows___init__ me_CaseRows___init__).binds (ps := ["self"]) fun _ _ _ _ _ _ us hl => match us, hl with | [_], _ => rfl⟩,
   ⟨F_CaseRows_takes_sign, _, ⟨ma_CaseRows_takes_sign, mi_CaseRows_takes_sign, me_CaseRows_takes_sign⟩, fun_mk (st := s_CaseRows_takes_sign) ml_CaseRows_takes_sign mc_CaseRows_takes_sign me_CaseRows_takes_sign, (fun_mk (st := s_CaseRows_takes_sign) ml_CaseRows_takes_sign mc_CaseRows_takes_sign me_CaseRows_takes_sign).binds (ps := ["self", "parts"]) fun _ _ _ _ _ _ us hl => match us, hl with | [_, _], _ => rfl⟩,
   ⟨F_CaseRows_is_open, _, ⟨ma_CaseRows_is_open, mi_CaseRows_is_open, me_CaseRows_is_open⟩, fun_mk (st := s_CaseRows_is_open) ml_CaseRows_is_open mc_CaseRows_is_open me_CaseRows_is_open, (fun_mk (st := s_CaseRows_is_open) ml_CaseRows_is_open mc_CaseRows_is_open me_CaseRows_is_open).binds (ps := ["self", "parts", "many"]) fun _ _ _ _ _ _ us hl => match us, hl with | [_, _, _], _ => rfl⟩,
   ⟨F_CaseRows_takes_first, _, ⟨ma_CaseRows_takes_first, mi_CaseRows_takes_first, me_CaseRows_takes_first⟩, fun_mk (st := s_CaseRows_takes_first) ml_CaseRows_takes_first mc_CaseRows_takes_first me_CaseRows_takes_first, (fun_mk (st := s_CaseRows_takes_first) ml_CaseRows_takes_first mc_CaseRows_takes_first me_CaseRows_takes_first).binds (ps := ["self", "parts"]) fun _ _ _ _ _ _ us hl => match us, hl with | [_, _], _ => rfl⟩,
   ⟨F_CaseRows_takes_pair, _, ⟨ma_CaseRows_takes_pair, mi_CaseRows_takes_pair, me_CaseRows_takes_pair⟩, fun_mk (st := s_CaseRows_takes_pair) ml_CaseRows_takes_pair mc_CaseRows_takes_pair me_CaseRows_takes_pair, (fun_mk (st := s_CaseRows_takes_pair) ml_CaseRows_takes_pair mc_CaseRows_takes_pair me_CaseRows_takes_pair).binds (ps := ["self", "parts"]) fun _ _ _ _ _ _ us hl => match us, hl with | [_, _], _ => rfl⟩,
   ⟨F_CaseRows_takes_longest, _, ⟨ma_CaseRows_takes_longest, mi_CaseRows_takes_longest, me_CaseRows_takes_longest⟩, fun_mk (st := s_CaseRows_takes_longest) ml_CaseRows_takes_longest mc_CaseRows_takes_longest me_CaseRows_takes_longest, (fun_mk (st := s_CaseRows_takes_longest) ml_CaseRows_takes_longest mc_CaseRows_takes_longest me_CaseRows_takes_longest).binds (ps := ["self", "parts"]) fun _ _ _ _ _ _ us hl => match us, hl with | [_, _], _ => rfl⟩,
   ⟨F_CaseRows_takes_thing, _, ⟨ma_CaseRows_takes_thing, mi_CaseRows_takes_thing, me_CaseRows_takes_thing⟩, fun_mk (st := s_CaseRows_takes_thing) ml_CaseRows_takes_thing mc_CaseRows_takes_thing me_CaseRows_takes_thing, (fun_mk (st := s_CaseRows_takes_thing) ml_CaseRows_takes_thing mc_CaseRows_takes_thing me_CaseRows_takes_thing).binds (ps := ["self", "parts"]) fun _ _ _ _ _ _ us hl => match us, hl with | [_, _], _ => rfl⟩,
   ⟨F_CaseRows_takes_word, _, ⟨ma_CaseRows_takes_word, mi_CaseRows_takes_word, me_CaseRows_takes_word⟩, fun_mk (st := s_CaseRows_takes_word) ml_CaseRows_takes_word mc_CaseRows_takes_word me_CaseRows_takes_word, (fun_mk (st := s_CaseRows_takes_word) ml_CaseRows_takes_word mc_CaseRows_takes_word me_CaseRows_takes_word).binds (ps := ["self", "parts"]) fun _ _ _ _ _ _ us hl => match us, hl with | [_, _], _ => rfl⟩,
   ⟨F_CaseRows_takes, _, ⟨ma_CaseRows_takes, mi_CaseRows_takes, me_CaseRows_takes⟩, fun_mk (st := s_CaseRows_takes) ml_CaseRows_takes mc_CaseRows_takes me_CaseRows_takes, (fun_mk (st := s_CaseRows_takes) ml_CaseRows_takes mc_CaseRows_takes me_CaseRows_takes).binds (ps := ["self", "row"]) fun _ _ _ _ _ _ us hl => match us, hl with | [_, _], _ => rfl⟩,
   ⟨F_CaseRows_lacks, _, ⟨ma_CaseRows_lacks, mi_CaseRows_lacks, me_CaseRows_lacks⟩, fun_mk (st := s_CaseRows_lacks) ml_CaseRows_lacks mc_CaseRows_lacks me_CaseRows_lacks, (fun_mk (st := s_CaseRows_lacks) ml_CaseRows_lacks mc_CaseRows_lacks me_CaseRows_lacks).binds (ps := ["self"]) fun _ _ _ _ _ _ us hl => match us, hl with | [_], _ => rfl⟩,
   ⟨F_CaseRows_made, _, ⟨ma_CaseRows_made, mi_CaseRows_made, me_CaseRows_made⟩, fun_mk (st := s_CaseRows_made) ml_CaseRows_made mc_CaseRows_made me_CaseRows_made, (fun_mk (st := s_CaseRows_made) ml_CaseRows_made mc_CaseRows_made me_CaseRows_made).binds (ps := ["self"]) fun _ _ _ _ _ _ us hl => match us, hl with | [_], _ => rfl⟩,
   ⟨f1, _, PySem.W.mg_of X G a1, fun_mk (st := s_is_whole) l1 c1 k1, (fun_mk (st := s_is_whole) l1 c1 k1).binds (ps := ["thing"]) fun _ _ _ _ _ _ us hl => match us, hl with | [_], _ => rfl⟩,
   ⟨f2, _, PySem.W.mg_of X G a2, fun_mk (st := s_is_name) l2 c2 k2, (fun_mk (st := s_is_name) l2 c2 k2).binds (ps := ["thing"]) fun _ _ _ _ _ _ us hl => match us, hl with | [_], _ => rfl⟩,
   ⟨f3, _, PySem.W.mg_of X G a3, fun_mk (st := s_divisor) l3 c3 k3, (fun_mk (st := s_divisor) l3 c3 k3).binds (ps := ["one", "other"]) fun _ _ _ _ _ _ us hl => match us, hl with | [_, _], _ => rfl⟩,
   ⟨f4, _, PySem.W.mg_of X G a4, fun_mk (st := s_lowest) l4 c4 k4, (fun_mk (st := s_lowest) l4 c4 k4).binds (ps := ["top", "bottom"]) fun _ _ _ _ _ _ us hl => match us, hl with | [_, _], _ => rfl⟩,
   dfD_mk (st := s_fraction) (PySem.W.mg_of X G a5) l5 c5 k5 d5 (.cons ⟨_, rfl⟩ (.nil)) (by simp) rfl rfl (fun _ _ _ _ _ _ _ us its h1 h2 => match us, its, h1, h2 with | [_], [_], _, _ => ⟨_, rfl, rfl⟩) (fun _ _ _ _ _ _ _ us its h1 h2 => match us, its, h1, h2 with | [_, _], [_], _, _ => ⟨_, rfl, rfl⟩),
   ⟨f6, _, PySem.W.mg_of X G a6, fun_mk (st := s_whole_in) l6 c6 k6, (fun_mk (st := s_whole_in) l6 c6 k6).binds (ps := ["word", "most"]) fun _ _ _ _ _ _ us hl => match us, hl with | [_, _], _ => rfl⟩,
   ⟨f7, _, PySem.W.mg_of X G a7, fun_mk (st := s_fraction_in) l7 c7 k7, (fun_mk (st := s_fraction_in) l7 c7 k7).binds (ps := ["word", "most"]) fun _ _ _ _ _ _ us hl => match us, hl with | [_, _], _ => rfl⟩,
   ⟨f8, _, PySem.W.mg_of X G a8, fun_mk (st := s_price_in) l8 c8 k8, (fun_mk (st := s_price_in) l8 c8 k8).binds (ps := ["word"]) fun _ _ _ _ _ _ us hl => match us, hl with | [_], _ => rfl⟩,
   ⟨f9, _, PySem.W.mg_of X G a9, fun_mk (st := s_read_case) l9 c9 k9, (fun_mk (st := s_read_case) l9 c9 k9).binds (ps := ["text"]) fun _ _ _ _ _ _ us hl => match us, hl with | [_], _ => rfl⟩,
   ⟨f10, _, PySem.W.mg_of X G a10, fun_mk (st := s__law_pool) l10 c10 k10, (fun_mk (st := s__law_pool) l10 c10 k10).binds (ps := ["_law_script", "_law_k"]) fun _ _ _ _ _ _ us hl => match us, hl with | [_, _], _ => rfl⟩,
   ⟨f11, _, PySem.W.mg_of X G a11, fun_mk (st := s__law_take) l11 c11 k11, (fun_mk (st := s__law_take) l11 c11 k11).binds (ps := ["_law_pool_here", "_law_many"]) fun _ _ _ _ _ _ us hl => match us, hl with | [_, _], _ => rfl⟩,
   ⟨f12, _, PySem.W.mg_of X G a12, fun_mk (st := s__law_low) l12 c12 k12, (fun_mk (st := s__law_low) l12 c12 k12).binds (ps := ["_law_top", "_law_bottom"]) fun _ _ _ _ _ _ us hl => match us, hl with | [_, _], _ => rfl⟩,
   ⟨f13, _, PySem.W.mg_of X G a13, fun_mk (st := s__law_price) l13 c13 k13, (fun_mk (st := s__law_price) l13 c13 k13).binds (ps := ["_law_pool_here"]) fun _ _ _ _ _ _ us hl => match us, hl with | [_], _ => rfl⟩,
   ⟨f14, _, PySem.W.mg_of X G a14, fun_mk (st := s__law_tongue) l14 c14 k14, (fun_mk (st := s__law_tongue) l14 c14 k14).binds (ps := ["_law_pool_here", "_law_most_signs", "_law_most_long"]) fun _ _ _ _ _ _ us hl => match us, hl with | [_, _, _], _ => rfl⟩,
   ⟨f15, _, PySem.W.mg_of X G a15, fun_mk (st := s__law_name) l15 c15 k15, (fun_mk (st := s__law_name) l15 c15 k15).binds (ps := ["_law_k", "_law_salt"]) fun _ _ _ _ _ _ us hl => match us, hl with | [_, _], _ => rfl⟩,
   ⟨f16, _, PySem.W.mg_of X G a16, fun_mk (st := s__law_wants) l16 c16 k16, (fun_mk (st := s__law_wants) l16 c16 k16).binds (ps := ["_law_pool_here", "_law_many"]) fun _ _ _ _ _ _ us hl => match us, hl with | [_, _], _ => rfl⟩,
   ⟨f17, _, PySem.W.mg_of X G a17, fun_mk (st := s__law_texts) l17 c17 k17, (fun_mk (st := s__law_texts) l17 c17 k17).binds (ps := ["_law_pool_here", "_law_many"]) fun _ _ _ _ _ _ us hl => match us, hl with | [_, _], _ => rfl⟩,
   ⟨f18, _, PySem.W.mg_of X G a18, fun_mk (st := s__law_case) l18 c18 k18, (fun_mk (st := s__law_case) l18 c18 k18).binds (ps := ["_law_script", "_law_most_things"]) fun _ _ _ _ _ _ us hl => match us, hl with | [_, _], _ => rfl⟩,
   ⟨f19, _, PySem.W.mg_of X G a19, fun_mk (st := s__law_fraction) l19 c19 k19, (fun_mk (st := s__law_fraction) l19 c19 k19).binds (ps := ["_law_one"]) fun _ _ _ _ _ _ us hl => match us, hl with | [_], _ => rfl⟩,
   ⟨f20, _, PySem.W.mg_of X G a20, fun_mk (st := s__law_rows) l20 c20 k20, (fun_mk (st := s__law_rows) l20 c20 k20).binds (ps := ["_law_case_here"]) fun _ _ _ _ _ _ us hl => match us, hl with | [_], _ => rfl⟩,
   ⟨f21, _, PySem.W.mg_of X G a21, fun_mk (st := s__law_same) l21 c21 k21, (fun_mk (st := s__law_same) l21 c21 k21).binds (ps := ["_law_found", "_law_due"]) fun _ _ _ _ _ _ us hl => match us, hl with | [_, _], _ => rfl⟩,
   ⟨f22, _, PySem.W.mg_of X G a22, fun_mk (st := s__law_never) l22 c22 k22, (fun_mk (st := s__law_never) l22 c22 k22).binds (ps := ["_law_pool_here"]) fun _ _ _ _ _ _ us hl => match us, hl with | [_], _ => rfl⟩,
   ⟨f23, _, PySem.W.mg_of X G a23, fun_mk (st := s__law_fresh) l23 c23 k23, (fun_mk (st := s__law_fresh) l23 c23 k23).binds (ps := ["_law_case_here"]) fun _ _ _ _ _ _ us hl => match us, hl with | [_], _ => rfl⟩,
   ⟨f24, _, PySem.W.mg_of X G a24, fun_mk (st := s__law_told_again) l24 c24 k24, (fun_mk (st := s__law_told_again) l24 c24 k24).binds (ps := ["_law_pool_here", "_law_case_here", "_law_rows_here", "_law_at"]) fun _ _ _ _ _ _ us hl => match us, hl with | [_, _, _, _], _ => rfl⟩,
   ⟨f25, _, PySem.W.mg_of X G a25, fun_mk (st := s__law_barred) l25 c25 k25, (fun_mk (st := s__law_barred) l25 c25 k25).binds (ps := ["_law_pool_here", "_law_case_here", "_law_rows_here"]) fun _ _ _ _ _ _ us hl => match us, hl with | [_, _, _], _ => rfl⟩,
   ⟨f26, _, PySem.W.mg_of X G a26, fun_mk (st := s__law_first_rows) l26 c26 k26, (fun_mk (st := s__law_first_rows) l26 c26 k26).binds (ps := ["_law_case_here", "_law_rows_here", "_law_at"]) fun _ _ _ _ _ _ us hl => match us, hl with | [_, _, _], _ => rfl⟩,
   ⟨f27, _, PySem.W.mg_of X G a27, fun_mk (st := s__law_told) l27 c27 k27, (fun_mk (st := s__law_told) l27 c27 k27).binds (ps := ["_law_text"]) fun _ _ _ _ _ _ us hl => match us, hl with | [_], _ => rfl⟩,
   ⟨f28, _, PySem.W.mg_of X G a28, fun_mk (st := s__law_asked) l28 c28 k28, (fun_mk (st := s__law_asked) l28 c28 k28).binds (ps := ["_law_pool_here", "_law_case_here", "_law_rows_here"]) fun _ _ _ _ _ _ us hl => match us, hl with | [_, _, _], _ => rfl⟩,
   ⟨f29, _, PySem.W.mg_of X G a29, fun_mk (st := s_law) l29 c29 k29, (fun_mk (st := s_law) l29 c29 k29).binds (ps := ["_law_script"]) fun _ _ _ _ _ _ us hl => match us, hl with | [_], _ => rfl⟩,
   ⟨_, PySem.W.mg_of X G a30⟩,
   ⟨_, PySem.W.mg_of X G a31⟩,
   ⟨_, PySem.W.mg_of X G a32⟩,
   ⟨_, PySem.W.mg_of X G a33⟩,
   ⟨_, PySem.W.mg_of X G a34⟩,
   ⟨_, PySem.W.mg_of X G a35⟩,
   ⟨_, PySem.W.mg_of X G a36⟩,
   ⟨_, PySem.W.mg_of X G a37⟩,
   ⟨_, PySem.W.mg_of X G a38⟩,
   ⟨_, PySem.W.mg_of X G a39⟩,
   ⟨_, PySem.W.mg_of X G a40⟩,
   PySem.W.mg_none_of X G a41,
   PySem.W.mg_none_of X G a42,
   PySem.W.mg_none_of X G a43,
   PySem.W.mg_none_of X G a44,
   PySem.W.mg_none_of X G a45,
   PySem.W.mg_none_of X G a46,
   PySem.W.mg_none_of X G a47,
   PySem.W.mg_none_of X G a48,
   PySem.W.mg_none_of X G a49,
   PySem.W.mg_none_of X G a50,
   PySem.W.mg_none_of X G a51,
   PySem.W.mg_none_of X G a52,
   PySem.W.mg_none_of X G a53,
   PySem.W.mg_none_of X G a54⟩
theorem oi_NoText {P : Program} {w : World} {K : PySem.W.Frag} {mg : Str → Option Value} {base : Heap} (T : Txt K mg) : OkI P w K mg base "NoText" "row" T.A.NoText := by
  obtain ⟨fI, fd, h1, h2, F, b⟩ := T.F_NoText
  refine ⟨fI, fd, h1, h2, F.ok c_NoText___init__ (fun vs H Q E h => ?_) (fun cdv A outer s H vs Q E hr h => ?_), b, T.X_NoText⟩
  · obtain ⟨a, C, v, rfl, _⟩ := h
    rfl
  · obtain ⟨a, C, v, rfl, o, n, ha, fv, k⟩ := h
    refine ⟨_, (pss_cons (ps_expr (pe_drinit T.D_DearError (pa_cons (pv 0) (pa_cons (pe_joined (.cons pe_str (.cons (pe_fmtN (pv 1)) .nil))) pa_nil)))) (pss_one (ps_ost (pv 0) (pv 1)))), ?_⟩
    refine ⟨_, rfl, _, rfl, (by decide +kernel), _, rfl, fv, fun z hz => ⟨z, rfl, ?_, ?_⟩⟩
    · rw [str_len]
      exact Nat.le_trans (Nat.add_le_add_right (show _ ≤ 100 by decide +kernel) _) (sz_lit (by omega))
    · exact ⟨a, C, _, rfl, (by decide : 1 ≤ 1000), o, ha, _, rfl, _, rfl, a, C, rfl, o, n, .inl ⟨ha, fun dx hd ne => k dx hd ne⟩⟩

end Dear


namespace Dear
open PySem PySem.Spec PyProof.Rows L2
/-! ### author B's draws -/
def spPool (K : PySem.W.Frag) : Sp := fun vs H Q _ => ∃ (a : Addr) (ns : List Int) (k : Int), vs = [.ref a, .int k] ∧ SqL K H a (ns.map V.int) ∧ 0 ≤ k ∧ k ≤ 1000000 ∧ ∀ (l : Addr) (H' : Hp), H l = none → Same H H' → Src H' l → Q (.ref l) H'
def spName : Sp := fun vs H Q _ => ∃ (k s : Nat), vs = [.int k, .int s] ∧ k ≤ 1000 ∧ s ≤ 100000 ∧ ∀ H', Same H H' → Q (.str (txt (nameL k s))) H'
def spWants : Sp := fun vs H Q _ => ∃ (l : Addr) (m : Int), vs = [.ref l, .int m] ∧ Src H l ∧ 1 ≤ m ∧ m ≤ 20 ∧
  ∀ (p : Addr) (xs : List V) (ws : List (List Nat × Int)) (H' : Hp), H p = none → p ≠ l → But l H H' → Src H' l → H' p = some (.lst xs) → DtAll H' xs (ws.map wantD) → WsOk ws → (ws.length : Int) = m → Q (.ref p) H'
section
variable {P : Program} {w : World} {K : PySem.W.Frag} {mg : Str → Option Value} {base : Heap}
theorem o__law_pool (T : Txt K mg) : OkF P w K mg base CX0 1 "_law_pool" ["_law_script", "_law_k"] (spPool K) := by
  refine T.f__law_pool.ok c__law_pool (fun vs H Q E h => ?_) (fun f cdv A outer s H vs Q E hr h => ?_)
  · obtain ⟨a, ns, k, rfl, _⟩ := h
    rfl
  · obtain ⟨a, ns, k, rfl, hS, k0, k9, q⟩ := h
    refine ⟨_, (pss_cons (ps_set (i := 2) c__law_pool.nd rfl (Or.inl rfl) pe_int)
(C8.pss_cut (ps_if (pt_cmpR op_lt (pv 1) (pe_callB (call_len_seq_k K) (by rfl) T.b_len PySem.boot_len (pa_cons (pv 0) pa_nil)) (nomark _))
(pss_one (ps_set (i := 2) c__law_pool.nd rfl (Or.inl rfl) (pe_ix (ix_list_k K) (pv 0) (pv 1) (fun _ _ => rfl))))
pss_nil)
(pss_cons (ps_set (i := 3) c__law_pool.nd rfl (Or.inl rfl) (pe_op op_mod (pe_op op_mul (pe_op op_add (pe_op op_add (pe_op op_mod (pv 2) pe_int) (pe_op op_mul (pe_op op_mul pe_int (pv 1)) (pv 1))) pe_int) pe_int) pe_int))
(C8.pss_cut (ps_if (pt_cmpR op_lt (pv 2) (pe_op op_pow pe_int pe_int) (nomark _))
(pss_one (ps_set (i := 2) c__law_pool.nd rfl (Or.inl rfl) pe_int))
pss_nil)
(pss_one (ps_ret (pe_lst (pa_cons (pv 2) (pa_cons (pv 3) pa_nil))))))))), ?_⟩
    refine ⟨fun σ' H' => H' = H ∧ ∃ c : Int, σ' = [some (.ref a), some (.int k), some (.int c), none], ?_, ?_⟩
    · refine ⟨_, rfl, _, rfl, _, _, rfl, .inl hS, _, _, rfl, rfl, _, rfl, itd (fun c => ?_) fun _ => ⟨rfl, 0, rfl⟩⟩
      obtain ⟨x, hx, hm, _⟩ := at_lt k0 c
      obtain ⟨z, _, rfl⟩ := List.mem_map.mp hm
      exact ⟨_, rfl, _, rfl, _, _, _, _, rfl, rfl, hS, hx, rfl, z, rfl⟩
    rintro σ' H' ⟨rfl, c, rfl⟩
    refine ⟨_, rfl, _, _, rfl, rfl, (by show (0 : Int) < 1000000007; decide), _, rfl, _, _, rfl, rfl, .inl ⟨by decide, by decide⟩, _, rfl, _, _, rfl, rfl, .inr ⟨by omega, by omega⟩, _, _, rfl, rfl, _, _, rfl, rfl, _, _, rfl, rfl, .inr ⟨by decide, by decide⟩, _, _, rfl, rfl, (by show (0 : Int) < 2147483647; decide), ?_⟩
    have b0 : 0 ≤ ((c % 1000000007 + 15485863 * k * k + 3) * 39373) % 2147483647 := Int.emod_nonneg _ (by decide)
    have b1 : ((c % 1000000007 + 15485863 * k * k + 3) * 39373) % 2147483647 < 2147483647 := Int.emod_lt_of_pos _ (by decide)
    refine ⟨fun σ' H'' => H'' = H' ∧ ∃ c' : Int, 0 ≤ c' ∧ σ' = [some (.ref a), some (.int k), some (.int c'), some (.int (((c % 1000000007 + 15485863 * k * k + 3) * 39373) % 2147483647))], ?_, ?_⟩
    · refine ⟨_, rfl, _, _, rfl, rfl, ⟨by decide, by decide, by decide⟩, _, _, rfl, rfl, _, rfl, itd (fun _ => ⟨rfl, 0, by decide, rfl⟩) fun h => ⟨rfl, c, ?_, rfl⟩⟩
      have h : ¬ c < (10 : Int) ^ (18 : Nat) := h
      omega
    rintro σ' H'' ⟨rfl, c', hc', rfl⟩
    exact ⟨_, rfl, _, rfl, (by show 2 ≤ sizeLine; decide), fun l hl => q l _ hl (Same.upd hl) ⟨_, _, upd_same, hc', b0, b1⟩⟩
theorem o__law_take (T : Txt K mg) : OkF P w K mg base CX0 1 "_law_take" ["_law_pool_here", "_law_many"] spDraw := by
  refine T.f__law_take.ok c__law_take (fun vs H Q E h => ?_) (fun f cdv A outer s H vs Q E hr h => ?_)
  · obtain ⟨l, m, rfl, _⟩ := h
    rfl
  · obtain ⟨l, m, rfl, ⟨n, z, h1, hn, hz, hz2⟩, hm, hm9, q⟩ := h
    refine ⟨_, (pss_cons (ps_if (pt_cmpR op_gt (pe_ix (ix_list_k K) (pv 0) pe_int (fun _ _ => rfl)) pe_int (nomark _))
(pss_cons (ps_set (i := 2) c__law_take.nd rfl (Or.inl rfl) (pe_op op_mod (pe_ix (ix_list_k K) (pv 0) pe_int (fun _ _ => rfl)) (pv 1)))
(pss_cons (ps_asg (pe_op op_fdivW (pe_ix (ix_list_k K) (pv 0) pe_int (fun _ _ => rfl)) (pv 1)) (pg_sub (pv 0) pe_int set_list))
(pss_one (ps_ret (pv 2)))))
pss_nil)
(pss_cons (ps_asg (pe_op op_mod (pe_op op_add (pe_op op_mul (pe_ix (ix_list_k K) (pv 0) pe_int (fun _ _ => rfl)) pe_int) pe_int) pe_int) (pg_sub (pv 0) pe_int set_list))
(pss_one (ps_ret (pe_op op_mod (pe_op op_fdivW (pe_op op_mod (pe_op op_mul (pe_ix (ix_list_k K) (pv 0) pe_int (fun _ _ => rfl)) (pe_ix (ix_list_k K) (pv 0) pe_int (fun _ _ => rfl))) pe_int) pe_int) (pv 1)))))), ?_⟩
    refine ⟨_, rfl, _, _, _, _, rfl, rfl, SqL.of h1, rfl, _, _, rfl, rfl, _, rfl, itd (fun c => ?_) fun c => ?_⟩
    · refine ⟨_, rfl, _, _, _, _, rfl, rfl, SqL.of h1, rfl, _, rfl, _, _, rfl, rfl, hm, ?_⟩
      refine ⟨_, rfl, _, _, _, _, rfl, rfl, SqL.of h1, rfl, _, rfl, _, _, rfl, rfl, ⟨hm, hm9⟩, _, rfl, _, _, _, _, rfl, rfl, h1, rfl, ?_⟩
      refine ⟨_, rfl, ?_⟩
      exact q _ _ (Int.emod_nonneg _ (by omega)) (Int.emod_lt_of_pos _ hm) But.upd ⟨_, _, upd_same, Int.ediv_nonneg (by omega) (by omega), hz, hz2⟩
    · refine ⟨_, rfl, _, _, _, _, rfl, rfl, SqL.of h1, rfl, _, _, rfl, rfl, .inr ⟨by decide, by decide⟩, _, _, rfl, rfl, _, _, rfl, rfl, (by show (0 : Int) < 2147483647; decide), _, rfl, _, _, _, _, rfl, rfl, h1, rfl, ?_⟩
      have b0 : 0 ≤ (z * 48271 + 11) % 2147483647 := Int.emod_nonneg _ (by decide)
      have b1 : (z * 48271 + 11) % 2147483647 < 2147483647 := Int.emod_lt_of_pos _ (by decide)
      refine ⟨_, rfl, _, _, _, _, rfl, rfl, SqL.of upd_same, rfl, _, rfl, _, _, _, _, rfl, rfl, SqL.of upd_same, rfl, _, _, rfl, rfl, .inl ⟨by omega, by omega⟩, _, _, rfl, rfl, (by show (0 : Int) < 2147483629; decide), _, _, rfl, rfl, ⟨by decide, by decide⟩, _, rfl, _, _, rfl, rfl, hm, ?_⟩
      exact q _ _ (Int.emod_nonneg _ (by omega)) (Int.emod_lt_of_pos _ hm) But.upd ⟨_, _, upd_same, hn, b0, b1⟩
theorem o__law_name (T : Txt K mg) : OkF P w K mg base CX0 1 "_law_name" ["_law_k", "_law_salt"] spName := by
  refine T.f__law_name.ok c__law_name (fun vs H Q E h => ?_) (fun f cdv A outer s H vs Q E hr h => ?_)
  · obtain ⟨k, s, rfl, _⟩ := h
    rfl
  · obtain ⟨k, s, rfl, hk, hs, q⟩ := h
    refine ⟨_, (pss_cons (ps_set (i := 2) c__law_name.nd rfl (Or.inl rfl) pe_str)
(pss_cons (ps_set (i := 3) c__law_name.nd rfl (Or.inl rfl) (pe_op op_mod (pe_op op_add (pe_op op_mul pe_int (pv 0)) (pv 1)) pe_int))
(pss_cons (ps_set (i := 4) c__law_name.nd rfl (Or.inl rfl) (pe_op op_add_str (pe_ix ix_str (pv 2) (pe_op op_mod (pv 3) pe_int) (fun _ _ => rfl)) (pe_ix (ix_list_k K) (pe_lst (pa_cons pe_str (pa_cons pe_str (pa_cons pe_str pa_nil)))) (pe_op op_fdivW (pv 3) pe_int) (fun _ _ => rfl))))
(pss_cons (ps_set (i := 5) c__law_name.nd rfl (Or.inl rfl) (pe_op op_repS (pe_ix ix_str (pv 2) (pe_op op_mod (pv 1) pe_int) (fun _ _ => rfl)) (pe_op op_mod (pe_op op_fdivW (pv 1) pe_int) pe_int)))
(pss_cons (ps_if (pt_cmpR op_eq (pe_op op_mod (pv 1) pe_int) pe_int (nomark _))
(pss_one (ps_ret (pe_op op_add_str (pv 5) (pv 4))))
pss_nil)
(pss_one (ps_ret (pe_op op_add_str (pv 4) (pv 5))))))))), ?_⟩
    refine ⟨_, rfl, _, _, rfl, rfl, .inl ⟨by decide, by decide⟩, _, rfl, _, _, rfl, rfl, _, _, rfl, rfl, (by show (0 : Int) < 61; decide), ?_⟩
    dsimp only
    rw [show ((37 * (k : Int) + (s : Int)) % 61 : Int) = (((37 * k + s) % 61 : Nat) : Int) by omega]
    have a61 : (37 * k + s) % 61 < 61 := Nat.mod_lt _ (by decide)
    have enm : nameL k s = if s % 2 = 0 then moreL s ++ tellL ((37 * k + s) % 61) else tellL ((37 * k + s) % 61) ++ moreL s := rfl
    generalize (37 * k + s) % 61 = a at a61 enm ⊢
    have z26 : letters.length ≤ sizeLine := by decide +kernel
    refine ⟨_, rfl, _, rfl, _, _, rfl, rfl, (by show (0 : Int) < 26; decide), letters, ((a % 26 : Nat) : Int), letN (a % 26), rfl, (by show V.int _ = V.int _; congr 1), z26, letN_atI (Nat.mod_lt _ (by decide)), ?_⟩
    refine ⟨(by show 3 ≤ sizeLine; decide), fun pL hL => ⟨_, rfl, _, _, rfl, rfl, ⟨by decide, by decide⟩, ?_⟩⟩
    have s1 := Same.upd (o := .lst [.str "", .str "a", .str "zz"]) hL
    have ea : atI [V.str "", V.str "a", V.str "zz"] ((a : Int) / 26) = some (.str (txt (sufL a))) := by
      have : a / 26 = 0 ∨ a / 26 = 1 ∨ a / 26 = 2 := by omega
      rw [show ((a : Int) / 26) = ((a / 26 : Nat) : Int) by omega]
      unfold sufL
      rcases this with e | e | e <;> rw [e] <;> exact atI_nat rfl
    refine ⟨_, _, _, _, rfl, rfl, SqL.of upd_same, ea, _, _, rfl, rfl, ?_, ?_⟩
    · have := suf_len a
      rw [txt_length]
      exact sz_lit (by show 1 + _ ≤ 1000; omega)
    dsimp only
    rw [show (⟨#[letN (a % 26)]⟩ : Str) ++ txt (sufL a) = txt (tellL a) from txt_app [letN (a % 26)] (sufL a)]
    refine ⟨_, rfl, _, rfl, _, _, rfl, rfl, (by show (0 : Int) < 26; decide), letters, ((s % 26 : Nat) : Int), letN (s % 26), rfl, (by show V.int _ = V.int _; congr 1), z26, letN_atI (Nat.mod_lt _ (by decide)), ?_⟩
    refine ⟨_, rfl, _, _, rfl, rfl, ⟨by decide, by decide⟩, _, _, rfl, rfl, (by show (0 : Int) < 6; decide), ?_⟩
    refine ⟨[letN (s % 26)], _, rfl, rfl, by omega, by omega, (by show 1 ≤ 1000; decide), ?_⟩
    rw [show ((s : Int) / 26 % 6).toNat = s / 26 % 6 by omega, show repT [letN (s % 26)] (s / 26 % 6) = moreL s from rfl]
    have lm : (moreL s).length ≤ 5 := by
      unfold moreL
      rw [repT_len]
      show s / 26 % 6 * 1 ≤ 5
      omega
    have lt : (tellL a).length ≤ 3 := by
      have := suf_len a
      show (sufL a).length + 1 ≤ 3
      omega
    refine ⟨_, rfl, _, _, rfl, rfl, (by show (0 : Int) < 2; decide), rfl, _, rfl, itd (fun e => ?_) fun e => ?_⟩
    · have e : (s : Int) % 2 = 0 := by injection e
      rw [if_pos (by omega)] at enm
      refine ⟨_, rfl, _, rfl, _, _, rfl, rfl, sz_lit (by rw [txt_length, txt_length]; omega), ?_⟩
      rw [txt_app, ← enm]
      exact q _ s1
    · rw [if_neg fun z => e (by show V.int ((s : Int) % 2) = V.int 0; rw [show (s : Int) % 2 = 0 by omega])] at enm
      refine ⟨_, rfl, _, rfl, _, _, rfl, rfl, sz_lit (by rw [txt_length, txt_length]; omega), ?_⟩
      rw [txt_app, ← enm]
      exact q _ s1
theorem o__law_wants (T : Txt K mg) : OkF P w K mg base CX0 2 "_law_wants" ["_law_pool_here", "_law_many"] spWants := by
  have o__law_take := o__law_take (P := P) (w := w) (base := base) T
  have o__law_name := o__law_name (P := P) (w := w) (base := base) T
  refine T.f__law_wants.ok c__law_wants (fun vs H Q E h => ?_) (fun f cdv A outer s H vs Q E hr h => ?_)
  · obtain ⟨l, m, rfl, _⟩ := h
    rfl
  · obtain ⟨l, m, rfl, S, m1, m20, q⟩ := h
    refine ⟨_, (pss_cons (ps_set (i := 2) c__law_wants.nd rfl (Or.inl rfl) (pe_c o__law_take hr (pa_cons (pv 0) (pa_cons pe_int pa_nil))))
(pss_cons (ps_set (i := 3) c__law_wants.nd rfl (Or.inl rfl) (pe_lst pa_nil))
(pss_cons (ps_for PassesOwn.never rfl (pi_range1 (by rfl) T.b_range (pa_cons (pv 1) pa_nil)) (pg_name (i := 4) c__law_wants.nd rfl (Or.inl rfl))
(pss_cons (ps_set (i := 5) c__law_wants.nd rfl (Or.inl rfl) (pe_c o__law_take hr (pa_cons (pv 0) (pa_cons pe_int pa_nil))))
(pss_cons (ps_set (i := 6) c__law_wants.nd rfl (Or.inl rfl) (pe_c o__law_take hr (pa_cons (pv 0) (pa_cons (pe_ix (ix_list_k K) (pe_lst (pa_cons pe_int (pa_cons pe_int (pa_cons (pe_op op_add (pe_op op_pow pe_int pe_int) pe_int) (pa_cons pe_int pa_nil))))) (pv 5) (fun _ _ => rfl)) pa_nil))))
(C8.pss_cut (ps_if (pt_cmpR op_eq (pv 5) pe_int (nomark _))
(pss_one (ps_set (i := 6) c__law_wants.nd rfl (Or.inl rfl) (pe_op op_sub (pe_op op_pow pe_int pe_int) (pv 6))))
pss_nil)
(pss_one (ps_expr (pe_bm PySem.F.plainAttrs_list PySem.F.slot_list_append PySem.F.type_list_append mt_append (pv 3) (pa_cons (pe_tup (pa_cons (pe_c o__law_name hr (pa_cons (pv 4) (pa_cons (pv 2) pa_nil))) (pa_cons (pv 6) pa_nil))) pa_nil))))))))
(pss_one (ps_ret (pv 3)))))), ?_⟩
    refine ⟨_, rfl, l, 9516, rfl, S, by decide, log_le 9516 (by decide), fun sa H1 sa0 sa1 B1 S1 => ⟨(by show 0 ≤ sizeLine; decide), fun p hp => ?_⟩⟩
    have ne : p ≠ l := S1.ne hp
    have hpH : H p = none := B1.none hp ne
    obtain ⟨sn, rfl⟩ := Int.eq_ofNat_of_zero_le sa0
    have sn1 : sn ≤ 100000 := by omega
    refine ⟨_, rfl, m, rfl, by omega, by omega, for_range (lo := 0) (n := m.toNat) (fun j σ H' => But l H H' ∧ Src H' l ∧ ∃ (xs : List V) (ws : List (List Nat × Int)) (v4 v5 v6 : Option V), σ = [some (.ref l), some (.int m), some (.int (sn : Int)), some (.ref p), v4, v5, v6] ∧ H' p = some (.lst xs) ∧ DtAll H' xs (ws.map wantD) ∧ ws.map Prod.fst = (List.range j).map (fun k => nameL k sn) ∧ ∀ w ∈ ws, 0 ≤ w.2 ∧ w.2 ≤ 1000000000)
      ⟨B1.new hp, S1.same (Same.upd hp), [], [], _, _, _, rfl, upd_same, .nil, rfl, (fun _ h => nomatch h)⟩ ?_ ?_⟩
    · rintro j σ H2 hj ⟨B2, S2, xs, ws, v4, v5, v6, rfl, hx, hd, hn, hc⟩
      rw [Int.zero_add]
      have pu : ∀ {ws : List (List Nat × Int)}, PuAll (ws.map wantD) := by
        intro ws
        induction ws with
        | nil => trivial
        | cons w r ih => exact ⟨⟨trivial, trivial, trivial⟩, ih⟩
      have j20 : j < 20 := by omega
      have lw : ws.length = j := by
        have := congrArg List.length hn
        simpa using this
      refine ⟨_, rfl, l, 4, rfl, S2, by decide, log_le 4 (by decide), fun way H3 w0 w1 B3 S3 => ?_⟩
      refine ⟨_, rfl, _, _, rfl, rfl, ⟨by decide, by decide, by decide⟩, _, _, rfl, rfl, (by show 4 ≤ sizeLine; decide), fun pq hq => ⟨_, rfl, ?_⟩⟩
      have s4 := Same.upd (o := .lst [.int 1, .int 10, .int (10 ^ (9 : Int).toNat + 1), .int 3]) hq
      have S4 := S3.same s4
      obtain ⟨x, hx4, hm4, _⟩ := at_lt (xs := [V.int 1, .int 10, .int (10 ^ (9 : Int).toNat + 1), .int 3]) w0 w1
      obtain ⟨t, rfl, t0, t9⟩ : ∃ t : Int, x = .int t ∧ 0 < t ∧ t ≤ 1000000001 := by
        simp only [List.mem_cons, List.not_mem_nil, or_false] at hm4
        rcases hm4 with rfl | rfl | rfl | rfl
        · exact ⟨1, rfl, by decide, by decide⟩
        · exact ⟨10, rfl, by decide, by decide⟩
        · exact ⟨1000000001, rfl, by decide, by decide⟩
        · exact ⟨3, rfl, by decide, by decide⟩
      refine ⟨_, _, _, _, rfl, rfl, SqL.of upd_same, hx4, l, t, rfl, S4, t0, log_le 1000000001 (by omega), fun c H5 c0 c1 B5 S5 => ?_⟩
      have B25 : But l H2 H5 := (B3.trans (.of s4)).trans B5
      have B05 := B2.trans B25
      have hx5 := B25 _ _ hx ne
      have hd5 := hd.tp (TP.src B25 S2) pu
      refine ⟨fun σ' H' => H' = H5 ∧ ∃ (c : Int) (v5 : Option V), σ' = [some (.ref l), some (.int m), some (.int (sn : Int)), some (.ref p), some (.int (j : Int)), v5, some (.int c)] ∧ 0 ≤ c ∧ c ≤ 1000000000, ?_, ?_⟩
      · refine ⟨_, rfl, rfl, _, rfl, itd (fun e => ?_) fun e => ?_⟩
        · have e : way = 3 := by injection e
          subst e
          have et : t = 3 := by
            have : atI [V.int 1, .int 10, .int (10 ^ (9 : Int).toNat + 1), .int 3] 3 = some (.int 3) := rfl
            rw [this] at hx4
            injection hx4 with hx4
            injection hx4 with hx4
            exact hx4.symm
          refine ⟨_, _, rfl, rfl, ⟨by decide, by decide, by decide⟩, _, rfl, _, _, rfl, rfl, rfl, _, _, rfl, ?_⟩
          show (0 : Int) ≤ (10 : Int) ^ (9 : Int).toNat - c ∧ (10 : Int) ^ (9 : Int).toNat - c ≤ 1000000000
          rw [show ((10 : Int) ^ (9 : Int).toNat) = 1000000000 by decide]
          omega
        · refine ⟨rfl, c, _, rfl, c0, ?_⟩
          have : t ≤ 1000000001 := t9
          omega
      rintro σ' H' ⟨rfl, c, v5, rfl, c0, c9⟩
      refine ⟨_, rfl, .inl ⟨rfl, _, SqL.of hx5⟩, _, rfl, _, rfl, j, sn, rfl, by omega, sn1, fun H6 s6 => ⟨_, rfl, (by show 2 ≤ sizeLine; decide), fun r hr6 => ?_⟩⟩
      have s7 := Same.upd (o := .tup [.str (txt (nameL j sn)), .int c]) hr6
      have s57 := s6.trans s7
      have hx7 := s57 _ _ hx5
      have ner : r ≠ p := fun z => by
        subst z
        rw [s6 _ _ hx5] at hr6
        cases hr6
      have lx : xs.length = j := by
        rw [hd.length, List.length_map, lw]
      refine ⟨p, _, _, rfl, rfl, hx7, ?_, ?_, ?_, xs ++ [.ref r], ws ++ [(nameL j sn, c)], _, _, _, rfl, upd_same, ?_, ?_, ?_⟩
      · exact small1000 (by omega)
      · intro b o hb hbl
        rw [upd_ne (ne_of_none hb hpH)]
        exact s57 _ _ (B05 _ _ hb hbl)
      · obtain ⟨n9, z9, e9, r9⟩ := S5.same s57
        exact ⟨n9, z9, by rw [upd_ne (Ne.symm ne)]; exact e9, r9⟩
      · rw [List.map_append]
        have tp := TP.upd (o := .lst (xs ++ [.ref r])) hx7
        refine (DtAll.tp (tp) pu (hd5.same s57)).app (.cons ?_ .nil)
        refine .tup ?_ (.cons (.str _) (.cons (.int _) .nil))
        rw [upd_ne ner]
        exact upd_same
      · rw [List.map_append, hn, List.range_succ, List.map_append]
        rfl
      · intro w hw
        rcases List.mem_append.mp hw with hw | hw
        · exact hc w hw
        · have : w = (nameL j sn, c) := by simpa using hw
          subst this
          exact ⟨c0, c9⟩
    · rintro σ H2 ⟨B2, S2, xs, ws, v4, v5, v6, rfl, hx, hd, hn, hc⟩
      have lw : ws.length = m.toNat := by
        have := congrArg List.length hn
        simpa using this
      refine ⟨_, rfl, q p xs ws H2 hpH ne B2 S2 hx hd ⟨fun w hw => ?_, ?_⟩ (by omega)⟩
      · have : w.1 ∈ (List.range m.toNat).map (fun k => nameL k sn) := by
          rw [← hn]
          exact List.mem_map_of_mem hw
        obtain ⟨k, _, e⟩ := List.mem_map.mp this
        obtain ⟨n1, n2, n3⟩ := name_of k sn
        rw [e] at n1 n2 n3
        exact ⟨n1, n2, n3, (hc w hw).1, (hc w hw).2⟩
      · rw [hn]
        exact names_nodup sn _ (by omega)
end
end Dear

namespace Dear
open PySem PySem.Spec PyProof.Rows L2
section
variable {P : Program} {w : World} {K : PySem.W.Frag} {mg : Str → Option Value} {base : Heap}
theorem o_is_whole (T : Txt K mg) : OkF P w K mg base CX0 1 "is_whole" ["thing"] spWhole := by
  refine T.f_is_whole.ok c_is_whole (fun vs H Q E h => ?_) (fun f cdv A outer s H vs Q E hr h => ?_)
  · obtain ⟨v, n, rfl, _⟩ := h
    rfl
  · obtain ⟨v, d, rfl, hI, k⟩ := h
    refine ⟨_, (pss_one (ps_ret (pe_and (pe_callB (call_isi_k K) (by rfl) T.b_isinstance (by decide +kernel) (pa_cons (pv 0) (pa_cons (pe_bltn (v := .ty "int") (by rfl) T.b_int (by decide +kernel) rfl) pa_nil))) (pe_one (pe_not (pe_callB (call_isi_k K) (by rfl) T.b_isinstance (by decide +kernel) (pa_cons (pv 0) (pa_cons (pe_bltn (v := .ty "bool") (by rfl) T.b_bool (by decide +kernel) rfl) pa_nil)))))))), ?_⟩
    refine ⟨_, rfl, _, _, _, _, _, rfl, .ty _, hI.ty, kit_ty (kd_int d), _, rfl, ?_⟩
    cases d with
    | int i => exact iteT ⟨_, rfl, _, _, _, _, _, rfl, .ty _, hI.ty, kit_ty (kd_bool _), _, rfl, k⟩
    | bl i => exact iteT ⟨_, rfl, _, _, _, _, _, rfl, .ty _, hI.ty, kit_ty (kd_bool _), _, rfl, k⟩
    | non => exact iteF k
    | str z => exact iteF k
    | lst z => exact iteF k
    | tup z => exact iteF k
    | dct => exact iteF k
theorem o_divisor (T : Txt K mg) : OkF P w K mg base CX0 1 "divisor" ["one", "other"] spDivisor := by
  refine T.f_divisor.ok c_divisor (fun vs H Q E h => ?_) (fun f cdv A outer s H vs Q E hr h => ?_)
  · obtain ⟨v, n, rfl, _⟩ := h
    rfl
  · obtain ⟨a, b, rfl, ha, hb, k⟩ := h
    refine ⟨_, (pss_cons (ps_while PassesOwn.never (pt_cmpR op_gt (pv 1) pe_int (nomark _))
(pss_one (ps_par (by rfl) c_divisor.nd (i := 0) (j := 1) rfl rfl (by decide) rfl rfl (pa_cons (pv 1) (pa_cons (pe_op op_mod (pv 0) (pv 1)) pa_nil)) (by rfl))))
(pss_one (ps_ret (pv 0)))), ?_⟩
    refine while_by (fun σ H' => H' = H ∧ ∃ x y : Int, σ = [some (.int x), some (.int y)] ∧ 0 ≤ x ∧ 0 ≤ y ∧ Int.gcd x y = Int.gcd a b) (fun σ _ => match σ with | [_, some (.int y)] => y.toNat | _ => 0) ⟨rfl, a, b, rfl, ha, hb, rfl⟩ ?_ ?_
    · rintro σ H' ⟨rfl, x, y, rfl, hx, hy, e⟩
      refine ⟨_, rfl, _, _, rfl, rfl, _, rfl, itd (fun c => ?_) fun c => ?_⟩
      · refine ⟨_, rfl, _, rfl, _, rfl, _, _, rfl, rfl, c, _, _, rfl, ⟨rfl, y, x % y, rfl, hy, Int.emod_nonneg _ (by omega), ?_⟩, ?_⟩
        · rw [gcd_step hx c]
          exact e
        · show (x % y).toNat < y.toNat
          have := Int.emod_lt_of_pos x c
          omega
      · have : y = 0 := by omega
        subst this
        refine ⟨_, rfl, ?_⟩
        rw [← e, Int.gcd_zero_right] at k
        have e2 : ((x.natAbs : Nat) : Int) = x := by omega
        rw [e2] at k
        exact k
    · rintro σ H Q Q' hq ⟨v, e1, i, j, e2, e3, x, e4, q⟩
      exact ⟨v, e1, i, j, e2, e3, x, e4, hq _ _ q⟩
theorem o_is_name (T : Txt K mg) : OkF P w K mg base CX0 1 "is_name" ["thing"] spNm := by
  refine T.f_is_name.ok c_is_name (fun vs H Q E h => ?_) (fun f cdv A outer s H vs Q E hr h => ?_)
  · obtain ⟨v, n, rfl, _⟩ := h
    rfl
  · obtain ⟨v, d, rfl, hI, ok, k⟩ := h
    refine ⟨_, (pss_cons (ps_if (PW.pt (pw_or (pt_not (pt_val (pe_callB (call_isi_k K) (by rfl) T.b_isinstance (by decide +kernel) (pa_cons (pv 0) (pa_cons (pe_bltn (v := .ty "str") (by rfl) T.b_str (by decide +kernel) rfl) pa_nil))))) (pw_or1 (pt_not (pt_chain op_le op_le pe_int (pe_callB call_len_str (by rfl) T.b_len PySem.boot_len (pa_cons (pv 0) pa_nil)) (pe_gi T.g_LONGEST))))))
(pss_one (ps_ret pe_bl))
pss_nil)
(pss_one (ps_ret (pe_callB (cr_all_k K rfl) (by rfl) T.b_all (by decide +kernel) (pa_cons (pe_lc (own := [("sign", 1)]) (g := gName 1) (tt := tYes) (by rfl) c_is_name.nd (pi_str (pv 0)) (blkOk_by (own := [("sign", 1)]) (N := n_is_name) (sc := defScope s_is_name) (by decide +kernel)) (fun _ _ _ _ _ => (pg_name (i := 1) c_is_name.nd rfl (Or.inl rfl))) (fun _ _ _ _ _ => pts_nil) (fun _ _ _ _ _ => (pe_cmpR op_in_sign (pv 1) (pe_gs T.g_LETTERS_numbers) rfl))) pa_nil))))), ?_⟩
    refine ⟨_, rfl, _, _, _, _, _, rfl, .ty _, hI.ty, kit_ty (kd_str d), _, rfl, ?_⟩
    cases hI with
    | str z =>
      have hz : z.length ≤ sizeLine := Nat.le_trans ok.1 (by decide)
      refine iteF ⟨_, rfl, _, rfl, hz, _, _, rfl, rfl, _, rfl, itd (fun c1 => ?_) fun c1 => ?_⟩
      · refine ⟨_, _, rfl, rfl, _, rfl, itnd (fun c2 => ?_) fun c2 => ?_⟩
        · have e3 : isNm (.str z) = false := by
            show (decide (1 ≤ z.length ∧ z.length ≤ 8) && _) = false
            rw [decide_eq_false (by omega), Bool.false_and]
          rw [e3] at k
          exact k H (Same.refl H)
        · refine ⟨_, rfl, z, rfl, fun D hD => lc_it walk_str (fun i H' => ∃ bs : List Bool, bs = (z.cps.toList.take i).map (fun c => decide (c ∈ letters.cps.toList)) ∧ H' = upd H D (.lst (bs.map V.bl))) ⟨[], rfl, rfl⟩ (fun _ _ _ _ => trivial) ?_ ?_⟩
          · rintro i x H' H'' hi ⟨bs, eb, rfl⟩ ⟨rfl, c, hc, rfl⟩
            refine ⟨rfl, _, rfl, _, _, rfl, rfl, _, upd_same, ?_, ?_⟩
            · rw [List.length_map, eb, List.length_map, List.length_take]
              exact Nat.lt_of_le_of_lt (Nat.min_le_left _ _) (Nat.lt_of_lt_of_le hi (by show z.length ≤ _; exact hz))
            · refine ⟨bs ++ [decide (c ∈ letters.cps.toList)], ?_, ?_⟩
              · have hc' : z.cps.toList[i]? = some c := by rw [Array.getElem?_toList]; exact hc
                rw [eb, List.take_succ, hc']
                simp
              · rw [upd_upd, List.map_append]
                rfl
          · rintro H' ⟨bs, eb, rfl⟩
            refine ⟨D, bs, rfl, SqL.of upd_same, ?_⟩
            have e3 : isNm (.str z) = bs.all id := by
              show (decide (1 ≤ z.length ∧ z.length ≤ 8) && _) = _
              rw [decide_eq_true (by omega), Bool.true_and, eb]
              have e4 : z.cps.toList.take z.cps.size = z.cps.toList := by rw [← Array.length_toList, List.take_length]
              rw [e4, List.all_map]
              rfl
            rw [e3] at k
            exact k _ (Same.upd hD)
      · have e3 : isNm (.str z) = false := by
          show (decide (1 ≤ z.length ∧ z.length ≤ 8) && _) = false
          rw [decide_eq_false (by omega), Bool.false_and]
        rw [e3] at k
        exact ⟨_, rfl, iteT (k H (Same.refl H))⟩
    | non => exact iteT (k H (Same.refl H))
    | bl _ => exact iteT (k H (Same.refl H))
    | int _ => exact iteT (k H (Same.refl H))
    | lst _ _ => exact iteT (k H (Same.refl H))
    | tup _ _ => exact iteT (k H (Same.refl H))
    | dct _ => exact iteT (k H (Same.refl H))
end
end Dear

namespace Dear
open PySem PySem.Spec PyProof.Rows L2
def spLowB : Sp := fun vs H Q _ => ∃ (t b : Int), vs = [.int t, .int b] ∧ 0 ≤ t ∧ 0 < b ∧ b.natAbs.log2 < 9000 ∧ ∀ (p : Addr) (H' : Hp), H p = none → Same H H' → H' p = some (.tup [.int (lowT t b), .int (lowB t b)]) → Q (.ref p) H'
section
variable {P : Program} {w : World} {K : PySem.W.Frag} {mg : Str → Option Value} {base : Heap}
theorem o__law_low (T : Txt K mg) : OkF P w K mg base CX0 1 "_law_low" ["_law_top", "_law_bottom"] spLowB := by
  refine T.f__law_low.ok c__law_low (fun vs H Q E h => ?_) (fun f cdv A outer s H vs Q E hr h => ?_)
  · obtain ⟨t, b, rfl, _⟩ := h
    rfl
  · obtain ⟨t, b, rfl, ht, hb, hl, k⟩ := h
    refine ⟨_, (pss_cons (ps_par (by rfl) c__law_low.nd (i := 2) (j := 3) rfl rfl (by decide) rfl rfl (pa_cons (pv 0) (pa_cons (pv 1) pa_nil)) (by rfl))
(pss_cons (ps_while PassesOwn.never (pt_cmpR op_ne (pv 3) pe_int (nomark _))
(pss_one (ps_par (by rfl) c__law_low.nd (i := 2) (j := 3) rfl rfl (by decide) rfl rfl (pa_cons (pv 3) (pa_cons (pe_op op_mod (pv 2) (pv 3)) pa_nil)) (by rfl))))
(pss_one (ps_ret (pe_tup (pa_cons (pe_op op_fdivW (pv 0) (pv 2)) (pa_cons (pe_op op_fdivW (pv 1) (pv 2)) pa_nil))))))), ?_⟩
    refine ⟨_, rfl, _, rfl, _, _, rfl, ?_⟩
    refine while_by (fun σ H' => H' = H ∧ ∃ x y : Int, σ = [some (.int t), some (.int b), some (.int x), some (.int y)] ∧ 0 ≤ x ∧ 0 ≤ y ∧ Int.gcd x y = Int.gcd b t) (fun σ _ => match σ with | [_, _, _, some (.int y)] => y.toNat | _ => 0) ⟨rfl, t, b, rfl, ht, by omega, Int.gcd_comm t b⟩ ?_ ?_
    · rintro σ H' ⟨rfl, x, y, rfl, hx, hy, e⟩
      refine ⟨_, rfl, rfl, _, rfl, itnd (fun c => ?_) fun c => ?_⟩
      · have c : 0 < y := by
          have : ¬ y = 0 := fun z => c (by rw [z])
          omega
        refine ⟨_, rfl, _, rfl, _, rfl, _, _, rfl, rfl, c, _, _, rfl, ⟨rfl, y, x % y, rfl, hy, Int.emod_nonneg _ (by omega), ?_⟩, ?_⟩
        · rw [gcd_step hx c]
          exact e
        · show (x % y).toNat < y.toNat
          have := Int.emod_lt_of_pos x c
          omega
      · have c : y = 0 := by injection c
        subst c
        rw [Int.gcd_zero_right] at e
        have e2 : x = ((Int.gcd b t : Nat) : Int) := by omega
        subst e2
        refine ⟨_, rfl, _, rfl, _, _, rfl, rfl, ⟨gcd_pos t hb, gcd_log t hb hl⟩, _, rfl, _, rfl, _, _, rfl, rfl, ⟨gcd_pos t hb, gcd_log t hb hl⟩, (by show 2 ≤ sizeLine; decide), fun p hp => ?_⟩
        exact k p _ hp (Same.upd hp) upd_same
    · rintro σ H Q Q' hq ⟨v, e1, e2, x, e3, q⟩
      exact ⟨v, e1, e2, x, e3, hq _ _ q⟩
end
end Dear

namespace Dear
open PySem PySem.Spec PyProof.Rows L2
section
variable {P : Program} {w : World} {K : PySem.W.Frag} {mg : Str → Option Value} {base : Heap}
theorem sign_shape {d : D} (h : isSign d = true) : ∃ (z : Str) (p l : D), d = .tup [.str z, p, l] := by
  match d, h with
  | .tup [s, p, l], h =>
    have h : (isLetter s && isPrice p && (isNon l || isPrice l)) = true := h
    simp only [Bool.and_eq_true] at h
    have h1 := h.1.1
    match s, h1 with
    | .str z, _ => exact ⟨z, p, l, rfl⟩
/-- the heads of signs, as they stand -/
theorem heads_get {H : Hp} {xs : List V} {ds : List D} (hall : DtAll H xs ds) (hs : ds.all isSign = true) {i : Nat} {x : V} (hx : xs[i]? = some x) : ∃ (a : Addr) (z : Str) (y1 y2 : V) (p l : D), x = .ref a ∧ H a = some (.tup [.str z, y1, y2]) ∧ ds[i]? = some (.tup [.str z, p, l]) := by
  obtain ⟨d, hd, h⟩ := hall.get hx
  obtain ⟨z, p, l, rfl⟩ := sign_shape (List.all_eq_true.mp hs d (List.mem_of_getElem? hd))
  cases h with
  | tup ha hr =>
    rename_i a ys
    match ys, hr with
    | [_, _, _], .cons (.str _) (.cons _ (.cons _ .nil)) => exact ⟨a, z, _, _, p, l, rfl, ha, hd⟩
theorem take_heads {ds : List D} {i : Nat} {z : Str} {p l : D} (h : ds[i]? = some (.tup [.str z, p, l])) : (ds.take (i + 1)).map headS = (ds.take i).map headS ++ [z] := by
  rw [List.take_succ, h, List.map_append]
  rfl
end
end Dear

namespace Dear
open PySem PySem.Spec PyProof.Rows L2
/-! ### xs[::e], e one or minus one -/
def tRevE (K : PySem.W.Frag) (te ts : TE) : TE := fun σ H Q => te σ H fun x H1 => tPart ts σ H1 fun o H2 => ∃ (a : Addr) (xs : List V) (b : Bool), x = .ref a ∧ o = some (if b then -1 else 1) ∧ SqL K H2 a xs ∧ ∀ p, H2 p = none → Q (.ref p) (upd H2 p (.lst (if b then xs.reverse else xs)))
theorem pick_all (items : List Value) : slicePick items.toArray none none (some 1) = items.toArray := by
  have e : slicePick items.toArray none none (some 1) = slicePick items.toArray none none none := rfl
  rw [e, slicePick_cut]
  simp [HT.sIx]
theorem pe_revE {X : Cx} (K : PySem.W.Frag) {e st : Expr} {te ts : TE} {p3 pos : Pos} (he : PE X e te) (hs : PE X st ts) (hk : X.K = K := by rfl) : PE X (.Subscript e (.Slice none none (some st) p3) pos) (tRevE K te ts) := by
  subst hk
  refine ⟨fun pins s σ H Q I h => ?_⟩
  refine Subscript_ (thn (he.run pins s σ H _ I h) fun v s1 ⟨x, H1, I1, r1, q1⟩ => ?_)
  have hst : PO X (some st) (tPart ts) := po_some hs
  refine wpAny_Slice (thn (po_none.run pins s1 σ H1 (fun o H2 => o = none ∧ H2 = H1) I1 ⟨rfl, rfl⟩) fun vl s2 ⟨l, H2, I2, pl, el, e2⟩ => ?_)
  subst el e2
  refine thn (po_none.run pins s2 σ H2 (fun o H3 => o = none ∧ H3 = H2) I2 ⟨rfl, rfl⟩) fun vu s3 ⟨u, H3, I3, pu, eu, e3⟩ => ?_
  subst eu e3
  refine thn (hst.run pins s3 σ H3 _ I3 q1) fun vs s4 ⟨o, H4, I4, ps, a, xs, b, ex, eo, hx, q⟩ => ?_
  subst ex eo
  cases r1
  have I5 : Inv X pins σ H4 { s4 with heap := s4.heap.push { cls := .type "slice", data := .fields #[vl, vu, vs] } } := I4.kept (t' := s4.toks) fun b ob q => Heap.get?_push_of_some _ q
  obtain ⟨its, r, ht, hz⟩ := I5.list hx
  have hlen := r.length
  show wpAny (model X.prog X.w) X.A (subscriptTail e (.Slice none none (some st) p3) (.ref a) (.ref s4.heap.objs.size)) (EP X pins σ Q) X.xe { s4 with heap := s4.heap.push { cls := .type "slice", data := .fields #[vl, vu, vs] } }
  refine tail_any (ops := [.ref a, .ref s4.heap.objs.size]) ht.isList.typeIs (PySem.slot_list_getitem.lookup) ?_ (by with_unfolding_all rfl)
  refine wpAny_getItem_list_slice ht.isList (Heap.IsSliceOf.new _ vl vu vs) pl pu ps (by cases b <;> decide) ?_ (by rw [List.size_toArray]; omega)
  cases b with
  | true =>
    rw [show (if true = true then (-1 : Int) else 1) = -1 from rfl, PySem.W.krv_pick]
    refine ⟨.ref _, _, I5.laid (t' := s4.toks) (o := .lst xs.reverse) (fun b ob q => Heap.get?_push_of_some _ q) (Nat.le_refl _) ?_, rfl, q _ (I5.hok.fresh (Nat.le_refl _))⟩
    exact ⟨by rw [List.length_reverse]; exact hz, _, 0, r.reverse, Heap.get?_push_size _ rfl⟩
  | false =>
    rw [show (if false = true then (-1 : Int) else 1) = 1 from rfl, pick_all]
    refine ⟨.ref _, _, I5.laid (t' := s4.toks) (o := .lst xs) (fun b ob q => Heap.get?_push_of_some _ q) (Nat.le_refl _) ?_, rfl, q _ (I5.hok.fresh (Nat.le_refl _))⟩
    exact ⟨hz, _, 0, r, Heap.get?_push_size _ rfl⟩
end Dear

namespace Dear
open PySem PySem.Spec PyProof.Rows L2
theorem cut_take (xs : List V) (i : Nat) : cutV xs none (some (i : Int)) = xs.take i := by
  unfold cutV
  have e0 : HT.sIx xs.length 0 none = 0 := rfl
  have e1 : HT.sIx xs.length xs.length (some (i : Int)) = min i xs.length := HT.sIx_nat _ _ _
  rw [e0, e1, List.drop_zero, Nat.sub_zero]
  rcases Nat.le_total i xs.length with h | h
  · rw [Nat.min_eq_left h]
  · rw [Nat.min_eq_right h, List.take_length, List.take_of_length_le h]
section
variable {P : Program} {w : World} {K : PySem.W.Frag} {mg : Str → Option Value} {base : Heap}
theorem look_shape {d : D} (h : lookOk d = true) : ∃ (ds : List D) (f p : D) (i : Int), d = .tup [.lst ds, f, p, .int i] ∧ areSigns (.lst ds) = true ∧ unlike 1 (ds.map headS) f = true ∧ unlike 2 (ds.map headS) p = true ∧ 1 ≤ i ∧ i ≤ 8 := by
  match d, h with
  | .tup [s, f, p, l], h =>
    have h : (areSigns s && unlike 1 (heads s) f && unlike 2 (heads s) p && isLong l) = true := h
    simp only [Bool.and_eq_true] at h
    obtain ⟨⟨⟨h1, h2⟩, h3⟩, h4⟩ := h
    match s, l, h1, h2, h3, h4 with
    | .lst ds, .int i, h1, h2, h3, h4 =>
      have h4 : decide (1 ≤ i ∧ i ≤ 8) = true := h4
      have h5 := of_decide_eq_true h4
      exact ⟨ds, f, p, i, rfl, h1, h2, h3, h5.1, h5.2⟩
theorem signs_all {ds : List D} (h : areSigns (.lst ds) = true) : 2 ≤ ds.length ∧ ds.length ≤ 6 ∧ ds.all isSign = true ∧ (ds.map headS).Nodup := by
  have h : (decide (2 ≤ ds.length ∧ ds.length ≤ 6) && ds.all isSign && (dd (ds.map headS)).length == ds.length) = true := h
  simp only [Bool.and_eq_true] at h
  obtain ⟨⟨h1, h2⟩, h3⟩ := h
  have h1 := of_decide_eq_true h1
  exact ⟨h1.1, h1.2, h2, dd_full (by rw [List.length_map]; simpa using h3)⟩
end
end Dear

namespace Dear
open PySem PySem.Spec PyProof.Rows L2
/-! ### look_at_tongue of any thing -/
/-- the part that is wrong first -/
def tgBad : D → Option V
  | .tup [s, f, p, l] => if areSigns s = false then some (.str "signs") else if unlike 1 (heads s) f = false then some (.str "firsts") else if unlike 2 (heads s) p = false then some (.str "pairs") else if isLong l = false then some (.str "longest") else none
  | _ => some .non
theorem tgBad_ok {d : D} (h : lookOk d = true) : tgBad d = none := by
  match d, h with
  | .tup [s, f, p, l], h =>
    have h : (areSigns s && unlike 1 (heads s) f && unlike 2 (heads s) p && isLong l) = true := h
    simp only [Bool.and_eq_true] at h
    obtain ⟨⟨⟨h1, h2⟩, h3⟩, h4⟩ := h
    show (if areSigns s = false then some (V.str "signs") else if unlike 1 (heads s) f = false then some (.str "firsts") else if unlike 2 (heads s) p = false then some (.str "pairs") else if isLong l = false then some (.str "longest") else none) = none
    rw [h1, h2, h3, h4]
    rfl
def spLookX (C : Addr) : Sp := fun vs H Q E => ∃ (v : V) (d : D), vs = [v] ∧ Dt H v d ∧ Ok d ∧ (tgBad d = none → ∀ H', Same H H' → Q .non H') ∧ ∀ u, tgBad d = some u → ∀ (dd : Addr) (H' : Hp), Same H H' → H dd = none → H' dd = some (.xd [("part", u)]) → E (.ref C) (some dd) H'
section
variable {P : Program} {w : World} {K : PySem.W.Frag} {mg : Str → Option Value} {base : Heap}
end
end Dear

namespace Dear
open PySem PySem.Spec PyProof.Rows L2
/-- the tongue as it stands: its tuple and its three lists, new ones and unlike -/
structure TgAt (H0 H : Hp) (v : V) (ds : List D) (cs fs : List Nat) (zs : List Str) (i : Int) : Prop where
  ex : ∃ (p a b c : Addr) (xs : List V), v = .ref p ∧ H p = some (.tup [.ref a, .ref b, .ref c, .int i]) ∧ H a = some (.lst xs) ∧ DtAll H xs ds ∧ H b = some (.lst ((fs.map sgn).map V.str)) ∧ H c = some (.lst (zs.map V.str)) ∧
    H0 p = none ∧ H0 a = none ∧ H0 b = none ∧ H0 c = none ∧ a ≠ b ∧ a ≠ c ∧ b ≠ c
theorem dt_strs {H : Hp} : ∀ zs : List Str, DtAll H (zs.map V.str) (zs.map D.str)
  | [] => .nil
  | z :: zs => .cons (.str z) (dt_strs zs)
theorem TgAt.dt {H0 H : Hp} {v : V} {d : D} {ds : List D} {cs fs : List Nat} {zs : List Str} {i : Int} (h : TgAt H0 H v ds cs fs zs i) (t : TgD d ds cs fs zs i) : Dt H v d := by
  obtain ⟨p, a, b, c, xs, rfl, h1, h2, h3, h4, h5, _⟩ := h.ex
  rw [t.eq]
  exact .tup h1 (.cons (.lst h2 h3) (.cons (.lst h4 (dt_strs _)) (.cons (.lst h5 (dt_strs _)) (.cons (.int i) .nil))))
end Dear

namespace Dear
open PySem PySem.Spec PyProof.Rows L2
/-! ### author B's tongues -/
def spPriceB : Sp := fun vs H Q _ => ∃ l : Addr, vs = [.ref l] ∧ Src H l ∧ ∀ (p : Addr) (t b : Int) (H' : Hp), H' p = some (.tup [.int t, .int b]) → PrOk t b → But l H H' → Src H' l → Q (.ref p) H'
def spTongueB : Sp := fun vs H Q _ => ∃ (l : Addr) (ms ml : Int), vs = [.ref l, .int ms, .int ml] ∧ Src H l ∧ 2 ≤ ms ∧ ms ≤ 6 ∧ 1 ≤ ml ∧ ml ≤ 8 ∧
  ∀ (v : V) (d : D) (ds : List D) (cs fs : List Nat) (zs : List Str) (i : Int) (H' : Hp), But l H H' → Src H' l → TgD d ds cs fs zs i → TgAt H H' v ds cs fs zs i → Q v H'
theorem wide3 {v : V} (h : v ∈ [V.int 3, V.int 12, V.int (10 ^ (8 : Int).toNat)]) : ∃ m : Int, v = .int m ∧ 0 < m ∧ m ≤ 100000000 := by
  simp only [List.mem_cons, List.not_mem_nil, or_false] at h
  rcases h with rfl | rfl | rfl
  · exact ⟨3, rfl, by decide, by decide⟩
  · exact ⟨12, rfl, by decide, by decide⟩
  · exact ⟨_, rfl, by decide, by decide⟩
theorem wide4 {v : V} (h : v ∈ [V.int 1, V.int 1, V.int 12, V.int (10 ^ (8 : Int).toNat)]) : ∃ m : Int, v = .int m ∧ 0 < m ∧ m ≤ 100000000 := by
  simp only [List.mem_cons, List.not_mem_nil, or_false] at h
  rcases h with rfl | rfl | rfl | rfl
  · exact ⟨1, rfl, by decide, by decide⟩
  · exact ⟨1, rfl, by decide, by decide⟩
  · exact ⟨12, rfl, by decide, by decide⟩
  · exact ⟨_, rfl, by decide, by decide⟩
theorem log1e9 {m : Int} (h0 : 0 < m) (h : m ≤ 1000000000) : m.natAbs.log2 < 9000 := log_small (n := 40) (by decide) (Nat.lt_of_le_of_lt (show m.natAbs ≤ 1000000000 by omega) (by decide)) (by decide)
theorem stepB {v : V} (h : v ∈ [V.int 1, V.int 3, V.int 7, V.int 25]) : ∃ m : Int, v = .int m ∧ (m = 1 ∨ m = 3 ∨ m = 7 ∨ m = 25) := by
  simp only [List.mem_cons, List.not_mem_nil, or_false] at h
  rcases h with rfl | rfl | rfl | rfl
  · exact ⟨1, rfl, .inl rfl⟩
  · exact ⟨3, rfl, .inr (.inl rfl)⟩
  · exact ⟨7, rfl, .inr (.inr (.inl rfl))⟩
  · exact ⟨25, rfl, .inr (.inr (.inr rfl))⟩
/-- the list of signs so far -/
structure SoFar (l p : Addr) (H0 H : Hp) (xs : List V) (ds : List D) (cs : List Nat) : Prop where
  at_ : H p = some (.lst xs)
  dt : DtAll H xs ds
  sg : SgAll ds cs
  but : But l H0 H
  src : Src H l
theorem SoFar.move {l p : Addr} {H0 H H' : Hp} {xs : List V} {ds : List D} {cs : List Nat} (f : SoFar l p H0 H xs ds cs) (ne : p ≠ l) (b : But l H H') (s : Src H' l) : SoFar l p H0 H' xs ds cs :=
  ⟨b _ _ f.at_ ne, f.dt.tp (TP.src b f.src) f.sg.facts.2.2.1, f.sg, f.but.trans b, s⟩
section
variable {P : Program} {w : World} {K : PySem.W.Frag} {mg : Str → Option Value} {base : Heap}
theorem o__law_price (T : Txt K mg) : OkF P w K mg base CX0 2 "_law_price" ["_law_pool_here"] spPriceB := by
  have o__law_take := o__law_take (P := P) (w := w) (base := base) T
  have o__law_low := o__law_low (P := P) (w := w) (base := base) T
  refine T.f__law_price.ok c__law_price (fun vs H Q E h => ?_) (fun f cdv A outer s H vs Q E hr h => ?_)
  · obtain ⟨l, rfl, _⟩ := h
    rfl
  · obtain ⟨l, rfl, S, k⟩ := h
    refine ⟨_, (pss_cons (ps_set (i := 1) c__law_price.nd rfl (Or.inl rfl) (pe_c o__law_take hr (pa_cons (pv 0) (pa_cons pe_int pa_nil))))
(pss_cons (ps_set (i := 2) c__law_price.nd rfl (Or.inl rfl) (pe_op op_add pe_int (pe_c o__law_take hr (pa_cons (pv 0) (pa_cons (pe_ix (ix_list_k K) (pe_lst (pa_cons pe_int (pa_cons pe_int (pa_cons (pe_op op_pow pe_int pe_int) pa_nil)))) (pv 1) (fun _ _ => rfl)) pa_nil)))))
(C8.pss_cut (ps_if (pt_cmpR op_eq (pv 1) pe_int (nomark _))
(pss_one (ps_set (i := 2) c__law_price.nd rfl (Or.inl rfl) (pe_op op_sub (pe_op op_pow pe_int pe_int) (pv 2))))
pss_nil)
(pss_cons (ps_set (i := 1) c__law_price.nd rfl (Or.inl rfl) (pe_c o__law_take hr (pa_cons (pv 0) (pa_cons pe_int pa_nil))))
(pss_cons (ps_set (i := 3) c__law_price.nd rfl (Or.inl rfl) (pe_op op_add pe_int (pe_c o__law_take hr (pa_cons (pv 0) (pa_cons (pe_ix (ix_list_k K) (pe_lst (pa_cons pe_int (pa_cons pe_int (pa_cons pe_int (pa_cons (pe_op op_pow pe_int pe_int) pa_nil))))) (pv 1) (fun _ _ => rfl)) pa_nil)))))
(C8.pss_cut (ps_if (pt_cmpR op_eq (pv 1) pe_int (nomark _))
(pss_one (ps_set (i := 3) c__law_price.nd rfl (Or.inl rfl) (pe_op op_sub (pe_op op_pow pe_int pe_int) (pv 3))))
pss_nil)
(pss_one (ps_ret (pe_c o__law_low hr (pa_cons (pv 2) (pa_cons (pv 3) pa_nil))))))))))), ?_⟩
    have p8 : (10 : Int) ^ (8 : Int).toNat = 100000000 := by decide
    have p9 : (10 : Int) ^ (9 : Int).toNat = 1000000000 := by decide
    refine ⟨_, rfl, l, 3, rfl, S, by decide, log_le 3 (by decide), fun r1 H1 a0 a1 B1 S1 => ?_⟩
    refine ⟨_, rfl, _, _, rfl, rfl, ⟨by decide, by decide, by decide⟩, (by show 3 ≤ sizeLine; decide), fun p1 hp1 => ⟨_, rfl, ?_⟩⟩
    obtain ⟨v, hv, hm, _⟩ := at_lt (xs := [V.int 3, V.int 12, V.int (10 ^ (8 : Int).toNat)]) a0 (by exact a1)
    obtain ⟨m, rfl, m0, m1⟩ := wide3 hm
    have u1 := Same.upd (o := .lst [V.int 3, V.int 12, V.int (10 ^ (8 : Int).toNat)]) hp1
    have S2 := S1.same u1
    have B2 := B1.trans (.of u1)
    refine ⟨_, _, _, _, rfl, rfl, SqL.of upd_same, hv, l, m, rfl, S2, m0, log1e9 m0 (by omega), fun t H3 t0 t1 B3 S3 => ⟨_, _, rfl, rfl, ?_⟩⟩
    refine ⟨fun σ' H' => But l H H' ∧ Src H' l ∧ ∃ t : Int, 0 < t ∧ t ≤ 999999999 ∧ σ' = [some (.ref l), some (.int r1), some (.int t), none], ?_, ?_⟩
    · refine ⟨_, rfl, rfl, _, rfl, itd (fun _ => ?_) fun _ => ⟨B2.trans B3, S3, 1 + t, by omega, by omega, rfl⟩⟩
      refine ⟨_, _, rfl, rfl, ⟨by decide, by decide, by decide⟩, _, rfl, _, _, rfl, rfl, B2.trans B3, S3, _, ?_, ?_, rfl⟩
      · rw [p9]
        omega
      · rw [p9]
        omega
    rintro σ' H4 ⟨B4, S4, t, t0, t1, rfl⟩
    refine ⟨_, rfl, l, 4, rfl, S4, by decide, log_le 4 (by decide), fun r2 H5 b0 b1 B5 S5 => ?_⟩
    refine ⟨_, rfl, _, _, rfl, rfl, ⟨by decide, by decide, by decide⟩, (by show 4 ≤ sizeLine; decide), fun p2 hp2 => ⟨_, rfl, ?_⟩⟩
    obtain ⟨v, hv, hm, _⟩ := at_lt (xs := [V.int 1, V.int 1, V.int 12, V.int (10 ^ (8 : Int).toNat)]) b0 (by exact b1)
    obtain ⟨m, rfl, m0, m1⟩ := wide4 hm
    have u2 := Same.upd (o := .lst [V.int 1, V.int 1, V.int 12, V.int (10 ^ (8 : Int).toNat)]) hp2
    have S6 := S5.same u2
    have B6 := (B4.trans B5).trans (.of u2)
    refine ⟨_, _, _, _, rfl, rfl, SqL.of upd_same, hv, l, m, rfl, S6, m0, log1e9 m0 (by omega), fun u H7 c0 c1 B7 S7 => ⟨_, _, rfl, rfl, ?_⟩⟩
    refine ⟨fun σ' H' => But l H H' ∧ Src H' l ∧ ∃ u : Int, 0 < u ∧ u ≤ 999999999 ∧ σ' = [some (.ref l), some (.int r2), some (.int t), some (.int u)], ?_, ?_⟩
    · refine ⟨_, rfl, rfl, _, rfl, itd (fun _ => ?_) fun _ => ⟨B6.trans B7, S7, 1 + u, by omega, by omega, rfl⟩⟩
      refine ⟨_, _, rfl, rfl, ⟨by decide, by decide, by decide⟩, _, rfl, _, _, rfl, rfl, B6.trans B7, S7, _, ?_, ?_, rfl⟩
      · rw [p9]
        omega
      · rw [p9]
        omega
    rintro σ' H8 ⟨B8, S8, u, u0, u1, rfl⟩
    refine ⟨_, rfl, _, rfl, t, u, rfl, by omega, u0, log1e9 u0 (by omega), fun p H9 hp s9 h9 => ?_⟩
    obtain ⟨g1, g2, g3, g4, g5⟩ := low_pos (t := t) (b := u) t0 u0
    exact k p _ _ _ h9 ⟨g1, g2, by omega, by omega, g5⟩ (B8.trans (.of s9)) (S8.same s9)
end
end Dear

namespace Dear
open PySem PySem.Spec PyProof.Rows L2
def cds (sh st : Int) (n : Nat) : List Nat := (List.range n).map (codeAt sh st)
theorem cds_len (sh st : Int) (n : Nat) : (cds sh st n).length = n := by
  unfold cds
  rw [List.length_map, List.length_range]
theorem cds_more (sh st : Int) (n : Nat) : cds sh st (n + 1) = cds sh st n ++ [codeAt sh st n] := by
  unfold cds
  rw [List.range_succ, List.map_append]
  rfl
theorem cds_get {sh st : Int} {n i : Nat} {x : V} (h : (((cds sh st n).map sgn).map V.str)[i]? = some x) : i < n ∧ x = .str (sgn (codeAt sh st i)) := by
  have lt := (List.getElem?_eq_some_iff.mp h).1
  rw [List.length_map, List.length_map, cds_len] at lt
  refine ⟨lt, ?_⟩
  unfold cds at h
  rw [List.getElem?_map, List.getElem?_map, List.getElem?_map, List.getElem?_range lt] at h
  exact (Option.some.inj h).symm
theorem cds_at {sh st : Int} {n : Nat} {r : Int} (r0 : 0 ≤ r) (r1 : r < n) : ∃ c ∈ cds sh st n, atI (((cds sh st n).map sgn).map V.str) r = some (.str (sgn c)) := by
  obtain ⟨k, rfl⟩ := Int.eq_ofNat_of_zero_le r0
  have hk : k < n := by omega
  refine ⟨codeAt sh st k, List.mem_map.mpr ⟨k, List.mem_range.mpr hk, rfl⟩, atI_nat ?_⟩
  unfold cds
  rw [List.getElem?_map, List.getElem?_map, List.getElem?_map, List.getElem?_range hk]
  rfl
theorem pair_new {cs : List Nat} {zs : List Str} {a b : Nat} (h : PairsOf cs cs zs) (ha : a ∈ cs) (hb : b ∈ cs) (n : ¬ (sgn a ++ sgn b) ∈ zs) : PairsOf cs cs (zs ++ [sgn a ++ sgn b]) := by
  obtain ⟨h1, h2⟩ := h
  constructor
  · rw [List.nodup_append]
    refine ⟨h1, List.pairwise_singleton _ _, fun x hx y hy => ?_⟩
    have : y = sgn a ++ sgn b := by simpa using hy
    rw [this]
    exact fun e => n (by rw [← e]; exact hx)
  · intro z hz
    rcases List.mem_append.mp hz with hz | hz
    · exact h2 z hz
    · have : z = sgn a ++ sgn b := by simpa using hz
      exact ⟨a, ha, b, hb, this⟩
end Dear

namespace Dear
open PySem PySem.Spec PyProof.Rows L2
section
variable {P : Program} {w : World} {K : PySem.W.Frag} {mg : Str → Option Value} {base : Heap}
theorem o__law_tongue (T : Txt K mg) : OkF P w K mg base CX0 3 "_law_tongue" ["_law_pool_here", "_law_most_signs", "_law_most_long"] spTongueB := by
  have o__law_take := o__law_take (P := P) (w := w) (base := base) T
  have o__law_price := o__law_price (P := P) (w := w) (base := base) T
  refine T.f__law_tongue.ok c__law_tongue (fun vs H Q E h => ?_) (fun f cdv A outer s H vs Q E hr h => ?_)
  · obtain ⟨l, ms, ml, rfl, _⟩ := h
    rfl
  · obtain ⟨l, ms, ml, rfl, S, ms2, ms6, ml1, ml8, k⟩ := h
    refine ⟨_, (pss_cons (ps_set (i := 3) c__law_tongue.nd rfl (Or.inl rfl) (pe_op op_add pe_int (pe_c o__law_take hr (pa_cons (pv 0) (pa_cons (pe_op op_sub (pv 1) pe_int) pa_nil)))))
(pss_cons (ps_set (i := 4) c__law_tongue.nd rfl (Or.inr rfl) (pe_c o__law_take hr (pa_cons (pv 0) (pa_cons pe_int pa_nil))))
(pss_cons (ps_set (i := 5) c__law_tongue.nd rfl (Or.inr rfl) (pe_ix (ix_list_k K) (pe_lst (pa_cons pe_int (pa_cons pe_int (pa_cons pe_int (pa_cons pe_int pa_nil))))) (pe_c o__law_take hr (pa_cons (pv 0) (pa_cons pe_int pa_nil))) (fun _ _ => rfl)))
(pss_cons (ps_setLc (i := 6) (own := [("_law_k", 13)]) (g := gName 13) (tt := tYes) (by rfl) c__law_tongue.nd rfl rfl (sw_true rfl rfl rfl (by decide +kernel)) (pi_range1 (by rfl) T.b_range (pa_cons (pv 3) pa_nil)) (blkOk_by (own := [("_law_k", 13)]) (N := n__law_tongue) (sc := defScope s__law_tongue) (by decide +kernel)) (fun _ _ _ _ _ => (pg_name (i := 13) c__law_tongue.nd rfl (Or.inl rfl))) (fun _ _ _ _ _ => pts_nil) (fun _ _ _ _ _ => (pe_ix ix_str pe_str (pe_op op_mod (pe_op op_add (pv 4) (pe_op op_mul (pv 5) (pv 13))) pe_int) (fun _ _ => rfl))))
(pss_cons (ps_set (i := 7) c__law_tongue.nd rfl (Or.inl rfl) (pe_lst pa_nil))
(pss_cons (ps_for PassesOwn.never rfl (pi_list_k K (pv 6)) (pg_name (i := 8) c__law_tongue.nd rfl (Or.inl rfl))
(pss_cons (ps_set (i := 9) c__law_tongue.nd rfl (Or.inl rfl) (pe_c o__law_price hr (pa_cons (pv 0) pa_nil)))
(pss_cons (ps_set (i := 10) c__law_tongue.nd rfl (Or.inl rfl) (pe_c o__law_price hr (pa_cons (pv 0) pa_nil)))
(pss_one (ps_expr (pe_bm PySem.F.plainAttrs_list PySem.F.slot_list_append PySem.F.type_list_append mt_append (pv 7) (pa_cons (pe_tup (pa_cons (pv 8) (pa_cons (pv 9) (pa_cons (pe_ix (ix_list_k K) (pe_lst (pa_cons pe_non (pa_cons (pv 9) (pa_cons (pv 10) (pa_cons (pv 10) (pa_cons (pv 10) (pa_cons (pv 10) pa_nil))))))) (pe_c o__law_take hr (pa_cons (pv 0) (pa_cons pe_int pa_nil))) (fun _ _ => rfl)) pa_nil)))) pa_nil)))))))
(pss_cons (ps_setLc (i := 11) (own := [("_law_letter", 8)]) (g := gName 8) (by rfl) c__law_tongue.nd rfl rfl (sw_true rfl rfl rfl (by decide +kernel)) (pi_list_k K (pv 6)) (blkOk_by (own := [("_law_letter", 8)]) (N := n__law_tongue) (sc := defScope s__law_tongue) (by decide +kernel)) (fun _ _ _ _ _ => (pg_name (i := 8) c__law_tongue.nd rfl (Or.inl rfl))) (fun _ _ _ _ _ => (pts_one (pt_cmpR op_eq (pe_c o__law_take hr (pa_cons (pv 0) (pa_cons pe_int pa_nil))) pe_int (nomark _)))) (fun _ _ _ _ _ => (pv 8)))
(pss_cons (ps_set (i := 12) c__law_tongue.nd rfl (Or.inl rfl) (pe_lst pa_nil))
(pss_cons (ps_for PassesOwn.never rfl (pi_range1 (by rfl) T.b_range (pa_cons (pe_c o__law_take hr (pa_cons (pv 0) (pa_cons pe_int pa_nil))) pa_nil)) (pg_name (i := 13) c__law_tongue.nd rfl (Or.inl rfl))
(pss_cons (ps_set (i := 14) c__law_tongue.nd rfl (Or.inl rfl) (pe_op op_add_str (pe_ix (ix_list_k K) (pv 6) (pe_c o__law_take hr (pa_cons (pv 0) (pa_cons (pv 3) pa_nil))) (fun _ _ => rfl)) (pe_ix (ix_list_k K) (pv 6) (pe_c o__law_take hr (pa_cons (pv 0) (pa_cons (pv 3) pa_nil))) (fun _ _ => rfl))))
(pss_one (ps_if (pt_cmpR (op_notIn_seq_k K) (pv 14) (pv 12) rfl)
(pss_one (ps_expr (pe_bm PySem.F.plainAttrs_list PySem.F.slot_list_append PySem.F.type_list_append mt_append (pv 12) (pa_cons (pv 14) pa_nil))))
pss_nil))))
(pss_one (ps_ret (pe_tup (pa_cons (pv 7) (pa_cons (pe_revE K (pv 11) (pe_op op_sub pe_int (pe_op op_mul pe_int (pe_c o__law_take hr (pa_cons (pv 0) (pa_cons pe_int pa_nil)))))) (pa_cons (pv 12) (pa_cons (pe_op op_add pe_int (pe_c o__law_take hr (pa_cons (pv 0) (pa_cons (pv 2) pa_nil)))) pa_nil)))))))))))))))), ?_⟩
    refine ⟨_, rfl, _, rfl, _, _, rfl, rfl, l, _, rfl, S, by omega, log_le 6 (by omega), fun r1 H1 a0 a1 B1 S1 => ⟨_, _, rfl, rfl, ?_⟩⟩
    obtain ⟨m, em⟩ := Int.eq_ofNat_of_zero_le (show 0 ≤ 2 + r1 by omega)
    dsimp only
    rw [em]
    have m2 : 2 ≤ m := by omega
    have m6 : m ≤ 6 := by omega
    clear em a0 a1
    refine ⟨_, rfl, l, 26, rfl, S1, by decide, log_le 26 (by decide), fun sh H2 sh0 sh1 B2 S2 => ?_⟩
    refine ⟨(by show 4 ≤ sizeLine; decide), fun p0 hp0 => ⟨_, rfl, l, 4, rfl, S2.same (Same.upd hp0), by decide, log_le 4 (by decide), fun r3 H3 c0 c1 B3 S3 => ?_⟩⟩
    obtain ⟨v, hv, hm, _⟩ := at_lt (xs := [V.int 1, V.int 3, V.int 7, V.int 25]) c0 (by exact c1)
    refine ⟨_, _, _, _, rfl, rfl, SqL.of (B3 p0 _ upd_same (S2.ne hp0)), hv, ?_⟩
    obtain ⟨st, rfl, hst⟩ := stepB hm
    have B03 : But l H H3 := (B1.trans B2).trans ((But.of (Same.upd hp0)).trans B3)
    clear B1 B2 B3 S1 S2 hp0 c0 c1 hm hv
    -- letters
    refine ⟨_, rfl, _, rfl, by omega, by omega, fun pL hL => lc_range (lo := 0) (n := m) (fun i H' => Same H3 H' ∧ H' pL = some (.lst (((cds sh st i).map sgn).map V.str))) ⟨Same.upd hL, upd_same⟩ ?_ ?_⟩
    · rintro i H' hi ⟨s4, e4⟩
      rw [Int.zero_add]
      have e26 := code_mem sh st i
      have j0 : 0 ≤ (sh + st * (i : Int)) % 26 := Int.emod_nonneg _ (by decide)
      have hat : atI letters.cps.toList ((sh + st * (i : Int)) % 26) = some (codeAt sh st i) := by
        have := atI_nat e26
        rw [Int.toNat_of_nonneg j0] at this
        exact this
      refine ⟨rfl, _, rfl, _, rfl, _, rfl, _, _, rfl, rfl, .inl ⟨by omega, by omega⟩, _, _, rfl, rfl, _, _, rfl, rfl, (by show (0 : Int) < 26; decide), letters, _, _, rfl, rfl, by decide +kernel, hat, _, e4, ?_, ?_, ?_⟩
      · rw [List.length_map, List.length_map, cds_len]
        exact small1000 (by omega)
      · intro b o hb
        rw [upd_ne (ne_of_none hb hL)]
        exact s4 _ _ hb
      · rw [upd_same, cds_more, List.map_append, List.map_append]
        rfl
    rintro H4 ⟨s4, e4⟩
    have S4 := S3.same s4
    have nLl : pL ≠ l := S3.ne hL
    have nLH3 : H3 pL = none := hL
    have cl := cds_len sh st m
    have nd : (cds sh st m).Nodup := codes_nodup hst m6
    have lL : (((cds sh st m).map sgn).map V.str).length = m := by rw [List.length_map, List.length_map, cl]
    -- signs
    refine ⟨(by show 0 ≤ sizeLine; decide), fun pS hS => ?_⟩
    have uS := Same.upd (o := .lst []) hS
    have nSl : pS ≠ l := S4.ne hS
    have nLS : pL ≠ pS := ne_of_none e4 hS
    refine ⟨_, rfl, pL, rfl, ⟨_, SqL.of (uS _ _ e4)⟩, for_list (K := K) (a := pL) (xs := ((cds sh st m).map sgn).map V.str) (fun i σ H' => H' pL = some (.lst (((cds sh st m).map sgn).map V.str)) ∧ ∃ (xs : List V) (ds : List D), SoFar l pS H4 H' xs ds (cds sh st i) ∧ xs.length = i ∧ ∃ v8 v9 v10, σ = [some (.ref l), some (.int ms), some (.int ml), some (.int (m : Nat)), some (.int sh), some (.int st), some (.ref pL), some (.ref pS), v8, v9, v10, none, none, none, none])
      ⟨uS _ _ e4, [], [], ⟨upd_same, .nil, .nil, .of uS, S4.same uS⟩, rfl, _, _, _, rfl⟩ (fun i σ H' _ e => SqL.of e.1) ?_ ?_⟩
    · rintro i x σ H5 hx ⟨eL5, xs, ds, F5, xl, v8, v9, v10, rfl⟩
      obtain ⟨im, rfl⟩ := cds_get hx
      refine ⟨_, rfl, l, rfl, F5.src, fun q t b H6 hq pr B6 S6 => ?_⟩
      have F6 := F5.move nSl B6 S6
      have eL6 := B6 _ _ eL5 nLl
      refine ⟨_, rfl, l, rfl, S6, fun q2 t2 b2 H7 hq2 pr2 B7 S7 => ?_⟩
      have F7 := F6.move nSl B7 S7
      have eL7 := B7 _ _ eL6 nLl
      have hq7 := TP.src B7 S6 _ _ hq
      refine ⟨_, rfl, .inl ⟨rfl, _, SqL.of F7.at_⟩, _, rfl, _, rfl, _, rfl, _, rfl, _, rfl, _, rfl, _, rfl, (by show 6 ≤ sizeLine; decide), fun pX hX => ⟨_, rfl, l, 6, rfl, S7.same (Same.upd hX), by decide, log_le 6 (by decide), fun r6 H8 d0 d1 B8 S8 => ?_⟩⟩
      have uX := Same.upd (o := .lst [.non, .ref q, .ref q2, .ref q2, .ref q2, .ref q2]) hX
      have nXl : pX ≠ l := S7.ne hX
      have B78 := (But.of uX).trans B8
      have F8 := F7.move nSl B78 S8
      have eL8 := B78 _ _ eL7 nLl
      have hq8 := TP.src B78 S7 _ _ hq7
      have hq28 := TP.src B78 S7 _ _ hq2
      obtain ⟨la, hla, hlm, _⟩ := at_lt (xs := [V.non, .ref q, .ref q2, .ref q2, .ref q2, .ref q2]) d0 (by exact d1)
      obtain ⟨ld, dl, ll⟩ : ∃ ld, Dt H8 la ld ∧ LastD ld := by
        have dq : Dt H8 (.ref q) (.tup [.int t, .int b]) := .tup hq8 (.cons (.int _) (.cons (.int _) .nil))
        have dq2 : Dt H8 (.ref q2) (.tup [.int t2, .int b2]) := .tup hq28 (.cons (.int _) (.cons (.int _) .nil))
        simp only [List.mem_cons, List.not_mem_nil, or_false] at hlm
        rcases hlm with rfl | rfl | rfl | rfl | rfl | rfl
        · exact ⟨.non, .non, trivial⟩
        · exact ⟨_, dq, pr⟩
        · exact ⟨_, dq2, pr2⟩
        · exact ⟨_, dq2, pr2⟩
        · exact ⟨_, dq2, pr2⟩
        · exact ⟨_, dq2, pr2⟩
      refine ⟨_, _, _, _, rfl, rfl, SqL.of (B8 _ _ upd_same nXl), hla, (by show 3 ≤ sizeLine; decide), fun p9 hp9 => ?_⟩
      have s9 := Same.upd (o := .tup [V.str (sgn (codeAt sh st i)), V.ref q, la]) hp9
      have at9 := s9 _ _ F8.at_
      refine ⟨pS, xs, _, rfl, rfl, at9, small1000 (by omega), ?_⟩
      have tp10 := TP.upd (o := .lst (xs ++ [V.ref p9])) at9
      have sgd : SgD (.tup [.str (sgn (codeAt sh st i)), .tup [.int t, .int b], ld]) (codeAt sh st i) := ⟨⟨t, b, ld, rfl, pr, ll⟩, List.mem_of_getElem? (code_mem sh st i)⟩
      have dnew : Dt (upd H8 p9 (.tup [V.str (sgn (codeAt sh st i)), V.ref q, la])) (.ref p9) (.tup [.str (sgn (codeAt sh st i)), .tup [.int t, .int b], ld]) :=
        .tup upd_same (.cons (.str _) (.cons (.tup (s9 _ _ hq8) (.cons (.int _) (.cons (.int _) .nil))) (.cons (dl.same s9) .nil)))
      refine ⟨by rw [upd_ne nLS]; exact s9 _ _ eL8, xs ++ [V.ref p9], ds ++ [.tup [.str (sgn (codeAt sh st i)), .tup [.int t, .int b], ld]], ⟨upd_same, ?_, ?_, ?_, ?_⟩, by rw [List.length_append, xl]; rfl, _, _, _, rfl⟩
      · exact ((F8.dt.same s9).tp tp10 F8.sg.facts.2.2.1).app (.cons (dnew.tp tp10 sgd.facts.2.2.1) .nil)
      · rw [cds_more]
        exact F8.sg.app sgd
      · intro b' o hb hne
        rw [upd_ne (ne_of_none hb hS)]
        exact s9 _ _ (F8.but _ _ hb hne)
      · obtain ⟨n, z, e, r⟩ := F8.src.same s9
        exact ⟨n, z, by rw [upd_ne (Ne.symm nSl)]; exact e, r⟩
    rintro σ H5 ⟨eL5, xs, ds, F5, xl, v8, v9, v10, rfl⟩
    rw [lL] at F5 xl
    -- firsts
    refine ⟨_, rfl, pL, rfl, ⟨_, SqL.of eL5⟩, fun pF hF => ?_⟩
    have nFl : pF ≠ l := F5.src.ne hF
    have uF := Same.upd (o := .lst []) hF
    refine lc_list (K := K) (a := pL) (xs := ((cds sh st m).map sgn).map V.str) (fun i H' => But l H5 H' ∧ Src H' l ∧ ∃ fs : List Nat, H' pF = some (.lst ((fs.map sgn).map V.str)) ∧ fs.Sublist (cds sh st i)) ⟨.of uF, F5.src.same uF, [], upd_same, List.nil_sublist _⟩ (fun i H' _ e => SqL.of (e.1 _ _ eL5 nLl)) ?_ ?_
    · rintro i x H6 hx ⟨B6, S6, fs, e6, sb⟩
      obtain ⟨im, rfl⟩ := cds_get hx
      refine ⟨rfl, _, rfl, l, 5, rfl, S6, by decide, log_le 5 (by decide), fun r7 H7 g0 g1 B7 S7 => ⟨rfl, _, rfl, itd (fun _ => ?_) fun _ => ?_⟩⟩
      · have e7 := B7 _ _ e6 nFl
        have fl : fs.length ≤ i := by
          have := sb.length_le
          rw [cds_len] at this
          exact this
        refine ⟨_, rfl, _, e7, (by rw [List.length_map, List.length_map]; exact small1000 (by omega)), ?_, ?_, fs ++ [codeAt sh st i], ?_, ?_⟩
        · intro b' o hb hne
          rw [upd_ne (ne_of_none hb hF)]
          exact (B6.trans B7) _ _ hb hne
        · obtain ⟨n, z, e, r⟩ := S7
          exact ⟨n, z, by rw [upd_ne (Ne.symm nFl)]; exact e, r⟩
        · rw [upd_same, List.map_append, List.map_append]
          rfl
        · rw [cds_more]
          exact sb.append (List.Sublist.refl _)
      · exact ⟨B6.trans B7, S7, fs, B7 _ _ e6 nFl, by rw [cds_more]; exact sb.trans (List.sublist_append_left _ _)⟩
    rintro H6 ⟨B6, S6, fs, e6, sb⟩
    rw [lL] at sb
    have F6 := F5.move nSl B6 S6
    have eL6 := B6 _ _ eL5 nLl
    -- pairs
    refine ⟨(by show 0 ≤ sizeLine; decide), fun pP hP => ?_⟩
    have uP := Same.upd (o := .lst []) hP
    have nPl : pP ≠ l := S6.ne hP
    have nLP : pL ≠ pP := ne_of_none eL6 hP
    have nSP : pS ≠ pP := ne_of_none F6.at_ hP
    have nFP : pF ≠ pP := ne_of_none e6 hP
    refine ⟨_, rfl, l, _, rfl, S6.same uP, by decide, log_le 16 (by decide), fun rp H7 h0 h1 B7 S7 => ?_⟩
    have h1 : rp < 16 := Int.lt_of_lt_of_le h1 (by decide)
    refine ⟨_, rfl, by omega, by omega, ?_⟩
    have B67 := (But.of uP).trans B7
    have F7 := F6.move nSl B67 S7
    refine for_range (lo := 0) (n := rp.toNat) (fun j σ H' => But l H6 H' ∧ Src H' l ∧ ∃ (zs : List Str) (v13 v14 : Option V), H' pP = some (.lst (zs.map V.str)) ∧ PairsOf (cds sh st m) (cds sh st m) zs ∧ zs.length ≤ j ∧ σ = [some (.ref l), some (.int ms), some (.int ml), some (.int (m : Nat)), some (.int sh), some (.int st), some (.ref pL), some (.ref pS), v8, v9, v10, some (.ref pF), some (.ref pP), v13, v14])
      ⟨B67, S7, [], _, _, B7 _ _ upd_same nPl, ⟨List.nodup_nil, fun _ h => nomatch h⟩, Nat.zero_le _, rfl⟩ ?_ ?_
    · rintro j σ H8 hj ⟨B8, S8, zs, v13, v14, e8, po, zl, rfl⟩
      have eL8 := B8 _ _ eL6 nLl
      refine ⟨_, rfl, _, rfl, _, rfl, l, _, rfl, S8, by omega, log_le 6 (by omega), fun ra H9 ra0 ra1 B9 S9 => ?_⟩
      obtain ⟨ca, hca, eca⟩ := cds_at (sh := sh) (st := st) (n := m) ra0 ra1
      have eL9 := B9 _ _ eL8 nLl
      refine ⟨_, _, _, _, rfl, rfl, SqL.of eL9, eca, ?_⟩
      refine ⟨_, rfl, _, rfl, _, rfl, l, _, rfl, S9, by omega, log_le 6 (by omega), fun rb H10 rb0 rb1 B10 S10 => ?_⟩
      obtain ⟨cb, hcb, ecb⟩ := cds_at (sh := sh) (st := st) (n := m) rb0 rb1
      refine ⟨_, _, _, _, rfl, rfl, SqL.of (B10 _ _ eL9 nLl), ecb, _, _, rfl, rfl, (by show 1 + 1 ≤ sizeLine; decide), ?_⟩
      have e10 := B10 _ _ (B9 _ _ e8 nPl) nPl
      have B810 := (B8.trans B9).trans B10
      refine ⟨_, rfl, _, rfl, pP, _, rfl, .inl (SqL.of e10), rfl, flat_str _, ?_⟩
      rw [inV_strs]
      by_cases hin : (sgn ca ++ sgn cb) ∈ zs
      · rw [decide_eq_true hin]
        exact ⟨_, rfl, iteF ⟨B810, S10, zs, _, _, e10, po, by omega, rfl⟩⟩
      · rw [decide_eq_false hin]
        refine ⟨_, rfl, iteT ⟨_, rfl, .inl ⟨rfl, _, SqL.of e10⟩, _, rfl, pP, _, _, rfl, rfl, e10, (by rw [List.length_map]; exact small1000 (by omega)), ?_, ?_, zs ++ [sgn ca ++ sgn cb], _, _, ?_, pair_new po hca hcb hin, by rw [List.length_append]; show zs.length + 1 ≤ j + 1; omega, rfl⟩⟩
        · intro b' o hb hne
          rw [upd_ne (ne_of_none hb hP)]
          exact B810 _ _ hb hne
        · obtain ⟨n, z, e, r⟩ := S10
          exact ⟨n, z, by rw [upd_ne (Ne.symm nPl)]; exact e, r⟩
        · rw [upd_same, List.map_append]
          rfl
    rintro σ H8 ⟨B8, S8, zs, v13, v14, e8, po, zl, rfl⟩
    have F8 := F6.move nSl B8 S8
    have e6' := B8 _ _ e6 nFl
    refine ⟨_, rfl, _, rfl, _, rfl, l, 2, rfl, S8, by decide, log_le 2 (by decide), fun rk H9 k0 k1 B9 S9 => ?_⟩
    have F9 := F8.move nSl B9 S9
    have e69 := B9 _ _ e6' nFl
    have e89 := B9 _ _ e8 nPl
    refine ⟨_, _, rfl, rfl, .inl ⟨by decide, by decide⟩, _, _, rfl, rfl, _, rfl, ?_⟩
    have rr : rk = 0 ∨ rk = 1 := by omega
    obtain ⟨b, eb⟩ : ∃ b : Bool, (1 - 2 * rk : Int) = if b then -1 else 1 := by
      rcases rr with rfl | rfl
      · exact ⟨false, rfl⟩
      · exact ⟨true, rfl⟩
    refine ⟨pF, _, b, rfl, congrArg some eb, SqL.of e69, fun pG hG => ?_⟩
    obtain ⟨gs, eg, gn, go⟩ : ∃ gs : List Nat, (if b = true then ((fs.map sgn).map V.str).reverse else (fs.map sgn).map V.str) = (gs.map sgn).map V.str ∧ gs.Nodup ∧ ∀ c ∈ gs, c ∈ cds sh st m := by
      have fn : fs.Nodup := sb.nodup nd
      cases b with
      | false => exact ⟨fs, rfl, fn, fun c hc => sb.subset hc⟩
      | true => exact ⟨fs.reverse, by rw [if_pos rfl, List.map_reverse, List.map_reverse], (List.reverse_perm fs).nodup_iff.mpr fn, fun c hc => sb.subset (List.mem_reverse.mp hc)⟩
    rw [eg]
    have uG := Same.upd (o := .lst ((gs.map sgn).map V.str)) hG
    have eG : (upd H9 pG (.lst ((gs.map sgn).map V.str))) pG = some (.lst ((gs.map sgn).map V.str)) := upd_same
    have nGl : pG ≠ l := S9.ne hG
    have nSG : pS ≠ pG := ne_of_none F9.at_ hG
    have nGP : pG ≠ pP := (ne_of_none e89 hG).symm
    have SG := S9.same uG
    have FG := F9.move nSl (.of uG) SG
    have ePG := uG _ _ e89
    generalize upd H9 pG (.lst ((gs.map sgn).map V.str)) = HG at uG eG SG FG ePG ⊢
    refine ⟨_, rfl, _, rfl, _, rfl, l, ml, rfl, SG, by omega, log_le 8 (by omega), fun ri H10 i0 i1 B10 S10 => ⟨_, _, rfl, rfl, (by show 4 ≤ sizeLine; decide), fun p9 hp9 => ?_⟩⟩
    have u9 := Same.upd (o := .tup [.ref pS, .ref pG, .ref pP, .int (1 + ri)]) hp9
    have B04 : But l H H4 := B03.trans (.of s4)
    have B06 : But l H H6 := (B04.trans F5.but).trans B6
    have B0G : But l H HG := (B06.trans B8).trans (B9.trans (.of uG))
    have B010 := B0G.trans B10
    have n9l : p9 ≠ l := S10.ne hp9
    have F10 := FG.move nSl B10 S10
    refine k (.ref p9) (.tup [.lst ds, .lst ((gs.map sgn).map D.str), .lst (zs.map D.str), .int (1 + ri)]) ds (cds sh st m) gs zs (1 + ri) _ (B010.trans (.of u9)) (S10.same u9) ⟨rfl, F10.sg, nd, by rw [cl]; exact m2, by rw [cl]; exact m6, gn, go, po, by omega, by omega⟩ ⟨p9, pS, pG, pP, xs, rfl, upd_same, u9 _ _ F10.at_, F10.dt.same u9, u9 _ _ (B10 _ _ eG nGl), u9 _ _ (B10 _ _ ePG nPl), B010.none hp9 n9l, B04.none hS nSl, ?_, B06.none hP nPl, nSG, nSP, nGP⟩
    exact ((B06.trans B8).trans B9).none hG nGl
end
end Dear

namespace Dear
open PySem PySem.Spec PyProof.Rows L2
/-! ### fractions made of two whole numbers -/
theorem gcd_dvd_t (t b : Int) : (Int.gcd b t : Int) ∣ t := Int.gcd_dvd_right ..
theorem gcd_dvd_b (t b : Int) : (Int.gcd b t : Int) ∣ b := Int.gcd_dvd_left ..
theorem low_mul (t b : Int) (h : 0 < b) : lowT t b * (Int.gcd b t : Int) = t ∧ lowB t b * (Int.gcd b t : Int) = b := ⟨Int.ediv_mul_cancel (gcd_dvd_t t b), Int.ediv_mul_cancel (gcd_dvd_b t b)⟩
theorem low_fr (t b : Int) (h : 0 < b) : 0 < lowB t b ∧ Int.gcd (lowB t b) (lowT t b) = 1 := by
  have g := gcd_pos t h
  obtain ⟨e1, e2⟩ := low_mul t b h
  constructor
  · rcases Int.lt_or_le 0 (lowB t b) with z | z
    · exact z
    · have := Int.mul_nonpos_of_nonpos_of_nonneg z (Int.le_of_lt g)
      omega
  · have g' : 0 < Nat.gcd b.natAbs t.natAbs := by
      have : ((Int.gcd b t : Nat) : Int) = ((Nat.gcd b.natAbs t.natAbs : Nat) : Int) := rfl
      omega
    have n1 : (lowT t b).natAbs = t.natAbs / Nat.gcd b.natAbs t.natAbs := by
      have := congrArg Int.natAbs e1
      rw [Int.natAbs_mul] at this
      have e : ((Int.gcd b t : Nat) : Int).natAbs = Nat.gcd b.natAbs t.natAbs := Int.natAbs_natCast _
      rw [e] at this
      exact (Nat.div_eq_of_eq_mul_left g' this.symm).symm
    have n2 : (lowB t b).natAbs = b.natAbs / Nat.gcd b.natAbs t.natAbs := by
      have := congrArg Int.natAbs e2
      rw [Int.natAbs_mul] at this
      have e : ((Int.gcd b t : Nat) : Int).natAbs = Nat.gcd b.natAbs t.natAbs := Int.natAbs_natCast _
      rw [e] at this
      exact (Nat.div_eq_of_eq_mul_left g' this.symm).symm
    show Nat.gcd (lowB t b).natAbs (lowT t b).natAbs = 1
    rw [n1, n2, Nat.gcd_div (Nat.gcd_dvd_left _ _) (Nat.gcd_dvd_right _ _)]
    exact Nat.div_self g'
theorem low_small (t b : Int) (h : 0 < b) : (lowT t b).natAbs ≤ t.natAbs ∧ (lowB t b).natAbs ≤ b.natAbs := by
  have g := gcd_pos t h
  obtain ⟨e1, e2⟩ := low_mul t b h
  have key : ∀ x y : Int, x * (Int.gcd b t : Int) = y → x.natAbs ≤ y.natAbs := fun x y e => by
    rw [← e, Int.natAbs_mul]
    exact Nat.le_mul_of_pos_right _ (by omega)
  exact ⟨key _ _ e1, key _ _ e2⟩
/-- worth the two crosswise -/
theorem low_cross (t b : Int) (h : 0 < b) : lowT t b * b = t * lowB t b := by
  obtain ⟨e1, e2⟩ := low_mul t b h
  have a : lowT t b * b = lowT t b * (lowB t b * (Int.gcd b t : Int)) := by rw [e2]
  have c : t * lowB t b = lowT t b * (Int.gcd b t : Int) * lowB t b := by rw [e1]
  rw [a, c, Int.mul_assoc, Int.mul_comm (Int.gcd b t : Int)]
def frT (t b : Int) : Int := if b < 0 then lowT (0 - t) (0 - b) else lowT t b
def frB (t b : Int) : Int := if b < 0 then lowB (0 - t) (0 - b) else lowB t b
theorem fr_cross {t b : Int} (h : b ≠ 0) : frT t b * b = t * frB t b := by
  unfold frT frB
  by_cases c : b < 0
  · rw [if_pos c, if_pos c]
    have := low_cross (0 - t) (0 - b) (by omega)
    generalize lowT (0 - t) (0 - b) = x at this ⊢
    generalize lowB (0 - t) (0 - b) = y at this ⊢
    rw [Int.mul_sub, Int.sub_mul, Int.mul_zero, Int.zero_mul, Int.zero_sub, Int.zero_sub] at this
    exact Int.neg_inj.mp this
  · rw [if_neg c, if_neg c]
    exact low_cross t b (by omega)
theorem fr_fr {t b : Int} (h : b ≠ 0) : isFr (.tup [.int (frT t b), .int (frB t b)]) = true := by
  show (decide (0 < frB t b) && (Int.gcd (frB t b) (frT t b) == 1)) = true
  unfold frT frB
  by_cases c : b < 0
  · obtain ⟨h1, h2⟩ := low_fr (0 - t) (0 - b) (by omega)
    rw [if_pos c, if_pos c, decide_eq_true h1, h2]
    rfl
  · obtain ⟨h1, h2⟩ := low_fr t b (by omega)
    rw [if_neg c, if_neg c, decide_eq_true h1, h2]
    rfl
theorem fr_small {t b : Int} (h : b ≠ 0) : (frT t b).natAbs ≤ t.natAbs ∧ (frB t b).natAbs ≤ b.natAbs := by
  unfold frT frB
  by_cases c : b < 0
  · obtain ⟨h1, h2⟩ := low_small (0 - t) (0 - b) (by omega)
    rw [if_pos c, if_pos c]
    omega
  · rw [if_neg c, if_neg c]
    exact low_small t b (by omega)
/-- two whole numbers, the second not 0 -/
def twoOk : D → D → Bool
  | .int _, .int b => !decide (b = 0)
  | _, _ => false
/-- fraction(top, bottom): a new tuple, or a refusal of the class at C -/
def spFraction (C : Addr) : Sp := fun vs H Q E => ∃ (v1 v2 : V) (d1 d2 : D), vs = [v1, v2] ∧ Dt H v1 d1 ∧ Dt H v2 d2 ∧ Ok d2 ∧
  (∀ t b : Int, d1 = .int t → d2 = .int b → b ≠ 0 → ∀ (p : Addr) (H' : Hp), H p = none → Same H H' → H' p = some (.tup [.int (frT t b), .int (frB t b)]) → Q (.ref p) H') ∧
  (twoOk d1 d2 = false → E (.ref C) none H)
section
variable {P : Program} {w : World} {K : PySem.W.Frag} {mg : Str → Option Value} {base : Heap}
theorem o_lowest (T : Txt K mg) : OkF P w K mg base CX0 2 "lowest" ["top", "bottom"] spLowest := by
  have o_divisor := o_divisor (P := P) (w := w) (base := base) T
  refine T.f_lowest.ok c_lowest (fun vs H Q E h => ?_) (fun f cdv A outer s H vs Q E hr h => ?_)
  · obtain ⟨v, n, rfl, _⟩ := h
    rfl
  · obtain ⟨t, b, rfl, hb, hl, k⟩ := h
    refine ⟨_, (pss_cons (ps_set (i := 2) c_lowest.nd rfl (Or.inl rfl) (pe_c o_divisor hr (pa_cons (pv 1) (pa_cons (pe_callB call_abs (by rfl) T.b_abs (by decide +kernel) (pa_cons (pv 0) pa_nil)) pa_nil))))
(pss_one (ps_ret (pe_tup (pa_cons (pe_op op_fdivW (pv 0) (pv 2)) (pa_cons (pe_op op_fdivW (pv 1) (pv 2)) pa_nil)))))), ?_⟩
    refine ⟨_, rfl, _, rfl, _, rfl, _, _, rfl, by omega, ?_, ?_⟩
    · split <;> omega
    · rw [abs_if, gcd_abs]
      refine ⟨_, rfl, _, rfl, _, _, rfl, rfl, ⟨gcd_pos t hb, gcd_log t hb hl⟩, _, rfl, _, rfl, _, _, rfl, rfl, ⟨gcd_pos t hb, gcd_log t hb hl⟩, (by show 2 ≤ sizeLine; decide), fun p hp => ?_⟩
      exact k p _ hp (Same.upd hp) upd_same
theorem o_fraction (T : Txt K mg) : OkD P w K mg base (L2.CX P w) 3 "fraction" ["top", "bottom"] [.int 1] (spFraction T.A.NoNumber) := by
  have o_is_whole := o_is_whole (P := P) (w := w) (base := base) T
  have o_lowest := o_lowest (P := P) (w := w) (base := base) T
  refine T.f_fraction.ok c_fraction (fun vs H Q E h => ?_) (fun f cdv A outer s H vs Q E hr h => ?_)
  · obtain ⟨v1, v2, d1, d2, rfl, _⟩ := h
    rfl
  · obtain ⟨v1, v2, d1, d2, rfl, h1, h2, ok2, k, kE⟩ := h
    refine ⟨_, (pss_cons (ps_if (PW.pt (pw_or (pt_not (pt_val (pe_c o_is_whole hr (pa_cons (pv 0) pa_nil)))) (pw_or (pt_not (pt_val (pe_c o_is_whole hr (pa_cons (pv 1) pa_nil)))) (pw_or1 (pt_cmpR op_eq (pv 1) pe_int (nomark _))))))
(pss_one (ps_raise rfl (takes_of rfl rfl rfl rfl) (pmk_own PySem.F.excBase_ValueError T.X_NoNumber.x T.X_NoNumber.g T.X_NoNumber.k (raises_own T.X_NoNumber.b T.X_NoNumber.t) rfl)))
pss_nil)
(pss_cons (ps_if (pt_cmpR op_lt (pv 1) pe_int (nomark _))
(pss_one (ps_ret (pe_c o_lowest hr (pa_cons (pe_op op_sub pe_int (pv 0)) (pa_cons (pe_op op_sub pe_int (pv 1)) pa_nil)))))
pss_nil)
(pss_one (ps_ret (pe_c o_lowest hr (pa_cons (pv 0) (pa_cons (pv 1) pa_nil))))))), ?_⟩
    refine ⟨_, rfl, _, _, rfl, h1, _, rfl, ?_⟩
    cases h1 with
    | int t =>
      refine iteF ⟨_, rfl, _, _, rfl, h2, _, rfl, ?_⟩
      cases h2 with
      | int b =>
        refine iteF ⟨_, rfl, rfl, _, rfl, ?_⟩
        rw [dec_int]
        by_cases c : b = 0
        · have e : (b == 0) = true := by simpa using c
          rw [e]
          refine iteT (kE ?_)
          show (!decide (b = 0)) = false
          rw [decide_eq_true c]
          rfl
        · have e : (b == 0) = false := by simpa using c
          rw [e]
          refine iteF ?_
          have kk := k t b rfl rfl c
          have bl : b.natAbs < 2 ^ 300 := ok2
          refine ⟨_, rfl, _, _, rfl, rfl, _, rfl, itd (fun c1 => ?_) fun c1 => ?_⟩
          · refine ⟨_, rfl, _, _, rfl, rfl, _, rfl, _, _, rfl, rfl, 0 - t, 0 - b, rfl, by omega, log_small (n := 300) (by decide) (by omega) (by decide), fun p H' hp s' h' => kk p H' hp s' ?_⟩
            unfold frT frB
            rw [if_pos c1, if_pos c1]
            exact h'
          · refine ⟨_, rfl, _, rfl, t, b, rfl, by omega, log_small (n := 300) (by decide) bl (by decide), fun p H' hp s' h' => kk p H' hp s' ?_⟩
            unfold frT frB
            rw [if_neg c1, if_neg c1]
            exact h'
      | _ => exact iteT (kE rfl)
    | _ => exact iteT (kE (by cases d2 <;> rfl))
end
end Dear

namespace Dear
open PySem PySem.Spec PyProof.Rows L2
/-! ### fractions written and read -/
def wholeN (m : Int) (l : List Nat) : Option Nat := if wholeOk m l then some (PySem.NumText.digitsVal l) else none
def optV : Option Nat → V
  | none => .non
  | some n => .int (n : Nat)
theorem wholeIn_opt (m : Int) (l : List Nat) : wholeIn m l = optV (wholeN m l) := by
  unfold wholeIn wholeN
  split <;> rfl
def finF (t b : Int) : Option (Int × Int) := if Int.gcd b t = 1 then some (t, b) else none
def sgnI (neg : Bool) (a : Nat) : Int := if neg then -(a : Int) else a
def fracNs (neg : Bool) : List (Option Nat) → Option (Int × Int)
  | [some a] => if neg && decide (a = 0) then none else finF (sgnI neg a) 1
  | [some a, some b] => if decide (b < 2) || (neg && decide (a = 0)) then none else finF (sgnI neg a) b
  | _ => none
def isNeg (l : List Nat) : Bool := decide (l.take 1 = [45])
def figsOf (l : List Nat) : List Nat := if isNeg l then l.drop 1 else l
def partsOf (l : List Nat) : List (List Nat) := TL.spl [47] 0 [] (figsOf l)
def fracIn (m : Int) (l : List Nat) : Option (Int × Int) := fracNs (isNeg l) ((partsOf l).map (wholeN m))
def spShow : Sp := fun vs H Q _ => ∃ (p : Addr) (t b : Int), vs = [.ref p] ∧ H p = some (.tup [.int t, .int b]) ∧ 0 < b ∧ t.natAbs < 2 ^ 250 ∧ b.natAbs < 2 ^ 250 ∧ Q (.str (txt (fracL t b))) H
def spWholeIn : Sp := fun vs H Q _ => ∃ (l : List Nat) (m : Int), vs = [.str (txt l), .int m] ∧ l.length ≤ 1000 ∧ 0 ≤ m ∧ m ≤ 600 ∧ ∀ H', Same H H' → Q (wholeIn m l) H'
def spFracIn : Sp := fun vs H Q _ => ∃ (l : List Nat) (m : Int), vs = [.str (txt l), .int m] ∧ l.length ≤ 900 ∧ 0 ≤ m ∧ m ≤ 60 ∧ (fracIn m l = none → ∀ H', Same H H' → Q .non H') ∧
  ∀ x, fracIn m l = some x → ∀ (p : Addr) (H' : Hp), Same H H' → H' p = some (.tup [.int x.1, .int x.2]) → Q (.ref p) H'
theorem str_int {t : Int} : Str.ofString (toString t) = txt ((if t < 0 then [45] else []) ++ figL t.natAbs) := by
  by_cases h : t < 0
  · rw [if_pos h]
    have e : t = -((t.natAbs : Nat) : Int) := by omega
    rw [e, str_neg (by omega), Int.natAbs_neg, Int.natAbs_natCast]
    rfl
  · rw [if_neg h]
    have e : t = ((t.natAbs : Nat) : Int) := by omega
    rw [e, str_num, Int.natAbs_natCast]
    rfl
theorem fig_len250 {n : Nat} (h : n < 2 ^ 250) : (figL n).length ≤ 100 := fig_len (by decide) (Nat.lt_of_lt_of_le h (by decide))
theorem wholeOk_len {m : Int} {l : List Nat} (h : wholeOk m l = true) : 1 ≤ l.length ∧ (l.length : Int) ≤ m := by
  unfold wholeOk at h
  rw [Bool.and_eq_true, Bool.and_eq_true, decide_eq_true_eq] at h
  omega
theorem val_lt : ∀ {l : List Nat}, (∀ c ∈ l, c ≤ 57) → PySem.NumText.digitsVal l < 10 ^ l.length := by
  have key : ∀ (l : List Nat) (acc k : Nat), acc < 10 ^ k → (∀ c ∈ l, c ≤ 57) → l.foldl (fun acc c => acc * 10 + (c - 48)) acc < 10 ^ (k + l.length) := by
    intro l
    induction l with
    | nil =>
      intro acc k h _
      exact h
    | cons c r ih =>
      intro acc k h hc
      have h1 := hc c List.mem_cons_self
      have h2 : acc * 10 + (c - 48) < 10 ^ (k + 1) := by
        rw [Nat.pow_succ]
        omega
      have := ih (acc * 10 + (c - 48)) (k + 1) h2 fun x hx => hc x (List.mem_cons_of_mem _ hx)
      rw [List.length_cons, show k + (r.length + 1) = k + 1 + r.length by omega]
      exact this
  intro l h
  have := key l 0 0 (by decide) h
  rw [Nat.zero_add] at this
  exact this
theorem whole_lt {l : List Nat} {n : Nat} {m : Int} (h : wholeN m l = some n) (hm : m ≤ 60) : n < 2 ^ 250 := by
  unfold wholeN at h
  split at h
  · rename_i ok
    injection h with h
    subst h
    have hl := wholeOk_len ok
    unfold wholeOk at ok
    rw [Bool.and_eq_true, List.all_eq_true] at ok
    have := val_lt (l := l) fun c hc => (in_fig (of_decide_eq_true (ok.2 c hc))).2
    refine Nat.lt_of_lt_of_le this (Nat.le_trans (Nat.pow_le_pow_right (by decide) (show l.length ≤ 60 by omega)) (by decide))
  · cases h
theorem spl_ne (S : List Nat) : ∀ (l : List Nat) (k : Nat) (acc : List Nat), TL.spl S k acc l ≠ []
  | [], k, acc => by
    rw [TL.spl_nil]
    exact List.cons_ne_nil _ _
  | c :: r, 0, acc => by
    by_cases h : TL.pre S (c :: r) = true
    · rw [TL.spl_hit h]
      exact List.cons_ne_nil _ _
    · rw [TL.spl_miss (by simpa using h)]
      exact spl_ne S r 0 _
  | _ :: r, k + 1, acc => spl_ne S r k acc
theorem spl_len (S : List Nat) : ∀ (l : List Nat) (k : Nat) (acc : List Nat), (TL.spl S k acc l).length ≤ l.length + 1 ∧ ∀ p ∈ TL.spl S k acc l, p.length ≤ acc.length + l.length
  | [], k, acc => by
    rw [TL.spl_nil]
    refine ⟨Nat.le_refl _, fun p hp => ?_⟩
    have : p = acc := by simpa using hp
    subst this
    exact Nat.le_refl _
  | c :: r, 0, acc => by
    by_cases h : TL.pre S (c :: r) = true
    · rw [TL.spl_hit h]
      obtain ⟨h1, h2⟩ := spl_len S r (S.length - 1) []
      refine ⟨Nat.succ_le_succ h1, fun p hp => ?_⟩
      rw [List.length_cons]
      rcases List.mem_cons.mp hp with rfl | hp
      · omega
      · have := h2 p hp
        rw [List.length_nil] at this
        omega
    · rw [TL.spl_miss (by simpa using h)]
      obtain ⟨h1, h2⟩ := spl_len S r 0 (acc ++ [c])
      refine ⟨Nat.le_succ_of_le h1, fun p hp => ?_⟩
      have := h2 p hp
      rw [List.length_append] at this
      rw [List.length_cons]
      have this : p.length ≤ acc.length + 1 + r.length := this
      omega
  | c :: r, k + 1, acc => by
    obtain ⟨h1, h2⟩ := spl_len S r k acc
    refine ⟨Nat.le_succ_of_le h1, fun p hp => ?_⟩
    have := h2 p hp
    rw [List.length_cons]
    omega
theorem flat_opt (os : List (Option Nat)) : (os.map optV).all flatV = true := by
  rw [List.all_eq_true]
  intro x hx
  obtain ⟨o, _, rfl⟩ := List.mem_map.mp hx
  cases o <;> rfl
section
variable {P : Program} {w : World} {K : PySem.W.Frag} {mg : Str → Option Value} {base : Heap}
theorem o_whole_in (T : Txt K mg) : OkF P w K mg base CX0 1 "whole_in" ["word", "most"] spWholeIn := by
  refine T.f_whole_in.ok c_whole_in (fun vs H Q E h => ?_) (fun f cdv A outer s H vs Q E hr h => ?_)
  · obtain ⟨l, m, rfl, _⟩ := h
    rfl
  · obtain ⟨l, m, rfl, ll, m0, m9, k⟩ := h
    refine ⟨_, (C8.pss_cut (ps_if (PW.pt (pw_or (pt_not (pt_chain op_le op_le pe_int (pe_callB call_len_str (by rfl) T.b_len PySem.boot_len (pa_cons (pv 0) pa_nil)) (pv 1))) (pw_or1 (PW.pt (pw_and (pt_cmpR op_gt (pe_callB call_len_str (by rfl) T.b_len PySem.boot_len (pa_cons (pv 0) pa_nil)) pe_int (nomark _)) (pw_and1 (pt_cmpR op_eq (pe_ix ix_str (pv 0) pe_int (fun _ _ => rfl)) pe_str (nomark _))))))))
(pss_one (ps_ret pe_non))
pss_nil)
(C8.pss_cut (ps_if (pt_not (pt_val (pe_callB (cr_all_k K rfl) (by rfl) T.b_all (by decide +kernel) (pa_cons (pe_lc (own := [("sign", 2)]) (g := gName 2) (tt := tYes) (by rfl) c_whole_in.nd (pi_str (pv 0)) (blkOk_by (own := [("sign", 2)]) (N := n_whole_in) (sc := defScope s_whole_in) (by decide +kernel)) (fun _ _ _ _ _ => (pg_name (i := 2) c_whole_in.nd rfl (Or.inl rfl))) (fun _ _ _ _ _ => pts_nil) (fun _ _ _ _ _ => (pe_cmpR op_in_sign (pv 2) (pe_gs T.g_FIGURES) rfl))) pa_nil))))
(pss_one (ps_ret pe_non))
pss_nil)
(pss_one (ps_ret (pe_callTy call_int_str (by rfl) T.b_int (by decide +kernel) (pa_cons (pv 0) pa_nil)))))), ?_⟩
    have hz : (txt l).length ≤ sizeLine := sz_lit (by rw [txt_length]; exact ll)
    have tl := txt_length l
    have no : wholeOk m l = false → ∀ H', Same H H' → Q .non H' := fun e H' s => by
      have := k H' s
      unfold wholeIn at this
      rw [e] at this
      exact this
    refine ⟨fun σ' H' => σ' = [some (.str (txt l)), some (.int m), none] ∧ H' = H ∧ (1 ≤ (l.length : Int) ∧ (l.length : Int) ≤ m) ∧ (decide (1 < l.length) && decide (l.head? = some 48)) = false, ?_, ?_⟩
    · refine ⟨_, rfl, _, rfl, hz, _, _, rfl, rfl, _, rfl, itd (fun c1 => ?_) fun c1 => ?_⟩
      · refine ⟨_, rfl, _, _, rfl, rfl, _, rfl, itnd (fun c2 => ?_) fun c2 => ?_⟩
        · refine no ?_ H (Same.refl H)
          unfold wholeOk
          rw [decide_eq_false fun q => c2 (by rw [tl]; exact q.2)]
          rfl
        have c2 : ((txt l).length : Int) ≤ m := c2
        have c1 : (1 : Int) ≤ ((txt l).length : Int) := c1
        have lm : 1 ≤ (l.length : Int) ∧ (l.length : Int) ≤ m := by omega
        refine ⟨_, rfl, _, rfl, hz, _, _, rfl, rfl, _, rfl, itd (fun c3 => ?_) fun c3 => ?_⟩
        · have c3 : (1 : Int) < ((txt l).length : Int) := c3
          cases l with
          | nil => exact absurd c3 (by decide)
          | cons c r =>
            refine ⟨_, rfl, _, _, c, rfl, rfl, hz, (by rw [txt_list]; exact atI_nat (j := 0) rfl), rfl, _, rfl, itd (fun c4 => ?_) fun c4 => ?_⟩
            · refine no ?_ H (Same.refl H)
              have e4 : c = 48 := by
                injection c4 with c4
                have := txt_inj (show txt [c] = txt [48] from c4.trans (by decide +kernel))
                simpa using this
              subst e4
              unfold wholeOk
              rw [decide_eq_true (show 1 < (48 :: r).length by omega), decide_eq_true lm]
              rfl
            · refine ⟨rfl, rfl, lm, ?_⟩
              have e4 : ¬ (c :: r).head? = some 48 := fun z => c4 (by
                injection z with z
                subst z
                have : (⟨#[48]⟩ : Str) = "0" := by decide +kernel
                rw [this])
              rw [decide_eq_false e4, Bool.and_false]
        · refine ⟨rfl, rfl, lm, ?_⟩
          have c3 : ¬ (1 : Int) < ((txt l).length : Int) := c3
          rw [decide_eq_false (show ¬ 1 < l.length by omega)]
          rfl
      · refine ⟨_, rfl, iteT (no ?_ H (Same.refl H))⟩
        unfold wholeOk
        rw [decide_eq_false fun q => c1 (by rw [tl]; exact q.1)]
        rfl
    rintro σ' H' ⟨rfl, rfl, lm, hh⟩
    refine ⟨fun σ' H9 => σ' = [some (.str (txt l)), some (.int m), none] ∧ Same H' H9 ∧ wholeOk m l = true, ?_, ?_⟩
    · refine ⟨_, rfl, _, rfl, fun pD hD => lc_it (walk_str (z := txt l)) (fun i H9 => ∃ bs : List Bool, bs = (l.take i).map (fun c => decide (c ∈ figures.cps.toList)) ∧ H9 = upd H' pD (.lst (bs.map V.bl))) ⟨[], rfl, rfl⟩ (fun _ _ _ _ => trivial) ?_ ?_⟩
      · rintro i x H1 H2 hi ⟨bs, eb, rfl⟩ ⟨rfl, c, hc, rfl⟩
        have hc' : l[i]? = some c := by
          rw [← txt_list l, Array.getElem?_toList]
          exact hc
        refine ⟨rfl, _, rfl, _, _, rfl, rfl, _, upd_same, ?_, bs ++ [decide (c ∈ figures.cps.toList)], ?_, ?_⟩
        · rw [List.length_map, eb, List.length_map, List.length_take]
          exact small1000 (by omega)
        · rw [eb, take_more hc', List.map_append]
          rfl
        · rw [upd_upd, List.map_append]
          rfl
      · rintro H1 ⟨bs, eb, rfl⟩
        refine ⟨pD, bs, rfl, SqL.of upd_same, ?_⟩
        have e4 : bs.all id = l.all fun c => decide (c ∈ figures.cps.toList) := by
          rw [eb, show (txt l).cps.size = l.length from txt_length l, List.take_length, List.all_map]
          rfl
        rw [e4]
        have ew : wholeOk m l = l.all fun c => decide (c ∈ figures.cps.toList) := by
          unfold wholeOk
          rw [decide_eq_true lm, hh]
          rfl
        rw [← ew]
        cases e5 : wholeOk m l with
        | false => exact ⟨_, rfl, iteT (no e5 _ (Same.upd hD))⟩
        | true => exact ⟨_, rfl, iteF ⟨rfl, Same.upd hD, rfl⟩⟩
    rintro σ' H9 ⟨rfl, s9, ok⟩
    refine ⟨_, rfl, txt l, _, rfl, int_text ok m9, by rw [tl]; omega, ?_⟩
    have fin := k H9 s9
    unfold wholeIn at fin
    rw [if_pos ok] at fin
    exact fin
theorem neg_ne {l : List Nat} (h : isNeg l = true) : l ≠ [] ∧ l = 45 :: l.drop 1 := by
  unfold isNeg at h
  have h := of_decide_eq_true h
  cases l with
  | nil => cases h
  | cons c r =>
    have : c = 45 := by simpa using h
    subst this
    exact ⟨List.cons_ne_nil _ _, rfl⟩
theorem frac_fin {t b : Int} (hb : 0 < b) : PyData.eqv (.tuple [.int (frT t b), .int (frB t b)]) (.tuple [.int t, .int b]) = decide (Int.gcd b t = 1) := by
  have e1 : frT t b = lowT t b := by
    unfold frT
    rw [if_neg (by omega)]
  have e2 : frB t b = lowB t b := by
    unfold frB
    rw [if_neg (by omega)]
  rw [e1, e2]
  have e3 : PyData.eqv (.tuple [.int (lowT t b), .int (lowB t b)]) (.tuple [.int t, .int b]) = ((lowT t b == t) && (lowB t b == b)) := by simp [PyData.eqv, PyData.eqvAll]
  rw [e3, low_eq hb]
  by_cases z : Int.gcd b t = 1
  · rw [z]
    rfl
  · rw [decide_eq_false z]
    simpa using z
theorem shaped_tt (a b : Int) : SeqAt.shaped (.tuple [.int a, .int b]) = true := by
  simp [SeqAt.shaped, PyData.canLay0, PyData.canLayAll0, PyData.depth, PyData.depthAll]
theorem o_fraction_in (T : Txt K mg) : OkF P w K mg base CX0 4 "fraction_in" ["word", "most"] spFracIn := by
  have o_whole_in := o_whole_in (P := P) (w := w) (base := base) T
  have o_fraction := o_fraction (P := P) (w := w) (base := base) T
  refine T.f_fraction_in.ok c_fraction_in (fun vs H Q E h => ?_) (fun f cdv A outer s H vs Q E hr h => ?_)
  · obtain ⟨l, m, rfl, _⟩ := h
    rfl
  · obtain ⟨l, m, rfl, ll, m0, m60, kN, kS⟩ := h
    refine ⟨_, (pss_cons (ps_set (i := 2) c_fraction_in.nd rfl (Or.inl rfl) (pv 0))
(C8.pss_cut (ps_if (pt_cmpR op_eq (pe_slice sl_str (pv 0) po_none (po_some pe_int)) pe_str (nomark _))
(pss_one (ps_set (i := 2) c_fraction_in.nd rfl (Or.inl rfl) (pe_slice sl_str (pv 0) (po_some pe_int) po_none)))
pss_nil)
(pss_cons (ps_setLc (i := 3) (own := [("part", 5)]) (g := gName 5) (tt := tYes) (by rfl) c_fraction_in.nd rfl rfl (sw_true rfl rfl rfl (by decide +kernel)) (pi_list_k K (pe_split (pv 2) pe_str)) (blkOk_by (own := [("part", 5)]) (N := n_fraction_in) (sc := defScope s_fraction_in) (by decide +kernel)) (fun _ _ _ _ _ => (pg_name (i := 5) c_fraction_in.nd rfl (Or.inl rfl))) (fun _ _ _ _ _ => pts_nil) (fun _ _ _ _ _ => (pe_c o_whole_in hr (pa_cons (pv 5) (pa_cons (pv 1) pa_nil)))))
(C8.pss_cut (ps_if (PW.pt (pw_or (pt_cmpR (op_in_seq_k K) pe_non (pv 3) rfl) (pw_or1 (pt_cmpR op_gt (pe_callB (call_len_seq_k K) (by rfl) T.b_len PySem.boot_len (pa_cons (pv 3) pa_nil)) pe_int (nomark _)))))
(pss_one (ps_ret pe_non))
pss_nil)
(C8.pss_cut (ps_if (PW.pt (pw_or (PW.pt (pw_and (pt_cmpR op_eq (pe_callB (call_len_seq_k K) (by rfl) T.b_len PySem.boot_len (pa_cons (pv 3) pa_nil)) pe_int (nomark _)) (pw_and1 (pt_cmpR op_lt (pe_ix (ix_list_k K) (pv 3) pe_int (fun _ _ => rfl)) pe_int (nomark _))))) (pw_or1 (PW.pt (pw_and (pt_cmpR op_ne (pv 2) (pv 0) (nomark _)) (pw_and1 (pt_cmpR op_eq (pe_ix (ix_list_k K) (pv 3) pe_int (fun _ _ => rfl)) pe_int (nomark _))))))))
(pss_one (ps_ret pe_non))
pss_nil)
(pss_cons (ps_set (i := 4) c_fraction_in.nd rfl (Or.inl rfl) (pe_tup (pa_cons (pe_ix (ix_list_k K) (pv 3) pe_int (fun _ _ => rfl)) (pa_cons (pe_ix (ix_list_k K) (pe_op op_cat (pv 3) (pe_lst (pa_cons pe_int pa_nil))) pe_int (fun _ _ => rfl)) pa_nil))))
(C8.pss_cut (ps_if (pt_cmpR op_ne (pv 2) (pv 0) (nomark _))
(pss_one (ps_set (i := 4) c_fraction_in.nd rfl (Or.inl rfl) (pe_tup (pa_cons (pe_op op_sub pe_int (pe_ix (ix_tup_k K) (pv 4) pe_int (fun _ _ => rfl))) (pa_cons (pe_ix (ix_tup_k K) (pv 4) pe_int (fun _ _ => rfl)) pa_nil)))))
pss_nil)
(C8.pss_cut (ps_if (pt_cmpR (op_neD_k K hr.units) (pe_cxn o_fraction hr takes0 (pa_cons (pe_ix (ix_tup_k K) (pv 4) pe_int (fun _ _ => rfl)) (pa_cons (pe_ix (ix_tup_k K) (pv 4) pe_int (fun _ _ => rfl)) pa_nil))) (pv 4) (nomark _))
(pss_one (ps_ret pe_non))
pss_nil)
(pss_one (ps_ret (pv 4))))))))))), ?_⟩
    have hz : (txt l).length ≤ sizeLine := sz_lit (by rw [txt_length]; omega)
    have flen : (figsOf l).length ≤ l.length := by
      unfold figsOf
      split
      · rw [List.length_drop]
        omega
      · exact Nat.le_refl _
    refine ⟨_, rfl, fun σ' H' => H' = H ∧ σ' = [some (.str (txt l)), some (.int m), some (.str (txt (figsOf l))), none, none, none], ?_, ?_⟩
    · refine ⟨_, rfl, _, rfl, _, rfl, hz, ?_⟩
      rw [show cutS (txt l) none (some 1) = txt (l.take 1) from cut_pre l 1]
      refine ⟨rfl, _, rfl, itd (fun e => ?_) fun e => ?_⟩
      · have en : isNeg l = true := decide_eq_true (by
          injection e with e
          exact txt_inj (e.trans (by decide +kernel : ("-" : Str) = txt [45])))
        refine ⟨_, rfl, _, rfl, _, rfl, hz, rfl, ?_⟩
        rw [show cutS (txt l) (some 1) none = txt (l.drop 1) from cut_from l 1]
        unfold figsOf
        rw [if_pos en]
        rfl
      · have en : isNeg l = false := decide_eq_false fun z => e (by
          rw [z]
          exact congrArg V.str (by decide +kernel : txt [45] = ("-" : Str)))
        refine ⟨rfl, ?_⟩
        unfold figsOf
        rw [if_neg (by rw [en]; decide)]
        rfl
    rintro σ' H' ⟨rfl, rfl⟩
    have hzf : (txt (figsOf l)).length + 2 ≤ sizeLine := sz_lit (by rw [txt_length]; omega)
    have psp : Txt.split (txt (figsOf l)) "/" = (partsOf l).map txt := split_txt rfl
    obtain ⟨pl1, pl2⟩ := spl_len [47] (figsOf l) 0 []
    have pl1 : (partsOf l).length ≤ (figsOf l).length + 1 := pl1
    have pl2 : ∀ p ∈ partsOf l, p.length ≤ l.length := fun p hp => by
      have := pl2 p hp
      rw [List.length_nil] at this
      omega
    refine ⟨_, rfl, ⟨_, rfl⟩, txt (figsOf l), "/", rfl, rfl, (by decide +kernel), hzf, fun pS hS => ?_⟩
    rw [psp]
    have sS := Same.upd (o := .lst (((partsOf l).map txt).map V.str)) hS
    have eS : (upd H' pS (.lst (((partsOf l).map txt).map V.str))) pS = some (.lst (((partsOf l).map txt).map V.str)) := upd_same
    generalize upd H' pS (.lst (((partsOf l).map txt).map V.str)) = H1 at sS eS ⊢
    refine ⟨pS, rfl, ⟨_, SqL.of eS⟩, fun pD hD => lc_list (K := K) (a := pS) (xs := ((partsOf l).map txt).map V.str) (fun i H9 => Same H1 H9 ∧ H9 pD = some (.lst ((((partsOf l).take i).map (wholeN m)).map optV))) ⟨Same.upd hD, upd_same⟩ (fun i H9 _ e => SqL.of (e.1 _ _ eS)) ?_ ?_⟩
    · rintro i x H9 hx ⟨s9, e9⟩
      obtain ⟨p, hp, rfl⟩ : ∃ p, (partsOf l)[i]? = some p ∧ x = .str (txt p) := by
        rw [List.map_map, List.getElem?_map] at hx
        cases q9 : (partsOf l)[i]? with
        | none => rw [q9] at hx; cases hx
        | some p => rw [q9] at hx; exact ⟨p, rfl, (Option.some.inj hx).symm⟩
      have hpm := pl2 p (List.mem_of_getElem? hp)
      refine ⟨rfl, _, rfl, _, rfl, p, m, rfl, by omega, m0, by omega, fun H10 s10 => ?_⟩
      rw [wholeIn_opt]
      refine ⟨_, s10 _ _ e9, ?_, ?_, ?_⟩
      · rw [List.length_map, List.length_map, List.length_take]
        exact small1000 (by omega)
      · intro b o hb
        rw [upd_ne (ne_of_none hb hD)]
        exact s10 _ _ (s9 _ _ hb)
      · rw [upd_same, take_more hp, List.map_append, List.map_append]
        rfl
    rintro H2 ⟨s2, e2⟩
    rw [List.length_map, List.length_map, List.take_length] at e2
    have s02 := sS.trans s2
    have kN : fracNs (isNeg l) ((partsOf l).map (wholeN m)) = none → ∀ H9, Same H' H9 → Q .non H9 := kN
    have kS : ∀ x, fracNs (isNeg l) ((partsOf l).map (wholeN m)) = some x → ∀ (p : Addr) (H9 : Hp), Same H' H9 → H9 p = some (.tup [.int x.1, .int x.2]) → Q (.ref p) H9 := kS
    have small : ∀ n : Nat, some n ∈ (partsOf l).map (wholeN m) → n < 2 ^ 250 := fun n hn => by
      obtain ⟨p, _, hp⟩ := List.mem_map.mp hn
      exact whole_lt hp m60
    have nonE : (partsOf l).map (wholeN m) ≠ [] := fun z => spl_ne [47] (figsOf l) 0 [] (List.map_eq_nil_iff.mp z)
    have lenE : ((partsOf l).map (wholeN m)).length ≤ 1000 := by rw [List.length_map]; omega
    have nw : isNeg l = true → ¬ V.str (txt (figsOf l)) = V.str (txt l) := fun e z => by
      injection z with z
      have z := txt_inj z
      unfold figsOf at z
      rw [if_pos e] at z
      have := congrArg List.length z
      obtain ⟨h1, h2⟩ := neg_ne e
      rw [List.length_drop] at this
      have := List.length_pos_iff.mpr h1
      omega
    have pw : isNeg l = false → V.str (txt (figsOf l)) = V.str (txt l) := fun e => by
      unfold figsOf
      rw [if_neg (by rw [e]; decide)]
    clear psp pl1 pl2 flen hzf eS
    generalize (partsOf l).map (wholeN m) = os at e2 kN kS small nonE lenE
    generalize txt (figsOf l) = zf at nw pw ⊢
    -- None in numbers, or more than two
    refine ⟨fun σ' H9 => H9 = H2 ∧ σ' = [some (.str (txt l)), some (.int m), some (.str zf), some (.ref pD), none, none] ∧ ∃ (a : Nat) (bo : Option Nat), os = some a :: bo.toList.map some, ?_, ?_⟩
    · refine ⟨_, rfl, _, _, rfl, .inl (SqL.of e2), rfl, flat_opt os, ?_⟩
      match os, nonE with
      | [some a], _ => exact ⟨_, rfl, iteF ⟨_, rfl, _, _, rfl, .inl (SqL.of e2), _, _, rfl, rfl, _, rfl, iteF ⟨rfl, rfl, a, none, rfl⟩⟩⟩
      | [none], _ => exact ⟨_, rfl, iteT (kN rfl H2 s02)⟩
      | [some a, some b], _ => exact ⟨_, rfl, iteF ⟨_, rfl, _, _, rfl, .inl (SqL.of e2), _, _, rfl, rfl, _, rfl, iteF ⟨rfl, rfl, a, some b, rfl⟩⟩⟩
      | [none, _], _ => exact ⟨_, rfl, iteT (kN rfl H2 s02)⟩
      | [some a, none], _ => exact ⟨_, rfl, iteT (kN rfl H2 s02)⟩
      | x :: y :: z :: r, _ =>
        have kN := kN (by cases x <;> cases y <;> rfl)
        refine ⟨_, rfl, itb (fun _ => kN H2 s02) fun _ => ⟨_, rfl, _, _, rfl, .inl (SqL.of e2), _, _, rfl, rfl, _, rfl, itd (fun _ => kN H2 s02) fun c => absurd ?_ c⟩⟩
        show (2 : Int) < (((x :: y :: z :: r).map optV).length : Int)
        rw [List.length_map]
        show (2 : Int) < ((r.length + 3 : Nat) : Int)
        omega
    rintro σ' H9 ⟨rfl, rfl, a, bo, eo⟩
    subst eo
    have sa : a < 2 ^ 250 := small a List.mem_cons_self
    have sb : bo.getD 1 < 2 ^ 250 := by
      cases bo with
      | none => exact Nat.lt_of_lt_of_le (by decide : 1 < 2) (by decide)
      | some b => exact small b (List.mem_cons_of_mem _ List.mem_cons_self)
    clear small nonE lenE
    refine ⟨fun σ' H3 => H3 = H9 ∧ σ' = [some (.str (txt l)), some (.int m), some (.str zf), some (.ref pD), none, none] ∧ fracNs (isNeg l) (some a :: bo.toList.map some) = finF (sgnI (isNeg l) a) ((bo.getD 1 : Nat) : Int) ∧ 0 < bo.getD 1, ?_, ?_⟩
    · have second : (isNeg l && decide (a = 0)) = true → fracNs (isNeg l) (some a :: bo.toList.map some) = none := fun e => by
        cases bo with
        | none =>
          show (if (isNeg l && decide (a = 0)) = true then none else _) = none
          rw [e]
          rfl
        | some b =>
          show (if (decide (b < 2) || (isNeg l && decide (a = 0))) = true then none else _) = none
          rw [e, Bool.or_true]
          rfl
      have third : (isNeg l && decide (a = 0)) = false → 2 ≤ bo.getD 2 → fracNs (isNeg l) (some a :: bo.toList.map some) = finF (sgnI (isNeg l) a) ((bo.getD 1 : Nat) : Int) ∧ 0 < bo.getD 1 := fun e h2 => by
        cases bo with
        | none =>
          refine ⟨?_, Nat.one_pos⟩
          show (if (isNeg l && decide (a = 0)) = true then none else _) = _
          rw [e]
          rfl
        | some b =>
          have h2 : 2 ≤ b := h2
          refine ⟨?_, by show 0 < b; omega⟩
          show (if (decide (b < 2) || (isNeg l && decide (a = 0))) = true then none else _) = _
          rw [e, decide_eq_false (by omega)]
          rfl
      cases bo with
      | none =>
        refine ⟨_, rfl, _, _, rfl, .inl (SqL.of e2), rfl, _, rfl, itd (fun e => absurd (show (1 : Int) = 2 by injection e) (by decide)) fun _ => iteF ?_⟩
        refine ⟨_, rfl, _, rfl, rfl, _, rfl, itnd (fun e => ?_) fun e => ?_⟩
        · have en : isNeg l = true := by
            cases q : isNeg l with
            | true => rfl
            | false => exact absurd (pw q) e
          refine ⟨_, rfl, _, _, _, _, rfl, rfl, SqL.of e2, rfl, rfl, _, rfl, itd (fun e0 => ?_) fun e0 => ?_⟩
          · have e0 : (a : Int) = 0 := by injection e0
            exact kN (second (by rw [en, decide_eq_true (show a = 0 by omega)]; rfl)) _ s02
          · refine ⟨rfl, rfl, third ?_ (Nat.le_refl _)⟩
            rw [en, decide_eq_false fun z => e0 (by show V.int (a : Int) = V.int 0; rw [z]; rfl)]
            rfl
        · refine ⟨rfl, rfl, third ?_ (Nat.le_refl _)⟩
          have en : isNeg l = false := by
            cases q : isNeg l with
            | false => rfl
            | true => exact absurd e (nw q)
          rw [en]
          rfl
      | some b =>
        refine ⟨_, rfl, _, _, rfl, .inl (SqL.of e2), rfl, _, rfl, itd (fun _ => ?_) fun e => absurd rfl e⟩
        refine ⟨_, rfl, _, _, _, _, rfl, rfl, SqL.of e2, rfl, _, _, rfl, rfl, _, rfl, itd (fun e => ?_) fun e => ?_⟩
        · have e : (b : Int) < 2 := e
          refine iteT (kN ?_ _ s02)
          show (if (decide (b < 2) || (isNeg l && decide (a = 0))) = true then none else _) = none
          rw [decide_eq_true (by omega)]
          rfl
        have e : ¬ (b : Int) < 2 := e
        refine ⟨_, rfl, _, rfl, rfl, _, rfl, itnd (fun e => ?_) fun e => ?_⟩
        · have en : isNeg l = true := by
            cases q : isNeg l with
            | true => rfl
            | false => exact absurd (pw q) e
          refine ⟨_, rfl, _, _, _, _, rfl, rfl, SqL.of e2, rfl, rfl, _, rfl, itd (fun e0 => ?_) fun e0 => ?_⟩
          · have e0 : (a : Int) = 0 := by injection e0
            exact kN (second (by rw [en, decide_eq_true (show a = 0 by omega)]; rfl)) _ s02
          · refine ⟨rfl, rfl, third ?_ (by show 2 ≤ b; omega)⟩
            rw [en, decide_eq_false fun z => e0 (by show V.int (a : Int) = V.int 0; rw [z]; rfl)]
            rfl
        · refine ⟨rfl, rfl, third ?_ (by show 2 ≤ b; omega)⟩
          have en : isNeg l = false := by
            cases q : isNeg l with
            | false => rfl
            | true => exact absurd e (nw q)
          rw [en]
          rfl
    rintro σ' H3 ⟨rfl, rfl, ef, b0⟩
    rw [ef] at kN kS
    clear ef
    have vl : ((some a :: bo.toList.map some).map optV).length ≤ 2 := by
      cases bo with
      | none => exact Nat.le_succ 1
      | some b => exact Nat.le_refl 2
    have va : atI ((some a :: bo.toList.map some).map optV) 0 = some (.int (a : Nat)) := by cases bo <;> rfl
    have vb : atI ((some a :: bo.toList.map some).map optV ++ [.int 1]) 1 = some (.int ((bo.getD 1 : Nat) : Int)) := by cases bo <;> rfl
    generalize (some a :: bo.toList.map some).map optV = vs9 at e2 vl va vb
    generalize bo.getD 1 = bn at b0 sb vb kN kS
    refine ⟨_, rfl, _, _, _, _, rfl, rfl, SqL.of e2, va, _, rfl, (by show 1 ≤ sizeLine; decide), fun p1 hp1 => ?_⟩
    have u1 := Same.upd (o := .lst [.int 1]) hp1
    refine ⟨pD, p1, _, _, rfl, rfl, u1 _ _ e2, upd_same, sz_lit (by show _ + 1 ≤ 1000; omega), fun p2 hp2 => ?_⟩
    have u2 := Same.upd (o := .lst (vs9 ++ [.int 1])) hp2
    refine ⟨_, _, _, _, rfl, rfl, SqL.of upd_same, vb, (by show 2 ≤ sizeLine; decide), fun p3 hp3 => ?_⟩
    have u3 := Same.upd (o := .tup [.int (a : Nat), .int (bn : Nat)]) hp3
    have s3 := s02.trans ((u1.trans u2).trans u3)
    have e3 : (upd (upd (upd H3 p1 (.lst [.int 1])) p2 (.lst (vs9 ++ [.int 1]))) p3 (.tup [.int (a : Nat), .int (bn : Nat)])) p3 = some (.tup [.int (a : Nat), .int (bn : Nat)]) := upd_same
    generalize upd (upd (upd H3 p1 (.lst [.int 1])) p2 (.lst (vs9 ++ [.int 1]))) p3 (.tup [.int (a : Nat), .int (bn : Nat)]) = H4 at s3 e3 ⊢
    clear u1 u2 u3
    refine ⟨fun σ' H5 => Same H' H5 ∧ ∃ p5 : Addr, σ' = [some (.str (txt l)), some (.int m), some (.str zf), some (.ref pD), some (.ref p5), none] ∧ H5 p5 = some (.tup [.int (sgnI (isNeg l) a), .int (bn : Nat)]), ?_, ?_⟩
    · refine ⟨_, rfl, _, rfl, rfl, _, rfl, itnd (fun e => ?_) fun e => ?_⟩
      · have en : isNeg l = true := by
          cases q : isNeg l with
          | true => rfl
          | false => exact absurd (pw q) e
        refine ⟨_, rfl, _, _, _, _, rfl, rfl, SqT.of e3, rfl, _, _, rfl, rfl, _, rfl, _, _, _, _, rfl, rfl, SqT.of e3, rfl, (by show 2 ≤ sizeLine; decide), fun p5 hp5 => ⟨s3.trans (Same.upd hp5), p5, rfl, ?_⟩⟩
        rw [upd_same, en]
        show some (HO.tup [V.int (0 - (a : Int)), _]) = some (HO.tup [V.int (-(a : Int)), _])
        rw [Int.zero_sub]
      · have en : isNeg l = false := by
          cases q : isNeg l with
          | false => rfl
          | true => exact absurd e (nw q)
        refine ⟨s3, p3, rfl, ?_⟩
        rw [e3, en]
        rfl
    rintro σ' H5 ⟨s5, p5, rfl, e5⟩
    have sm : (sgnI (isNeg l) a).natAbs = a := by
      unfold sgnI
      split <;> omega
    generalize sgnI (isNeg l) a = tt at e5 kN kS sm
    have okb : Ok (.int (bn : Nat)) := by
      show ((bn : Nat) : Int).natAbs < 2 ^ 300
      rw [Int.natAbs_natCast]
      exact Nat.lt_of_lt_of_le sb (Nat.pow_le_pow_right (by decide) (by decide))
    refine ⟨fun σ' H6 => Same H' H6 ∧ σ' = [some (.str (txt l)), some (.int m), some (.str zf), some (.ref pD), some (.ref p5), none] ∧ H6 p5 = some (.tup [.int tt, .int (bn : Nat)]) ∧ finF tt (bn : Nat) = some (tt, ((bn : Nat) : Int)), ?_, fun σ' H6 ⟨s6, es, e6, ef⟩ => by subst es; exact ⟨_, rfl, kS _ ef p5 H6 s6 e6⟩⟩
    refine ⟨_, rfl, _, _, _, _, rfl, rfl, SqT.of e5, rfl, _, rfl, _, _, _, _, rfl, rfl, SqT.of e5, rfl, _, _, .int tt, .int (bn : Nat), rfl, .int _, .int _, okb, fun t b h1 h2 nb p6 H6 hp6 s6 h6 => ?_, fun e => ?_⟩
    · injection h1 with h1
      injection h2 with h2
      subst h1
      subst h2
      refine ⟨_, rfl, _, _, .tup (SqT.of h6) (.cons (.int _) (.cons (.int _) .nil)), .tup (SqT.of (s6 _ _ e5)) (.cons (.int _) (.cons (.int _) .nil)), shaped_tt _ _, shaped_tt _ _, ?_⟩
      rw [frac_fin (by omega)]
      have s06 := s5.trans s6
      by_cases g : Int.gcd ((bn : Nat) : Int) tt = 1
      · rw [decide_eq_true g]
        exact ⟨_, rfl, iteF ⟨s06, rfl, s6 _ _ e5, if_pos g⟩⟩
      · rw [decide_eq_false g]
        exact ⟨_, rfl, iteT (kN (if_neg g) H6 s06)⟩
    · have e : (!decide (((bn : Nat) : Int) = 0)) = false := e
      rw [decide_eq_false (by omega)] at e
      cases e
end
end Dear

namespace Dear
open PySem PySem.Spec PyProof.Rows L2
def spWant : Sp := fun vs H Q _ => ∃ (v : V) (d : D), vs = [v] ∧ Dt H v d ∧ Ok d ∧ ∀ H', Same H H' → Q (.bl (isWant d)) H'
/-- None of good ones, else refused with the number of the first that can't stand -/
def spLookW (C : Addr) : Sp := fun vs H Q E => ∃ (v : V) (d : D), vs = [v] ∧ Dt H v d ∧ Ok d ∧ (wantsBad d = none → ∀ H', Same H H' → Q .non H') ∧
  ∀ u, wantsBad d = some u → ∀ (dd : Addr) (H' : Hp), Same H H' → H dd = none → H' dd = some (.xd [("number", u)]) → E (.ref C) (some dd) H'
theorem isWant_len : ∀ {ds : List D}, ds.length ≠ 2 → isWant (.tup ds) = false
  | [], _ => rfl
  | [d], _ => by cases d <;> rfl
  | [_, _], h => absurd rfl h
  | d :: e :: _ :: _, _ => by cases d <;> cases e <;> rfl
def cntOk : D → Bool
  | .int c => decide (0 ≤ c ∧ c ≤ 1000000000)
  | _ => false
theorem isWant_two (a b : D) : isWant (.tup [a, b]) = (isNm a && (isInt b && cntOk b)) := by
  cases b <;> simp [isWant, isInt, cntOk]
/-- what a want is -/
theorem isWant_shape {d : D} (h : isWant d = true) : ∃ (z : Str) (c : Int), d = .tup [.str z, .int c] ∧ isNm (.str z) = true := by
  match d, h with
  | .tup [a, .int c], h =>
    have h : (isNm a && decide (0 ≤ c ∧ c ≤ 1000000000)) = true := h
    rw [Bool.and_eq_true] at h
    cases a with
    | str z => exact ⟨z, c, rfl, h.1⟩
    | _ => cases h.1
section
variable {P : Program} {w : World} {K : PySem.W.Frag} {mg : Str → Option Value} {base : Heap}
/-- the names seen so far, as the dict holds them -/
def SeenK (seen : List Str) (kvs : List (Key × V)) : Prop := (∀ z : Str, (valV kvs (Sum.inr z)).isSome = decide (z ∈ seen)) ∧ kvs.length ≤ seen.length
theorem SeenK.put {seen : List Str} {kvs : List (Key × V)} {z : Str} {v : V} (h : SeenK seen kvs) : SeenK (seen ++ [z]) (putK kvs (Sum.inr z) v) := by
  constructor
  · intro y
    by_cases e : y = z
    · subst e
      rw [valV_put, if_pos rfl]
      simp
    · rw [valV_put, if_neg (by intro q; injection q with q; exact e q), h.1 y]
      refine decide_eq_decide.mpr ⟨fun q => List.mem_append_left _ q, fun q => ?_⟩
      rcases List.mem_append.mp q with q | q
      · exact q
      · exact absurd (by simpa using q) e
  · have := length_putK kvs (Sum.inr z) v
    rw [List.length_append]
    show _ ≤ _ + 1
    have h2 := h.2
    omega
theorem bad_step {d : D} {r : List D} {i : Nat} {seen : List Str} : badAt i seen (d :: r) = if isWant d && !decide (nameD d ∈ seen) then badAt (i + 1) (seen ++ [nameD d]) r else some (.int (i : Nat)) := rfl
end
end Dear

namespace Dear
open PySem PySem.Spec PyProof.Rows L2
theorem want_at {H : Hp} {v : V} {w : List Nat × Int} (h : Dt H v (wantD w)) : ∃ t : Addr, v = .ref t ∧ H t = some (.tup [.str (txt w.1), .int w.2]) := by
  obtain ⟨t, ys, rfl, ht, hy⟩ := h.tupAt
  cases hy with
  | cons h1 h2 =>
    cases h1
    cases h2 with
    | cons h3 h4 =>
      cases h3
      cases h4
      exact ⟨t, rfl, ht⟩
theorem want_at' {H : Hp} {xs : List V} {ws : List (List Nat × Int)} (hall : DtAll H xs (ws.map wantD)) {j : Nat} {x : V} (hx : xs[j]? = some x) : ∃ w, ws[j]? = some w ∧ ∃ t : Addr, x = .ref t ∧ H t = some (.tup [.str (txt w.1), .int w.2]) := by
  obtain ⟨dj, hdj, dx⟩ := hall.get hx
  rw [List.getElem?_map] at hdj
  obtain ⟨w, hw, rfl⟩ : ∃ w, ws[j]? = some w ∧ dj = wantD w := by
    cases q9 : ws[j]? with
    | none => rw [q9] at hdj; cases hdj
    | some c => rw [q9] at hdj; exact ⟨c, rfl, (Option.some.inj hdj).symm⟩
  exact ⟨w, hw, want_at dx⟩
theorem pu_wants : ∀ {ws : List (List Nat × Int)}, PuAll (ws.map wantD) := by
  intro ws
  induction ws with
  | nil => trivial
  | cons w r ih => exact ⟨⟨trivial, trivial, trivial⟩, ih⟩
end Dear

namespace Dear
open PySem PySem.Spec PyProof.Rows L2
/-! ### things that are no tongue, and no wants -/
theorem bad_longest {d : D} {ds : List D} {cs fs : List Nat} {zs : List Str} {i : Int} (t : TgD d ds cs fs zs i) {l : D} (h : isLong l = false) : tgBad (.tup [.lst ds, .lst ((fs.map sgn).map D.str), .lst (zs.map D.str), l]) = some (.str "longest") := by
  have lk := t.look
  rw [t.eq] at lk
  have lk : (areSigns (.lst ds) && unlike 1 (heads (.lst ds)) (.lst ((fs.map sgn).map D.str)) && unlike 2 (heads (.lst ds)) (.lst (zs.map D.str)) && isLong (.int i)) = true := lk
  simp only [Bool.and_eq_true] at lk
  obtain ⟨⟨⟨h1, h2⟩, h3⟩, h4⟩ := lk
  show (if areSigns (.lst ds) = false then some (V.str "signs") else if unlike 1 (heads (.lst ds)) _ = false then some (.str "firsts") else if unlike 2 (heads (.lst ds)) _ = false then some (.str "pairs") else if isLong l = false then some (.str "longest") else none) = _
  rw [h1, h2, h3, h]
  rfl
theorem bad_sg {s f p l : D} (h : areSigns s = false) : tgBad (.tup [s, f, p, l]) = some (.str "signs") := by
  show (if areSigns s = false then some (V.str "signs") else _) = _
  rw [h]
  rfl
theorem bad_firsts {d : D} {ds : List D} {cs fs : List Nat} {zs : List Str} {i : Int} (t : TgD d ds cs fs zs i) {f p l : D} (h : unlike 1 (cs.map sgn) f = false) : tgBad (.tup [.lst ds, f, p, l]) = some (.str "firsts") := by
  have sg : areSigns (.lst ds) = true := signs_ok t.sg t.nd t.l2 t.l6
  have hd : heads (.lst ds) = cs.map sgn := t.sg.facts.2.2.2.1
  rw [← hd] at h
  show (if areSigns (.lst ds) = false then _ else if unlike 1 (heads (.lst ds)) f = false then _ else _) = _
  rw [sg, if_neg (by decide), h, if_pos rfl]
theorem bad_pairs {d : D} {ds : List D} {cs fs : List Nat} {zs : List Str} {i : Int} (t : TgD d ds cs fs zs i) {f p l : D} (h1 : unlike 1 (cs.map sgn) f = true) (h : unlike 2 (cs.map sgn) p = false) : tgBad (.tup [.lst ds, f, p, l]) = some (.str "pairs") := by
  have sg : areSigns (.lst ds) = true := signs_ok t.sg t.nd t.l2 t.l6
  have hd : heads (.lst ds) = cs.map sgn := t.sg.facts.2.2.2.1
  rw [← hd] at h h1
  show (if areSigns (.lst ds) = false then _ else if unlike 1 (heads (.lst ds)) f = false then _ else if unlike 2 (heads (.lst ds)) p = false then _ else _) = _
  rw [sg, if_neg (by decide), h1, if_neg (by decide), h, if_pos rfl]
/-- a text with a sign that is no small letter -/
theorem no_letter {d : D} {ds : List D} {cs fs : List Nat} {zs : List Str} {i : Int} (t : TgD d ds cs fs zs i) {n : Int} {z : Str} {r : List D} (h : (z.cps.toList.all fun c => decide (c ∈ letters.cps.toList)) = false) : unlike n (cs.map sgn) (.lst (.str z :: r)) = false := by
  have e1 : (z.cps.toList.all fun c => decide (sgn c ∈ cs.map sgn)) = false := by
    cases e : (z.cps.toList.all fun c => decide (sgn c ∈ cs.map sgn)) with
    | false => rfl
    | true =>
      rw [← h, eq_comm, List.all_eq_true]
      rw [List.all_eq_true] at e
      intro c hc
      have := of_decide_eq_true (e c hc)
      obtain ⟨c', hc', e'⟩ := List.mem_map.mp this
      have := sgn_inj e'
      subst this
      exact decide_eq_true (t.sg.facts.2.2.2.2.2 _ hc')
  show (decide ((z.length : Int) = n) && !decide (z ∈ []) && (z.cps.toList.all fun c => decide (sgn c ∈ cs.map sgn)) && _) = false
  rw [e1, Bool.and_false, Bool.false_and]
theorem signs_len {ds : List D} (h : ¬ (2 ≤ ds.length ∧ ds.length ≤ 6)) : areSigns (.lst ds) = false := by
  show (decide (2 ≤ ds.length ∧ ds.length ≤ 6) && _ && _) = false
  rw [decide_eq_false h, Bool.false_and, Bool.false_and]
theorem badAt_none : ∀ {ds : List D} {i : Nat} {seen : List Str}, badAt i seen ds = none → seen.Nodup → (∀ d ∈ ds, isWant d = true) ∧ (seen ++ ds.map nameD).Nodup
  | [], _, seen, _, nd => ⟨(fun _ h => nomatch h), by simpa using nd⟩
  | d :: r, i, seen, h, nd => by
    have h : (if isWant d && !decide (nameD d ∈ seen) then badAt (i + 1) (seen ++ [nameD d]) r else some (.int (i : Nat))) = none := h
    by_cases c : (isWant d && !decide (nameD d ∈ seen)) = true
    · rw [if_pos c] at h
      rw [Bool.and_eq_true] at c
      have c2 : ¬ nameD d ∈ seen := by simpa using c.2
      have nd2 : (seen ++ [nameD d]).Nodup := by
        rw [List.nodup_append]
        refine ⟨nd, List.pairwise_singleton _ _, fun x hx y hy e => ?_⟩
        rw [List.mem_singleton] at hy
        subst hy
        subst e
        exact c2 hx
      obtain ⟨h1, h2⟩ := badAt_none h nd2
      refine ⟨fun e he => ?_, ?_⟩
      · rcases List.mem_cons.mp he with rfl | he
        · exact c.1
        · exact h1 e he
      · rw [List.append_assoc] at h2
        exact h2
    · rw [if_neg c] at h
      cases h
theorem wants_none {ds : List D} (h : wantsBad (.lst ds) = none) : (∀ d ∈ ds, isWant d = true) ∧ (ds.map nameD).Nodup ∧ 1 ≤ ds.length := by
  have h : (if 1 ≤ ds.length ∧ ds.length ≤ 20 then badAt 0 [] ds else some .non) = none := h
  by_cases c : 1 ≤ ds.length ∧ ds.length ≤ 20
  · rw [if_pos c] at h
    obtain ⟨h1, h2⟩ := badAt_none h List.nodup_nil
    exact ⟨h1, h2, c.1⟩
  · rw [if_neg c] at h
    cases h
theorem wants_bad {d : D} (h : wantsBad d ≠ none) : ∃ m, wantsBad d = some m := Option.ne_none_iff_exists'.mp h
end Dear
namespace Dear
theorem okAll_sub : ∀ {ds es : List D}, OkAll ds → (∀ d ∈ es, d ∈ ds) → OkAll es
  | _, [], _, _ => trivial
  | _, e :: _, h, m => ⟨h.mem (m e List.mem_cons_self), okAll_sub h fun d hd => m d (List.mem_cons_of_mem _ hd)⟩
theorem okAll_app : ∀ {ds es : List D}, OkAll ds → OkAll es → OkAll (ds ++ es)
  | [], _, _, h => h
  | _ :: _, _, h, g => ⟨h.1, okAll_app h.2 g⟩
end Dear
namespace Dear
open PySem PySem.Spec PyProof.Rows L2
theorem signs_twice {d : D} {ds : List D} {cs fs : List Nat} {zs : List Str} {i : Int} (t : TgD d ds cs fs zs i) : areSigns (.lst (ds ++ ds.take 1)) = false := by
  cases e : areSigns (.lst (ds ++ ds.take 1)) with
  | false => rfl
  | true =>
    have e : (decide (2 ≤ (ds ++ ds.take 1).length ∧ (ds ++ ds.take 1).length ≤ 6) && (ds ++ ds.take 1).all isSign && (dd ((ds ++ ds.take 1).map headS)).length == (ds ++ ds.take 1).length) = true := e
    rw [Bool.and_eq_true, beq_iff_eq] at e
    have h := dd_full (xs := (ds ++ ds.take 1).map headS) (by rw [e.2, List.length_map])
    have lc : ds.length = cs.length := t.sg.facts.2.2.2.2.1
    have l2 := t.l2
    cases ds with
    | nil => rw [List.length_nil] at lc; omega
    | cons x r =>
      rw [List.map_append, List.nodup_append] at h
      exact absurd rfl (h.2.2 (headS x) List.mem_cons_self (headS x) List.mem_cons_self)
end Dear

namespace Dear
open PySem PySem.Spec PyProof.Rows L2
/-! ### cases written -/
def kSign : List Nat := [115, 105, 103, 110, 32]
def kFirst : List Nat := [102, 105, 114, 115, 116, 32]
def kPair : List Nat := [112, 97, 105, 114, 32]
def kLong : List Nat := [108, 111, 110, 103, 101, 115, 116, 32]
def kThing : List Nat := [116, 104, 105, 110, 103, 32]
def kWord : List Nat := [119, 111, 114, 100, 32]
theorem kSign_eq : ("sign " : Str) = txt kSign := by decide +kernel
theorem kFirst_eq : ("first " : Str) = txt kFirst := by decide +kernel
theorem kPair_eq : ("pair " : Str) = txt kPair := by decide +kernel
theorem kLong_eq : ("longest " : Str) = txt kLong := by decide +kernel
theorem kThing_eq : ("thing " : Str) = txt kThing := by decide +kernel
theorem kWord_eq : ("word " : Str) = txt kWord := by decide +kernel
theorem k32_eq : (" " : Str) = txt [32] := by decide +kernel
theorem k45_eq : ("-" : Str) = txt [45] := by decide +kernel
theorem k0_eq : (Str.empty : Str) = txt [] := rfl
def fracD : D → List Nat
  | .tup [.int t, .int b] => fracL t b
  | _ => [45]
def signRow : D → List Nat
  | .tup [.str z, p, l] => kSign ++ z.cps.toList ++ [32] ++ fracD p ++ [32] ++ fracD l
  | _ => []
def firstRow (c : Nat) : List Nat := kFirst ++ [c]
def pairRow (z : Str) : List Nat := kPair ++ z.cps.toList
def longRow (i : Int) : List Nat := kLong ++ figL i.natAbs
def thingRow (w : List Nat × Int) : List Nat := kThing ++ w.1 ++ [32] ++ figL w.2.natAbs
def wordRow (t : List Nat) : List Nat := kWord ++ t
def bookRows : Option (List (List Nat)) → List (List Nat)
  | none => []
  | some b => b.map wordRow
def rowsC (ds : List D) (fs : List Nat) (zs : List Str) (i : Int) (ws : List (List Nat × Int)) (bk : Option (List (List Nat))) : List (List Nat) := ds.map signRow ++ fs.map firstRow ++ zs.map pairRow ++ [longRow i] ++ ws.map thingRow ++ bookRows bk
def caseText (ds : List D) (fs : List Nat) (zs : List Str) (i : Int) (ws : List (List Nat × Int)) (bk : Option (List (List Nat))) : Str := Txt.join "\n" ((rowsC ds fs zs i ws bk).map txt)
theorem frac_len {t b : Int} (h : PrOk t b) : (fracL t b).length ≤ 201 := by
  obtain ⟨h1, h2, h3, h4, _⟩ := h
  have l1 : (figL t.natAbs).length ≤ 100 := fig_len250 (Nat.lt_of_le_of_lt (show t.natAbs ≤ 1000000000 by omega) (by decide))
  have l2 : (figL b.natAbs).length ≤ 100 := fig_len250 (Nat.lt_of_le_of_lt (show b.natAbs ≤ 1000000000 by omega) (by decide))
  unfold fracL
  rw [if_neg (by omega), List.nil_append, List.length_append]
  split
  · show _ + 0 ≤ 201
    omega
  · rw [List.length_cons]
    omega
theorem PrOk.s250 {t b : Int} (h : PrOk t b) : 0 < b ∧ t.natAbs < 2 ^ 250 ∧ b.natAbs < 2 ^ 250 := by
  obtain ⟨h1, h2, h3, h4, _⟩ := h
  exact ⟨h2, Nat.lt_of_le_of_lt (show t.natAbs ≤ 1000000000 by omega) (by decide), Nat.lt_of_le_of_lt (show b.natAbs ≤ 1000000000 by omega) (by decide)⟩
/-- the parts of a sign -/
theorem sign_at {H : Hp} {v : V} {d : D} {c : Nat} (h : Dt H v d) (s : SgD d c) : ∃ (q pa : Addr) (t b : Int) (l : D) (lv : V), v = .ref q ∧ H q = some (.tup [.str (sgn c), .ref pa, lv]) ∧ d = .tup [.str (sgn c), .tup [.int t, .int b], l] ∧ H pa = some (.tup [.int t, .int b]) ∧ Dt H lv l ∧ PrOk t b ∧ LastD l := by
  obtain ⟨t, b, l, rfl, hp, hl⟩ := s.ex
  obtain ⟨q, ys, rfl, hq, hy⟩ := h.tupAt
  cases hy with
  | cons h1 h2 =>
    cases h1
    cases h2 with
    | cons h3 h4 =>
      obtain ⟨pa, zs, rfl, hpa, hz⟩ := h3.tupAt
      cases hz with
      | cons z1 z2 =>
        cases z1
        cases z2 with
        | cons z3 z4 =>
          cases z3
          cases z4
          cases h4 with
          | cons h5 h6 =>
            cases h6
            exact ⟨q, pa, t, b, l, _, rfl, hq, rfl, hpa, h5, hp, hl⟩
theorem last_at {H : Hp} {v : V} {l : D} (h : Dt H v l) (s : LastD l) : (v = .non ∧ l = .non) ∨ ∃ (q : Addr) (t b : Int), v = .ref q ∧ l = .tup [.int t, .int b] ∧ H q = some (.tup [.int t, .int b]) ∧ PrOk t b := by
  match l, s with
  | .non, _ =>
    cases h
    exact .inl ⟨rfl, rfl⟩
  | .tup [.int t, .int b], s =>
    obtain ⟨q, ys, rfl, hq, hy⟩ := h.tupAt
    cases hy with
    | cons h1 h2 =>
      cases h1
      cases h2 with
      | cons h3 h4 =>
        cases h3
        cases h4
        exact .inr ⟨q, t, b, rfl, rfl, hq, s⟩
theorem last_len {l : D} (s : LastD l) : (fracD l).length ≤ 201 := by
  match l, s with
  | .non, _ => exact (by decide : 1 ≤ 201)
  | .tup [.int t, .int b], s => exact frac_len s
theorem row_len {d : D} {c : Nat} (s : SgD d c) : (signRow d).length ≤ 500 := by
  obtain ⟨t, b, l, rfl, hp, hl⟩ := s.ex
  have h1 := frac_len hp
  have h2 := last_len hl
  show (kSign ++ [c] ++ [32] ++ fracL t b ++ [32] ++ fracD l).length ≤ 500
  rw [List.length_append, List.length_append, List.length_append, List.length_append, List.length_append]
  show 5 + 1 + 1 + _ + 1 + _ ≤ 500
  omega
theorem TgAt.sm {H0 H H' : Hp} {v : V} {ds : List D} {cs fs : List Nat} {zs : List Str} {i : Int} (h : TgAt H0 H v ds cs fs zs i) (s : Same H H') : TgAt H0 H' v ds cs fs zs i := by
  obtain ⟨p, a, b, c, xs, e, h1, h2, h3, h4, h5, r⟩ := h.ex
  exact ⟨p, a, b, c, xs, e, s _ _ h1, s _ _ h2, h3.same s, s _ _ h4, s _ _ h5, r⟩
def tJoin (ts : List TE) : TE := fun σ H Q => tJs ts Str.empty σ H fun out H1 => Q (.str out) H1
theorem pe_joinedN {X : Cx} {v1 v2 : Expr} {rest : List Expr} {ts : List TE} {pos : Pos} (h : PJ X (v1 :: v2 :: rest) ts) : PE X (.JoinedStr (v1 :: v2 :: rest) pos) (tJoin ts) := pe_joined h
def spSignRow : Sp := fun vs H Q _ => ∃ (v : V) (d : D) (c : Nat), vs = [v] ∧ Dt H v d ∧ SgD d c ∧ Q (.str (txt (signRow d))) H
/-- what is a book, or none -/
def BkAt (H : Hp) (v : V) : Option (List (List Nat)) → Prop
  | none => v = .non
  | some b => ∃ p : Addr, v = .ref p ∧ H p = some (.lst (vsT b)) ∧ b.length ≤ 20 ∧ ∀ t ∈ b, t.length ≤ 8
theorem BkAt.same {H H' : Hp} {v : V} {bk : Option (List (List Nat))} (h : BkAt H v bk) (s : Same H H') : BkAt H' v bk := by
  cases bk with
  | none => exact h
  | some b =>
    obtain ⟨p, h1, h2, h3⟩ := h
    exact ⟨p, h1, s _ _ h2, h3⟩
def spWrite (C W : Addr) : Sp := fun vs H Q E => ∃ (p : Addr) (v u b : V) (d e : D), vs = [.ref p] ∧ H p = some (.tup [v, u, b]) ∧ Dt H v d ∧ Ok d ∧ Dt H u e ∧ Ok e ∧
  (∀ p, tgBad d = some p → ∀ (dd : Addr) (H' : Hp), Same H H' → H dd = none → H' dd = some (.xd [("part", p)]) → E (.ref C) (some dd) H') ∧
  (tgBad d = none → ∀ m, wantsBad e = some m → ∀ (dd : Addr) (H' : Hp), Same H H' → H dd = none → H' dd = some (.xd [("number", m)]) → E (.ref W) (some dd) H') ∧
  (tgBad d = none → wantsBad e = none → ∃ (ds : List D) (cs fs : List Nat) (zs : List Str) (i : Int) (H0 : Hp) (ws : List (List Nat × Int)) (pw : Addr) (xs : List V) (bk : Option (List (List Nat))), TgD d ds cs fs zs i ∧ TgAt H0 H v ds cs fs zs i ∧ u = .ref pw ∧ H pw = some (.lst xs) ∧ DtAll H xs (ws.map wantD) ∧ (∀ w ∈ ws, WOk w) ∧ ws.length ≤ 20 ∧ BkAt H b bk ∧
    ∀ H', Same H H' → Q (.str (caseText ds fs zs i ws bk)) H')
theorem fig_len9 {i : Int} (h0 : 0 ≤ i) (h : i ≤ 1000000000) : (figL i.natAbs).length ≤ 100 := fig_len250 (Nat.lt_of_le_of_lt (show i.natAbs ≤ 1000000000 by omega) (by decide))
theorem thing_len {w : List Nat × Int} (h : WOk w) : (thingRow w).length ≤ 500 := by
  have h1 := h.n8
  have h2 := fig_len9 h.c0 h.c9
  unfold thingRow
  rw [List.length_append, List.length_append, List.length_append]
  show 6 + _ + 1 + _ ≤ 500
  omega
theorem pos_txt {i : Int} (h : 0 ≤ i) : (toString i : Str) = txt (figL i.natAbs) := by
  have e := str_int (t := i)
  rw [if_neg (by omega), List.nil_append] at e
  exact e
theorem pos_log {i : Int} (h0 : 0 ≤ i) (h : i ≤ 1000000000) : i.natAbs.log2 < 1920 := Nat.lt_of_lt_of_le (PySem.Flt.log2_lt_of (show 0 < 40 by decide) (show i.natAbs < 2 ^ 40 from Nat.lt_of_le_of_lt (show i.natAbs ≤ 1000000000 by omega) (by decide))) (by decide)
theorem rows_len {d : D} {ds : List D} {cs fs : List Nat} {zs : List Str} {i : Int} {ws : List (List Nat × Int)} {bk : Option (List (List Nat))} (td : TgD d ds cs fs zs i) (wo : ∀ w ∈ ws, WOk w) (l20 : ws.length ≤ 20) (hb : ∀ b, bk = some b → b.length ≤ 20 ∧ ∀ t ∈ b, t.length ≤ 8) : (rowsC ds fs zs i ws bk).length ≤ 100 ∧ ∀ r ∈ rowsC ds fs zs i ws bk, r.length ≤ 500 := by
  have l6 := td.l6
  have ld : ds.length = cs.length := td.sg.facts.2.2.2.2.1
  have lf := td.fs6
  have lz := td.zs36
  have lb : (bookRows bk).length ≤ 20 ∧ ∀ r ∈ bookRows bk, r.length ≤ 500 := by
    cases bk with
    | none => exact ⟨Nat.zero_le _, fun _ h => nomatch h⟩
    | some b =>
      obtain ⟨h1, h2⟩ := hb b rfl
      refine ⟨by show (b.map wordRow).length ≤ 20; rw [List.length_map]; exact h1, fun r hr => ?_⟩
      obtain ⟨t, ht, rfl⟩ := List.mem_map.mp hr
      have := h2 t ht
      show (kWord ++ t).length ≤ 500
      rw [List.length_append]
      show 5 + _ ≤ 500
      omega
  unfold rowsC
  constructor
  · rw [List.length_append, List.length_append, List.length_append, List.length_append, List.length_append, List.length_map, List.length_map, List.length_map, List.length_map]
    show _ + _ + _ + 1 + _ + _ ≤ 100
    omega
  · intro r hr
    simp only [List.mem_append] at hr
    rcases hr with ((((hr | hr) | hr) | hr) | hr) | hr
    · obtain ⟨d, hd, rfl⟩ := List.mem_map.mp hr
      obtain ⟨j, hj⟩ := List.getElem?_of_mem hd
      obtain ⟨c, _, sd⟩ := td.sg.get hj
      exact row_len sd
    · obtain ⟨c, _, rfl⟩ := List.mem_map.mp hr
      exact (by decide : 7 ≤ 500)
    · obtain ⟨z, hz, rfl⟩ := List.mem_map.mp hr
      obtain ⟨a, _, b, _, rfl⟩ := td.po.of z hz
      show (kPair ++ (sgn a ++ sgn b).cps.toList).length ≤ 500
      rw [tl_sgn2]
      exact (by decide : 7 ≤ 500)
    · rw [List.mem_singleton] at hr
      subst hr
      have i1 := td.i1
      have i8 := td.i8
      have := fig_len9 (i := i) (by omega) (by omega)
      show (kLong ++ figL i.natAbs).length ≤ 500
      rw [List.length_append]
      show 8 + _ ≤ 500
      omega
    · obtain ⟨w, hw, rfl⟩ := List.mem_map.mp hr
      exact thing_len (wo w hw)
    · exact lb.2 r hr
theorem join_size {rs : List (List Nat)} (h1 : rs.length ≤ 100) (h2 : ∀ r ∈ rs, r.length ≤ 500) : ((rs.map txt).map (·.length)).sum + (rs.map txt).length * ("\n" : Str).length ≤ 16777216 := by
  have e : ∀ rs : List (List Nat), (∀ r ∈ rs, r.length ≤ 500) → ((rs.map txt).map (·.length)).sum ≤ 500 * rs.length := fun rs => by
    induction rs with
    | nil => intro _; exact Nat.le_refl _
    | cons r rs ih =>
      intro h
      have := ih fun r hr => h r (List.mem_cons_of_mem _ hr)
      have h3 := h r List.mem_cons_self
      rw [List.map_cons, List.map_cons, List.sum_cons, txt_length, List.length_cons]
      omega
  have := e rs h2
  rw [List.length_map, show ("\n" : Str).length = 1 by decide +kernel]
  omega
theorem vsT_strs (bs : List (List Nat)) : vsT bs = (bs.map txt).map V.str := by
  unfold vsT
  rw [List.map_map]
  rfl
theorem vsT_appW (a b : List (List Nat)) : vsT (a ++ b) = vsT a ++ vsT b := List.map_append ..
theorem vsT_lenC (bs : List (List Nat)) : (vsT bs).length = bs.length := List.length_map ..
theorem vsT_one (w : List Nat) : [V.str (txt w)] = vsT [w] := rfl
section
variable {P : Program} {w : World} {K : PySem.W.Frag} {mg : Str → Option Value} {base : Heap}
set_option pp.maxSteps 3000
end
end Dear

namespace Dear
open PySem PySem.Spec PyProof.Rows L2
section
variable {P : Program} {w : World} {K : PySem.W.Frag} {mg : Str → Option Value} {base : Heap}
set_option pp.maxSteps 3000
/-- one more row -/
theorem row_step {H1 H' : Hp} {pD : Addr} {rs : List (List Nat)} {r : List Nat} (hD : H1 pD = none) (s : Same H1 H') (e : H' pD = some (.lst (vsT rs))) (l : rs.length ≤ 900) : ∃ acc, H' pD = some (.lst acc) ∧ acc.length < sizeLine ∧ Same H1 (upd H' pD (.lst (acc ++ [.str (txt r)]))) ∧ (upd H' pD (.lst (acc ++ [.str (txt r)]))) pD = some (.lst (vsT (rs ++ [r]))) := by
  refine ⟨vsT rs, e, small1000 (by rw [vsT_lenC]; omega), fun b o hb => ?_, ?_⟩
  · rw [upd_ne (ne_of_none hb hD)]
    exact s _ _ hb
  · rw [upd_same, vsT_appW]
    rfl
end
end Dear

namespace Dear
open PySem PySem.Spec PyProof.Rows L2
/-! ### cases read: what the rows have told so far -/
structure Rd where
  ds : List D
  cs : List Nat
  fs : List Nat
  zs : List Str
  lg : Option Int
  ws : List (List Nat × Int)
  wd : List (List Nat)
def Rd.init : Rd := ⟨[], [], [], [], none, [], []⟩
def wSign : List Nat := [115, 105, 103, 110]
def wFirst : List Nat := [102, 105, 114, 115, 116]
def wPair : List Nat := [112, 97, 105, 114]
def wLong : List Nat := [108, 111, 110, 103, 101, 115, 116]
def wThing : List Nat := [116, 104, 105, 110, 103]
def wWord : List Nat := [119, 111, 114, 100]
def frX (x : Int × Int) : D := .tup [.int x.1, .int x.2]
def priceIn (l : List Nat) : Option (Int × Int) := match fracIn 9 l with
  | some x => if 0 < x.1 then some x else none
  | none => none
def isLt (c : Nat) : Bool := decide (c ∈ letters.cps.toList)
def nmOk (t : List Nat) : Bool := decide (1 ≤ t.length ∧ t.length ≤ 8) && t.all isLt
/-- the last that a word of a sign's row tells -/
def lastIn (l : List Nat) : Option D := match priceIn l with
  | some y => some (frX y)
  | none => if l = [45] then some .non else none
def takesSign (st : Rd) : List (List Nat) → Option Rd
  | [[c], p, l] => if st.fs ≠ [] ∨ st.zs ≠ [] ∨ st.lg ≠ none ∨ st.cs.length = 6 ∨ isLt c = false ∨ c ∈ st.cs then none else
    match priceIn p, lastIn l with
    | some x, some y => some { st with ds := st.ds ++ [.tup [.str (sgn c), frX x, y]], cs := st.cs ++ [c] }
    | _, _ => none
  | _ => none
def openB (st : Rd) (t : List Nat) (n : Nat) : Bool := decide (2 ≤ st.cs.length ∧ st.lg = none ∧ t.length = n) && t.all fun c => decide (c ∈ st.cs)
def takesFirst (st : Rd) : List (List Nat) → Option Rd
  | [[c]] => if openB st [c] 1 && decide (st.zs = []) && !decide (c ∈ st.fs) then some { st with fs := st.fs ++ [c] } else none
  | _ => none
def takesPair (st : Rd) : List (List Nat) → Option Rd
  | [[a, b]] => if openB st [a, b] 2 && !decide (sgn a ++ sgn b ∈ st.zs) then some { st with zs := st.zs ++ [sgn a ++ sgn b] } else none
  | _ => none
def takesLong (st : Rd) : List (List Nat) → Option Rd
  | [t] => if 2 ≤ st.cs.length ∧ st.lg = none then match wholeN 1 t with
    | some n => if 1 ≤ n ∧ n ≤ 8 then some { st with lg := some (n : Nat) } else none
    | none => none
    else none
  | _ => none
def takesThing (st : Rd) : List (List Nat) → Option Rd
  | [t, q] => if st.lg ≠ none ∧ st.wd = [] ∧ st.ws.length ≠ 20 then match wholeN 10 q with
    | some n => if n ≤ 1000000000 ∧ nmOk t = true ∧ ¬ t ∈ st.ws.map Prod.fst then some { st with ws := st.ws ++ [(t, ((n : Nat) : Int))] } else none
    | none => none
    else none
  | _ => none
def takesWord (st : Rd) : List (List Nat) → Option Rd
  | [t] => if st.wd.length < st.ws.length ∧ nmOk t = true then some { st with wd := st.wd ++ [t] } else none
  | _ => none
def takesP (st : Rd) : List (List Nat) → Option Rd
  | k :: ps => if k = wSign then takesSign st ps else if k = wFirst then takesFirst st ps else if k = wPair then takesPair st ps else if k = wLong then takesLong st ps else if k = wThing then takesThing st ps else if k = wWord then takesWord st ps else none
  | [] => none
def takesF (st : Rd) (row : List Nat) : Option Rd := takesP st (TL.spl [32] 0 [] row)
def readF : Nat → Rd → List (List Nat) → Rd ⊕ Nat
  | _, st, [] => .inl st
  | n, st, r :: rs => match takesF st r with
    | some st' => readF (n + 1) st' rs
    | none => .inr n
def lacksB (st : Rd) : Bool := decide (st.ws = []) || !(decide (st.wd.length = 0) || decide (st.wd.length = st.ws.length))
def rowsOf (l : List Nat) : List (List Nat) := TL.spl [10] 0 [] l
def readC (l : List Nat) : Rd ⊕ Nat := match readF 0 .init (rowsOf l) with
  | .inl st => if lacksB st then .inr (rowsOf l).length else .inl st
  | .inr n => .inr n
/-- what stands is right -/
structure RdOk (st : Rd) : Prop where
  sg : SgAll st.ds st.cs
  nd : st.cs.Nodup
  l6 : st.cs.length ≤ 6
  fn : st.fs.Nodup
  fo : ∀ c ∈ st.fs, c ∈ st.cs
  po : PairsOf st.cs st.cs st.zs
  l2 : (st.fs ≠ [] ∨ st.zs ≠ [] ∨ st.lg ≠ none) → 2 ≤ st.cs.length
  lg : ∀ i, st.lg = some i → 1 ≤ i ∧ i ≤ 8
  wo : WsOk st.ws
  w20 : st.ws.length ≤ 20
  wl : st.ws ≠ [] → st.lg ≠ none
  wd : st.wd.length ≤ st.ws.length
  wt : ∀ t ∈ st.wd, (∀ c ∈ t, c ∈ letters.cps.toList) ∧ 1 ≤ t.length ∧ t.length ≤ 8
theorem RdOk.init : RdOk .init := ⟨.nil, List.nodup_nil, Nat.zero_le _, List.nodup_nil, (fun _ h => nomatch h), ⟨List.nodup_nil, fun _ h => nomatch h⟩, (fun h => by rcases h with h | h | h <;> exact absurd rfl h), (fun _ h => nomatch h), ⟨(fun _ h => nomatch h), List.nodup_nil⟩, Nat.zero_le _, (fun h => absurd rfl h), Nat.le_refl _, fun _ h => nomatch h⟩
theorem nmOk_iff {t : List Nat} : nmOk t = true ↔ (∀ c ∈ t, c ∈ letters.cps.toList) ∧ 1 ≤ t.length ∧ t.length ≤ 8 := by
  unfold nmOk isLt
  rw [Bool.and_eq_true, decide_eq_true_eq, List.all_eq_true]
  constructor
  · rintro ⟨h1, h2⟩
    exact ⟨fun c hc => of_decide_eq_true (h2 c hc), h1⟩
  · rintro ⟨h1, h2⟩
    exact ⟨h2, fun c hc => decide_eq_true (h1 c hc)⟩
theorem wholeN_lt {m : Int} {l : List Nat} {n : Nat} (h : wholeN m l = some n) : n < 10 ^ m.toNat := by
  unfold wholeN at h
  split at h
  · rename_i ok
    injection h with h
    subst h
    have hl := wholeOk_len ok
    unfold wholeOk at ok
    rw [Bool.and_eq_true, List.all_eq_true] at ok
    have := val_lt (l := l) fun c hc => (in_fig (of_decide_eq_true (ok.2 c hc))).2
    exact Nat.lt_of_lt_of_le this (Nat.pow_le_pow_right (by decide) (by omega))
  · cases h
theorem finF_ok {t b : Int} {x : Int × Int} (h : finF t b = some x) : x = (t, b) ∧ Int.gcd b t = 1 := by
  unfold finF at h
  split at h
  · injection h with h
    exact ⟨h.symm, by assumption⟩
  · cases h
theorem fracNs_ok {neg : Bool} {os : List (Option Nat)} {x : Int × Int} {N : Nat} (h : fracNs neg os = some x) (hn : ∀ n, some n ∈ os → n < N) (h1 : 1 < N) : 0 < x.2 ∧ Int.gcd x.2 x.1 = 1 ∧ x.1.natAbs < N ∧ x.2.natAbs < N := by
  match os, h with
  | [some a], h =>
    have h : (if neg && decide (a = 0) then none else finF (sgnI neg a) 1) = some x := h
    split at h
    · cases h
    · obtain ⟨rfl, g⟩ := finF_ok h
      have := hn a List.mem_cons_self
      refine ⟨(show (0 : Int) < 1 by decide), g, ?_, h1⟩
      show (sgnI neg a).natAbs < N
      unfold sgnI
      split <;> omega
  | [some a, some b], h =>
    have h : (if decide (b < 2) || (neg && decide (a = 0)) then none else finF (sgnI neg a) b) = some x := h
    split at h
    · cases h
    · rename_i c
      rw [Bool.not_eq_true, Bool.or_eq_false_iff, decide_eq_false_iff_not] at c
      obtain ⟨rfl, g⟩ := finF_ok h
      have ha := hn a List.mem_cons_self
      have hb := hn b (List.mem_cons_of_mem _ List.mem_cons_self)
      refine ⟨by show (0 : Int) < (b : Nat); omega, g, ?_, by show ((b : Nat) : Int).natAbs < N; omega⟩
      show (sgnI neg a).natAbs < N
      unfold sgnI
      split <;> omega
theorem priceIn_ok {l : List Nat} {x : Int × Int} (h : priceIn l = some x) : PrOk x.1 x.2 := by
  unfold priceIn at h
  cases e : fracIn 9 l with
  | none => rw [e] at h; cases h
  | some y =>
    rw [e] at h
    have h : (if 0 < y.1 then some y else none) = some x := h
    split at h
    · injection h with h
      subst h
      rename_i p
      unfold fracIn at e
      have := fracNs_ok (N := 10 ^ 9) e (fun n hn => by
        obtain ⟨q, _, hq⟩ := List.mem_map.mp hn
        exact wholeN_lt hq) (by decide)
      exact ⟨p, this.1, by omega, by omega, this.2.1⟩
    · cases h
theorem lastIn_ok {l : List Nat} {d : D} (h : lastIn l = some d) : LastD d := by
  unfold lastIn at h
  cases e : priceIn l with
  | none =>
    rw [e] at h
    have h : (if l = [45] then some D.non else none) = some d := h
    split at h
    · injection h with h
      subst h
      trivial
    · cases h
  | some y =>
    rw [e] at h
    have h : some (frX y) = some d := h
    injection h with h
    subst h
    exact priceIn_ok e
theorem SgAll.app1 {ds : List D} {cs : List Nat} {d : D} {c : Nat} (h : SgAll ds cs) (s : SgD d c) : SgAll (ds ++ [d]) (cs ++ [c]) := by
  induction h with
  | nil => exact .cons s .nil
  | cons a b ih => exact .cons a ih
theorem nodup_snoc {α : Type} {l : List α} {a : α} (h : l.Nodup) (n : ¬ a ∈ l) : (l ++ [a]).Nodup := by
  rw [List.nodup_append]
  refine ⟨h, List.pairwise_singleton _ _, fun x hx y hy e => ?_⟩
  rw [List.mem_singleton] at hy
  subst hy
  subst e
  exact n hx
theorem takesSign_ok {st st' : Rd} {ps : List (List Nat)} (o : RdOk st) (h : takesSign st ps = some st') : RdOk st' := by
  unfold takesSign at h
  split at h
  · rename_i c p l
    split at h
    · cases h
    · rename_i n
      have n1 : st.fs = [] := Classical.byContradiction fun q => n (.inl q)
      have n2 : st.zs = [] := Classical.byContradiction fun q => n (.inr (.inl q))
      have n3 : st.lg = none := Classical.byContradiction fun q => n (.inr (.inr (.inl q)))
      have n4 : ¬ st.cs.length = 6 := fun q => n (.inr (.inr (.inr (.inl q))))
      have n5 : isLt c = true := by
        cases e : isLt c with
        | true => rfl
        | false => exact absurd (.inr (.inr (.inr (.inr (.inl e))))) n
      have n6 : ¬ c ∈ st.cs := fun q => n (.inr (.inr (.inr (.inr (.inr q)))))
      split at h
      · rename_i x y ex ey
        injection h with h
        subst h
        have l6 := o.l6
        have sd : SgD (.tup [.str (sgn c), frX x, y]) c := ⟨⟨x.1, x.2, y, rfl, priceIn_ok ex, lastIn_ok ey⟩, of_decide_eq_true n5⟩
        refine ⟨o.sg.app1 sd, nodup_snoc o.nd n6, by show (st.cs ++ [c]).length ≤ 6; rw [List.length_append]; show _ + 1 ≤ 6; omega, o.fn, ?_, ?_, ?_, o.lg, o.wo, o.w20, o.wl, o.wd, o.wt⟩
        · show ∀ c' ∈ st.fs, _
          rw [n1]
          exact fun _ h => nomatch h
        · show PairsOf _ _ st.zs
          rw [n2]
          exact ⟨List.nodup_nil, fun _ h => nomatch h⟩
        · show (st.fs ≠ [] ∨ st.zs ≠ [] ∨ st.lg ≠ none) → _
          rintro (q | q | q)
          · exact absurd n1 q
          · exact absurd n2 q
          · exact absurd n3 q
      · cases h
  · cases h
theorem openB_iff {st : Rd} {t : List Nat} {n : Nat} : openB st t n = true ↔ (2 ≤ st.cs.length ∧ st.lg = none ∧ t.length = n) ∧ ∀ c ∈ t, c ∈ st.cs := by
  unfold openB
  rw [Bool.and_eq_true, decide_eq_true_eq, List.all_eq_true]
  exact ⟨fun h => ⟨h.1, fun c hc => of_decide_eq_true (h.2 c hc)⟩, fun h => ⟨h.1, fun c hc => decide_eq_true (h.2 c hc)⟩⟩
theorem takesFirst_ok {st st' : Rd} {ps : List (List Nat)} (o : RdOk st) (h : takesFirst st ps = some st') : RdOk st' := by
  unfold takesFirst at h
  split at h
  · rename_i c
    split at h
    · rename_i q
      rw [Bool.and_eq_true, Bool.and_eq_true, openB_iff] at q
      obtain ⟨⟨⟨⟨q1, q2, _⟩, q3⟩, q4⟩, q5⟩ := q
      have q5 : ¬ c ∈ st.fs := by simpa using q5
      injection h with h
      subst h
      refine ⟨o.sg, o.nd, o.l6, nodup_snoc o.fn q5, fun c' hc' => ?_, o.po, fun _ => q1, o.lg, o.wo, o.w20, o.wl, o.wd, o.wt⟩
      rcases List.mem_append.mp hc' with hc' | hc'
      · exact o.fo c' hc'
      · rw [List.mem_singleton] at hc'
        subst hc'
        exact q3 _ List.mem_cons_self
    · cases h
  · cases h
theorem takesPair_ok {st st' : Rd} {ps : List (List Nat)} (o : RdOk st) (h : takesPair st ps = some st') : RdOk st' := by
  unfold takesPair at h
  split at h
  · rename_i a b
    split at h
    · rename_i q
      rw [Bool.and_eq_true, openB_iff] at q
      obtain ⟨⟨⟨q1, q2, _⟩, q3⟩, q5⟩ := q
      have q5 : ¬ sgn a ++ sgn b ∈ st.zs := by simpa using q5
      injection h with h
      subst h
      refine ⟨o.sg, o.nd, o.l6, o.fn, o.fo, ⟨nodup_snoc o.po.nd q5, fun z hz => ?_⟩, fun _ => q1, o.lg, o.wo, o.w20, o.wl, o.wd, o.wt⟩
      rcases List.mem_append.mp hz with hz | hz
      · exact o.po.of z hz
      · rw [List.mem_singleton] at hz
        subst hz
        exact ⟨a, q3 a List.mem_cons_self, b, q3 b (List.mem_cons_of_mem _ List.mem_cons_self), rfl⟩
    · cases h
  · cases h
theorem takesLong_ok {st st' : Rd} {ps : List (List Nat)} (o : RdOk st) (h : takesLong st ps = some st') : RdOk st' := by
  unfold takesLong at h
  split at h
  · rename_i t
    split at h
    · rename_i q
      split at h
      · rename_i n en
        split at h
        · rename_i q2
          injection h with h
          subst h
          refine ⟨o.sg, o.nd, o.l6, o.fn, o.fo, o.po, fun _ => q.1, fun i hi => ?_, o.wo, o.w20, (fun _ e => nomatch e), o.wd, o.wt⟩
          have hi : some ((n : Nat) : Int) = some i := hi
          injection hi with hi
          omega
        · cases h
      · cases h
    · cases h
  · cases h
theorem takesThing_ok {st st' : Rd} {ps : List (List Nat)} (o : RdOk st) (h : takesThing st ps = some st') : RdOk st' := by
  unfold takesThing at h
  split at h
  · rename_i t q
    split at h
    · rename_i c
      split at h
      · rename_i n en
        split at h
        · rename_i c2
          injection h with h
          subst h
          obtain ⟨c3, c4, c5⟩ := c2
          rw [nmOk_iff] at c4
          have w20 := o.w20
          refine ⟨o.sg, o.nd, o.l6, o.fn, o.fo, o.po, o.l2, o.lg, ⟨fun w hw => ?_, ?_⟩, ?_, fun _ => c.1, ?_, o.wt⟩
          · rcases List.mem_append.mp hw with hw | hw
            · exact o.wo.all w hw
            · rw [List.mem_singleton] at hw
              subst hw
              exact ⟨c4.1, c4.2.1, c4.2.2, by show (0 : Int) ≤ (n : Nat); omega, by show ((n : Nat) : Int) ≤ 1000000000; omega⟩
          · show ((st.ws ++ [(t, ((n : Nat) : Int))]).map Prod.fst).Nodup
            rw [List.map_append]
            exact nodup_snoc o.wo.nd c5
          · show (st.ws ++ [(t, ((n : Nat) : Int))]).length ≤ 20
            rw [List.length_append]
            show _ + 1 ≤ 20
            omega
          · have := o.wd
            show st.wd.length ≤ (st.ws ++ [(t, ((n : Nat) : Int))]).length
            rw [List.length_append]
            omega
        · cases h
      · cases h
    · cases h
  · cases h
theorem takesWord_ok {st st' : Rd} {ps : List (List Nat)} (o : RdOk st) (h : takesWord st ps = some st') : RdOk st' := by
  unfold takesWord at h
  split at h
  · rename_i t
    split at h
    · rename_i c
      injection h with h
      subst h
      refine ⟨o.sg, o.nd, o.l6, o.fn, o.fo, o.po, o.l2, o.lg, o.wo, o.w20, o.wl, ?_, fun t' ht' => ?_⟩
      · show (st.wd ++ [t]).length ≤ st.ws.length
        rw [List.length_append]
        exact c.1
      · rcases List.mem_append.mp ht' with ht' | ht'
        · exact o.wt t' ht'
        · rw [List.mem_singleton] at ht'
          subst ht'
          exact nmOk_iff.mp c.2
    · cases h
  · cases h
theorem takesF_ok {st st' : Rd} {row : List Nat} (o : RdOk st) (h : takesF st row = some st') : RdOk st' := by
  unfold takesF takesP at h
  split at h
  · split at h
    · exact takesSign_ok o h
    · split at h
      · exact takesFirst_ok o h
      · split at h
        · exact takesPair_ok o h
        · split at h
          · exact takesLong_ok o h
          · split at h
            · exact takesThing_ok o h
            · split at h
              · exact takesWord_ok o h
              · cases h
  · cases h
end Dear

namespace Dear
open PySem PySem.Spec PyProof.Rows L2
/-! ### what is written is read back -/
theorem whole_figM {n m : Nat} (h : n < 10 ^ m) (hm : 1 ≤ m) : wholeIn (m : Nat) (figL n) = .int (n : Nat) := by
  have hl := fig_len hm h
  have h1 : 1 ≤ (figL n).length := List.length_pos_iff.mpr (fig_ne n)
  have e : wholeOk (m : Nat) (figL n) = true := by
    unfold wholeOk
    rw [decide_eq_true (show 1 ≤ ((figL n).length : Int) ∧ ((figL n).length : Int) ≤ ((m : Nat) : Int) by omega), Bool.true_and, Bool.and_eq_true]
    refine ⟨?_, List.all_eq_true.mpr fun c hc => decide_eq_true (fig_in (fig_dig n c hc))⟩
    by_cases h0 : 0 < n
    · rw [decide_eq_false (fig_head n h0), Bool.and_false]
      rfl
    · have : n = 0 := by omega
      subst this
      rw [fig_small (by decide)]
      rfl
  unfold wholeIn
  rw [if_pos e, fig_val]
theorem wholeN_figM {n k : Nat} (h : n < 10 ^ k) (hk : 1 ≤ k) : wholeN (k : Nat) (figL n) = some n := by
  have e := whole_figM h hk
  rw [wholeIn_opt] at e
  cases q : wholeN (k : Nat) (figL n) with
  | none => rw [q] at e; cases e
  | some m =>
    rw [q] at e
    have e : V.int (m : Nat) = V.int (n : Nat) := e
    injection e with e
    rw [show m = n by omega]
theorem frac_backM {k : Nat} {t b : Int} (hk : 1 ≤ k) (hb : 0 < b) (hg : Int.gcd b t = 1) (ht : t.natAbs < 10 ^ k) (hb2 : b.natAbs < 10 ^ k) : fracIn (k : Nat) (fracL t b) = some (t, b) := by
  have neg : isNeg (fracL t b) = decide (t < 0) := by
    unfold isNeg fracL
    by_cases h : t < 0
    · rw [if_pos h, decide_eq_true h]
      exact decide_eq_true rfl
    · rw [if_neg h, decide_eq_false h]
      refine decide_eq_false fun e => ?_
      have ne := fig_ne t.natAbs
      have dg := fig_dig t.natAbs
      cases q : figL t.natAbs with
      | nil => exact ne q
      | cons c r =>
        rw [q] at e dg
        have : c = 45 := by simpa using e
        have := dg c List.mem_cons_self
        omega
  have figs : figsOf (fracL t b) = figL t.natAbs ++ (if b = 1 then [] else 47 :: figL b.natAbs) := by
    unfold figsOf
    rw [neg]
    unfold fracL
    by_cases h : t < 0
    · rw [decide_eq_true h, if_pos rfl, if_pos h]
      rfl
    · rw [decide_eq_false h, if_neg (by decide), if_neg h]
      rfl
  have sg : sgnI (decide (t < 0)) t.natAbs = t := by
    unfold sgnI
    by_cases h : t < 0
    · rw [decide_eq_true h, if_pos rfl]
      omega
    · rw [decide_eq_false h, if_neg (by decide)]
      omega
  have nz : (decide (t < 0) && decide (t.natAbs = 0)) = false := by
    by_cases h : t < 0
    · rw [decide_eq_false (show ¬ t.natAbs = 0 by omega), Bool.and_false]
    · rw [decide_eq_false h]
      rfl
  unfold fracIn partsOf
  rw [neg, figs]
  by_cases h1 : b = 1
  · subst h1
    rw [if_pos rfl, List.append_nil]
    have e := TL.spl_last1 (S := []) (acc := []) (fig_noslash t.natAbs)
    rw [List.nil_append] at e
    rw [e]
    show fracNs (decide (t < 0)) [wholeN (k : Nat) (figL t.natAbs)] = _
    rw [wholeN_figM ht hk]
    show (if (decide (t < 0) && decide (t.natAbs = 0)) = true then none else finF (sgnI (decide (t < 0)) t.natAbs) 1) = _
    rw [nz, sg]
    exact if_pos hg
  · rw [if_neg h1]
    have e := TL.spl_part1 (S := []) (acc := []) (rest := figL b.natAbs) (fig_noslash t.natAbs)
    have e2 := TL.spl_last1 (S := []) (acc := []) (fig_noslash b.natAbs)
    rw [List.nil_append] at e e2
    rw [e2] at e
    have e : TL.spl [47] 0 [] (figL t.natAbs ++ 47 :: figL b.natAbs) = [figL t.natAbs, figL b.natAbs] := e
    rw [e]
    show fracNs (decide (t < 0)) [wholeN (k : Nat) (figL t.natAbs), wholeN (k : Nat) (figL b.natAbs)] = _
    rw [wholeN_figM ht hk, wholeN_figM hb2 hk]
    show (if (decide (b.natAbs < 2) || (decide (t < 0) && decide (t.natAbs = 0))) = true then none else finF (sgnI (decide (t < 0)) t.natAbs) (b.natAbs : Nat)) = _
    rw [nz, sg, decide_eq_false (show ¬ b.natAbs < 2 by omega), show ((b.natAbs : Nat) : Int) = b by omega]
    exact if_pos hg
theorem spl32 {parts : List (List Nat)} (hne : parts ≠ []) (h : ∀ p ∈ parts, 32 ∉ p) : TL.spl [32] 0 [] (TL.joinL [32] parts) = parts := TL.spl_join hne h
theorem fig_no {n c : Nat} (h : c < 48) : c ∉ figL n := fun q => by
  have := fig_dig n c q
  omega
theorem frac_no {t b : Int} {c : Nat} (h : c < 45) : c ∉ fracL t b := by
  unfold fracL
  intro q
  rcases List.mem_append.mp q with q | q
  · rcases List.mem_append.mp q with q | q
    · split at q
      · rw [List.mem_singleton] at q
        omega
      · cases q
    · exact fig_no (by omega) q
  · split at q
    · cases q
    · rcases List.mem_cons.mp q with q | q
      · omega
      · exact fig_no (by omega) q
theorem last_no {l : D} {c : Nat} (s : LastD l) (h : c < 45) : c ∉ fracD l := by
  match l, s with
  | .non, _ =>
    intro q
    have q : c ∈ [45] := q
    rw [List.mem_singleton] at q
    omega
  | .tup [.int t, .int b], _ => exact frac_no h
theorem lett_no {c : Nat} (h : c ∈ letters.cps.toList) : 97 ≤ c := by
  have : ∀ c ∈ letters.cps.toList, 97 ≤ c := by decide +kernel
  exact this c h
theorem price_back {t b : Int} (h : PrOk t b) : priceIn (fracL t b) = some (t, b) := by
  obtain ⟨h1, h2, h3, h4, h5⟩ := h
  have e := frac_backM (k := 9) (by decide) h2 h5 (show t.natAbs < 10 ^ 9 by omega) (show b.natAbs < 10 ^ 9 by omega)
  unfold priceIn
  rw [show fracIn 9 (fracL t b) = some (t, b) from e]
  exact if_pos h1
theorem last_back {l : D} (s : LastD l) : lastIn (fracD l) = some l := by
  match l, s with
  | .non, _ =>
    show lastIn [45] = some .non
    unfold lastIn
    rw [show priceIn [45] = none by decide +kernel]
    rfl
  | .tup [.int t, .int b], s =>
    show lastIn (fracL t b) = _
    unfold lastIn
    rw [price_back s]
    rfl
theorem sign_parts {d : D} {c : Nat} (s : SgD d c) : ∃ (t b : Int) (l : D), d = .tup [.str (sgn c), .tup [.int t, .int b], l] ∧ PrOk t b ∧ LastD l ∧ TL.spl [32] 0 [] (signRow d) = [wSign, [c], fracL t b, fracD l] := by
  obtain ⟨t, b, l, rfl, hp, hl⟩ := s.ex
  refine ⟨t, b, l, rfl, hp, hl, ?_⟩
  have e : signRow (.tup [.str (sgn c), .tup [.int t, .int b], l]) = TL.joinL [32] [wSign, [c], fracL t b, fracD l] := by
    show kSign ++ [c] ++ [32] ++ fracL t b ++ [32] ++ fracD l = wSign ++ ([32] ++ ([c] ++ ([32] ++ (fracL t b ++ ([32] ++ fracD l)))))
    simp only [List.append_assoc]
    rfl
  rw [e]
  refine spl32 (by simp) fun p hp' => ?_
  have hc := lett_no s.2
  simp only [List.mem_cons, List.not_mem_nil, or_false] at hp'
  rcases hp' with rfl | rfl | rfl | rfl
  · decide
  · rw [List.mem_singleton]
    omega
  · exact frac_no (by decide)
  · exact last_no hl (by decide)
theorem readF_app {a b : List (List Nat)} : ∀ {n : Nat} {st st' : Rd}, readF n st a = .inl st' → readF n st (a ++ b) = readF (n + a.length) st' b := by
  induction a with
  | nil =>
    intro n st st' h
    have h : Sum.inl st = (Sum.inl st' : Rd ⊕ Nat) := h
    injection h with h
    subst h
    rfl
  | cons r a ih =>
    intro n st st' h
    have h : (match takesF st r with | some s => readF (n + 1) s a | none => .inr n) = .inl st' := h
    show (match takesF st r with | some s => readF (n + 1) s (a ++ b) | none => .inr n) = _
    cases e : takesF st r with
    | none => rw [e] at h; cases h
    | some s =>
      rw [e] at h
      have h : readF (n + 1) s a = .inl st' := h
      show readF (n + 1) s (a ++ b) = _
      rw [ih h, List.length_cons]
      congr 1
      omega
theorem seg_sign : ∀ {ds : List D} {cs : List Nat} {n : Nat} {st : Rd}, SgAll ds cs → st.fs = [] → st.zs = [] → st.lg = none → (st.cs ++ cs).Nodup → (st.cs ++ cs).length ≤ 6 → readF n st (ds.map signRow) = .inl { st with ds := st.ds ++ ds, cs := st.cs ++ cs }
  | _, _, n, st, .nil, _, _, _, _, _ => by
    show Sum.inl st = _
    rw [List.append_nil, List.append_nil]
  | _, _, n, st, .cons (d := d) (c := c) (ds := ds) (cs := cs) s r, f, z, g, nd, l6 => by
    obtain ⟨t, b, l, rfl, hp, hl, sp⟩ := sign_parts s
    have l6' := l6
    rw [List.length_append, List.length_cons] at l6'
    have nc : ¬ c ∈ st.cs := fun q => (List.nodup_append.mp nd).2.2 c q c List.mem_cons_self rfl
    have e : takesF st (signRow (.tup [.str (sgn c), .tup [.int t, .int b], l])) = some { st with ds := st.ds ++ [.tup [.str (sgn c), .tup [.int t, .int b], l]], cs := st.cs ++ [c] } := by
      unfold takesF
      rw [sp]
      show takesSign st [[c], fracL t b, fracD l] = _
      show (if st.fs ≠ [] ∨ st.zs ≠ [] ∨ st.lg ≠ none ∨ st.cs.length = 6 ∨ isLt c = false ∨ c ∈ st.cs then none else _) = _
      have il : isLt c = true := decide_eq_true s.2
      rw [if_neg (by
        rintro (q | q | q | q | q | q)
        · exact q f
        · exact q z
        · exact q g
        · omega
        · rw [il] at q; cases q
        · exact nc q), price_back hp, last_back hl]
      rfl
    show (match takesF st (signRow (.tup [.str (sgn c), .tup [.int t, .int b], l])) with | some s => readF (n + 1) s (ds.map signRow) | none => .inr n) = _
    rw [e]
    show readF (n + 1) _ (ds.map signRow) = _
    have := seg_sign (ds := ds) (cs := cs) (n := n + 1) (st := { st with ds := st.ds ++ [.tup [.str (sgn c), .tup [.int t, .int b], l]], cs := st.cs ++ [c] }) r f z g (by show (st.cs ++ [c] ++ cs).Nodup; rw [List.append_assoc]; exact nd) (by show (st.cs ++ [c] ++ cs).length ≤ 6; rw [List.append_assoc]; exact l6)
    rw [this]
    show Sum.inl _ = Sum.inl _
    congr 2
    · show st.ds ++ [_] ++ ds = _
      rw [List.append_assoc]
      rfl
    · show st.cs ++ [c] ++ cs = _
      rw [List.append_assoc]
      rfl
theorem seg_first : ∀ {fs : List Nat} {n : Nat} {st : Rd}, 2 ≤ st.cs.length → st.lg = none → st.zs = [] → (∀ c ∈ fs, c ∈ st.cs) → (∀ c ∈ fs, 97 ≤ c) → (st.fs ++ fs).Nodup → readF n st (fs.map firstRow) = .inl { st with fs := st.fs ++ fs }
  | [], n, st, _, _, _, _, _, _ => by
    show Sum.inl st = _
    rw [List.append_nil]
  | c :: fs, n, st, l2, g, z, o, hl, nd => by
    have nc : ¬ c ∈ st.fs := fun q => (List.nodup_append.mp nd).2.2 c q c List.mem_cons_self rfl
    have c97 := hl c List.mem_cons_self
    have sp : TL.spl [32] 0 [] (firstRow c) = [wFirst, [c]] := by
      have e : firstRow c = TL.joinL [32] [wFirst, [c]] := rfl
      rw [e]
      refine spl32 (by simp) fun p hp' => ?_
      simp only [List.mem_cons, List.not_mem_nil, or_false] at hp'
      rcases hp' with rfl | rfl
      · decide
      · rw [List.mem_singleton]
        omega
    have e : takesF st (firstRow c) = some { st with fs := st.fs ++ [c] } := by
      unfold takesF
      rw [sp]
      show (if openB st [c] 1 && decide (st.zs = []) && !decide (c ∈ st.fs) then _ else _) = _
      rw [openB_iff (t := [c]) (n := 1) |>.mpr ⟨⟨l2, g, rfl⟩, fun x hx => by rw [List.mem_singleton] at hx; subst hx; exact o _ List.mem_cons_self⟩, decide_eq_true z, decide_eq_false nc]
      rfl
    show (match takesF st (firstRow c) with | some s => readF (n + 1) s (fs.map firstRow) | none => .inr n) = _
    rw [e]
    show readF (n + 1) _ (fs.map firstRow) = _
    rw [seg_first (fs := fs) (n := n + 1) (st := { st with fs := st.fs ++ [c] }) l2 g z (fun x hx => o x (List.mem_cons_of_mem _ hx)) (fun x hx => hl x (List.mem_cons_of_mem _ hx)) (by show (st.fs ++ [c] ++ fs).Nodup; rw [List.append_assoc]; exact nd)]
    show Sum.inl _ = Sum.inl _
    congr 2
    show st.fs ++ [c] ++ fs = _
    rw [List.append_assoc]
    rfl
theorem seg_pair : ∀ {zs : List Str} {n : Nat} {st : Rd}, 2 ≤ st.cs.length → st.lg = none → (∀ z ∈ zs, ∃ a ∈ st.cs, ∃ b ∈ st.cs, z = sgn a ++ sgn b) → (∀ c ∈ st.cs, 97 ≤ c) → (st.zs ++ zs).Nodup → readF n st (zs.map pairRow) = .inl { st with zs := st.zs ++ zs }
  | [], n, st, _, _, _, _, _ => by
    show Sum.inl st = _
    rw [List.append_nil]
  | z :: zs, n, st, l2, g, o, hl, nd => by
    have nc : ¬ z ∈ st.zs := fun q => (List.nodup_append.mp nd).2.2 z q z List.mem_cons_self rfl
    obtain ⟨a, ha, b, hb, rfl⟩ := o z List.mem_cons_self
    have a97 := hl a ha
    have b97 := hl b hb
    have sp : TL.spl [32] 0 [] (pairRow (sgn a ++ sgn b)) = [wPair, [a, b]] := by
      have e : pairRow (sgn a ++ sgn b) = TL.joinL [32] [wPair, [a, b]] := by
        show kPair ++ (sgn a ++ sgn b).cps.toList = _
        rw [tl_sgn2]
        rfl
      rw [e]
      refine spl32 (by simp) fun p hp' => ?_
      simp only [List.mem_cons, List.not_mem_nil, or_false] at hp'
      rcases hp' with rfl | rfl
      · decide
      · simp only [List.mem_cons, List.not_mem_nil, or_false]
        omega
    have e : takesF st (pairRow (sgn a ++ sgn b)) = some { st with zs := st.zs ++ [sgn a ++ sgn b] } := by
      unfold takesF
      rw [sp]
      show (if openB st [a, b] 2 && !decide (sgn a ++ sgn b ∈ st.zs) then _ else _) = _
      rw [openB_iff (t := [a, b]) (n := 2) |>.mpr ⟨⟨l2, g, rfl⟩, fun x hx => by
        simp only [List.mem_cons, List.not_mem_nil, or_false] at hx
        rcases hx with rfl | rfl
        · exact ha
        · exact hb⟩, decide_eq_false nc]
      rfl
    show (match takesF st (pairRow (sgn a ++ sgn b)) with | some s => readF (n + 1) s (zs.map pairRow) | none => .inr n) = _
    rw [e]
    show readF (n + 1) _ (zs.map pairRow) = _
    rw [seg_pair (zs := zs) (n := n + 1) (st := { st with zs := st.zs ++ [sgn a ++ sgn b] }) l2 g (fun x hx => o x (List.mem_cons_of_mem _ hx)) hl (by show (st.zs ++ [sgn a ++ sgn b] ++ zs).Nodup; rw [List.append_assoc]; exact nd)]
    show Sum.inl _ = Sum.inl _
    congr 2
    show st.zs ++ [sgn a ++ sgn b] ++ zs = _
    rw [List.append_assoc]
    rfl
theorem take_long {st : Rd} {i : Int} (l2 : 2 ≤ st.cs.length) (g : st.lg = none) (i1 : 1 ≤ i) (i8 : i ≤ 8) : takesF st (longRow i) = some { st with lg := some i } := by
  have sp : TL.spl [32] 0 [] (longRow i) = [wLong, figL i.natAbs] := by
    have e : longRow i = TL.joinL [32] [wLong, figL i.natAbs] := rfl
    rw [e]
    refine spl32 (by simp) fun p hp' => ?_
    simp only [List.mem_cons, List.not_mem_nil, or_false] at hp'
    rcases hp' with rfl | rfl
    · decide
    · exact fig_no (by decide)
  unfold takesF
  rw [sp]
  show (if 2 ≤ st.cs.length ∧ st.lg = none then match wholeN 1 (figL i.natAbs) with
    | some n => if 1 ≤ n ∧ n ≤ 8 then some { st with lg := some ((n : Nat) : Int) } else none
    | none => none
    else none) = _
  rw [if_pos ⟨l2, g⟩, show wholeN 1 (figL i.natAbs) = some i.natAbs from wholeN_figM (k := 1) (by omega) (by decide)]
  show (if 1 ≤ i.natAbs ∧ i.natAbs ≤ 8 then some { st with lg := some ((i.natAbs : Nat) : Int) } else none) = _
  rw [if_pos (by omega), show ((i.natAbs : Nat) : Int) = i by omega]
theorem seg_thing : ∀ {ws : List (List Nat × Int)} {n : Nat} {st : Rd}, st.lg ≠ none → st.wd = [] → (∀ w ∈ ws, WOk w) → ((st.ws ++ ws).map Prod.fst).Nodup → (st.ws ++ ws).length ≤ 20 → readF n st (ws.map thingRow) = .inl { st with ws := st.ws ++ ws }
  | [], n, st, _, _, _, _, _ => by
    show Sum.inl st = _
    rw [List.append_nil]
  | w :: ws, n, st, g, d, o, nd, l20 => by
    have ow := o w List.mem_cons_self
    have c0 := ow.c0
    have c9 := ow.c9
    have l20' := l20
    rw [List.length_append, List.length_cons] at l20'
    have nc : ¬ w.1 ∈ st.ws.map Prod.fst := fun q => by
      rw [List.map_append] at nd
      exact (List.nodup_append.mp nd).2.2 w.1 q w.1 List.mem_cons_self rfl
    have sp : TL.spl [32] 0 [] (thingRow w) = [wThing, w.1, figL w.2.natAbs] := by
      have e : thingRow w = TL.joinL [32] [wThing, w.1, figL w.2.natAbs] := by
        show kThing ++ w.1 ++ [32] ++ figL w.2.natAbs = wThing ++ ([32] ++ (w.1 ++ ([32] ++ figL w.2.natAbs)))
        simp only [List.append_assoc]
        rfl
      rw [e]
      refine spl32 (by simp) fun p hp' => ?_
      simp only [List.mem_cons, List.not_mem_nil, or_false] at hp'
      rcases hp' with rfl | rfl | rfl
      · decide
      · intro q
        have := lett_no (ow.l 32 q)
        omega
      · exact fig_no (by decide)
    have e : takesF st (thingRow w) = some { st with ws := st.ws ++ [w] } := by
      unfold takesF
      rw [sp]
      show (if st.lg ≠ none ∧ st.wd = [] ∧ st.ws.length ≠ 20 then match wholeN 10 (figL w.2.natAbs) with
        | some n => if n ≤ 1000000000 ∧ nmOk w.1 = true ∧ ¬ w.1 ∈ st.ws.map Prod.fst then some { st with ws := st.ws ++ [(w.1, ((n : Nat) : Int))] } else none
        | none => none
        else none) = _
      rw [if_pos ⟨g, d, by omega⟩, show wholeN 10 (figL w.2.natAbs) = some w.2.natAbs from wholeN_figM (k := 10) (by omega) (by decide)]
      show (if w.2.natAbs ≤ 1000000000 ∧ nmOk w.1 = true ∧ ¬ w.1 ∈ st.ws.map Prod.fst then some { st with ws := st.ws ++ [(w.1, ((w.2.natAbs : Nat) : Int))] } else none) = _
      rw [if_pos ⟨by omega, nmOk_iff.mpr ⟨ow.l, ow.n1, ow.n8⟩, nc⟩, show ((w.2.natAbs : Nat) : Int) = w.2 by omega]
    show (match takesF st (thingRow w) with | some s => readF (n + 1) s (ws.map thingRow) | none => .inr n) = _
    rw [e]
    show readF (n + 1) _ (ws.map thingRow) = _
    rw [seg_thing (ws := ws) (n := n + 1) (st := { st with ws := st.ws ++ [w] }) g d (fun x hx => o x (List.mem_cons_of_mem _ hx)) (by show ((st.ws ++ [w] ++ ws).map Prod.fst).Nodup; rw [List.append_assoc]; exact nd) (by show (st.ws ++ [w] ++ ws).length ≤ 20; rw [List.append_assoc]; exact l20)]
    show Sum.inl _ = Sum.inl _
    congr 2
    show st.ws ++ [w] ++ ws = _
    rw [List.append_assoc]
    rfl
theorem seg_word : ∀ {bk : List (List Nat)} {n : Nat} {st : Rd}, (st.wd ++ bk).length ≤ st.ws.length → (∀ t ∈ bk, nmOk t = true) → readF n st (bk.map wordRow) = .inl { st with wd := st.wd ++ bk }
  | [], n, st, _, _ => by
    show Sum.inl st = _
    rw [List.append_nil]
  | t :: bk, n, st, l, o => by
    have ot := o t List.mem_cons_self
    have l' := l
    rw [List.length_append, List.length_cons] at l'
    have sp : TL.spl [32] 0 [] (wordRow t) = [wWord, t] := by
      have e : wordRow t = TL.joinL [32] [wWord, t] := rfl
      rw [e]
      refine spl32 (by simp) fun p hp' => ?_
      simp only [List.mem_cons, List.not_mem_nil, or_false] at hp'
      rcases hp' with rfl | rfl
      · decide
      · intro q
        have := lett_no ((nmOk_iff.mp ot).1 32 q)
        omega
    have e : takesF st (wordRow t) = some { st with wd := st.wd ++ [t] } := by
      unfold takesF
      rw [sp]
      show (if st.wd.length < st.ws.length ∧ nmOk t = true then some { st with wd := st.wd ++ [t] } else none) = _
      rw [if_pos ⟨by omega, ot⟩]
    show (match takesF st (wordRow t) with | some s => readF (n + 1) s (bk.map wordRow) | none => .inr n) = _
    rw [e]
    show readF (n + 1) _ (bk.map wordRow) = _
    rw [seg_word (bk := bk) (n := n + 1) (st := { st with wd := st.wd ++ [t] }) (by show (st.wd ++ [t] ++ bk).length ≤ _; rw [List.append_assoc]; exact l) (fun x hx => o x (List.mem_cons_of_mem _ hx))]
    show Sum.inl _ = Sum.inl _
    congr 2
    show st.wd ++ [t] ++ bk = _
    rw [List.append_assoc]
    rfl
def bkL : Option (List (List Nat)) → List (List Nat)
  | none => []
  | some b => b
theorem rows_back {d : D} {ds : List D} {cs fs : List Nat} {zs : List Str} {i : Int} {ws : List (List Nat × Int)} {bk : Option (List (List Nat))} (td : TgD d ds cs fs zs i) (wo : WsOk ws) (l20 : ws.length ≤ 20) (hb : (bkL bk).length ≤ ws.length ∧ ∀ t ∈ bkL bk, nmOk t = true) : readF 0 .init (rowsC ds fs zs i ws bk) = .inl ⟨ds, cs, fs, zs, some i, ws, bkL bk⟩ := by
  have hl : ∀ c ∈ cs, 97 ≤ c := fun c hc => lett_no (td.sg.facts.2.2.2.2.2 c hc)
  have e1 := seg_sign (n := 0) (st := .init) td.sg rfl rfl rfl (by rw [show Rd.init.cs = [] from rfl, List.nil_append]; exact td.nd) (by rw [show Rd.init.cs = [] from rfl, List.nil_append]; exact td.l6)
  have e1 : readF 0 .init (ds.map signRow) = .inl ⟨ds, cs, [], [], none, [], []⟩ := e1
  have e2 := seg_first (fs := fs) (n := 0 + (ds.map signRow).length) (st := ⟨ds, cs, [], [], none, [], []⟩) td.l2 rfl rfl td.fo (fun c hc => hl c (td.fo c hc)) td.fn
  have e3 := seg_pair (zs := zs) (n := 0 + (ds.map signRow ++ fs.map firstRow).length) (st := ⟨ds, cs, fs, [], none, [], []⟩) td.l2 rfl td.po.of hl td.po.nd
  have e12 := (readF_app (b := fs.map firstRow) e1).trans e2
  have e13 := (readF_app (b := zs.map pairRow) e12).trans e3
  have e14 : readF 0 .init (ds.map signRow ++ fs.map firstRow ++ zs.map pairRow ++ [longRow i]) = .inl ⟨ds, cs, fs, zs, some i, [], []⟩ := by
    rw [readF_app (b := [longRow i]) e13]
    show (match takesF ⟨ds, cs, fs, zs, none, [], []⟩ (longRow i) with | some s => readF _ s [] | none => .inr _) = _
    rw [take_long (st := ⟨ds, cs, fs, zs, none, [], []⟩) td.l2 rfl td.i1 td.i8]
    rfl
  have e5 := seg_thing (ws := ws) (n := 0 + (ds.map signRow ++ fs.map firstRow ++ zs.map pairRow ++ [longRow i]).length) (st := ⟨ds, cs, fs, zs, some i, [], []⟩) (fun q => nomatch q) rfl wo.all wo.nd l20
  have e15 := (readF_app (b := ws.map thingRow) e14).trans e5
  have e6 := seg_word (bk := bkL bk) (n := 0 + (ds.map signRow ++ fs.map firstRow ++ zs.map pairRow ++ [longRow i] ++ ws.map thingRow).length) (st := ⟨ds, cs, fs, zs, some i, ws, []⟩) hb.1 hb.2
  have eb : bookRows bk = (bkL bk).map wordRow := by cases bk <;> rfl
  unfold rowsC
  rw [eb]
  exact (readF_app (b := (bkL bk).map wordRow) e15).trans e6
/-- no row has a line feed -/
theorem rows_no {d : D} {ds : List D} {cs fs : List Nat} {zs : List Str} {i : Int} {ws : List (List Nat × Int)} {bk : Option (List (List Nat))} (td : TgD d ds cs fs zs i) (wo : WsOk ws) (hb : ∀ t ∈ bkL bk, nmOk t = true) : ∀ r ∈ rowsC ds fs zs i ws bk, 10 ∉ r := by
  have hl : ∀ c ∈ cs, 97 ≤ c := fun c hc => lett_no (td.sg.facts.2.2.2.2.2 c hc)
  intro r hr
  unfold rowsC at hr
  simp only [List.mem_append] at hr
  rcases hr with ((((hr | hr) | hr) | hr) | hr) | hr
  · obtain ⟨d', hd, rfl⟩ := List.mem_map.mp hr
    obtain ⟨j, hj⟩ := List.getElem?_of_mem hd
    obtain ⟨c, _, sd⟩ := td.sg.get hj
    obtain ⟨t, b, l, rfl, hp, hl'⟩ := sd.ex
    have hc := lett_no sd.2
    show 10 ∉ kSign ++ [c] ++ [32] ++ fracL t b ++ [32] ++ fracD l
    intro q
    simp only [List.mem_append] at q
    rcases q with ((((q | q) | q) | q) | q) | q
    · exact absurd q (by decide)
    · rw [List.mem_singleton] at q
      omega
    · exact absurd q (by decide)
    · exact frac_no (by decide) q
    · exact absurd q (by decide)
    · exact last_no hl' (by decide) q
  · obtain ⟨c, hc, rfl⟩ := List.mem_map.mp hr
    have := hl c (td.fo c hc)
    intro q
    rcases List.mem_append.mp q with q | q
    · exact absurd q (by decide)
    · rw [List.mem_singleton] at q
      omega
  · obtain ⟨z, hz, rfl⟩ := List.mem_map.mp hr
    obtain ⟨a, ha, b, hb', rfl⟩ := td.po.of z hz
    have := hl a ha
    have := hl b hb'
    show 10 ∉ kPair ++ (sgn a ++ sgn b).cps.toList
    rw [tl_sgn2]
    intro q
    rcases List.mem_append.mp q with q | q
    · exact absurd q (by decide)
    · simp only [List.mem_cons, List.not_mem_nil, or_false] at q
      omega
  · rw [List.mem_singleton] at hr
    subst hr
    intro q
    rcases List.mem_append.mp q with q | q
    · exact absurd q (by decide)
    · exact fig_no (by decide) q
  · obtain ⟨w, hw, rfl⟩ := List.mem_map.mp hr
    have ow := wo.all w hw
    show 10 ∉ kThing ++ w.1 ++ [32] ++ figL w.2.natAbs
    intro q
    simp only [List.mem_append] at q
    rcases q with ((q | q) | q) | q
    · exact absurd q (by decide)
    · have := lett_no (ow.l 10 q)
      omega
    · exact absurd q (by decide)
    · exact fig_no (by decide) q
  · have eb : bookRows bk = (bkL bk).map wordRow := by cases bk <;> rfl
    rw [eb] at hr
    obtain ⟨t, ht, rfl⟩ := List.mem_map.mp hr
    intro q
    rcases List.mem_append.mp q with q | q
    · exact absurd q (by decide)
    · have := lett_no ((nmOk_iff.mp (hb t ht)).1 10 q)
      omega
/-- the text as signs -/
def caseL (ds : List D) (fs : List Nat) (zs : List Str) (i : Int) (ws : List (List Nat × Int)) (bk : Option (List (List Nat))) : List Nat := TL.joinL [10] (rowsC ds fs zs i ws bk)
theorem case_txt (ds : List D) (fs : List Nat) (zs : List Str) (i : Int) (ws : List (List Nat × Int)) (bk : Option (List (List Nat))) : caseText ds fs zs i ws bk = txt (caseL ds fs zs i ws bk) := by
  unfold caseText caseL
  rw [show ("\n" : Str) = txt [10] by decide +kernel]
  exact SX.join_S [10] (rowsC ds fs zs i ws bk)
theorem case_rows {d : D} {ds : List D} {cs fs : List Nat} {zs : List Str} {i : Int} {ws : List (List Nat × Int)} {bk : Option (List (List Nat))} (td : TgD d ds cs fs zs i) (wo : WsOk ws) (hb : ∀ t ∈ bkL bk, nmOk t = true) : rowsOf (caseL ds fs zs i ws bk) = rowsC ds fs zs i ws bk := by
  unfold rowsOf caseL
  refine TL.spl_join ?_ (rows_no td wo hb)
  unfold rowsC
  intro q
  have := congrArg List.length q
  rw [List.length_append, List.length_append, List.length_append] at this
  have : _ + 1 + _ + _ = 0 := this
  omega
end Dear

namespace Dear
open PySem PySem.Spec PyProof.Rows L2
/-! ### the object that keeps what the rows have told -/
def crF (a : Addr) (z : Str) (b c : Addr) (g : V) (d e : Addr) : List (Str × V) := [("signs", .ref a), ("letters", .str z), ("firsts", .ref b), ("pairs", .ref c), ("longest", g), ("wants", .ref d), ("words", .ref e)]
theorem n_signs_letters : ((("signs" : Str) == "letters")) = false := by decide +kernel
theorem n_signs_firsts : ((("signs" : Str) == "firsts")) = false := by decide +kernel
theorem n_signs_pairs : ((("signs" : Str) == "pairs")) = false := by decide +kernel
theorem n_signs_longest : ((("signs" : Str) == "longest")) = false := by decide +kernel
theorem n_signs_wants : ((("signs" : Str) == "wants")) = false := by decide +kernel
theorem n_signs_words : ((("signs" : Str) == "words")) = false := by decide +kernel
theorem n_letters_signs : ((("letters" : Str) == "signs")) = false := by decide +kernel
theorem n_letters_firsts : ((("letters" : Str) == "firsts")) = false := by decide +kernel
theorem n_letters_pairs : ((("letters" : Str) == "pairs")) = false := by decide +kernel
theorem n_letters_longest : ((("letters" : Str) == "longest")) = false := by decide +kernel
theorem n_letters_wants : ((("letters" : Str) == "wants")) = false := by decide +kernel
theorem n_letters_words : ((("letters" : Str) == "words")) = false := by decide +kernel
theorem n_firsts_signs : ((("firsts" : Str) == "signs")) = false := by decide +kernel
theorem n_firsts_letters : ((("firsts" : Str) == "letters")) = false := by decide +kernel
theorem n_firsts_pairs : ((("firsts" : Str) == "pairs")) = false := by decide +kernel
theorem n_firsts_longest : ((("firsts" : Str) == "longest")) = false := by decide +kernel
theorem n_firsts_wants : ((("firsts" : Str) == "wants")) = false := by decide +kernel
theorem n_firsts_words : ((("firsts" : Str) == "words")) = false := by decide +kernel
theorem n_pairs_signs : ((("pairs" : Str) == "signs")) = false := by decide +kernel
theorem n_pairs_letters : ((("pairs" : Str) == "letters")) = false := by decide +kernel
theorem n_pairs_firsts : ((("pairs" : Str) == "firsts")) = false := by decide +kernel
theorem n_pairs_longest : ((("pairs" : Str) == "longest")) = false := by decide +kernel
theorem n_pairs_wants : ((("pairs" : Str) == "wants")) = false := by decide +kernel
theorem n_pairs_words : ((("pairs" : Str) == "words")) = false := by decide +kernel
theorem n_longest_signs : ((("longest" : Str) == "signs")) = false := by decide +kernel
theorem n_longest_letters : ((("longest" : Str) == "letters")) = false := by decide +kernel
theorem n_longest_firsts : ((("longest" : Str) == "firsts")) = false := by decide +kernel
theorem n_longest_pairs : ((("longest" : Str) == "pairs")) = false := by decide +kernel
theorem n_longest_wants : ((("longest" : Str) == "wants")) = false := by decide +kernel
theorem n_longest_words : ((("longest" : Str) == "words")) = false := by decide +kernel
theorem n_wants_signs : ((("wants" : Str) == "signs")) = false := by decide +kernel
theorem n_wants_letters : ((("wants" : Str) == "letters")) = false := by decide +kernel
theorem n_wants_firsts : ((("wants" : Str) == "firsts")) = false := by decide +kernel
theorem n_wants_pairs : ((("wants" : Str) == "pairs")) = false := by decide +kernel
theorem n_wants_longest : ((("wants" : Str) == "longest")) = false := by decide +kernel
theorem n_wants_words : ((("wants" : Str) == "words")) = false := by decide +kernel
theorem n_words_signs : ((("words" : Str) == "signs")) = false := by decide +kernel
theorem n_words_letters : ((("words" : Str) == "letters")) = false := by decide +kernel
theorem n_words_firsts : ((("words" : Str) == "firsts")) = false := by decide +kernel
theorem n_words_pairs : ((("words" : Str) == "pairs")) = false := by decide +kernel
theorem n_words_longest : ((("words" : Str) == "longest")) = false := by decide +kernel
theorem n_words_wants : ((("words" : Str) == "wants")) = false := by decide +kernel
theorem n_signs : ((("signs" : Str) == "signs")) = true := by decide +kernel
theorem n_letters : ((("letters" : Str) == "letters")) = true := by decide +kernel
theorem n_firsts : ((("firsts" : Str) == "firsts")) = true := by decide +kernel
theorem n_pairs : ((("pairs" : Str) == "pairs")) = true := by decide +kernel
theorem n_longest : ((("longest" : Str) == "longest")) = true := by decide +kernel
theorem n_wants : ((("wants" : Str) == "wants")) = true := by decide +kernel
theorem n_words : ((("words" : Str) == "words")) = true := by decide +kernel
theorem crF_signs (a : Addr) (z : Str) (b c : Addr) (g : V) (d e : Addr) : (crF a z b c g d e).lookup ("signs" : Str) = some (.ref a) := by
  unfold crF
  simp only [List.lookup, n_signs]
theorem crF_letters (a : Addr) (z : Str) (b c : Addr) (g : V) (d e : Addr) : (crF a z b c g d e).lookup ("letters" : Str) = some (.str z) := by
  unfold crF
  simp only [List.lookup, n_letters_signs, n_letters]
theorem crF_firsts (a : Addr) (z : Str) (b c : Addr) (g : V) (d e : Addr) : (crF a z b c g d e).lookup ("firsts" : Str) = some (.ref b) := by
  unfold crF
  simp only [List.lookup, n_firsts_signs, n_firsts_letters, n_firsts]
theorem crF_pairs (a : Addr) (z : Str) (b c : Addr) (g : V) (d e : Addr) : (crF a z b c g d e).lookup ("pairs" : Str) = some (.ref c) := by
  unfold crF
  simp only [List.lookup, n_pairs_signs, n_pairs_letters, n_pairs_firsts, n_pairs]
theorem crF_longest (a : Addr) (z : Str) (b c : Addr) (g : V) (d e : Addr) : (crF a z b c g d e).lookup ("longest" : Str) = some (g) := by
  unfold crF
  simp only [List.lookup, n_longest_signs, n_longest_letters, n_longest_firsts, n_longest_pairs, n_longest]
theorem crF_wants (a : Addr) (z : Str) (b c : Addr) (g : V) (d e : Addr) : (crF a z b c g d e).lookup ("wants" : Str) = some (.ref d) := by
  unfold crF
  simp only [List.lookup, n_wants_signs, n_wants_letters, n_wants_firsts, n_wants_pairs, n_wants_longest, n_wants]
theorem crF_words (a : Addr) (z : Str) (b c : Addr) (g : V) (d e : Addr) : (crF a z b c g d e).lookup ("words" : Str) = some (.ref e) := by
  unfold crF
  simp only [List.lookup, n_words_signs, n_words_letters, n_words_firsts, n_words_pairs, n_words_longest, n_words_wants, n_words]
theorem crF_no_takes_sign (a : Addr) (z : Str) (b c : Addr) (g : V) (d e : Addr) : (crF a z b c g d e).lookup ("takes_sign" : Str) = none := by
  unfold crF
  simp only [List.lookup, show (("takes_sign" : Str) == "signs") = false by decide +kernel, show (("takes_sign" : Str) == "letters") = false by decide +kernel, show (("takes_sign" : Str) == "firsts") = false by decide +kernel, show (("takes_sign" : Str) == "pairs") = false by decide +kernel, show (("takes_sign" : Str) == "longest") = false by decide +kernel, show (("takes_sign" : Str) == "wants") = false by decide +kernel, show (("takes_sign" : Str) == "words") = false by decide +kernel]
theorem crF_no_is_open (a : Addr) (z : Str) (b c : Addr) (g : V) (d e : Addr) : (crF a z b c g d e).lookup ("is_open" : Str) = none := by
  unfold crF
  simp only [List.lookup, show (("is_open" : Str) == "signs") = false by decide +kernel, show (("is_open" : Str) == "letters") = false by decide +kernel, show (("is_open" : Str) == "firsts") = false by decide +kernel, show (("is_open" : Str) == "pairs") = false by decide +kernel, show (("is_open" : Str) == "longest") = false by decide +kernel, show (("is_open" : Str) == "wants") = false by decide +kernel, show (("is_open" : Str) == "words") = false by decide +kernel]
theorem crF_no_takes_first (a : Addr) (z : Str) (b c : Addr) (g : V) (d e : Addr) : (crF a z b c g d e).lookup ("takes_first" : Str) = none := by
  unfold crF
  simp only [List.lookup, show (("takes_first" : Str) == "signs") = false by decide +kernel, show (("takes_first" : Str) == "letters") = false by decide +kernel, show (("takes_first" : Str) == "firsts") = false by decide +kernel, show (("takes_first" : Str) == "pairs") = false by decide +kernel, show (("takes_first" : Str) == "longest") = false by decide +kernel, show (("takes_first" : Str) == "wants") = false by decide +kernel, show (("takes_first" : Str) == "words") = false by decide +kernel]
theorem crF_no_takes_pair (a : Addr) (z : Str) (b c : Addr) (g : V) (d e : Addr) : (crF a z b c g d e).lookup ("takes_pair" : Str) = none := by
  unfold crF
  simp only [List.lookup, show (("takes_pair" : Str) == "signs") = false by decide +kernel, show (("takes_pair" : Str) == "letters") = false by decide +kernel, show (("takes_pair" : Str) == "firsts") = false by decide +kernel, show (("takes_pair" : Str) == "pairs") = false by decide +kernel, show (("takes_pair" : Str) == "longest") = false by decide +kernel, show (("takes_pair" : Str) == "wants") = false by decide +kernel, show (("takes_pair" : Str) == "words") = false by decide +kernel]
theorem crF_no_takes_longest (a : Addr) (z : Str) (b c : Addr) (g : V) (d e : Addr) : (crF a z b c g d e).lookup ("takes_longest" : Str) = none := by
  unfold crF
  simp only [List.lookup, show (("takes_longest" : Str) == "signs") = false by decide +kernel, show (("takes_longest" : Str) == "letters") = false by decide +kernel, show (("takes_longest" : Str) == "firsts") = false by decide +kernel, show (("takes_longest" : Str) == "pairs") = false by decide +kernel, show (("takes_longest" : Str) == "longest") = false by decide +kernel, show (("takes_longest" : Str) == "wants") = false by decide +kernel, show (("takes_longest" : Str) == "words") = false by decide +kernel]
theorem crF_no_takes_thing (a : Addr) (z : Str) (b c : Addr) (g : V) (d e : Addr) : (crF a z b c g d e).lookup ("takes_thing" : Str) = none := by
  unfold crF
  simp only [List.lookup, show (("takes_thing" : Str) == "signs") = false by decide +kernel, show (("takes_thing" : Str) == "letters") = false by decide +kernel, show (("takes_thing" : Str) == "firsts") = false by decide +kernel, show (("takes_thing" : Str) == "pairs") = false by decide +kernel, show (("takes_thing" : Str) == "longest") = false by decide +kernel, show (("takes_thing" : Str) == "wants") = false by decide +kernel, show (("takes_thing" : Str) == "words") = false by decide +kernel]
theorem crF_no_takes_word (a : Addr) (z : Str) (b c : Addr) (g : V) (d e : Addr) : (crF a z b c g d e).lookup ("takes_word" : Str) = none := by
  unfold crF
  simp only [List.lookup, show (("takes_word" : Str) == "signs") = false by decide +kernel, show (("takes_word" : Str) == "letters") = false by decide +kernel, show (("takes_word" : Str) == "firsts") = false by decide +kernel, show (("takes_word" : Str) == "pairs") = false by decide +kernel, show (("takes_word" : Str) == "longest") = false by decide +kernel, show (("takes_word" : Str) == "wants") = false by decide +kernel, show (("takes_word" : Str) == "words") = false by decide +kernel]
theorem crF_no_takes (a : Addr) (z : Str) (b c : Addr) (g : V) (d e : Addr) : (crF a z b c g d e).lookup ("takes" : Str) = none := by
  unfold crF
  simp only [List.lookup, show (("takes" : Str) == "signs") = false by decide +kernel, show (("takes" : Str) == "letters") = false by decide +kernel, show (("takes" : Str) == "firsts") = false by decide +kernel, show (("takes" : Str) == "pairs") = false by decide +kernel, show (("takes" : Str) == "longest") = false by decide +kernel, show (("takes" : Str) == "wants") = false by decide +kernel, show (("takes" : Str) == "words") = false by decide +kernel]
theorem crF_no_lacks (a : Addr) (z : Str) (b c : Addr) (g : V) (d e : Addr) : (crF a z b c g d e).lookup ("lacks" : Str) = none := by
  unfold crF
  simp only [List.lookup, show (("lacks" : Str) == "signs") = false by decide +kernel, show (("lacks" : Str) == "letters") = false by decide +kernel, show (("lacks" : Str) == "firsts") = false by decide +kernel, show (("lacks" : Str) == "pairs") = false by decide +kernel, show (("lacks" : Str) == "longest") = false by decide +kernel, show (("lacks" : Str) == "wants") = false by decide +kernel, show (("lacks" : Str) == "words") = false by decide +kernel]
theorem crF_no_made (a : Addr) (z : Str) (b c : Addr) (g : V) (d e : Addr) : (crF a z b c g d e).lookup ("made" : Str) = none := by
  unfold crF
  simp only [List.lookup, show (("made" : Str) == "signs") = false by decide +kernel, show (("made" : Str) == "letters") = false by decide +kernel, show (("made" : Str) == "firsts") = false by decide +kernel, show (("made" : Str) == "pairs") = false by decide +kernel, show (("made" : Str) == "longest") = false by decide +kernel, show (("made" : Str) == "wants") = false by decide +kernel, show (("made" : Str) == "words") = false by decide +kernel]
theorem ne_of_beq {x y : Str} (h : (x == y) = false) : ¬ x = y := by simpa using h
theorem crF_putL (a : Addr) (z y : Str) (b c : Addr) (g : V) (d e : Addr) : putF "letters" (.str y) (crF a z b c g d e) = crF a y b c g d e := by
  unfold crF
  simp only [putF, if_neg (ne_of_beq n_signs_letters), if_true]
theorem crF_putG (a : Addr) (z : Str) (b c : Addr) (g g' : V) (d e : Addr) : putF "longest" g' (crF a z b c g d e) = crF a z b c g' d e := by
  unfold crF
  simp only [putF, if_neg (ne_of_beq n_signs_longest), if_neg (ne_of_beq n_letters_longest), if_neg (ne_of_beq n_firsts_longest), if_neg (ne_of_beq n_pairs_longest), if_true]
theorem crF_new (a : Addr) (z : Str) (b c : Addr) (g : V) (d e : Addr) : putF "words" (.ref e) (putF "wants" (.ref d) (putF "longest" g (putF "pairs" (.ref c) (putF "firsts" (.ref b) (putF "letters" (.str z) (putF "signs" (.ref a) [])))))) = crF a z b c g d e := by
  unfold crF
  simp only [putF, if_neg (ne_of_beq n_signs_letters), if_neg (ne_of_beq n_signs_firsts), if_neg (ne_of_beq n_letters_firsts), if_neg (ne_of_beq n_signs_pairs), if_neg (ne_of_beq n_letters_pairs), if_neg (ne_of_beq n_firsts_pairs), if_neg (ne_of_beq n_signs_longest), if_neg (ne_of_beq n_letters_longest), if_neg (ne_of_beq n_firsts_longest), if_neg (ne_of_beq n_pairs_longest), if_neg (ne_of_beq n_signs_wants), if_neg (ne_of_beq n_letters_wants), if_neg (ne_of_beq n_firsts_wants), if_neg (ne_of_beq n_pairs_wants), if_neg (ne_of_beq n_longest_wants), if_neg (ne_of_beq n_signs_words), if_neg (ne_of_beq n_letters_words), if_neg (ne_of_beq n_firsts_words), if_neg (ne_of_beq n_pairs_words), if_neg (ne_of_beq n_longest_words), if_neg (ne_of_beq n_wants_words)]

def lgV : Option Int → V
  | none => .non
  | some i => .int i
/-- what stands at p: its lists are new since Hb, and unlike -/
structure CrAt (C : Addr) (Hb H : Hp) (p : Addr) (st : Rd) : Prop where
  sm : Same Hb H
  np : Hb p = none
  ok : RdOk st
  ex : ∃ (dx a b c d e : Addr) (xs ys : List V), H p = some (.ins C dx (crF a (txt st.cs) b c (lgV st.lg) d e)) ∧ H a = some (.lst xs) ∧ DtAll H xs st.ds ∧ H b = some (.lst ((st.fs.map sgn).map V.str)) ∧ H c = some (.lst (st.zs.map V.str)) ∧ H d = some (.lst ys) ∧ DtAll H ys (st.ws.map wantD) ∧ H e = some (.lst (vsT st.wd)) ∧
    Hb a = none ∧ Hb b = none ∧ Hb c = none ∧ Hb d = none ∧ Hb e = none ∧ a ≠ b ∧ a ≠ c ∧ a ≠ d ∧ a ≠ e ∧ b ≠ c ∧ b ≠ d ∧ b ≠ e ∧ c ≠ d ∧ c ≠ e ∧ d ≠ e
theorem CrAt.same {C : Addr} {Hb H H' : Hp} {p : Addr} {st : Rd} (h : CrAt C Hb H p st) (s : Same H H') : CrAt C Hb H' p st := by
  obtain ⟨dx, a, b, c, d, e, xs, ys, h1, h2, h3, h4, h5, h6, h7, h8, r⟩ := h.ex
  exact ⟨h.sm.trans s, h.np, h.ok, dx, a, b, c, d, e, xs, ys, s _ _ h1, s _ _ h2, h3.same s, s _ _ h4, s _ _ h5, s _ _ h6, h7.same s, s _ _ h8, r⟩
end Dear

namespace Dear
open PySem PySem.Spec PyProof.Rows L2
/-! ### try suites with named readings; unpacking of lists -/
theorem XfC.of {K : PySem.W.Frag} {C : Addr} (T : ExcC K C) : XfC K C := ⟨T.hg, T.hk, T.hs, T.hd⟩
/-- try .. except X: ..; try .. except X as n: .. (readings with a name, for loops) -/
def sTryO (K : PySem.W.Frag) (c : Value) (ts : Addr → Value → Option Addr → TS) (Wout : WX) (tb : WX → TS) : TS := fun D σ H => tb (wOnly K c ts Wout D) D σ H
def sTryA (K : PySem.W.Frag) (c : Value) (i : Nat) (ts : Addr → Value → Option Addr → TS) (Wout : WX) (tb : WX → TS) : TS := fun D σ H => tb (wAs K c i ts Wout D) D σ H
section
variable {X : Cx} {x n : Str} {c : Value} {i : Nat} {body suite : List Stmt} {b₀ : Stmt} {np pos pos' : Pos} {tb : WX → TS} {ts : Addr → Value → Option Addr → TS} {Wout : WX}
theorem ps_tryO (hs : X.stack = X.env :: X.outer) (hf : X.env.frame = some X.env.locals) (hc : Names X x c) (tk : Takes X Wout)
    (hb : ∀ (W : WX) (pn : List (Addr × Obj)) (xe : Value → Shared → Prop), Takes (X.tr pn xe) W → PassesOwn (model X.prog X.w) X.A X.env xe → PSs (X.tr pn xe) body (tb W))
    (hsu : ∀ (a : Addr) (oe : Obj) (cls : Value) (d : Option Addr) (pn : List (Addr × Obj)), Zc cls d oe → (∃ vs, oe.data = .fields vs) → PSs (X.suite a ((a, oe) :: pn)) (b₀ :: suite) (ts a cls d)) :
    PS X (.Try body [.ExceptHandler (some (.Name x np)) none (b₀ :: suite) pos'] [] [] pos) (sTryO X.K c ts Wout tb) := ps_try_only hs hf hc tk hb hsu
theorem ps_tryA (hs : X.stack = X.env :: X.outer) (hf : X.env.frame = some X.env.locals) (hN : X.N.Nodup) (hi : X.N[i]? = some n) (hln : X.env.kindOf n = some .local) (hc : Names X x c) (tk : Takes X Wout)
    (hb : ∀ (W : WX) (pn : List (Addr × Obj)) (xe : Value → Shared → Prop), Takes (X.tr pn xe) W → PassesOwn (model X.prog X.w) X.A X.env xe → PSs (X.tr pn xe) body (tb W))
    (hsu : ∀ (a : Addr) (oe : Obj) (cls : Value) (d : Option Addr) (pn : List (Addr × Obj)), Zc cls d oe → (∃ vs, oe.data = .fields vs) → PSs (X.suite a ((a, oe) :: pn)) (b₀ :: suite) (ts a cls d)) :
    PS X (.Try body [.ExceptHandler (some (.Name x np)) (some n) (b₀ :: suite) pos'] [] [] pos) (sTryA X.K c i ts Wout tb) := ps_try_as hs hf hN hi hln hc tk hb hsu
end
theorem pg_lst_k {X : Cx} (K : PySem.W.Frag) {es : List Expr} {k : Nat} {t : TGs} {n : Nat} {pos : Pos} (hc : X.calm = true) (hg : PGs X es t) (h : X.K = K := by rfl)
    (hn : (assignEach es X.env).length = n := by rfl) (hst : (assignEach es X.env).findIdx? (·.1) = none := by rfl) : PG X (.Tuple es k pos) (gLst K n t) := h ▸ pg_lst hc hg hn hst
end Dear

namespace Dear
open PySem PySem.Spec PyProof.Rows L2
/-! ### the rows' methods -/
theorem pe_mk0 {X : Cx} {k k' : Nat} {C : Addr} {x : Str} {ps : List Str} {sp : Sp} {p pos : Pos} (O : OkC X.prog X.w X.K X.mg X.base CX0 k x C ps sp) (hr : Room k' X.A) (hk : k + 1 ≤ k' := by decide) (hg : Gl X x := by rfl) (hdb : (x == ("__debug__" : Str)) = false := by decide) : PE X (.Call (.Name x p) [] [] pos) (tMake C sp [] E0 tNil) := by
  obtain ⟨hm, f, fd, M, hb, F⟩ := O
  exact pe_make0 M F (hr.mono hk) hg hm hb .nil pass0 hdb
theorem ne3 {ps : List (List Nat)} (h : ¬ ps.length = 3) (st : Rd) : takesSign st ps = none := by
  unfold takesSign
  split
  · exact absurd rfl h
  · rfl
theorem vsT_isE (fs : List Nat) (zs : List Str) : (((fs.map sgn).map PyData.str) ++ zs.map PyData.str).isEmpty = (decide (fs = []) && decide (zs = [])) := by
  cases fs with
  | nil =>
    cases zs with
    | nil => rfl
    | cons z zs => rfl
  | cons c fs => rfl
theorem dp_app {K : PySem.W.Frag} {H : Hp} : ∀ {xs ys : List V} {ds es : List PyData}, DpAll K H xs ds → DpAll K H ys es → DpAll K H (xs ++ ys) (ds ++ es)
  | _, _, _, _, .nil, h => h
  | _, _, _, _, .cons a b, h => .cons a (dp_app b h)
/-- a price, or None -/
def PrV (H : Hp) (v : V) : Option (Int × Int) → Prop
  | none => v = .non
  | some x => ∃ p : Addr, v = .ref p ∧ H p = some (.tup [.int x.1, .int x.2])
def spPriceIn : Sp := fun vs H Q _ => ∃ l : List Nat, vs = [.str (txt l)] ∧ l.length ≤ 900 ∧ (priceIn l = none → ∀ H', Same H H' → Q .non H') ∧
  ∀ x, priceIn l = some x → ∀ (p : Addr) (H' : Hp), Same H H' → H' p = some (.tup [.int x.1, .int x.2]) → Q (.ref p) H'
def spTk (C : Addr) (f : Rd → List (List Nat) → Option Rd) : Sp := fun vs H Q _ => ∃ (p q : Addr) (Hb : Hp) (st : Rd) (ps : List (List Nat)), vs = [.ref p, .ref q] ∧ CrAt C Hb H p st ∧ H q = some (.lst (vsT ps)) ∧ ps.length ≤ 1000 ∧ (∀ t ∈ ps, t.length ≤ 900 ∧ Asc (txt t)) ∧
  (∀ st', f st ps = some st' → ∀ H', CrAt C Hb H' p st' → Q (.bl true) H') ∧ (f st ps = none → ∀ H', CrAt C Hb H' p st → Q (.bl false) H')
/-- what is behind a new object is as it was -/
theorem CrAt.new {C : Addr} {Hb H : Hp} {p r : Addr} {st : Rd} {o : HO} (h : CrAt C Hb H p st) (hr : H r = none) : CrAt C Hb (upd H r o) p st := h.same (Same.upd hr)
section
variable {P : Program} {w : World} {K : PySem.W.Frag} {mg : Str → Option Value} {base : Heap}
set_option pp.maxSteps 3000
theorem o_price_in (T : Txt K mg) : OkF P w K mg base CX0 5 "price_in" ["word"] spPriceIn := by
  have o_fraction_in := o_fraction_in (P := P) (w := w) (base := base) T
  refine T.f_price_in.ok c_price_in (fun vs H Q E h => ?_) (fun f cdv A outer s H vs Q E hr h => ?_)
  · obtain ⟨l, rfl, _⟩ := h
    rfl
  · obtain ⟨l, rfl, hl, kn, ks⟩ := h
    refine ⟨_, (pss_cons (ps_set (i := 1) c_price_in.nd rfl (Or.inl rfl) (pe_c o_fraction_in hr (pa_cons (pv 0) (pa_cons (pe_gi T.g_PRICE_FIGURES) pa_nil))))
(pss_cons (ps_if (PW.pt (pw_or (pt_cmpR op_isN (pv 1) pe_non (nomark _)) (pw_or1 (pt_cmpR op_le (pe_ix (ix_tup_k K) (pv 1) pe_int (fun _ _ => rfl)) pe_int (nomark _)))))
(pss_one (ps_ret pe_non))
pss_nil)
(pss_one (ps_ret (pv 1))))), ?_⟩
    refine ⟨_, rfl, l, 9, rfl, hl, by decide, by decide, fun e H1 s1 => ?_, fun x e p H1 s1 e1 => ?_⟩
    · refine ⟨_, rfl, rfl, _, rfl, iteT (iteT (kn ?_ H1 s1))⟩
      unfold priceIn
      rw [e]
    · refine ⟨_, rfl, rfl, _, rfl, iteF ⟨_, rfl, _, _, _, _, rfl, rfl, SqT.of e1, rfl, _, _, rfl, rfl, _, rfl, itd (fun c => ?_) fun c => ?_⟩⟩
      · refine kn ?_ H1 s1
        unfold priceIn
        rw [e]
        exact if_neg (by have c : x.1 ≤ 0 := c; omega)
      · refine ⟨_, rfl, ks x ?_ p H1 s1 e1⟩
        unfold priceIn
        rw [e]
        exact if_pos (by have c : ¬ x.1 ≤ 0 := c; omega)
theorem o_CaseRows_takes_sign (T : Txt K mg) : OkM P w K mg base CX0 6 T.A.CaseRows "takes_sign" ["self", "parts"] (spTk T.A.CaseRows takesSign) := by
  have o_price_in := o_price_in (P := P) (w := w) (base := base) T
  refine T.M_CaseRows_takes_sign.ok c_CaseRows_takes_sign (fun vs H Q E h => ?_) (fun f cdv A outer s H vs Q E hr h => ?_)
  · obtain ⟨p, q, Hb, st, ps, rfl, _⟩ := h
    rfl
  · obtain ⟨p, q, Hb, st, ps, rfl, cr, hq, l1000, l900, ks, kn⟩ := h
    refine ⟨_, (pss_cons (ps_if (PW.pt (pw_or (pt_cmpR op_ne (pe_callB (call_len_seq_k K) (by rfl) T.b_len PySem.boot_len (pa_cons (pv 1) pa_nil)) pe_int (nomark _)) (pw_or (pt_cmpR (op_neD_k K hr.units) (pe_op op_cat (pe_fld_k K (pv 0) rfl) (pe_fld_k K (pv 0) rfl)) (pe_lst pa_nil) (nomark _)) (pw_or1 (pt_cmpR op_notN (pe_fld_k K (pv 0) rfl) pe_non (nomark _))))))
(pss_one (ps_ret pe_bl))
pss_nil)
(pss_cons (ps_asg (pv 1) (pg_lst_k K (n := 3) rfl (pgs_cons (pg_name (i := 2) c_CaseRows_takes_sign.nd rfl (Or.inl rfl)) (pgs_cons (pg_name (i := 3) c_CaseRows_takes_sign.nd rfl (Or.inl rfl)) (pgs_cons (pg_name (i := 4) c_CaseRows_takes_sign.nd rfl (Or.inl rfl)) pgs_nil)))))
(pss_cons (ps_if (PW.pt (pw_or (pt_cmpR op_eq (pe_callB (call_len_seq_k K) (by rfl) T.b_len PySem.boot_len (pa_cons (pe_fld_k K (pv 0) rfl) pa_nil)) (pe_gi T.g_MOST_SIGNS) (nomark _)) (pw_or (pt_cmpR op_ne (pe_callB call_len_str (by rfl) T.b_len PySem.boot_len (pa_cons (pv 2) pa_nil)) pe_int (nomark _)) (pw_or (pt_cmpR op_notIn_sign (pv 2) (pe_gs T.g_LETTERS_casereader) rfl) (pw_or1 (pt_cmpR op_in_sign (pv 2) (pe_fld_k K (pv 0) rfl) rfl))))))
(pss_one (ps_ret pe_bl))
pss_nil)
(C8.pss_cut (ps_par (by rfl) c_CaseRows_takes_sign.nd (i := 5) (j := 6) rfl rfl (by decide) rfl rfl (pa_cons (pe_c o_price_in hr (pa_cons (pv 3) pa_nil)) (pa_cons (pe_c o_price_in hr (pa_cons (pv 4) pa_nil)) pa_nil)) (by rfl))
(C8.pss_cut (ps_if (PW.pt (pw_or (pt_cmpR op_isN (pv 5) pe_non (nomark _)) (pw_or1 (PW.pt (pw_and (pt_cmpR op_isN (pv 6) pe_non (nomark _)) (pw_and1 (pt_cmpR op_ne (pv 4) pe_str (nomark _))))))))
(pss_one (ps_ret pe_bl))
pss_nil)
(pss_cons (ps_fldaug (pv 0) (pv 2) in_addT)
(pss_cons (ps_expr (pe_bm PySem.F.plainAttrs_list PySem.F.slot_list_append PySem.F.type_list_append mt_append (pe_fld_k K (pv 0) rfl) (pa_cons (pe_tup (pa_cons (pv 2) (pa_cons (pv 5) (pa_cons (pv 6) pa_nil)))) pa_nil)))
(pss_one (ps_ret pe_bl))))))))), ?_⟩
    obtain ⟨dx, a, b, c, d, e, xs, ys, h1, h2, h3, h4, h5, h6, h7, h8, na, nb, nc, nd', ne', ab, ac, ad, ae, bc, bd, be, cd, ce, de⟩ := cr.ex
    have ro := cr.ok
    have vl := vsT_lenC ps
    refine ⟨_, rfl, q, _, rfl, .inl (SqL.of hq), rfl, _, rfl, itnd (fun ne => iteT (kn (ne3 (fun z => ne (by rw [vl, z]; rfl)) st) H cr)) fun e3 => ?_⟩
    have l3 : ps.length = 3 := by
      injection e3 with e3
      omega
    obtain ⟨s1, p1, t1, rfl⟩ : ∃ s1 p1 t1, ps = [s1, p1, t1] := by
      match ps, l3 with
      | [s1, p1, t1], _ => exact ⟨s1, p1, t1, rfl⟩
    have lf : st.fs.length ≤ 6 := Nat.le_trans (len_sub ro.fn ro.fo) ro.l6
    have lz : st.zs.length ≤ 36 := by
      have h := len_sub (m := st.cs.flatMap fun a => st.cs.map fun b => sgn a ++ sgn b) ro.po.nd fun z hz => by
        obtain ⟨a, ha, b, hb, rfl⟩ := ro.po.of z hz
        exact List.mem_flatMap.mpr ⟨a, ha, List.mem_map_of_mem hb⟩
      rw [len_prod] at h
      have := Nat.mul_le_mul ro.l6 ro.l6
      omega
    refine ⟨_, rfl, p, _, dx, _, _, rfl, h1, T.K_CaseRows, T.N_CaseRows_firsts, crF_firsts .., _, rfl, p, _, dx, _, _, rfl, h1, T.K_CaseRows, T.N_CaseRows_pairs, crF_pairs .., b, c, _, _, rfl, rfl, h4, h5, sz_lit (by rw [List.length_map, List.length_map, List.length_map]; omega), fun r1 hr1 => ?_⟩
    have uH1 := Same.upd (o := .lst ((st.fs.map sgn).map V.str ++ st.zs.map V.str)) hr1
    have er1 : (upd H r1 (.lst ((st.fs.map sgn).map V.str ++ st.zs.map V.str))) r1 = some (.lst ((st.fs.map sgn).map V.str ++ st.zs.map V.str)) := upd_same
    generalize upd H r1 (.lst ((st.fs.map sgn).map V.str ++ st.zs.map V.str)) = H1 at uH1 er1 ⊢
    refine ⟨(by show 0 ≤ sizeLine; decide), fun r2 hr2 => ?_⟩
    have uH2 := Same.upd (o := .lst []) hr2
    have er2 : (upd H1 r2 (.lst [])) r2 = some (.lst []) := upd_same
    generalize upd H1 r2 (.lst []) = H2 at uH2 er2 ⊢
    have s02 := uH1.trans uH2
    have ascF : ∀ y ∈ st.fs.map sgn ++ st.zs, Asc y := fun y hy => by
      rcases List.mem_append.mp hy with hy | hy
      · obtain ⟨c', hc', rfl⟩ := List.mem_map.mp hy
        exact asc_one (in_letters_asc (ro.sg.facts.2.2.2.2.2 c' (ro.fo c' hc')))
      · obtain ⟨a', ha', b', hb', rfl⟩ := ro.po.of y hy
        intro c' hc'
        rw [tl_sgn2] at hc'
        simp only [List.mem_cons, List.not_mem_nil, or_false] at hc'
        rcases hc' with rfl | rfl
        · exact in_letters_asc (ro.sg.facts.2.2.2.2.2 _ ha')
        · exact in_letters_asc (ro.sg.facts.2.2.2.2.2 _ hb')
    have shF : SeqAt.shaped (.list ((st.fs.map sgn).map PyData.str ++ st.zs.map PyData.str)) = true := by
      rw [← List.map_append]
      exact shaped_strs ascF
    refine ⟨.list ((st.fs.map sgn).map PyData.str ++ st.zs.map PyData.str), .list [], .lst (SqL.of (uH2 _ _ er1)) (dp_app (dp_strs _) (dp_strs _)), .lst (SqL.of er2) .nil, shF, shaped_nil, ?_⟩
    rw [eqv_nil, vsT_isE]
    have cr2 := cr.same s02
    have no : ∀ {H' : Hp}, CrAt T.A.CaseRows Hb H' p st → takesSign st [s1, p1, t1] = none → Q (.bl false) H' := fun h e => kn e _ h
    by_cases cf : ¬ (st.fs = [] ∧ st.zs = [])
    · have e9 : (decide (st.fs = []) && decide (st.zs = [])) = false := by
        rw [Bool.and_eq_false_iff]
        by_cases q9 : st.fs = []
        · exact .inr (decide_eq_false fun z => cf ⟨q9, z⟩)
        · exact .inl (decide_eq_false q9)
      rw [e9]
      refine ⟨_, rfl, iteT (iteT (no cr2 ?_))⟩
      unfold takesSign
      split
      · rw [if_pos]
        by_cases q9 : st.fs = []
        · exact .inr (.inl fun z => cf ⟨q9, z⟩)
        · exact .inl q9
      · rfl
    obtain ⟨cf, cz⟩ := Classical.not_not.mp cf
    rw [decide_eq_true cf, decide_eq_true cz]
    refine ⟨_, rfl, iteF ⟨_, rfl, p, _, dx, _, _, rfl, s02 _ _ h1, T.K_CaseRows, T.N_CaseRows_longest, crF_longest .., rfl, ?_⟩⟩
    cases eg : st.lg with
    | some g =>
      refine ⟨_, rfl, iteT (no cr2 ?_)⟩
      unfold takesSign
      split
      · rw [if_pos]
        exact .inr (.inr (.inl (by rw [eg]; exact fun z => nomatch z)))
      · rfl
    | none =>
    refine ⟨_, rfl, iteF ?_⟩
    refine ⟨_, rfl, q, _, rfl, SqL.of (s02 _ _ hq), rfl, _, _, rfl, _, _, rfl, _, _, rfl, rfl, ?_⟩
    have lds : xs.length = st.cs.length := by rw [h3.length, ro.sg.facts.2.2.2.2.1]
    have zs1 : (txt s1).length ≤ sizeLine := by rw [txt_length]; exact sz_lit (Nat.le_trans (l900 s1 List.mem_cons_self).1 (by decide))
    refine ⟨_, rfl, p, _, dx, _, _, rfl, s02 _ _ h1, T.K_CaseRows, T.N_CaseRows_signs, crF_signs .., a, _, rfl, .inl (SqL.of (s02 _ _ h2)), rfl, _, rfl, itd (fun c6 => ?_) fun c6 => ?_⟩
    · have c6 : st.cs.length = 6 := by
        injection c6 with c6
        omega
      refine iteT (no cr2 ?_)
      unfold takesSign
      split
      · rw [if_pos]
        exact .inr (.inr (.inr (.inl c6)))
      · rfl
    have c6 : ¬ st.cs.length = 6 := fun z => c6 (by rw [lds, z]; rfl)
    refine ⟨_, rfl, _, rfl, zs1, rfl, _, rfl, itnd (fun c1 => ?_) fun c1 => ?_⟩
    · refine iteT (no cr2 ?_)
      unfold takesSign
      split
      · rename_i heq
        injection heq with h9 _
        subst h9
        exact absurd rfl c1
      · rfl
    rw [txt_length] at c1
    obtain ⟨sc, rfl⟩ : ∃ sc, s1 = [sc] := by
      have c1 : s1.length = 1 := by
        injection c1 with c1
        omega
      match s1, c1 with
      | [sc], _ => exact ⟨sc, rfl⟩
    have no2 : ∀ {H' : Hp}, CrAt T.A.CaseRows Hb H' p st → (isLt sc = false ∨ sc ∈ st.cs) → Q (.bl false) H' := fun h e => no h (by
      show (if _ then none else _) = none
      rw [if_pos (.inr (.inr (.inr (.inr e))))])
    refine ⟨_, rfl, sc, letters, rfl, rfl, _, rfl, ?_⟩
    cases il : isLt sc with
    | false =>
      have il' : decide (sc ∈ letters.cps.toList) = false := il
      rw [il']
      exact iteT (iteT (no2 cr2 (.inl il)))
    | true =>
    have il' : decide (sc ∈ letters.cps.toList) = true := il
    rw [il']
    refine iteF ⟨_, rfl, _, rfl, p, _, dx, _, _, rfl, s02 _ _ h1, T.K_CaseRows, T.N_CaseRows_letters, crF_letters .., sc, txt st.cs, rfl, rfl, _, rfl, ?_⟩
    rw [txt_list]
    by_cases cin : sc ∈ st.cs
    · rw [decide_eq_true cin]
      exact iteT (no2 cr2 (.inr cin))
    rw [decide_eq_false cin]
    refine iteF ?_
    have sp : takesSign st [[sc], p1, t1] = (match priceIn p1, lastIn t1 with
      | some x, some y => some { st with ds := st.ds ++ [.tup [.str (sgn sc), frX x, y]], cs := st.cs ++ [sc] }
      | _, _ => none) := by
      show (if _ then none else _) = _
      rw [if_neg (by
        rintro (z | z | z | z | z | z)
        · exact z cf
        · exact z cz
        · exact z eg
        · exact c6 z
        · rw [il] at z; cases z
        · exact cin z)]
      all_goals (cases priceIn p1 <;> cases lastIn t1 <;> rfl)
    have lp1 := (l900 p1 (List.mem_cons_of_mem _ List.mem_cons_self)).1
    have lt1 := (l900 t1 (List.mem_cons_of_mem _ (List.mem_cons_of_mem _ List.mem_cons_self))).1
    refine ⟨fun σ' H' => Same H2 H' ∧ ∃ v5 v6 : V, σ' = [some (.ref p), some (.ref q), some (.str (txt [sc])), some (.str (txt p1)), some (.str (txt t1)), some v5, some v6] ∧ PrV H' v5 (priceIn p1) ∧ PrV H' v6 (priceIn t1), ?_, ?_⟩
    · refine ⟨_, rfl, p1, rfl, lp1, fun e1 H3 s3 => ?_, fun x e1 pa H3 s3 ea => ?_⟩
      · refine ⟨_, rfl, t1, rfl, lt1, fun e2 H4 s4 => ⟨_, _, rfl, s3.trans s4, _, _, rfl, ?_, ?_⟩, fun y e2 pb H4 s4 eb => ⟨_, _, rfl, s3.trans s4, _, _, rfl, ?_, ?_⟩⟩
        · rw [e1]; rfl
        · rw [e2]; rfl
        · rw [e1]; rfl
        · rw [e2]; exact ⟨pb, rfl, eb⟩
      · refine ⟨_, rfl, t1, rfl, lt1, fun e2 H4 s4 => ⟨_, _, rfl, s3.trans s4, _, _, rfl, ?_, ?_⟩, fun y e2 pb H4 s4 eb => ⟨_, _, rfl, s3.trans s4, _, _, rfl, ?_, ?_⟩⟩
        · rw [e1]; exact ⟨pa, rfl, s4 _ _ ea⟩
        · rw [e2]; rfl
        · rw [e1]; exact ⟨pa, rfl, s4 _ _ ea⟩
        · rw [e2]; exact ⟨pb, rfl, eb⟩
    rintro σ' H4 ⟨s4, v5, v6, rfl, pv5, pv6⟩
    have cr4 := cr2.same s4
    refine ⟨fun σ' H' => H4 = H' ∧ ∃ (x : Int × Int) (y : D) (pa : Addr), priceIn p1 = some x ∧ lastIn t1 = some y ∧ v5 = .ref pa ∧ H4 pa = some (.tup [.int x.1, .int x.2]) ∧ Dt H4 v6 y ∧ σ' = [some (.ref p), some (.ref q), some (.str (txt [sc])), some (.str (txt p1)), some (.str (txt t1)), some v5, some v6], ?_, ?_⟩
    · cases e1 : priceIn p1 with
      | none =>
        rw [e1] at pv5 sp
        have pv5 : v5 = .non := pv5
        subst pv5
        exact ⟨_, rfl, rfl, _, rfl, iteT (iteT (no cr4 sp))⟩
      | some x =>
        rw [e1] at pv5
        obtain ⟨pa, rfl, ea⟩ := pv5
        refine ⟨_, rfl, rfl, _, rfl, iteF ?_⟩
        cases e2 : priceIn t1 with
        | none =>
          rw [e2] at pv6
          have pv6 : v6 = .non := pv6
          subst pv6
          have el : lastIn t1 = if t1 = [45] then some .non else none := by
            unfold lastIn
            rw [e2]
          refine ⟨_, rfl, rfl, _, rfl, iteT ⟨_, rfl, rfl, _, rfl, itnd (fun c9 => ?_) fun c9 => ?_⟩⟩
          · refine no cr4 ?_
            rw [sp, e1, el, if_neg fun z => c9 (by rw [z, ← k45_eq])]
          · have c9 : t1 = [45] := by
              injection c9 with c9
              exact txt_inj (c9.trans k45_eq)
            exact ⟨rfl, x, .non, pa, rfl, by rw [el, if_pos c9], rfl, ea, .non, rfl⟩
        | some y =>
          rw [e2] at pv6
          obtain ⟨pb, rfl, eb⟩ := pv6
          have el : lastIn t1 = some (frX y) := by
            unfold lastIn
            rw [e2]
          exact ⟨_, rfl, rfl, _, rfl, iteF (iteF ⟨rfl, x, frX y, pa, rfl, el, rfl, ea, .tup eb (.cons (.int _) (.cons (.int _) .nil)), rfl⟩)⟩
    rintro σ' _ ⟨rfl, x, y, pa, e1, e2, rfl, ea, dy, rfl⟩
    have so : RdOk { st with ds := st.ds ++ [.tup [.str (sgn sc), frX x, y]], cs := st.cs ++ [sc] } := takesSign_ok ro (by rw [sp, e1, e2])
    have s04 := s02.trans s4
    have lcs := ro.l6
    have npa : p ≠ a := ne_of h1 h2 (by intro z; cases z)
    have npb : p ≠ b := ne_of h1 h4 (by intro z; cases z)
    have npc : p ≠ c := ne_of h1 h5 (by intro z; cases z)
    have npd : p ≠ d := ne_of h1 h6 (by intro z; cases z)
    have npe : p ≠ e := ne_of h1 h8 (by intro z; cases z)
    have tpP : ∀ {H' : Hp} {fs : List (Str × V)}, Same H H' → TP H' (upd H' p (.ins T.A.CaseRows dx fs)) := fun {H' fs} s b' xs' e' => by
      rw [upd_ne (ne_of e' (s _ _ h1) (by intro z; cases z))]
      exact e'
    refine ⟨_, rfl, p, _, dx, _, _, rfl, s04 _ _ h1, T.K_CaseRows, T.N_CaseRows_letters, crF_letters .., _, rfl, txt st.cs, txt [sc], rfl, rfl, by rw [txt_length, txt_length]; exact sz_lit (by show _ + 1 ≤ 1000; omega), dx, _, s04 _ _ h1, (by show 7 < 1000; decide), ?_⟩
    rw [crF_putL, txt_app]
    have tp5 := tpP (fs := crF a (txt (st.cs ++ [sc])) b c (lgV st.lg) d e) s04
    have sb5 : Same Hb (upd H4 p (.ins T.A.CaseRows dx (crF a (txt (st.cs ++ [sc])) b c (lgV st.lg) d e))) := fun b' o' e' => by
      rw [upd_ne (ne_of_none e' cr.np)]
      exact cr4.sm _ _ e'
    have g1 : (upd H4 p (.ins T.A.CaseRows dx (crF a (txt (st.cs ++ [sc])) b c (lgV st.lg) d e))) p = some (.ins T.A.CaseRows dx (crF a (txt (st.cs ++ [sc])) b c (lgV st.lg) d e)) := upd_same
    have g2 : (upd H4 p (.ins T.A.CaseRows dx (crF a (txt (st.cs ++ [sc])) b c (lgV st.lg) d e))) a = some (.lst xs) := by rw [upd_ne npa.symm]; exact s04 _ _ h2
    have g4 : (upd H4 p (.ins T.A.CaseRows dx (crF a (txt (st.cs ++ [sc])) b c (lgV st.lg) d e))) b = some (.lst ((st.fs.map sgn).map V.str)) := by rw [upd_ne npb.symm]; exact s04 _ _ h4
    have g5 : (upd H4 p (.ins T.A.CaseRows dx (crF a (txt (st.cs ++ [sc])) b c (lgV st.lg) d e))) c = some (.lst (st.zs.map V.str)) := by rw [upd_ne npc.symm]; exact s04 _ _ h5
    have g6 : (upd H4 p (.ins T.A.CaseRows dx (crF a (txt (st.cs ++ [sc])) b c (lgV st.lg) d e))) d = some (.lst ys) := by rw [upd_ne npd.symm]; exact s04 _ _ h6
    have g8 : (upd H4 p (.ins T.A.CaseRows dx (crF a (txt (st.cs ++ [sc])) b c (lgV st.lg) d e))) e = some (.lst (vsT st.wd)) := by rw [upd_ne npe.symm]; exact s04 _ _ h8
    have ga := tp5 _ _ ea
    have pul : Pu y := (lastIn_ok e2).facts.2.2
    have gy := dy.tp tp5 pul
    have g3 := (h3.same s04).tp tp5 ro.sg.facts.2.2.1
    have g7 := (h7.same s04).tp tp5 pu_wants
    generalize upd H4 p (.ins T.A.CaseRows dx (crF a (txt (st.cs ++ [sc])) b c (lgV st.lg) d e)) = H5 at tp5 sb5 g1 g2 g3 g4 g5 g6 g7 g8 ga gy ⊢
    refine ⟨_, rfl, p, _, dx, _, _, rfl, g1, T.K_CaseRows, T.N_CaseRows_signs, crF_signs .., .inl ⟨rfl, _, SqL.of g2⟩, _, rfl, _, rfl, _, rfl, (by show 3 ≤ sizeLine; decide), fun qn hqn => ?_⟩
    have uH6 := Same.upd (o := .tup [V.str (txt [sc]), V.ref pa, v6]) hqn
    have eqn : (upd H5 qn (.tup [V.str (txt [sc]), V.ref pa, v6])) qn = some (.tup [V.str (txt [sc]), V.ref pa, v6]) := upd_same
    generalize upd H5 qn (.tup [V.str (txt [sc]), V.ref pa, v6]) = H6 at uH6 eqn ⊢
    have g26 := uH6 _ _ g2
    refine ⟨a, _, _, rfl, rfl, g26, small1000 (by omega), ks _ (by rw [sp, e1, e2]) _ ⟨?_, cr.np, so, dx, a, b, c, d, e, _, ys, ?_, upd_same, ?_, ?_, ?_, ?_, ?_, ?_, na, nb, nc, nd', ne', ab, ac, ad, ae, bc, bd, be, cd, ce, de⟩⟩
    · intro b' o' e'
      rw [upd_ne (ne_of_none e' na)]
      exact uH6 _ _ (sb5 _ _ e')
    · rw [upd_ne npa]
      show H6 p = some (.ins _ dx (crF a (txt (st.cs ++ [sc])) b c (lgV st.lg) d e))
      exact uH6 _ _ g1
    · have tp := TP.upd (o := .lst (xs ++ [.ref qn])) g26
      have dn : Dt H6 (.ref qn) (.tup [.str (sgn sc), frX x, y]) := .tup eqn (.cons (.str _) (.cons (.tup (uH6 _ _ ga) (.cons (.int _) (.cons (.int _) .nil))) (.cons (gy.same uH6) .nil)))
      exact ((g3.same uH6).app (.cons dn .nil)).tp tp so.sg.facts.2.2.1
    · rw [upd_ne ab.symm]
      exact uH6 _ _ g4
    · rw [upd_ne ac.symm]
      exact uH6 _ _ g5
    · rw [upd_ne ad.symm]
      exact uH6 _ _ g6
    · exact (g7.same uH6).tp (TP.upd (o := .lst (xs ++ [.ref qn])) g26) pu_wants
    · rw [upd_ne ae.symm]
      exact uH6 _ _ g8
end
end Dear

namespace Dear
open PySem PySem.Spec PyProof.Rows L2
/-- the same with its parts by name -/
structure CrX (C : Addr) (Hb H : Hp) (p dx a b c d e : Addr) (xs ys : List V) (st : Rd) : Prop where
  sm : Same Hb H
  np : Hb p = none
  ok : RdOk st
  h1 : H p = some (.ins C dx (crF a (txt st.cs) b c (lgV st.lg) d e))
  h2 : H a = some (.lst xs)
  h3 : DtAll H xs st.ds
  h4 : H b = some (.lst ((st.fs.map sgn).map V.str))
  h5 : H c = some (.lst (st.zs.map V.str))
  h6 : H d = some (.lst ys)
  h7 : DtAll H ys (st.ws.map wantD)
  h8 : H e = some (.lst (vsT st.wd))
  r : Hb a = none ∧ Hb b = none ∧ Hb c = none ∧ Hb d = none ∧ Hb e = none ∧ a ≠ b ∧ a ≠ c ∧ a ≠ d ∧ a ≠ e ∧ b ≠ c ∧ b ≠ d ∧ b ≠ e ∧ c ≠ d ∧ c ≠ e ∧ d ≠ e
theorem CrAt.x {C : Addr} {Hb H : Hp} {p : Addr} {st : Rd} (h : CrAt C Hb H p st) : ∃ (dx a b c d e : Addr) (xs ys : List V), CrX C Hb H p dx a b c d e xs ys st := by
  obtain ⟨dx, a, b, c, d, e, xs, ys, h1, h2, h3, h4, h5, h6, h7, h8, r⟩ := h.ex
  exact ⟨dx, a, b, c, d, e, xs, ys, h.sm, h.np, h.ok, h1, h2, h3, h4, h5, h6, h7, h8, r⟩
section
variable {C : Addr} {Hb H H' : Hp} {p dx a b c d e : Addr} {xs ys : List V} {st : Rd}
theorem CrX.at (h : CrX C Hb H p dx a b c d e xs ys st) : CrAt C Hb H p st := ⟨h.sm, h.np, h.ok, dx, a, b, c, d, e, xs, ys, h.h1, h.h2, h.h3, h.h4, h.h5, h.h6, h.h7, h.h8, h.r⟩
theorem CrX.same (h : CrX C Hb H p dx a b c d e xs ys st) (s : Same H H') : CrX C Hb H' p dx a b c d e xs ys st := ⟨h.sm.trans s, h.np, h.ok, s _ _ h.h1, s _ _ h.h2, h.h3.same s, s _ _ h.h4, s _ _ h.h5, s _ _ h.h6, h.h7.same s, s _ _ h.h8, h.r⟩
theorem CrX.putB (h : CrX C Hb H p dx a b c d e xs ys st) {x : Nat} (o : RdOk { st with fs := st.fs ++ [x] }) : CrAt C Hb (upd H b (.lst ((st.fs.map sgn).map V.str ++ [.str (txt [x])]))) p { st with fs := st.fs ++ [x] } := by
  obtain ⟨sm, np, ok, h1, h2, h3, h4, h5, h6, h7, h8, na, nb, nc, nd, ne, ab, ac, ad, ae, bc, bd, be, cd, ce, de⟩ := h
  have tp := TP.upd (o := .lst ((st.fs.map sgn).map V.str ++ [.str (txt [x])])) h4
  refine ⟨fun b' o' e' => by rw [upd_ne (ne_of_none e' nb)]; exact sm _ _ e', np, o, dx, a, b, c, d, e, xs, ys, ?_, ?_, h3.tp tp ok.sg.facts.2.2.1, ?_, ?_, ?_, h7.tp tp pu_wants, ?_, na, nb, nc, nd, ne, ab, ac, ad, ae, bc, bd, be, cd, ce, de⟩
  · rw [upd_ne (ne_of h1 h4 (by intro z; cases z))]; exact h1
  · rw [upd_ne ab]; exact h2
  · rw [upd_same, List.map_append, List.map_append]; rfl
  · rw [upd_ne bc.symm]; exact h5
  · rw [upd_ne bd.symm]; exact h6
  · rw [upd_ne be.symm]; exact h8
theorem CrX.putC (h : CrX C Hb H p dx a b c d e xs ys st) {z : Str} (o : RdOk { st with zs := st.zs ++ [z] }) : CrAt C Hb (upd H c (.lst (st.zs.map V.str ++ [.str z]))) p { st with zs := st.zs ++ [z] } := by
  obtain ⟨sm, np, ok, h1, h2, h3, h4, h5, h6, h7, h8, na, nb, nc, nd, ne, ab, ac, ad, ae, bc, bd, be, cd, ce, de⟩ := h
  have tp := TP.upd (o := .lst (st.zs.map V.str ++ [.str z])) h5
  refine ⟨fun b' o' e' => by rw [upd_ne (ne_of_none e' nc)]; exact sm _ _ e', np, o, dx, a, b, c, d, e, xs, ys, ?_, ?_, h3.tp tp ok.sg.facts.2.2.1, ?_, ?_, ?_, h7.tp tp pu_wants, ?_, na, nb, nc, nd, ne, ab, ac, ad, ae, bc, bd, be, cd, ce, de⟩
  · rw [upd_ne (ne_of h1 h5 (by intro z; cases z))]; exact h1
  · rw [upd_ne ac]; exact h2
  · rw [upd_ne bc]; exact h4
  · rw [upd_same, List.map_append]; rfl
  · rw [upd_ne cd.symm]; exact h6
  · rw [upd_ne ce.symm]; exact h8
theorem CrX.putD (h : CrX C Hb H p dx a b c d e xs ys st) {w : List Nat × Int} {q : Addr} (hq : H q = some (.tup [.str (txt w.1), .int w.2])) (o : RdOk { st with ws := st.ws ++ [w] }) : CrAt C Hb (upd H d (.lst (ys ++ [.ref q]))) p { st with ws := st.ws ++ [w] } := by
  obtain ⟨sm, np, ok, h1, h2, h3, h4, h5, h6, h7, h8, na, nb, nc, nd, ne, ab, ac, ad, ae, bc, bd, be, cd, ce, de⟩ := h
  have tp := TP.upd (o := .lst (ys ++ [.ref q])) h6
  refine ⟨fun b' o' e' => by rw [upd_ne (ne_of_none e' nd)]; exact sm _ _ e', np, o, dx, a, b, c, d, e, xs, _, ?_, ?_, h3.tp tp ok.sg.facts.2.2.1, ?_, ?_, upd_same, ?_, ?_, na, nb, nc, nd, ne, ab, ac, ad, ae, bc, bd, be, cd, ce, de⟩
  · rw [upd_ne (ne_of h1 h6 (by intro z; cases z))]; exact h1
  · rw [upd_ne ad]; exact h2
  · rw [upd_ne bd]; exact h4
  · rw [upd_ne cd]; exact h5
  · show DtAll _ _ ((st.ws ++ [w]).map wantD)
    rw [List.map_append]
    exact (h7.tp tp pu_wants).app (.cons (.tup (tp _ _ hq) (.cons (.str _) (.cons (.int _) .nil))) .nil)
  · rw [upd_ne de.symm]; exact h8
theorem CrX.putE (h : CrX C Hb H p dx a b c d e xs ys st) {t : List Nat} (o : RdOk { st with wd := st.wd ++ [t] }) : CrAt C Hb (upd H e (.lst (vsT st.wd ++ [.str (txt t)]))) p { st with wd := st.wd ++ [t] } := by
  obtain ⟨sm, np, ok, h1, h2, h3, h4, h5, h6, h7, h8, na, nb, nc, nd, ne, ab, ac, ad, ae, bc, bd, be, cd, ce, de⟩ := h
  have tp := TP.upd (o := .lst (vsT st.wd ++ [.str (txt t)])) h8
  refine ⟨fun b' o' e' => by rw [upd_ne (ne_of_none e' ne)]; exact sm _ _ e', np, o, dx, a, b, c, d, e, xs, ys, ?_, ?_, h3.tp tp ok.sg.facts.2.2.1, ?_, ?_, ?_, h7.tp tp pu_wants, ?_, na, nb, nc, nd, ne, ab, ac, ad, ae, bc, bd, be, cd, ce, de⟩
  · rw [upd_ne (ne_of h1 h8 (by intro z; cases z))]; exact h1
  · rw [upd_ne ae]; exact h2
  · rw [upd_ne be]; exact h4
  · rw [upd_ne ce]; exact h5
  · rw [upd_ne de]; exact h6
  · rw [upd_same, vsT_appW]; rfl
theorem CrX.putG (h : CrX C Hb H p dx a b c d e xs ys st) {i : Int} (o : RdOk { st with lg := some i }) : CrAt C Hb (upd H p (.ins C dx (putF "longest" (.int i) (crF a (txt st.cs) b c (lgV st.lg) d e)))) p { st with lg := some i } := by
  obtain ⟨sm, np, ok, h1, h2, h3, h4, h5, h6, h7, h8, na, nb, nc, nd, ne, ab, ac, ad, ae, bc, bd, be, cd, ce, de⟩ := h
  rw [crF_putG]
  have tp : TP H (upd H p (.ins C dx (crF a (txt st.cs) b c (.int i) d e))) := fun b' xs' e' => by
    rw [upd_ne (ne_of e' h1 (by intro z; cases z))]
    exact e'
  refine ⟨fun b' o' e' => by rw [upd_ne (ne_of_none e' np)]; exact sm _ _ e', np, o, dx, a, b, c, d, e, xs, ys, upd_same, ?_, h3.tp tp ok.sg.facts.2.2.1, ?_, ?_, ?_, h7.tp tp pu_wants, ?_, na, nb, nc, nd, ne, ab, ac, ad, ae, bc, bd, be, cd, ce, de⟩
  · rw [upd_ne (ne_of h2 h1 (by intro z; cases z))]; exact h2
  · rw [upd_ne (ne_of h4 h1 (by intro z; cases z))]; exact h4
  · rw [upd_ne (ne_of h5 h1 (by intro z; cases z))]; exact h5
  · rw [upd_ne (ne_of h6 h1 (by intro z; cases z))]; exact h6
  · rw [upd_ne (ne_of h8 h1 (by intro z; cases z))]; exact h8
end
def openP (st : Rd) (ps : List (List Nat)) (n : Nat) : Bool := match ps with
  | [t] => openB st t n
  | _ => false
def spOpen (C : Addr) : Sp := fun vs H Q _ => ∃ (p q : Addr) (Hb : Hp) (st : Rd) (ps : List (List Nat)) (n : Nat), vs = [.ref p, .ref q, .int (n : Nat)] ∧ CrAt C Hb H p st ∧ H q = some (.lst (vsT ps)) ∧ (∀ t ∈ ps, t.length ≤ 900 ∧ Asc (txt t)) ∧ ∀ H', Same H H' → Q (.bl (openP st ps n)) H'
theorem openP_ne {st : Rd} {ps : List (List Nat)} {n : Nat} (h : ¬ ps.length = 1) : openP st ps n = false := by
  unfold openP
  split
  · exact absurd rfl h
  · rfl
theorem one_of {ps : List (List Nat)} (h : ps.length = 1) : ∃ t, ps = [t] := by
  match ps, h with
  | [t], _ => exact ⟨t, rfl⟩
theorem eq_len {n : Nat} {m : Int} (h : V.int ((n : Nat) : Int) = V.int m) : ((n : Nat) : Int) = m := by injection h
theorem zs_asc {st : Rd} (ro : RdOk st) : ∀ y ∈ st.zs, Asc y := fun y hy => by
  obtain ⟨a', ha', b', hb', rfl⟩ := ro.po.of y hy
  intro c' hc'
  rw [tl_sgn2] at hc'
  simp only [List.mem_cons, List.not_mem_nil, or_false] at hc'
  rcases hc' with rfl | rfl
  · exact in_letters_asc (ro.sg.facts.2.2.2.2.2 _ ha')
  · exact in_letters_asc (ro.sg.facts.2.2.2.2.2 _ hb')
section
variable {P : Program} {w : World} {K : PySem.W.Frag} {mg : Str → Option Value} {base : Heap}
set_option pp.maxSteps 3000
theorem o_CaseRows_is_open (T : Txt K mg) : OkM P w K mg base CX0 1 T.A.CaseRows "is_open" ["self", "parts", "many"] (spOpen T.A.CaseRows) := by
  refine T.M_CaseRows_is_open.ok c_CaseRows_is_open (fun vs H Q E h => ?_) (fun f cdv A outer s H vs Q E hr h => ?_)
  · obtain ⟨p, q, Hb, st, ps, n, rfl, _⟩ := h
    rfl
  · obtain ⟨p, q, Hb, st, ps, n, rfl, cr, hq, l900, k⟩ := h
    refine ⟨_, (pss_cons (ps_if (PW.pt (pw_or (pt_cmpR op_ne (pe_callB (call_len_seq_k K) (by rfl) T.b_len PySem.boot_len (pa_cons (pv 1) pa_nil)) pe_int (nomark _)) (pw_or (pt_cmpR op_lt (pe_callB (call_len_seq_k K) (by rfl) T.b_len PySem.boot_len (pa_cons (pe_fld_k K (pv 0) rfl) pa_nil)) (pe_gi T.g_FEWEST_SIGNS) (nomark _)) (pw_or1 (pt_cmpR op_notN (pe_fld_k K (pv 0) rfl) pe_non (nomark _))))))
(pss_one (ps_ret pe_bl))
pss_nil)
(pss_one (ps_ret (pe_and (pe_cmpR op_eq (pe_callB call_len_str (by rfl) T.b_len PySem.boot_len (pa_cons (pe_ix (ix_list_k K) (pv 1) pe_int (fun _ _ => rfl)) pa_nil)) (pv 2) (nomark _)) (pe_one (pe_callB (cr_all_k K rfl) (by rfl) T.b_all (by decide +kernel) (pa_cons (pe_lc (own := [("sign", 3)]) (g := gName 3) (tt := tYes) (by rfl) c_CaseRows_is_open.nd (pi_str (pe_ix (ix_list_k K) (pv 1) pe_int (fun _ _ => rfl))) (blkOk_by (own := [("sign", 3)]) (N := n_CaseRows_is_open) (sc := defScope s_CaseRows_is_open) (by decide +kernel)) (fun _ _ _ _ _ => (pg_name (i := 3) c_CaseRows_is_open.nd rfl (Or.inl rfl))) (fun _ _ _ _ _ => pts_nil) (fun _ _ _ _ _ => (pe_cmpR op_in_sign (pv 3) (pe_fld_k K (pv 0) rfl) rfl))) pa_nil))))))), ?_⟩
    obtain ⟨dx, a, b, c, d, e, xs, ys, cx⟩ := cr.x
    have ro := cr.ok
    have vl := vsT_lenC ps
    refine ⟨_, rfl, q, _, rfl, .inl (SqL.of hq), rfl, _, rfl, itnd (fun ne => iteT ?_) fun e1 => ?_⟩
    · have := k H (Same.refl H)
      rw [openP_ne (fun z => ne (by rw [vl, z]; rfl))] at this
      exact this
    obtain ⟨t, rfl⟩ := one_of (ps := ps) (by have := eq_len e1; omega)
    have lds : xs.length = st.cs.length := by rw [cx.h3.length, ro.sg.facts.2.2.2.2.1]
    have kf : ¬ (2 ≤ st.cs.length ∧ st.lg = none ∧ t.length = n) → Q (.bl false) H := fun h => by
      have := k H (Same.refl H)
      rw [show openP st [t] n = false from by
        show (decide (2 ≤ st.cs.length ∧ st.lg = none ∧ t.length = n) && _) = false
        rw [decide_eq_false h, Bool.false_and]] at this
      exact this
    refine ⟨_, rfl, p, _, dx, _, _, rfl, cx.h1, T.K_CaseRows, T.N_CaseRows_signs, crF_signs .., a, _, rfl, .inl (SqL.of cx.h2), _, _, rfl, rfl, _, rfl, itd (fun c2 => iteT (kf fun z => by omega)) fun c2 => ?_⟩
    refine ⟨_, rfl, p, _, dx, _, _, rfl, cx.h1, T.K_CaseRows, T.N_CaseRows_longest, crF_longest .., rfl, ?_⟩
    cases eg : st.lg with
    | some g =>
      refine ⟨_, rfl, iteT (kf fun z => ?_)⟩
      rw [eg] at z
      exact nomatch z.2.1
    | none =>
    refine ⟨_, rfl, iteF ?_⟩
    have ht := l900 t List.mem_cons_self
    have zt : (txt t).length ≤ sizeLine := by rw [txt_length]; exact sz_lit (by omega)
    refine ⟨_, rfl, _, _, _, _, rfl, rfl, SqL.of hq, rfl, _, rfl, zt, _, rfl, rfl, _, rfl, ?_⟩
    rw [txt_length]
    by_cases cn : t.length = n
    · rw [decide_eq_true (show V.int ((t.length : Nat) : Int) = V.int ((n : Nat) : Int) by rw [cn])]
      refine iteT ⟨_, rfl, _, _, _, _, rfl, rfl, SqL.of hq, rfl, _, rfl, fun D hD => lc_it (walk_str (z := txt t)) (fun i H' => Same H H' ∧ H' D = some (.lst (((t.take i).map (fun c => decide (c ∈ st.cs))).map V.bl))) ⟨Same.upd hD, upd_same⟩ (fun _ _ _ _ => trivial) ?_ ?_⟩
      · rintro i x H1 H2 hi ⟨s1, e9⟩ ⟨rfl, sc, hc, rfl⟩
        have hc' : t[i]? = some sc := by
          rw [← Array.getElem?_toList] at hc
          rw [← txt_list t]
          exact hc
        refine ⟨rfl, _, rfl, _, rfl, p, _, dx, _, _, rfl, s1 _ _ cx.h1, T.K_CaseRows, T.N_CaseRows_letters, crF_letters .., sc, txt st.cs, rfl, rfl, _, e9, small1000 (by rw [List.length_map, List.length_map, List.length_take]; omega), ?_, ?_⟩
        · intro b' o' hb'
          rw [upd_ne (ne_of_none hb' hD)]
          exact s1 _ _ hb'
        · rw [upd_same, take_more hc', List.map_append, List.map_append, txt_list]
          rfl
      · rintro H1 ⟨s1, e9⟩
        refine ⟨D, _, rfl, SqL.of e9, ?_⟩
        have et : t.take (txt t).cps.size = t := by
          rw [show (txt t).cps.size = t.length from txt_length t, List.take_length]
        rw [et]
        have := k H1 s1
        rw [show openP st [t] n = (t.map fun c => decide (c ∈ st.cs)).all id from by
          show (decide (2 ≤ st.cs.length ∧ st.lg = none ∧ t.length = n) && _) = _
          rw [decide_eq_true ⟨by omega, eg, cn⟩, Bool.true_and, List.all_map]
          rfl] at this
        exact this
    · rw [decide_eq_false (fun z => cn (by have := eq_len z; omega))]
      exact iteF (kf fun z => cn z.2.2)
theorem o_CaseRows_takes_first (T : Txt K mg) : OkM P w K mg base CX0 2 T.A.CaseRows "takes_first" ["self", "parts"] (spTk T.A.CaseRows takesFirst) := by
  have o_CaseRows_is_open := o_CaseRows_is_open (P := P) (w := w) (base := base) T
  refine T.M_CaseRows_takes_first.ok c_CaseRows_takes_first (fun vs H Q E h => ?_) (fun f cdv A outer s H vs Q E hr h => ?_)
  · obtain ⟨p, q, Hb, st, ps, rfl, _⟩ := h
    rfl
  · obtain ⟨p, q, Hb, st, ps, rfl, cr, hq, l1000, l900, ks, kn⟩ := h
    refine ⟨_, (pss_cons (ps_if (PW.pt (pw_or (pt_not (pt_val (pe_m o_CaseRows_is_open T.K_CaseRows hr (pv 0) (pa_cons (pv 1) (pa_cons pe_int pa_nil))))) (pw_or (pt_cmpR (op_neD_k K hr.units) (pe_fld_k K (pv 0) rfl) (pe_lst pa_nil) (nomark _)) (pw_or1 (pt_cmpR (op_in_seq_k K) (pe_ix (ix_list_k K) (pv 1) pe_int (fun _ _ => rfl)) (pe_fld_k K (pv 0) rfl) rfl)))))
(pss_one (ps_ret pe_bl))
pss_nil)
(pss_cons (ps_expr (pe_bm PySem.F.plainAttrs_list PySem.F.slot_list_append PySem.F.type_list_append mt_append (pe_fld_k K (pv 0) rfl) (pa_cons (pe_ix (ix_list_k K) (pv 1) pe_int (fun _ _ => rfl)) pa_nil)))
(pss_one (ps_ret pe_bl)))), ?_⟩
    obtain ⟨dx, a, b, c, d, e, xs, ys, cx⟩ := cr.x
    have ro := cr.ok
    refine ⟨_, rfl, p, dx, _, rfl, cx.h1, crF_no_is_open .., _, rfl, p, q, Hb, st, ps, 1, rfl, cr, hq, l900, fun H1 s1 => ?_⟩
    have cx1 := cx.same s1
    have no : ∀ {H' : Hp}, Same H H' → takesFirst st ps = none → Q (.bl false) H' := fun s e => kn e _ (cr.same s)
    cases eo : openP st ps 1 with
    | false =>
      refine ⟨_, rfl, iteT (iteT (no s1 ?_))⟩
      unfold takesFirst
      split
      · have eo : openB st _ 1 = false := eo
        rw [eo]
        rfl
      · rfl
    | true =>
    refine ⟨_, rfl, iteF ?_⟩
    obtain ⟨t, rfl⟩ : ∃ t, ps = [t] := by
      unfold openP at eo
      split at eo
      · exact ⟨_, rfl⟩
      · cases eo
    have eo : openB st t 1 = true := eo
    have oi := openB_iff.mp eo
    obtain ⟨sc, rfl⟩ : ∃ sc, t = [sc] := by
      match t, oi.1.2.2 with
      | [sc], _ => exact ⟨sc, rfl⟩
    refine ⟨_, rfl, p, _, dx, _, _, rfl, cx1.h1, T.K_CaseRows, T.N_CaseRows_pairs, crF_pairs .., (by show 0 ≤ sizeLine; decide), fun r2 hr2 => ?_⟩
    have uH2 := Same.upd (o := .lst []) hr2
    have er2 : (upd H1 r2 (.lst [])) r2 = some (.lst []) := upd_same
    generalize upd H1 r2 (.lst []) = H2 at uH2 er2 ⊢
    have cx2 := cx1.same uH2
    have s02 := s1.trans uH2
    refine ⟨.list (st.zs.map PyData.str), .list [], .lst (SqL.of cx2.h5) (dp_strs _), .lst (SqL.of er2) .nil, shaped_strs (zs_asc ro), shaped_nil, ?_⟩
    rw [eqv_nil]
    have ez : (st.zs.map PyData.str).isEmpty = decide (st.zs = []) := by cases st.zs <;> rfl
    rw [ez]
    have tf : takesFirst st [[sc]] = if (decide (st.zs = []) && !decide (sc ∈ st.fs)) = true then some { st with fs := st.fs ++ [sc] } else none := by
      show (if (openB st [sc] 1 && decide (st.zs = []) && !decide (sc ∈ st.fs)) = true then _ else _) = _
      rw [eo, Bool.true_and]
    by_cases cz : st.zs = []
    · rw [decide_eq_true cz] at tf ⊢
      refine ⟨_, rfl, iteF ⟨_, rfl, _, _, _, _, rfl, rfl, SqL.of (s02 _ _ hq), rfl, _, rfl, p, _, dx, _, _, rfl, cx2.h1, T.K_CaseRows, T.N_CaseRows_firsts, crF_firsts .., b, _, rfl, .inl (SqL.of cx2.h4), rfl, flat_str _, ?_⟩⟩
      rw [inV_strs]
      have em : decide (txt [sc] ∈ st.fs.map sgn) = decide (sc ∈ st.fs) := by
        by_cases q9 : sc ∈ st.fs
        · rw [decide_eq_true q9]
          exact decide_eq_true (List.mem_map_of_mem q9)
        · rw [decide_eq_false q9]
          refine decide_eq_false fun z => q9 ?_
          obtain ⟨c', hc', e'⟩ := List.mem_map.mp z
          have := sgn_inj e'
          subst this
          exact hc'
      rw [em]
      by_cases q9 : sc ∈ st.fs
      · rw [decide_eq_true q9] at tf ⊢
        exact ⟨_, rfl, iteT (no s02 tf)⟩
      · rw [decide_eq_false q9] at tf ⊢
        refine ⟨_, rfl, iteF ?_⟩
        have tf : takesFirst st [[sc]] = some { st with fs := st.fs ++ [sc] } := tf
        have so := takesFirst_ok ro tf
        have lf : st.fs.length ≤ 6 := Nat.le_trans (len_sub ro.fn ro.fo) ro.l6
        exact ⟨_, rfl, p, _, dx, _, _, rfl, cx2.h1, T.K_CaseRows, T.N_CaseRows_firsts, crF_firsts .., .inl ⟨rfl, _, SqL.of cx2.h4⟩, _, rfl, _, _, _, _, rfl, rfl, SqL.of (s02 _ _ hq), rfl, b, _, _, rfl, rfl, cx2.h4, small1000 (by rw [List.length_map, List.length_map]; omega), ks _ tf _ (cx2.putB so)⟩
    · rw [decide_eq_false cz] at tf ⊢
      exact ⟨_, rfl, iteT (iteT (no s02 tf))⟩
theorem o_CaseRows_takes_pair (T : Txt K mg) : OkM P w K mg base CX0 2 T.A.CaseRows "takes_pair" ["self", "parts"] (spTk T.A.CaseRows takesPair) := by
  have o_CaseRows_is_open := o_CaseRows_is_open (P := P) (w := w) (base := base) T
  refine T.M_CaseRows_takes_pair.ok c_CaseRows_takes_pair (fun vs H Q E h => ?_) (fun f cdv A outer s H vs Q E hr h => ?_)
  · obtain ⟨p, q, Hb, st, ps, rfl, _⟩ := h
    rfl
  · obtain ⟨p, q, Hb, st, ps, rfl, cr, hq, l1000, l900, ks, kn⟩ := h
    refine ⟨_, (pss_cons (ps_if (PW.pt (pw_or (pt_not (pt_val (pe_m o_CaseRows_is_open T.K_CaseRows hr (pv 0) (pa_cons (pv 1) (pa_cons pe_int pa_nil))))) (pw_or1 (pt_cmpR (op_in_seq_k K) (pe_ix (ix_list_k K) (pv 1) pe_int (fun _ _ => rfl)) (pe_fld_k K (pv 0) rfl) rfl))))
(pss_one (ps_ret pe_bl))
pss_nil)
(pss_cons (ps_expr (pe_bm PySem.F.plainAttrs_list PySem.F.slot_list_append PySem.F.type_list_append mt_append (pe_fld_k K (pv 0) rfl) (pa_cons (pe_ix (ix_list_k K) (pv 1) pe_int (fun _ _ => rfl)) pa_nil)))
(pss_one (ps_ret pe_bl)))), ?_⟩
    obtain ⟨dx, a, b, c, d, e, xs, ys, cx⟩ := cr.x
    have ro := cr.ok
    refine ⟨_, rfl, p, dx, _, rfl, cx.h1, crF_no_is_open .., _, rfl, p, q, Hb, st, ps, 2, rfl, cr, hq, l900, fun H1 s1 => ?_⟩
    have cx1 := cx.same s1
    have no : ∀ {H' : Hp}, Same H H' → takesPair st ps = none → Q (.bl false) H' := fun s e => kn e _ (cr.same s)
    cases eo : openP st ps 2 with
    | false =>
      refine ⟨_, rfl, iteT (iteT (no s1 ?_))⟩
      unfold takesPair
      split
      · have eo : openB st _ 2 = false := eo
        rw [eo]
        rfl
      · rfl
    | true =>
    refine ⟨_, rfl, iteF ?_⟩
    obtain ⟨t, rfl⟩ : ∃ t, ps = [t] := by
      unfold openP at eo
      split at eo
      · exact ⟨_, rfl⟩
      · cases eo
    have eo : openB st t 2 = true := eo
    have oi := openB_iff.mp eo
    obtain ⟨x1, x2, rfl⟩ : ∃ x1 x2, t = [x1, x2] := by
      match t, oi.1.2.2 with
      | [x1, x2], _ => exact ⟨x1, x2, rfl⟩
    have tp : takesPair st [[x1, x2]] = if (!decide (sgn x1 ++ sgn x2 ∈ st.zs)) = true then some { st with zs := st.zs ++ [sgn x1 ++ sgn x2] } else none := by
      show (if (openB st [x1, x2] 2 && !decide (sgn x1 ++ sgn x2 ∈ st.zs)) = true then _ else _) = _
      rw [eo, Bool.true_and]
    have et : txt [x1, x2] = sgn x1 ++ sgn x2 := (txt_app [x1] [x2]).symm
    have lz : st.zs.length ≤ 36 := by
      have h := len_sub (m := st.cs.flatMap fun a => st.cs.map fun b => sgn a ++ sgn b) ro.po.nd fun z hz => by
        obtain ⟨a, ha, b, hb, rfl⟩ := ro.po.of z hz
        exact List.mem_flatMap.mpr ⟨a, ha, List.mem_map_of_mem hb⟩
      rw [len_prod] at h
      have := Nat.mul_le_mul ro.l6 ro.l6
      omega
    refine ⟨_, rfl, _, _, _, _, rfl, rfl, SqL.of (s1 _ _ hq), rfl, _, rfl, p, _, dx, _, _, rfl, cx1.h1, T.K_CaseRows, T.N_CaseRows_pairs, crF_pairs .., c, _, rfl, .inl (SqL.of cx1.h5), rfl, flat_str _, ?_⟩
    rw [inV_strs, et]
    by_cases q9 : sgn x1 ++ sgn x2 ∈ st.zs
    · rw [decide_eq_true q9] at tp ⊢
      exact ⟨_, rfl, iteT (no s1 tp)⟩
    · rw [decide_eq_false q9] at tp ⊢
      refine ⟨_, rfl, iteF ?_⟩
      have tp : takesPair st [[x1, x2]] = some { st with zs := st.zs ++ [sgn x1 ++ sgn x2] } := tp
      have so := takesPair_ok ro tp
      refine ⟨_, rfl, p, _, dx, _, _, rfl, cx1.h1, T.K_CaseRows, T.N_CaseRows_pairs, crF_pairs .., .inl ⟨rfl, _, SqL.of cx1.h5⟩, _, rfl, _, _, _, _, rfl, rfl, SqL.of (s1 _ _ hq), rfl, c, _, _, rfl, rfl, cx1.h5, small1000 (by rw [List.length_map]; omega), ks _ tp _ ?_⟩
      dsimp only
      rw [et]
      exact cx1.putC so
theorem o_CaseRows_takes_longest (T : Txt K mg) : OkM P w K mg base CX0 2 T.A.CaseRows "takes_longest" ["self", "parts"] (spTk T.A.CaseRows takesLong) := by
  have o_whole_in := o_whole_in (P := P) (w := w) (base := base) T
  refine T.M_CaseRows_takes_longest.ok c_CaseRows_takes_longest (fun vs H Q E h => ?_) (fun f cdv A outer s H vs Q E hr h => ?_)
  · obtain ⟨p, q, Hb, st, ps, rfl, _⟩ := h
    rfl
  · obtain ⟨p, q, Hb, st, ps, rfl, cr, hq, l1000, l900, ks, kn⟩ := h
    refine ⟨_, (pss_cons (ps_if (PW.pt (pw_or (pt_cmpR op_ne (pe_callB (call_len_seq_k K) (by rfl) T.b_len PySem.boot_len (pa_cons (pv 1) pa_nil)) pe_int (nomark _)) (pw_or (pt_cmpR op_lt (pe_callB (call_len_seq_k K) (by rfl) T.b_len PySem.boot_len (pa_cons (pe_fld_k K (pv 0) rfl) pa_nil)) (pe_gi T.g_FEWEST_SIGNS) (nomark _)) (pw_or1 (pt_cmpR op_notN (pe_fld_k K (pv 0) rfl) pe_non (nomark _))))))
(pss_one (ps_ret pe_bl))
pss_nil)
(pss_cons (ps_set (i := 2) c_CaseRows_takes_longest.nd rfl (Or.inl rfl) (pe_c o_whole_in hr (pa_cons (pe_ix (ix_list_k K) (pv 1) pe_int (fun _ _ => rfl)) (pa_cons pe_int pa_nil))))
(pss_cons (ps_if (PW.pt (pw_or (pt_cmpR op_isN (pv 2) pe_non (nomark _)) (pw_or1 (pt_not (pt_chain op_le op_le pe_int (pv 2) (pe_gi T.g_GREATEST_LONGEST))))))
(pss_one (ps_ret pe_bl))
pss_nil)
(pss_cons (ps_fld (pv 0) (pv 2) rfl)
(pss_one (ps_ret pe_bl)))))), ?_⟩
    obtain ⟨dx, a, b, c, d, e, xs, ys, cx⟩ := cr.x
    have ro := cr.ok
    have vl := vsT_lenC ps
    have no : ∀ {H' : Hp}, Same H H' → takesLong st ps = none → Q (.bl false) H' := fun s e => kn e _ (cr.same s)
    refine ⟨_, rfl, q, _, rfl, .inl (SqL.of hq), rfl, _, rfl, itnd (fun ne => iteT (no (Same.refl _) ?_)) fun e1 => ?_⟩
    · unfold takesLong
      split
      · exact absurd rfl ne
      · rfl
    obtain ⟨t, rfl⟩ := one_of (ps := ps) (by have := eq_len e1; omega)
    have lds : xs.length = st.cs.length := by rw [cx.h3.length, ro.sg.facts.2.2.2.2.1]
    have n1 : ¬ (2 ≤ st.cs.length ∧ st.lg = none) → takesLong st [t] = none := fun h => if_neg h
    refine ⟨_, rfl, p, _, dx, _, _, rfl, cx.h1, T.K_CaseRows, T.N_CaseRows_signs, crF_signs .., a, _, rfl, .inl (SqL.of cx.h2), _, _, rfl, rfl, _, rfl, itd (fun c2 => iteT (no (Same.refl _) (n1 fun z => by omega))) fun c2 => ?_⟩
    refine ⟨_, rfl, p, _, dx, _, _, rfl, cx.h1, T.K_CaseRows, T.N_CaseRows_longest, crF_longest .., rfl, ?_⟩
    cases eg : st.lg with
    | some g =>
      refine ⟨_, rfl, iteT (no (Same.refl _) (n1 fun z => ?_))⟩
      rw [eg] at z
      exact nomatch z.2
    | none =>
    refine ⟨_, rfl, iteF ?_⟩
    have ht := l900 t List.mem_cons_self
    have tl : takesLong st [t] = match wholeN 1 t with
      | some n => if 1 ≤ n ∧ n ≤ 8 then some { st with lg := some ((n : Nat) : Int) } else none
      | none => none := if_pos ⟨by omega, eg⟩
    refine ⟨_, rfl, _, _, _, _, rfl, rfl, SqL.of hq, rfl, t, 1, rfl, by omega, by decide, by decide, fun H1 s1 => ?_⟩
    rw [wholeIn_opt]
    have cx1 := cx.same s1
    cases ew : wholeN 1 t with
    | none =>
      rw [ew] at tl
      exact ⟨_, rfl, rfl, _, rfl, iteT (iteT (no s1 tl))⟩
    | some n =>
      rw [ew] at tl
      have tl : takesLong st [t] = if 1 ≤ n ∧ n ≤ 8 then some { st with lg := some ((n : Nat) : Int) } else none := tl
      have n10 := wholeN_lt ew
      refine ⟨_, rfl, rfl, _, rfl, iteF ⟨_, rfl, _, _, rfl, rfl, _, rfl, itd (fun c3 => ?_) fun c3 => ?_⟩⟩
      · refine ⟨_, _, rfl, rfl, _, rfl, itnd (fun c4 => no s1 ?_) fun c4 => ?_⟩
        · rw [tl, if_neg (by omega)]
        · rw [if_pos (by omega)] at tl
          have so := takesLong_ok ro tl
          exact ⟨_, rfl, _, rfl, p, _, dx, _, rfl, cx1.h1, T.K_CaseRows, T.N_CaseRows_longest, (by show 7 < 1000; decide), ks _ tl _ (cx1.putG so)⟩
      · exact ⟨_, rfl, iteT (no s1 (by rw [tl, if_neg (by omega)]))⟩
theorem o_CaseRows_takes_word (T : Txt K mg) : OkM P w K mg base CX0 2 T.A.CaseRows "takes_word" ["self", "parts"] (spTk T.A.CaseRows takesWord) := by
  have o_is_name := o_is_name (P := P) (w := w) (base := base) T
  refine T.M_CaseRows_takes_word.ok c_CaseRows_takes_word (fun vs H Q E h => ?_) (fun f cdv A outer s H vs Q E hr h => ?_)
  · obtain ⟨p, q, Hb, st, ps, rfl, _⟩ := h
    rfl
  · obtain ⟨p, q, Hb, st, ps, rfl, cr, hq, l1000, l900, ks, kn⟩ := h
    refine ⟨_, (pss_cons (ps_if (PW.pt (pw_or (pt_cmpR op_ne (pe_callB (call_len_seq_k K) (by rfl) T.b_len PySem.boot_len (pa_cons (pv 1) pa_nil)) pe_int (nomark _)) (pw_or (pt_cmpR op_ge (pe_callB (call_len_seq_k K) (by rfl) T.b_len PySem.boot_len (pa_cons (pe_fld_k K (pv 0) rfl) pa_nil)) (pe_callB (call_len_seq_k K) (by rfl) T.b_len PySem.boot_len (pa_cons (pe_fld_k K (pv 0) rfl) pa_nil)) (nomark _)) (pw_or1 (pt_not (pt_val (pe_c o_is_name hr (pa_cons (pe_ix (ix_list_k K) (pv 1) pe_int (fun _ _ => rfl)) pa_nil))))))))
(pss_one (ps_ret pe_bl))
pss_nil)
(pss_cons (ps_expr (pe_bm PySem.F.plainAttrs_list PySem.F.slot_list_append PySem.F.type_list_append mt_append (pe_fld_k K (pv 0) rfl) (pa_cons (pe_ix (ix_list_k K) (pv 1) pe_int (fun _ _ => rfl)) pa_nil)))
(pss_one (ps_ret pe_bl)))), ?_⟩
    obtain ⟨dx, a, b, c, d, e, xs, ys, cx⟩ := cr.x
    have ro := cr.ok
    have vl := vsT_lenC ps
    have no : ∀ {H' : Hp}, Same H H' → takesWord st ps = none → Q (.bl false) H' := fun s e => kn e _ (cr.same s)
    refine ⟨_, rfl, q, _, rfl, .inl (SqL.of hq), rfl, _, rfl, itnd (fun ne => iteT (no (Same.refl _) ?_)) fun e1 => ?_⟩
    · unfold takesWord
      split
      · exact absurd rfl ne
      · rfl
    obtain ⟨t, rfl⟩ := one_of (ps := ps) (by have := eq_len e1; omega)
    have lws : ys.length = st.ws.length := by rw [cx.h7.length, List.length_map]
    have lwd := vsT_lenC st.wd
    have w20 := ro.w20
    refine ⟨_, rfl, p, _, dx, _, _, rfl, cx.h1, T.K_CaseRows, T.N_CaseRows_words, crF_words .., e, _, rfl, .inl (SqL.of cx.h8), _, rfl, p, _, dx, _, _, rfl, cx.h1, T.K_CaseRows, T.N_CaseRows_wants, crF_wants .., d, _, rfl, .inl (SqL.of cx.h6), _, _, rfl, rfl, _, rfl, itd (fun c2 => iteT (no (Same.refl _) (if_neg fun z => by omega))) fun c2 => ?_⟩
    have ht := l900 t List.mem_cons_self
    refine ⟨_, rfl, _, _, _, _, rfl, rfl, SqL.of hq, rfl, .str (txt t), .str (txt t), rfl, .str _, ⟨by rw [txt_length]; omega, ht.2⟩, fun H1 s1 => ?_⟩
    have en : isNm (.str (txt t)) = nmOk t := by
      show (decide (1 ≤ (txt t).length ∧ (txt t).length ≤ 8) && (txt t).cps.toList.all fun c => decide (c ∈ letters.cps.toList)) = _
      rw [txt_length, txt_list]
      rfl
    rw [en]
    have cx1 := cx.same s1
    cases eo : nmOk t with
    | false => exact ⟨_, rfl, iteT (no s1 (if_neg fun z => by rw [eo] at z; cases z.2))⟩
    | true =>
      refine ⟨_, rfl, iteF ?_⟩
      have tw : takesWord st [t] = some { st with wd := st.wd ++ [t] } := if_pos ⟨by omega, eo⟩
      have so := takesWord_ok ro tw
      exact ⟨_, rfl, p, _, dx, _, _, rfl, cx1.h1, T.K_CaseRows, T.N_CaseRows_words, crF_words .., .inl ⟨rfl, _, SqL.of cx1.h8⟩, _, rfl, _, _, _, _, rfl, rfl, SqL.of (s1 _ _ hq), rfl, e, _, _, rfl, rfl, cx1.h8, small1000 (by omega), ks _ tw _ (cx1.putE so)⟩
theorem o_CaseRows_takes_thing (T : Txt K mg) : OkM P w K mg base CX0 2 T.A.CaseRows "takes_thing" ["self", "parts"] (spTk T.A.CaseRows takesThing) := by
  have o_is_name := o_is_name (P := P) (w := w) (base := base) T
  have o_whole_in := o_whole_in (P := P) (w := w) (base := base) T
  refine T.M_CaseRows_takes_thing.ok c_CaseRows_takes_thing (fun vs H Q E h => ?_) (fun f cdv A outer s H vs Q E hr h => ?_)
  · obtain ⟨p, q, Hb, st, ps, rfl, _⟩ := h
    rfl
  · obtain ⟨p, q, Hb, st, ps, rfl, cr, hq, l1000, l900, ks, kn⟩ := h
    refine ⟨_, (pss_cons (ps_if (PW.pt (pw_or (pt_cmpR op_ne (pe_callB (call_len_seq_k K) (by rfl) T.b_len PySem.boot_len (pa_cons (pv 1) pa_nil)) pe_int (nomark _)) (pw_or (pt_cmpR op_isN (pe_fld_k K (pv 0) rfl) pe_non (nomark _)) (pw_or (pt_cmpR (op_neD_k K hr.units) (pe_fld_k K (pv 0) rfl) (pe_lst pa_nil) (nomark _)) (pw_or1 (pt_cmpR op_eq (pe_callB (call_len_seq_k K) (by rfl) T.b_len PySem.boot_len (pa_cons (pe_fld_k K (pv 0) rfl) pa_nil)) (pe_gi T.g_MOST_THINGS) (nomark _)))))))
(pss_one (ps_ret pe_bl))
pss_nil)
(pss_cons (ps_set (i := 2) c_CaseRows_takes_thing.nd rfl (Or.inl rfl) (pe_c o_whole_in hr (pa_cons (pe_ix (ix_list_k K) (pv 1) pe_int (fun _ _ => rfl)) (pa_cons (pe_gi T.g_COUNT_FIGURES) pa_nil))))
(pss_cons (ps_if (PW.pt (pw_or (pt_cmpR op_isN (pv 2) pe_non (nomark _)) (pw_or (pt_cmpR op_gt (pv 2) (pe_gi T.g_GREATEST_COUNT) (nomark _)) (pw_or1 (pt_not (pt_val (pe_c o_is_name hr (pa_cons (pe_ix (ix_list_k K) (pv 1) pe_int (fun _ _ => rfl)) pa_nil))))))))
(pss_one (ps_ret pe_bl))
pss_nil)
(pss_cons (ps_if (pt_cmpR (op_in_seq_k K) (pe_ix (ix_list_k K) (pv 1) pe_int (fun _ _ => rfl)) (pe_lc (own := [("name", 3), ("many", 4)]) (tt := tYes) (by rfl) c_CaseRows_takes_thing.nd (pi_list_k K (pe_fld_k K (pv 0) rfl)) (blkOk_by (own := [("name", 3), ("many", 4)]) (N := n_CaseRows_takes_thing) (sc := defScope s_CaseRows_takes_thing) (by decide +kernel)) (fun _ _ _ _ _ => (pg_tup_k K (n := 2) rfl (pgs_cons (pg_name (i := 3) c_CaseRows_takes_thing.nd rfl (Or.inl rfl)) (pgs_cons (pg_name (i := 4) c_CaseRows_takes_thing.nd rfl (Or.inl rfl)) pgs_nil)))) (fun _ _ _ _ _ => pts_nil) (fun _ _ _ _ _ => (pv 3))) rfl)
(pss_one (ps_ret pe_bl))
pss_nil)
(pss_cons (ps_expr (pe_bm PySem.F.plainAttrs_list PySem.F.slot_list_append PySem.F.type_list_append mt_append (pe_fld_k K (pv 0) rfl) (pa_cons (pe_tup (pa_cons (pe_ix (ix_list_k K) (pv 1) pe_int (fun _ _ => rfl)) (pa_cons (pv 2) pa_nil))) pa_nil)))
(pss_one (ps_ret pe_bl))))))), ?_⟩
    obtain ⟨dx, a, b, c, d, e, xs, ys, cx⟩ := cr.x
    have ro := cr.ok
    have vl := vsT_lenC ps
    have no : ∀ {H' : Hp}, Same H H' → takesThing st ps = none → Q (.bl false) H' := fun s e => kn e _ (cr.same s)
    refine ⟨_, rfl, q, _, rfl, .inl (SqL.of hq), rfl, _, rfl, itnd (fun ne => iteT (no (Same.refl _) ?_)) fun e1 => ?_⟩
    · unfold takesThing
      split
      · exact absurd rfl ne
      · rfl
    obtain ⟨t, u, rfl⟩ : ∃ t u, ps = [t, u] := by
      have l2 : ps.length = 2 := by have := eq_len e1; omega
      match ps, l2 with
      | [t, u], _ => exact ⟨t, u, rfl⟩
    have lws : ys.length = st.ws.length := by rw [cx.h7.length, List.length_map]
    have lwd := vsT_lenC st.wd
    have n1 : ¬ (st.lg ≠ none ∧ st.wd = [] ∧ st.ws.length ≠ 20) → takesThing st [t, u] = none := fun h => if_neg h
    refine ⟨_, rfl, p, _, dx, _, _, rfl, cx.h1, T.K_CaseRows, T.N_CaseRows_longest, crF_longest .., rfl, ?_⟩
    cases eg : st.lg with
    | none => exact ⟨_, rfl, iteT (iteT (no (Same.refl _) (n1 fun z => z.1 eg)))⟩
    | some g =>
    refine ⟨_, rfl, iteF ⟨_, rfl, p, _, dx, _, _, rfl, cx.h1, T.K_CaseRows, T.N_CaseRows_words, crF_words .., (by show 0 ≤ sizeLine; decide), fun r2 hr2 => ?_⟩⟩
    have uH2 := Same.upd (o := .lst []) hr2
    have er2 : (upd H r2 (.lst [])) r2 = some (.lst []) := upd_same
    generalize upd H r2 (.lst []) = H2 at uH2 er2 ⊢
    have cx2 := cx.same uH2
    have ascW : ∀ y ∈ st.wd.map txt, Asc y := fun y hy => by
      obtain ⟨t', ht', rfl⟩ := List.mem_map.mp hy
      intro c' hc'
      rw [txt_list] at hc'
      exact in_letters_asc ((ro.wt t' ht').1 c' hc')
    have h8' := cx2.h8
    rw [vsT_strs] at h8'
    refine ⟨.list ((st.wd.map txt).map PyData.str), .list [], .lst (SqL.of h8') (dp_strs _), .lst (SqL.of er2) .nil, shaped_strs ascW, shaped_nil, ?_⟩
    rw [eqv_nil]
    have ez : ((st.wd.map txt).map PyData.str).isEmpty = decide (st.wd = []) := by cases st.wd <;> rfl
    rw [ez]
    by_cases cw : ¬ st.wd = []
    · rw [decide_eq_false cw]
      exact ⟨_, rfl, iteT (iteT (no uH2 (n1 fun z => cw z.2.1)))⟩
    have cw := Classical.not_not.mp cw
    rw [decide_eq_true cw]
    refine ⟨_, rfl, iteF ⟨_, rfl, p, _, dx, _, _, rfl, cx2.h1, T.K_CaseRows, T.N_CaseRows_wants, crF_wants .., d, _, rfl, .inl (SqL.of cx2.h6), rfl, _, rfl, itd (fun c20 => no uH2 (n1 fun z => z.2.2 (by have := eq_len c20; omega))) fun c20 => ?_⟩⟩
    have c20 : ¬ st.ws.length = 20 := fun z => c20 (by rw [lws, z]; rfl)
    have ht := l900 t List.mem_cons_self
    have hu := l900 u (List.mem_cons_of_mem _ List.mem_cons_self)
    have tt : takesThing st [t, u] = match wholeN 10 u with
      | some n => if n ≤ 1000000000 ∧ nmOk t = true ∧ ¬ t ∈ st.ws.map Prod.fst then some { st with ws := st.ws ++ [(t, ((n : Nat) : Int))] } else none
      | none => none := if_pos ⟨(by rw [eg]; intro z; cases z), cw, c20⟩
    refine ⟨_, rfl, _, _, _, _, rfl, rfl, SqL.of (uH2 _ _ hq), rfl, u, 10, rfl, by omega, by decide, by decide, fun H3 s3 => ?_⟩
    rw [wholeIn_opt]
    have s03 := uH2.trans s3
    have cx3 := cx.same s03
    cases ew : wholeN 10 u with
    | none =>
      rw [ew] at tt
      exact ⟨_, rfl, rfl, _, rfl, iteT (iteT (no s03 tt))⟩
    | some n =>
      rw [ew] at tt
      have tt : takesThing st [t, u] = if n ≤ 1000000000 ∧ nmOk t = true ∧ ¬ t ∈ st.ws.map Prod.fst then some { st with ws := st.ws ++ [(t, ((n : Nat) : Int))] } else none := tt
      refine ⟨_, rfl, rfl, _, rfl, iteF ⟨_, rfl, _, _, rfl, rfl, _, rfl, itd (fun c3 => iteT (no s03 ?_)) fun c3 => ?_⟩⟩
      · rw [tt, if_neg (by omega)]
      refine ⟨_, rfl, _, _, _, _, rfl, rfl, SqL.of (s03 _ _ hq), rfl, .str (txt t), .str (txt t), rfl, .str _, ⟨by rw [txt_length]; omega, ht.2⟩, fun H4 s4 => ?_⟩
      have en : isNm (.str (txt t)) = nmOk t := by
        show (decide (1 ≤ (txt t).length ∧ (txt t).length ≤ 8) && (txt t).cps.toList.all fun c => decide (c ∈ letters.cps.toList)) = _
        rw [txt_length, txt_list]
        rfl
      rw [en]
      have s04 := s03.trans s4
      have cx4 := cx.same s04
      cases eo : nmOk t with
      | false => exact ⟨_, rfl, iteT (no s04 (by rw [tt, if_neg fun z => by rw [eo] at z; cases z.2.1]))⟩
      | true =>
        refine ⟨_, rfl, iteF ?_⟩
        refine ⟨_, rfl, _, _, _, _, rfl, rfl, SqL.of (s04 _ _ hq), rfl, _, rfl, p, _, dx, _, _, rfl, cx4.h1, T.K_CaseRows, T.N_CaseRows_wants, crF_wants .., d, rfl, ⟨_, SqL.of cx4.h6⟩, fun pD hD => lc_list (K := K) (a := d) (xs := ys) (fun j H' => Same H4 H' ∧ H' pD = some (.lst (((st.ws.take j).map fun w => txt w.1).map V.str))) ⟨Same.upd hD, upd_same⟩ (fun j H' _ h => SqL.of (h.1 _ _ cx4.h6)) ?_ ?_⟩
        · rintro j x H5 hx ⟨s5, e5⟩
          obtain ⟨wj, hwj, tj, rfl, htj⟩ := want_at' (cx4.h7.same s5) hx
          refine ⟨tj, _, rfl, SqT.of htj, rfl, _, _, rfl, _, _, rfl, rfl, rfl, _, rfl, _, e5, small1000 (by rw [List.length_map, List.length_map, List.length_take]; have := ro.w20; omega), ?_, ?_⟩
          · intro b' o' hb'
            rw [upd_ne (ne_of_none hb' hD)]
            exact s5 _ _ hb'
          · rw [upd_same, take_more hwj, List.map_append, List.map_append]
            rfl
        rintro H5 ⟨s5, e5⟩
        rw [lws, List.take_length] at e5
        refine ⟨pD, _, rfl, .inl (SqL.of e5), rfl, flat_str _, ?_⟩
        rw [inV_strs]
        have em : decide (txt t ∈ st.ws.map fun w => txt w.1) = decide (t ∈ st.ws.map Prod.fst) := by
          by_cases q9 : t ∈ st.ws.map Prod.fst
          · rw [decide_eq_true q9]
            obtain ⟨w', hw', rfl⟩ := List.mem_map.mp q9
            exact decide_eq_true (List.mem_map.mpr ⟨w', hw', rfl⟩)
          · rw [decide_eq_false q9]
            refine decide_eq_false fun z => q9 ?_
            obtain ⟨w', hw', e'⟩ := List.mem_map.mp z
            rw [← txt_inj e']
            exact List.mem_map_of_mem hw'
        rw [em]
        have s05 := s04.trans s5
        have cx5 := cx.same s05
        by_cases q9 : t ∈ st.ws.map Prod.fst
        · rw [decide_eq_true q9]
          exact ⟨_, rfl, iteT (no s05 (by rw [tt, if_neg fun z => z.2.2 q9]))⟩
        · rw [decide_eq_false q9]
          have n9 : ¬ (1000000000 : Int) < ((n : Nat) : Int) := c3
          rw [if_pos ⟨by omega, eo, q9⟩] at tt
          have so := takesThing_ok ro tt
          refine ⟨_, rfl, iteF ⟨_, rfl, p, _, dx, _, _, rfl, cx5.h1, T.K_CaseRows, T.N_CaseRows_wants, crF_wants .., .inl ⟨rfl, _, SqL.of cx5.h6⟩, _, rfl, _, _, _, _, rfl, rfl, SqL.of (s05 _ _ hq), rfl, _, rfl, (by show 2 ≤ sizeLine; decide), fun qn hqn => ?_⟩⟩
          dsimp only [optV]
          have uH6 := Same.upd (o := .tup [V.str (txt t), V.int ((n : Nat) : Int)]) hqn
          have eqn : (upd H5 qn (.tup [V.str (txt t), V.int ((n : Nat) : Int)])) qn = some (.tup [V.str (txt t), V.int ((n : Nat) : Int)]) := upd_same
          generalize upd H5 qn (.tup [V.str (txt t), V.int ((n : Nat) : Int)]) = H6 at uH6 eqn ⊢
          have cx6 := cx5.same uH6
          exact ⟨d, _, _, rfl, rfl, cx6.h6, small1000 (by have := ro.w20; omega), ks _ tt _ (cx6.putD (w := (t, ((n : Nat) : Int))) eqn so)⟩
end
end Dear

namespace Dear
open PySem PySem.Spec PyProof.Rows L2
/-- texts of one to eight small letters -/
def TxOk63 (t : List Nat) : Prop := (∀ c ∈ t, c ∈ letters.cps.toList) ∧ 1 ≤ t.length ∧ t.length ≤ 8
def spTexts63 : Sp := fun vs H Q _ => ∃ (l : Addr) (m : Nat), vs = [.ref l, .int (m : Nat)] ∧ Src H l ∧ m ≤ 20 ∧
  ∀ (p : Addr) (bk : List (List Nat)) (H' : Hp), H p = none → p ≠ l → But l H H' → Src H' l → H' p = some (.lst (vsT bk)) → bk.length = m → (∀ t ∈ bk, TxOk63 t) → Q (.ref p) H'
theorem Src.put {H : Hp} {l p : Addr} {o : HO} (S : Src H l) (n : p ≠ l) : Src (upd H p o) l := by
  obtain ⟨a, b, e, r⟩ := S
  exact ⟨a, b, by rw [upd_ne n.symm]; exact e, r⟩
theorem lett_at {r : Int} (r0 : 0 ≤ r) (r1 : r < 26) : ∃ c, c ∈ letters.cps.toList ∧ atI letters.cps.toList r = some c := by
  obtain ⟨n, rfl⟩ := Int.eq_ofNat_of_zero_le r0
  have h : n < 26 := by omega
  exact ⟨letN n, letN_mem h, letN_atI h⟩
theorem join_ones (cs : List Nat) : Txt.join "" (cs.map fun c => txt [c]) = txt cs := by
  have e := join_tl (cs.map fun c => txt [c])
  rw [List.map_map] at e
  have e2 : ((cs.map ((fun y : Str => y.cps.toList) ∘ fun c => txt [c])).flatten) = cs := by
    induction cs with
    | nil => rfl
    | cons c r ih =>
      have ih := ih (join_tl _ |>.trans (by rw [List.map_map]))
      rw [List.map_cons, List.flatten_cons, ih]
      rfl
  rw [e2] at e
  rw [txt_of (Txt.join "" (cs.map fun c => txt [c])), e]
section
variable {P : Program} {w : World} {K : PySem.W.Frag} {mg : Str → Option Value} {base : Heap}
set_option pp.maxSteps 3000
theorem o__law_texts (T : Txt K mg) : OkF P w K mg base CX0 2 "_law_texts" ["_law_pool_here", "_law_many"] spTexts63 := by
  have o__law_take := o__law_take (P := P) (w := w) (base := base) T
  refine T.f__law_texts.ok c__law_texts (fun vs H Q E h => ?_) (fun f cdv A outer s H vs Q E hr h => ?_)
  · obtain ⟨l, m, rfl, _⟩ := h
    rfl
  · obtain ⟨l, m, rfl, S, m20, k⟩ := h
    refine ⟨_, (pss_cons (ps_set (i := 2) c__law_texts.nd rfl (Or.inl rfl) (pe_lst pa_nil))
(pss_cons (ps_for PassesOwn.never rfl (pi_range1 (by rfl) T.b_range (pa_cons (pv 1) pa_nil)) (pg_name (i := 3) c__law_texts.nd rfl (Or.inl rfl))
(pss_cons (ps_set (i := 4) c__law_texts.nd rfl (Or.inr rfl) (pe_c o__law_take hr (pa_cons (pv 0) (pa_cons pe_int pa_nil))))
(pss_cons (ps_set (i := 5) c__law_texts.nd rfl (Or.inr rfl) (pe_c o__law_take hr (pa_cons (pv 0) (pa_cons pe_int pa_nil))))
(pss_cons (ps_set (i := 6) c__law_texts.nd rfl (Or.inl rfl) (pe_op op_add pe_int (pe_c o__law_take hr (pa_cons (pv 0) (pa_cons pe_int pa_nil)))))
(pss_one (ps_expr (pe_bm PySem.F.plainAttrs_list PySem.F.slot_list_append PySem.F.type_list_append mt_append (pv 2) (pa_cons (pe_join_k K pe_str (pe_lc (own := [("_law_j", 7)]) (g := gName 7) (tt := tYes) (by rfl) c__law_texts.nd (pi_range1 (by rfl) T.b_range (pa_cons (pv 6) pa_nil)) (blkOk_by (own := [("_law_j", 7)]) (N := n__law_texts) (sc := defScope s__law_texts) (by decide +kernel)) (fun _ _ _ _ _ => (pg_name (i := 7) c__law_texts.nd rfl (Or.inl rfl))) (fun _ _ _ _ _ => pts_nil) (fun _ _ _ _ _ => (pe_ix ix_str pe_str (pe_op op_mod (pe_op op_add (pv 4) (pe_op op_mul (pv 5) (pv 7))) pe_int) (fun _ _ => rfl))))) pa_nil))))))))
(pss_one (ps_ret (pv 2))))), ?_⟩
    refine ⟨(by show 0 ≤ sizeLine; decide), fun pB hpB => ?_⟩
    have e0 : ([] : List V) = vsT [] := rfl
    rw [e0]
    have npl : pB ≠ l := (S.ne hpB)
    have uH0 := Same.upd (o := .lst (vsT [])) hpB
    have epB : (upd H pB (.lst (vsT []))) pB = some (.lst (vsT [])) := upd_same
    generalize upd H pB (.lst (vsT [])) = H0 at uH0 epB ⊢
    refine ⟨_, rfl, _, rfl, by omega, by omega, for_range (lo := 0) (n := m) (fun j σ H' => But l H H' ∧ Src H' l ∧ ∃ (bk : List (List Nat)) (v3 v4 v5 v6 v7 : Option V), σ = [some (.ref l), some (.int (m : Nat)), some (.ref pB), v3, v4, v5, v6, none] ∧ H' pB = some (.lst (vsT bk)) ∧ bk.length = j ∧ (∀ t ∈ bk, TxOk63 t))
      ⟨.of uH0, S.same uH0, [], _, _, _, _, none, rfl, epB, rfl, fun _ h => nomatch h⟩ ?_ ?_⟩
    · rintro j σ H1 hj ⟨B1, S1, bk, v3, v4, v5, v6, v7, rfl, eB, lb, ob⟩
      refine ⟨_, rfl, l, 26, rfl, S1, by decide, log_le 26 (by decide), fun r1 H2 a0 a1 B2 S2 => ?_⟩
      refine ⟨_, rfl, l, 26, rfl, S2, by decide, log_le 26 (by decide), fun r2 H3 b0 b1 B3 S3 => ?_⟩
      refine ⟨_, rfl, l, 8, rfl, S3, by decide, log_le 8 (by decide), fun r3 H4 c0 c1 B4 S4 => ⟨_, _, rfl, rfl, ?_⟩⟩
      have B14 := B2.trans (B3.trans B4)
      have eB4 := B14 _ _ eB npl
      refine ⟨_, rfl, .inl ⟨rfl, _, SqL.of eB4⟩, ⟨_, rfl⟩, _, rfl, _, rfl, by omega, by omega, fun pD hD => lc_range (lo := 0) (n := (1 + r3).toNat) (fun i H' => Same H4 H' ∧ ∃ cs : List Nat, H' pD = some (.lst ((cs.map fun c => txt [c]).map V.str)) ∧ cs.length = i ∧ ∀ c ∈ cs, c ∈ letters.cps.toList) ⟨Same.upd hD, [], upd_same, rfl, fun _ h => nomatch h⟩ ?_ ?_⟩
      · rintro i H5 hi ⟨s5, cs, e5, l5, o5⟩
        have mn : 0 ≤ (r1 + r2 * (0 + (i : Nat))) % 26 := Int.emod_nonneg _ (by decide)
        have ml : (r1 + r2 * (0 + (i : Nat))) % 26 < 26 := Int.emod_lt_of_pos _ (by decide)
        obtain ⟨c, hc, hat⟩ := lett_at mn ml
        refine ⟨rfl, _, rfl, _, rfl, _, rfl, _, _, rfl, rfl, .inl ⟨by omega, by omega⟩, _, _, rfl, rfl, _, _, rfl, rfl, (by show (0 : Int) < 26; decide), _, _, c, rfl, rfl, (by decide +kernel), hat, _, e5, small1000 (by rw [List.length_map, List.length_map]; omega), ?_, cs ++ [c], ?_, by rw [List.length_append, l5]; rfl, fun c' hc' => ?_⟩
        · intro b o hb
          rw [upd_ne (ne_of_none hb hD)]
          exact s5 _ _ hb
        · rw [upd_same, List.map_append, List.map_append]
          rfl
        · rcases List.mem_append.mp hc' with hc' | hc'
          · exact o5 c' hc'
          · rw [List.mem_singleton] at hc'
            subst hc'
            exact hc
      rintro H5 ⟨s5, cs, e5, l5, o5⟩
      have l8 : cs.length ≤ 8 := by omega
      refine ⟨_, pD, cs.map fun c => txt [c], rfl, rfl, .inl (SqL.of e5), ?_, pB, _, _, rfl, rfl, s5 _ _ eB4, small1000 (by rw [vsT_lenC]; omega), ?_, ?_, bk ++ [cs], _, _, _, _, none, rfl, ?_, by rw [List.length_append, lb]; rfl, fun t ht => ?_⟩
      · have e9 : ((cs.map fun c => txt [c]).map (·.length)).sum ≤ cs.length := by
          clear e5 l5 o5 l8
          induction cs with
          | nil => exact Nat.le_refl _
          | cons c r ih =>
            rw [List.map_cons, List.map_cons, List.sum_cons]
            show (txt [c]).length + _ ≤ r.length + 1
            rw [txt_length]
            show 1 + _ ≤ r.length + 1
            omega
        rw [List.length_map, show ("" : Str).length = 0 by decide +kernel]
        omega
      · intro b o hb hne
        have h5 := s5 _ _ (B14 _ _ (B1 _ _ hb hne) hne)
        rw [upd_ne (ne_of_none hb hpB)]
        exact h5
      · exact (S4.same s5).put npl
      · rw [upd_same, join_ones, vsT_appW]
        rfl
      · rcases List.mem_append.mp ht with ht | ht
        · exact ob t ht
        · rw [List.mem_singleton] at ht
          subst ht
          exact ⟨o5, by omega, l8⟩
    · rintro σ H1 ⟨B1, S1, bk, v3, v4, v5, v6, v7, rfl, eB, lb, ob⟩
      exact ⟨_, rfl, k pB bk H1 hpB npl B1 S1 eB lb ob⟩
end
end Dear

namespace Dear
open PySem PySem.Spec PyProof.Rows L2
/-! ### the law's cases -/
structure CsD where
  d : D
  ds : List D
  cs : List Nat
  fs : List Nat
  zs : List Str
  i : Int
  ws : List (List Nat × Int)
  bk : Option (List (List Nat))
structure CsOk (C : CsD) : Prop where
  td : TgD C.d C.ds C.cs C.fs C.zs C.i
  wo : WsOk C.ws
  l1 : 1 ≤ C.ws.length
  l20 : C.ws.length ≤ 20
  bo : ∀ b, C.bk = some b → b.length = C.ws.length ∧ ∀ t ∈ b, TxOk63 t
/-- a case as it stands -/
def CsAt (H : Hp) (v : V) (C : CsD) : Prop := ∃ (p pw : Addr) (tv bv : V) (xs : List V) (H0 : Hp), v = .ref p ∧ H p = some (.tup [tv, .ref pw, bv]) ∧ TgAt H0 H tv C.ds C.cs C.fs C.zs C.i ∧ H pw = some (.lst xs) ∧ DtAll H xs (C.ws.map wantD) ∧ BkAt H bv C.bk
theorem CsAt.same {H H' : Hp} {v : V} {C : CsD} (h : CsAt H v C) (s : Same H H') : CsAt H' v C := by
  obtain ⟨p, pw, tv, bv, xs, H0, h1, h2, h3, h4, h5, h6⟩ := h
  exact ⟨p, pw, tv, bv, xs, H0, h1, s _ _ h2, h3.sm s, s _ _ h4, h5.same s, h6.same s⟩
def bkOD : Option (List (List Nat)) → D
  | none => .non
  | some b => .lst (b.map fun t => D.str (txt t))
def caseD (C : CsD) : D := .tup [C.d, .lst (C.ws.map wantD), bkOD C.bk]
theorem BkAt.dt {H : Hp} {v : V} {bk : Option (List (List Nat))} (h : BkAt H v bk) : Dt H v (bkOD bk) := by
  cases bk with
  | none =>
    have h : v = .non := h
    subst h
    exact .non
  | some b =>
    obtain ⟨p, rfl, h2, h3⟩ := h
    exact .lst h2 (dt_vsT b)
theorem CsAt.dt {H : Hp} {v : V} {C : CsD} (h : CsAt H v C) (o : CsOk C) : Dt H v (caseD C) := by
  obtain ⟨p, pw, tv, bv, xs, H0, rfl, h2, h3, h4, h5, h6⟩ := h
  exact .tup h2 (.cons (h3.dt o.td) (.cons (.lst h4 h5) (.cons h6.dt .nil)))
theorem TxOk63.asc {t : List Nat} (h : TxOk63 t) : Asc (txt t) := fun c hc => in_letters_asc (h.1 c (by rw [txt_list] at hc; exact hc))
theorem txts_facts {bk : List (List Nat)} (h : ∀ t ∈ bk, t.length ≤ 8 ∧ Asc (txt t)) : Ok (.lst (bk.map fun t => D.str (txt t))) ∧ NoD (.lst (bk.map fun t => D.str (txt t))) ∧ dep (.lst (bk.map fun t => D.str (txt t))) ≤ 1 := by
  induction bk with
  | nil => exact ⟨trivial, trivial, Nat.le_refl _⟩
  | cons t r ih =>
    obtain ⟨h1, h2, h3⟩ := ih fun t ht => h t (List.mem_cons_of_mem _ ht)
    have ht := h t List.mem_cons_self
    refine ⟨⟨⟨by rw [txt_length]; omega, ht.2⟩, h1⟩, ⟨trivial, h2⟩, ?_⟩
    have h3 : depAll (r.map fun t => D.str (txt t)) + 1 ≤ 1 := h3
    show max 0 (depAll (r.map fun t => D.str (txt t))) + 1 ≤ 1
    omega
theorem CsOk.facts {C : CsD} (o : CsOk C) : Ok (caseD C) ∧ NoD (caseD C) ∧ dep (caseD C) ≤ 64 := by
  have fW := wants_facts o.wo.all
  have wd := wants_dep (ws := C.ws)
  have d4 := o.td.dep4
  have fB : Ok (bkOD C.bk) ∧ NoD (bkOD C.bk) ∧ dep (bkOD C.bk) ≤ 1 := by
    cases e : C.bk with
    | none => exact ⟨trivial, trivial, Nat.zero_le _⟩
    | some b => exact txts_facts fun t ht => ⟨((o.bo b e).2 t ht).2.2, ((o.bo b e).2 t ht).asc⟩
  refine ⟨⟨o.td.ok, fW.1, fB.1, trivial⟩, ⟨o.td.flat.2, fW.2.1, fB.2.1, trivial⟩, ?_⟩
  show max (dep C.d) (max (dep (.lst (C.ws.map wantD))) (max (dep (bkOD C.bk)) 0)) + 1 ≤ 64
  have := fB.2.2
  omega
def spCase63 (K : PySem.W.Frag) : Sp := fun vs H Q _ => ∃ (a : Addr) (ns : List Int), vs = [.ref a, .int 20] ∧ SqL K H a (ns.map V.int) ∧ ∀ (v : V) (C : CsD) (H' : Hp), Same H H' → CsAt H' v C → CsOk C → Q v H'
def spRows63 : Sp := fun vs H Q _ => ∃ (v : V) (C : CsD), vs = [v] ∧ CsAt H v C ∧ CsOk C ∧ ∀ (q : Addr) (H' : Hp), Same H H' → H' q = some (.lst (vsT (rowsC C.ds C.fs C.zs C.i C.ws C.bk))) → Q (.ref q) H'
/-- a copy: all its lists are new and unlike -/
structure CsNew (H H' : Hp) (p : Addr) (C : CsD) : Prop where
  ex : ∃ (pt a b c pw : Addr) (bv : V) (xs ys : List V), H' p = some (.tup [.ref pt, .ref pw, bv]) ∧ H' pt = some (.tup [.ref a, .ref b, .ref c, .int C.i]) ∧ H' a = some (.lst xs) ∧ DtAll H' xs C.ds ∧ H' b = some (.lst ((C.fs.map sgn).map V.str)) ∧ H' c = some (.lst (C.zs.map V.str)) ∧ H' pw = some (.lst ys) ∧ DtAll H' ys (C.ws.map wantD) ∧
    H a = none ∧ H b = none ∧ H c = none ∧ H pw = none ∧ a ≠ b ∧ a ≠ c ∧ b ≠ c ∧ a ≠ pw ∧ b ≠ pw ∧ c ≠ pw ∧
    match C.bk with
    | none => bv = .non
    | some bb => ∃ pb : Addr, bv = .ref pb ∧ H' pb = some (.lst (vsT bb)) ∧ H pb = none ∧ a ≠ pb ∧ b ≠ pb ∧ c ≠ pb ∧ pw ≠ pb
theorem CsNew.at {H H' : Hp} {p : Addr} {C : CsD} (h : CsNew H H' p C) (o : CsOk C) : CsAt H' (.ref p) C := by
  obtain ⟨pt, a, b, c, pw, bv, xs, ys, h1, h2, h3, h4, h5, h6, h7, h8, n1, n2, n3, n4, m1, m2, m3, m4, m5, m6, hb⟩ := h.ex
  refine ⟨p, pw, .ref pt, bv, ys, fun _ => none, rfl, h1, ⟨pt, a, b, c, xs, rfl, h2, h3, h4, h5, h6, rfl, rfl, rfl, rfl, m1, m2, m3⟩, h7, h8, ?_⟩
  cases e : C.bk with
  | none => rw [e] at hb; exact hb
  | some bb =>
    rw [e] at hb
    obtain ⟨pb, rfl, q, _⟩ := hb
    have l20 := o.l20
    exact ⟨pb, rfl, q, by rw [(o.bo bb e).1]; exact l20, fun t ht => ((o.bo bb e).2 t ht).2.2⟩
def spCopy63 : Sp := fun vs H Q _ => ∃ (v : V) (C : CsD), vs = [v] ∧ CsAt H v C ∧ CsOk C ∧ ∀ (p : Addr) (H' : Hp), Same H H' → CsNew H H' p C → Q (.ref p) H'
section
variable {P : Program} {w : World} {K : PySem.W.Frag} {mg : Str → Option Value} {base : Heap}
set_option pp.maxSteps 3000
theorem o__law_fraction (T : Txt K mg) : OkF P w K mg base CX0 1 "_law_fraction" ["_law_one"] spShow := by
  refine T.f__law_fraction.ok c__law_fraction (fun vs H Q E h => ?_) (fun f cdv A outer s H vs Q E hr h => ?_)
  · obtain ⟨p, t, b, rfl, _⟩ := h
    rfl
  · obtain ⟨p, t, b, rfl, hp, b0, ht, hb, k⟩ := h
    refine ⟨_, (pss_cons (ps_if (pt_cmpR op_eq (pe_ix (ix_tup_k K) (pv 0) pe_int (fun _ _ => rfl)) pe_int (nomark _))
(pss_one (ps_ret (pe_callTy call_str_int (by rfl) T.b_str (by decide +kernel) (pa_cons (pe_ix (ix_tup_k K) (pv 0) pe_int (fun _ _ => rfl)) pa_nil))))
pss_nil)
(pss_one (ps_ret (pe_op op_add_str (pe_op op_add_str (pe_callTy call_str_int (by rfl) T.b_str (by decide +kernel) (pa_cons (pe_ix (ix_tup_k K) (pv 0) pe_int (fun _ _ => rfl)) pa_nil)) pe_str) (pe_callTy call_str_int (by rfl) T.b_str (by decide +kernel) (pa_cons (pe_ix (ix_tup_k K) (pv 0) pe_int (fun _ _ => rfl)) pa_nil)))))), ?_⟩
    have lt : t.natAbs.log2 < 1920 := Nat.lt_of_lt_of_le (PySem.Flt.log2_lt_of (by decide) ht) (by decide)
    have lb : b.natAbs.log2 < 1920 := Nat.lt_of_lt_of_le (PySem.Flt.log2_lt_of (by decide) hb) (by decide)
    have e1 := str_int (t := t)
    have e2 := str_int (t := b)
    rw [if_neg (by omega), List.nil_append] at e2
    have l1 := fig_len250 ht
    have l2 := fig_len250 hb
    have l3 : ((if t < 0 then [45] else ([] : List Nat)) ++ figL t.natAbs).length ≤ 101 := by
      rw [List.length_append]
      split
      · show 1 + _ ≤ 101
        omega
      · show 0 + _ ≤ 101
        omega
    refine ⟨_, rfl, _, _, _, _, rfl, rfl, SqT.of hp, rfl, rfl, _, rfl, itd (fun e => ?_) fun e => ?_⟩
    · have e : b = 1 := by injection e
      refine ⟨_, rfl, _, _, _, _, rfl, rfl, SqT.of hp, rfl, t, rfl, lt, ?_⟩
      have k : Q (.str (txt ((if t < 0 then [45] else []) ++ figL t.natAbs ++ (if b = 1 then [] else 47 :: figL b.natAbs)))) H := k
      rw [if_pos e, List.append_nil, ← e1] at k
      exact k
    · have e : ¬ b = 1 := fun z => e (by rw [z])
      have k : Q (.str (txt ((if t < 0 then [45] else []) ++ figL t.natAbs ++ (if b = 1 then [] else 47 :: figL b.natAbs)))) H := k
      rw [if_neg e] at k
      refine ⟨_, rfl, _, _, _, _, rfl, rfl, SqT.of hp, rfl, t, rfl, lt, ?_⟩
      rw [show (toString t : Str) = txt ((if t < 0 then [45] else []) ++ figL t.natAbs) from e1]
      have z1 : ("/" : Str) = txt [47] := by decide +kernel
      rw [z1]
      refine ⟨_, _, rfl, rfl, by rw [txt_length, txt_length]; exact sz_lit (by show _ + 1 ≤ 1000; omega), ?_⟩
      refine ⟨_, rfl, _, _, _, _, rfl, rfl, SqT.of hp, rfl, b, rfl, lb, ?_⟩
      rw [show (toString b : Str) = txt (figL b.natAbs) from e2, txt_app]
      refine ⟨_, _, rfl, rfl, by rw [txt_length, txt_length, List.length_append]; exact sz_lit (by show _ + 1 + _ ≤ 1000; omega), ?_⟩
      rw [txt_app, List.append_assoc]
      exact k
end
end Dear

namespace Dear
open PySem PySem.Spec PyProof.Rows L2
section
variable {P : Program} {w : World} {K : PySem.W.Frag} {mg : Str → Option Value} {base : Heap}
set_option pp.maxSteps 3000
theorem o__law_rows (T : Txt K mg) : OkF P w K mg base CX0 2 "_law_rows" ["_law_case_here"] spRows63 := by
  have o__law_fraction := o__law_fraction (P := P) (w := w) (base := base) T
  refine T.f__law_rows.ok c__law_rows (fun vs H Q E h => ?_) (fun f cdv A outer s H vs Q E hr h => ?_)
  · obtain ⟨v, C, rfl, _⟩ := h
    rfl
  · obtain ⟨v, C, rfl, ca, co, k⟩ := h
    refine ⟨_, (pss_cons (ps_asg (pv 0) (pg_tup_k K (n := 3) rfl (pgs_cons (pg_name (i := 1) c__law_rows.nd rfl (Or.inl rfl)) (pgs_cons (pg_name (i := 2) c__law_rows.nd rfl (Or.inl rfl)) (pgs_cons (pg_name (i := 3) c__law_rows.nd rfl (Or.inl rfl)) pgs_nil)))))
(pss_cons (ps_set (i := 4) c__law_rows.nd rfl (Or.inl rfl) (pe_lst pa_nil))
(pss_cons (ps_for PassesOwn.never rfl (pi_list_k K (pe_ix (ix_tup_k K) (pv 1) pe_int (fun _ _ => rfl))) (pg_tup_k K (n := 3) rfl (pgs_cons (pg_name (i := 5) c__law_rows.nd rfl (Or.inl rfl)) (pgs_cons (pg_name (i := 6) c__law_rows.nd rfl (Or.inl rfl)) (pgs_cons (pg_name (i := 7) c__law_rows.nd rfl (Or.inl rfl)) pgs_nil))))
(pss_cons (ps_set (i := 8) c__law_rows.nd rfl (Or.inl rfl) (pe_op op_add_str (pe_op op_add_str (pe_op op_add_str (pe_op op_add_str pe_str (pv 5)) pe_str) (pe_c o__law_fraction hr (pa_cons (pv 6) pa_nil))) pe_str))
(pss_one (ps_if (pt_cmpR op_isN (pv 7) pe_non (nomark _))
(pss_one (ps_expr (pe_bm PySem.F.plainAttrs_list PySem.F.slot_list_append PySem.F.type_list_append mt_append (pv 4) (pa_cons (pe_op op_add_str (pv 8) pe_str) pa_nil))))
(pss_one (ps_expr (pe_bm PySem.F.plainAttrs_list PySem.F.slot_list_append PySem.F.type_list_append mt_append (pv 4) (pa_cons (pe_op op_add_str (pv 8) (pe_c o__law_fraction hr (pa_cons (pv 7) pa_nil))) pa_nil))))))))
(pss_cons (ps_set (i := 4) c__law_rows.nd rfl (Or.inl rfl) (pe_op op_cat (pe_op op_cat (pv 4) (pe_lc (own := [("_law_sign", 5)]) (g := gName 5) (tt := tYes) (by rfl) c__law_rows.nd (pi_list_k K (pe_ix (ix_tup_k K) (pv 1) pe_int (fun _ _ => rfl))) (blkOk_by (own := [("_law_sign", 5)]) (N := n__law_rows) (sc := defScope s__law_rows) (by decide +kernel)) (fun _ _ _ _ _ => (pg_name (i := 5) c__law_rows.nd rfl (Or.inl rfl))) (fun _ _ _ _ _ => pts_nil) (fun _ _ _ _ _ => (pe_op op_add_str pe_str (pv 5))))) (pe_lc (own := [("_law_pair", 9)]) (g := gName 9) (tt := tYes) (by rfl) c__law_rows.nd (pi_list_k K (pe_ix (ix_tup_k K) (pv 1) pe_int (fun _ _ => rfl))) (blkOk_by (own := [("_law_pair", 9)]) (N := n__law_rows) (sc := defScope s__law_rows) (by decide +kernel)) (fun _ _ _ _ _ => (pg_name (i := 9) c__law_rows.nd rfl (Or.inl rfl))) (fun _ _ _ _ _ => pts_nil) (fun _ _ _ _ _ => (pe_op op_add_str pe_str (pv 9))))))
(pss_cons (ps_expr (pe_bm PySem.F.plainAttrs_list PySem.F.slot_list_append PySem.F.type_list_append mt_append (pv 4) (pa_cons (pe_op op_add_str pe_str (pe_callTy call_str_int (by rfl) T.b_str (by decide +kernel) (pa_cons (pe_ix (ix_tup_k K) (pv 1) pe_int (fun _ _ => rfl)) pa_nil))) pa_nil)))
(pss_cons (ps_set (i := 4) c__law_rows.nd rfl (Or.inl rfl) (pe_op op_cat (pv 4) (pe_lc (own := [("_law_want", 10)]) (g := gName 10) (tt := tYes) (by rfl) c__law_rows.nd (pi_list_k K (pv 2)) (blkOk_by (own := [("_law_want", 10)]) (N := n__law_rows) (sc := defScope s__law_rows) (by decide +kernel)) (fun _ _ _ _ _ => (pg_name (i := 10) c__law_rows.nd rfl (Or.inl rfl))) (fun _ _ _ _ _ => pts_nil) (fun _ _ _ _ _ => (pe_op op_add_str (pe_op op_add_str (pe_op op_add_str pe_str (pe_ix (ix_tup_k K) (pv 10) pe_int (fun _ _ => rfl))) pe_str) (pe_callTy call_str_int (by rfl) T.b_str (by decide +kernel) (pa_cons (pe_ix (ix_tup_k K) (pv 10) pe_int (fun _ _ => rfl)) pa_nil)))))))
(C8.pss_cut (ps_if (pt_cmpR op_notN (pv 3) pe_non (nomark _))
(pss_one (ps_set (i := 4) c__law_rows.nd rfl (Or.inl rfl) (pe_op op_cat (pv 4) (pe_lc (own := [("_law_text", 11)]) (g := gName 11) (tt := tYes) (by rfl) c__law_rows.nd (pi_list_k K (pv 3)) (blkOk_by (own := [("_law_text", 11)]) (N := n__law_rows) (sc := defScope s__law_rows) (by decide +kernel)) (fun _ _ _ _ _ => (pg_name (i := 11) c__law_rows.nd rfl (Or.inl rfl))) (fun _ _ _ _ _ => pts_nil) (fun _ _ _ _ _ => (pe_op op_add_str pe_str (pv 11)))))))
pss_nil)
(pss_one (ps_ret (pv 4)))))))))), ?_⟩
    obtain ⟨p, pw, tv, bv, wx, H0, rfl, hp, ta, hw, hall, hbk⟩ := ca
    obtain ⟨pt, a, b1, c1, ys, rfl, h1, h2, h3, h4, h5, _⟩ := ta.ex
    have td := co.td
    have lc : C.ds.length = C.cs.length := td.sg.facts.2.2.2.2.1
    have l6 := td.l6
    have lf := td.fs6
    have lz := td.zs36
    have ly : ys.length = C.ds.length := h3.length
    have i1 := td.i1
    have i8 := td.i8
    have l20 := co.l20
    refine ⟨_, rfl, p, _, rfl, SqT.of hp, rfl, _, _, rfl, _, _, rfl, _, _, rfl, rfl, ?_⟩
    refine ⟨(by show 0 ≤ sizeLine; decide), fun pA hpA => ?_⟩
    have e0 : ([] : List V) = vsT [] := rfl
    rw [e0]
    have uH1 := Same.upd (o := .lst (vsT [])) hpA
    have epA : (upd H pA (.lst (vsT []))) pA = some (.lst (vsT [])) := upd_same
    generalize upd H pA (.lst (vsT [])) = H1 at uH1 epA ⊢
    refine ⟨_, rfl, _, _, _, _, rfl, rfl, SqT.of (uH1 _ _ h1), rfl, a, rfl, ⟨_, SqL.of (uH1 _ _ h2)⟩, for_list (K := K) (a := a) (xs := ys) (fun j σ H' => Same H H' ∧ ∃ (v5 v6 v7 v8 : Option V), σ = [some (.ref p), some (.ref pt), some (.ref pw), some bv, some (.ref pA), v5, v6, v7, v8, none, none, none] ∧ H' pA = some (.lst (vsT ((C.ds.take j).map signRow))))
      ⟨uH1, _, _, _, _, rfl, epA⟩ (fun j σ H' _ h => SqL.of (h.1 _ _ h2)) ?_ ?_⟩
    · rintro j x σ H2 hx ⟨s2, v5, v6, v7, v8, rfl, e2⟩
      obtain ⟨dj, hdj, dx⟩ := h3.get hx
      obtain ⟨c, hc, sd⟩ := td.sg.get hdj
      have rl := row_len sd
      obtain ⟨q, pa, t, b, l, lv, rfl, hq, rfl, hpa, dl, pr, ll⟩ := sign_at (dx.same s2) sd
      have h8 := frac_len pr
      have h9 := last_len ll
      obtain ⟨p1, p2, p3⟩ := pr.s250
      have jl := (List.getElem?_eq_some_iff.mp hdj).1
      refine ⟨q, _, rfl, SqT.of hq, rfl, _, _, rfl, _, _, rfl, _, _, rfl, rfl, ?_⟩
      refine ⟨_, rfl, _, _, rfl, rfl, (by decide +kernel : ("sign " : Str).length + 1 ≤ sizeLine), ?_⟩
      rw [kSign_eq, sgn_txt, txt_app, k32_eq]
      refine ⟨_, _, rfl, rfl, (by rw [txt_length, txt_length]; exact (by decide : 6 + 1 ≤ sizeLine)), ?_⟩
      rw [txt_app]
      refine ⟨_, rfl, pa, t, b, rfl, hpa, p1, p2, p3, _, _, rfl, rfl, by rw [txt_length, txt_length]; exact sz_lit (by show 7 + _ ≤ 1000; omega), ?_⟩
      rw [txt_app]
      refine ⟨_, _, rfl, rfl, by rw [txt_length, txt_length, List.length_append]; exact sz_lit (by show 7 + _ + 1 ≤ 1000; omega), ?_⟩
      rw [txt_app]
      have fin : ∀ {r : List Nat}, r = signRow (.tup [.str (sgn c), .tup [.int t, .int b], l]) → Same H (upd H2 pA (.lst (vsT ((C.ds.take j).map signRow) ++ [V.str (txt r)]))) ∧ (upd H2 pA (.lst (vsT ((C.ds.take j).map signRow) ++ [V.str (txt r)]))) pA = some (.lst (vsT ((C.ds.take (j + 1)).map signRow))) := fun {r} er => by
        subst er
        refine ⟨fun b' o hb => ?_, ?_⟩
        · rw [upd_ne (ne_of_none hb hpA)]
          exact s2 _ _ hb
        · rw [upd_same, take_more hdj, List.map_append, vsT_appW]
          rfl
      have sm : (vsT ((C.ds.take j).map signRow)).length < sizeLine := small1000 (by rw [vsT_lenC, List.length_map, List.length_take]; omega)
      rcases last_at dl ll with ⟨rfl, rfl⟩ | ⟨ql, t2, b2, rfl, rfl, hql, pr2⟩
      · refine ⟨_, rfl, rfl, _, rfl, iteT ⟨_, rfl, .inl ⟨rfl, _, SqL.of e2⟩, _, rfl, _, _, rfl, rfl, ?_, pA, _, _, rfl, rfl, e2, sm, ?_⟩⟩
        · rw [k45_eq, txt_length, txt_length, List.length_append, List.length_append]
          exact sz_lit (by show 7 + _ + 1 + 1 ≤ 1000; omega)
        · rw [k45_eq, txt_app]
          obtain ⟨f1, f2⟩ := fin (r := kSign ++ [c] ++ [32] ++ fracL t b ++ [32] ++ [45]) rfl
          exact ⟨f1, _, _, _, _, rfl, f2⟩
      · obtain ⟨q1, q2, q3⟩ := pr2.s250
        have h10 := frac_len pr2
        refine ⟨_, rfl, rfl, _, rfl, iteF ⟨_, rfl, .inl ⟨rfl, _, SqL.of e2⟩, _, rfl, _, rfl, ql, t2, b2, rfl, hql, q1, q2, q3, _, _, rfl, rfl, ?_, pA, _, _, rfl, rfl, e2, sm, ?_⟩⟩
        · rw [txt_length, txt_length, List.length_append, List.length_append]
          exact sz_lit (by show 7 + _ + 1 + _ ≤ 1000; omega)
        · rw [txt_app]
          obtain ⟨f1, f2⟩ := fin (r := kSign ++ [c] ++ [32] ++ fracL t b ++ [32] ++ fracL t2 b2) rfl
          exact ⟨f1, _, _, _, _, rfl, f2⟩
    rintro σ H3 ⟨s3, v5, v6, v7, v8, rfl, e3⟩
    rw [ly, List.take_length] at e3
    have h43 := s3 _ _ h4
    have h53 := s3 _ _ h5
    refine ⟨_, rfl, _, rfl, _, _, _, _, rfl, rfl, SqT.of (s3 _ _ h1), rfl, b1, rfl, ⟨_, SqL.of h43⟩, fun pB hB => lc_list (K := K) (a := b1) (xs := (C.fs.map sgn).map V.str) (fun j H' => Same H3 H' ∧ H' pB = some (.lst (vsT ((C.fs.take j).map firstRow)))) ⟨Same.upd hB, upd_same⟩ (fun j H' _ e => SqL.of (e.1 _ _ h43)) ?_ ?_⟩
    · rintro j x H' hx ⟨sj, ej⟩
      rw [List.getElem?_map, List.getElem?_map] at hx
      obtain ⟨c, hc, rfl⟩ : ∃ c, C.fs[j]? = some c ∧ x = .str (sgn c) := by
        cases q9 : C.fs[j]? with
        | none => rw [q9] at hx; cases hx
        | some c => rw [q9] at hx; exact ⟨c, rfl, (Option.some.inj hx).symm⟩
      refine ⟨rfl, _, rfl, _, _, rfl, rfl, (by decide +kernel : ("first " : Str).length + 1 ≤ sizeLine), ?_⟩
      have := row_step (r := firstRow c) hB sj ej (by rw [List.length_map, List.length_take]; omega)
      rw [take_more hc, List.map_append, kFirst_eq, sgn_txt, txt_app]
      exact this
    rintro H4 ⟨s4, e4⟩
    rw [List.length_map, List.length_map, List.take_length] at e4
    have e34 := s4 _ _ e3
    refine ⟨pA, pB, _, _, rfl, rfl, e34, e4, sz_lit (by rw [vsT_lenC, vsT_lenC, List.length_map, List.length_map]; omega), fun pC hpC => ?_⟩
    rw [← vsT_appW]
    have uH5 := Same.upd (o := .lst (vsT (C.ds.map signRow ++ C.fs.map firstRow))) hpC
    have epC : (upd H4 pC (.lst (vsT (C.ds.map signRow ++ C.fs.map firstRow)))) pC = some (.lst (vsT (C.ds.map signRow ++ C.fs.map firstRow))) := upd_same
    generalize upd H4 pC (.lst (vsT (C.ds.map signRow ++ C.fs.map firstRow))) = H5 at uH5 epC ⊢
    have s45 := s4.trans uH5
    have h55 := s45 _ _ h53
    refine ⟨_, rfl, _, _, _, _, rfl, rfl, SqT.of (s45 _ _ (s3 _ _ h1)), rfl, c1, rfl, ⟨_, SqL.of h55⟩, fun pD hD => lc_list (K := K) (a := c1) (xs := C.zs.map V.str) (fun j H' => Same H5 H' ∧ H' pD = some (.lst (vsT ((C.zs.take j).map pairRow)))) ⟨Same.upd hD, upd_same⟩ (fun j H' _ e => SqL.of (e.1 _ _ h55)) ?_ ?_⟩
    · rintro j x H' hx ⟨sj, ej⟩
      rw [List.getElem?_map] at hx
      obtain ⟨z, hz, rfl⟩ : ∃ z, C.zs[j]? = some z ∧ x = .str z := by
        cases q9 : C.zs[j]? with
        | none => rw [q9] at hx; cases hx
        | some c => rw [q9] at hx; exact ⟨c, rfl, (Option.some.inj hx).symm⟩
      obtain ⟨a', _, b', _, ez⟩ := td.po.of z (List.mem_of_getElem? hz)
      have lz2 : z.length = 2 := by rw [ez]; exact pairs_len
      refine ⟨rfl, _, rfl, _, _, rfl, rfl, by rw [lz2]; decide +kernel, ?_⟩
      have := row_step (r := pairRow z) hD sj ej (by rw [List.length_map, List.length_take]; omega)
      rw [take_more hz, List.map_append]
      have er : ("pair " : Str) ++ z = txt (pairRow z) := by
        have h9 := txt_app kPair z.cps.toList
        rw [← txt_of z, ← kPair_eq] at h9
        exact h9
      rw [er]
      exact this
    rintro H6 ⟨s6, e6⟩
    rw [List.length_map, List.take_length] at e6
    have e56 := s6 _ _ epC
    refine ⟨pC, pD, _, _, rfl, rfl, e56, e6, sz_lit (by rw [vsT_lenC, vsT_lenC, List.length_append, List.length_map, List.length_map, List.length_map]; omega), fun pE hpE => ?_⟩
    rw [← vsT_appW]
    have uH7 := Same.upd (o := .lst (vsT (C.ds.map signRow ++ C.fs.map firstRow ++ C.zs.map pairRow))) hpE
    have epE : (upd H6 pE (.lst (vsT (C.ds.map signRow ++ C.fs.map firstRow ++ C.zs.map pairRow)))) pE = some (.lst (vsT (C.ds.map signRow ++ C.fs.map firstRow ++ C.zs.map pairRow))) := upd_same
    generalize upd H6 pE (.lst (vsT (C.ds.map signRow ++ C.fs.map firstRow ++ C.zs.map pairRow))) = H7 at uH7 epE ⊢
    have s07 : Same H H7 := s3.trans (s45.trans (s6.trans uH7))
    -- longest
    have fl := fig_len9 (i := C.i) (by omega) (by omega)
    refine ⟨_, rfl, .inl ⟨rfl, _, SqL.of epE⟩, _, rfl, _, _, _, _, rfl, rfl, SqT.of (s07 _ _ h1), rfl, C.i, rfl, pos_log (by omega) (by omega), ?_⟩
    rw [pos_txt (by omega : (0 : Int) ≤ C.i), kLong_eq]
    refine ⟨_, _, rfl, rfl, by rw [txt_length, txt_length]; exact sz_lit (by show 8 + _ ≤ 1000; omega), pE, _, _, rfl, rfl, epE, small1000 (by rw [vsT_lenC, List.length_append, List.length_append, List.length_map, List.length_map, List.length_map]; omega), ?_⟩
    rw [txt_app, show kLong ++ figL C.i.natAbs = longRow C.i from rfl, vsT_one, ← vsT_appW]
    have hE0 : H pE = none := same_none (s3.trans (s45.trans s6)) hpE
    have s08 : Same H (upd H7 pE (.lst (vsT (C.ds.map signRow ++ C.fs.map firstRow ++ C.zs.map pairRow ++ [longRow C.i])))) := fun b o hb => by
      rw [upd_ne (ne_of_none hb hE0)]
      exact s07 _ _ hb
    have e8 : (upd H7 pE (.lst (vsT (C.ds.map signRow ++ C.fs.map firstRow ++ C.zs.map pairRow ++ [longRow C.i])))) pE = some (.lst (vsT (C.ds.map signRow ++ C.fs.map firstRow ++ C.zs.map pairRow ++ [longRow C.i]))) := upd_same
    generalize upd H7 pE (.lst (vsT (C.ds.map signRow ++ C.fs.map firstRow ++ C.zs.map pairRow ++ [longRow C.i]))) = H9 at s08 e8 ⊢
    have hw9 := s08 _ _ hw
    have hall9 := hall.same s08
    have lx : wx.length = C.ws.length := by rw [hall.length, List.length_map]
    refine ⟨_, rfl, _, rfl, pw, rfl, ⟨_, SqL.of hw9⟩, fun pI hI => lc_list (K := K) (a := pw) (xs := wx) (fun j H' => Same H9 H' ∧ H' pI = some (.lst (vsT ((C.ws.take j).map thingRow)))) ⟨Same.upd hI, upd_same⟩ (fun j H' _ e => SqL.of (e.1 _ _ hw9)) ?_ ?_⟩
    · rintro j x H' hx ⟨sj, ej⟩
      obtain ⟨wj, hwj, t, rfl, ht⟩ := want_at' hall9 hx
      have okw := co.wo.all wj (List.mem_of_getElem? hwj)
      have n8 := okw.n8
      have f9 := fig_len9 okw.c0 okw.c9
      refine ⟨rfl, _, rfl, _, _, _, _, rfl, rfl, SqT.of (sj _ _ ht), rfl, ?_⟩
      rw [kThing_eq]
      refine ⟨_, _, rfl, rfl, by rw [txt_length, txt_length]; exact sz_lit (by show 6 + _ ≤ 1000; omega), ?_⟩
      rw [txt_app, k32_eq]
      refine ⟨_, _, rfl, rfl, by rw [txt_length, txt_length, List.length_append]; exact sz_lit (by show 6 + _ + 1 ≤ 1000; omega), ?_⟩
      rw [txt_app]
      refine ⟨_, rfl, _, _, _, _, rfl, rfl, SqT.of (sj _ _ ht), rfl, wj.2, rfl, pos_log okw.c0 okw.c9, ?_⟩
      rw [pos_txt okw.c0]
      refine ⟨_, _, rfl, rfl, by rw [txt_length, txt_length, List.length_append, List.length_append]; exact sz_lit (by show 6 + _ + 1 + _ ≤ 1000; omega), ?_⟩
      rw [txt_app]
      have := row_step (r := thingRow wj) hI sj ej (by rw [List.length_map, List.length_take]; omega)
      rw [take_more hwj, List.map_append]
      exact this
    rintro H10 ⟨s10, e10⟩
    rw [lx, List.take_length] at e10
    have e810 := s10 _ _ e8
    refine ⟨pE, pI, _, _, rfl, rfl, e810, e10, sz_lit (by rw [vsT_lenC, vsT_lenC, List.length_append, List.length_append, List.length_append, List.length_map, List.length_map, List.length_map, List.length_map]; show _ + _ + _ + 1 + _ ≤ 1000; omega), fun pJ hpJ => ?_⟩
    rw [← vsT_appW]
    have uH11 := Same.upd (o := .lst (vsT (C.ds.map signRow ++ C.fs.map firstRow ++ C.zs.map pairRow ++ [longRow C.i] ++ C.ws.map thingRow))) hpJ
    have epJ : (upd H10 pJ (.lst (vsT (C.ds.map signRow ++ C.fs.map firstRow ++ C.zs.map pairRow ++ [longRow C.i] ++ C.ws.map thingRow)))) pJ = some (.lst (vsT (C.ds.map signRow ++ C.fs.map firstRow ++ C.zs.map pairRow ++ [longRow C.i] ++ C.ws.map thingRow))) := upd_same
    generalize upd H10 pJ (.lst (vsT (C.ds.map signRow ++ C.fs.map firstRow ++ C.zs.map pairRow ++ [longRow C.i] ++ C.ws.map thingRow))) = H11 at uH11 epJ ⊢
    have s011 : Same H H11 := s08.trans (s10.trans uH11)
    have rl := rows_len td co.wo.all l20 (fun b' e' => ⟨by rw [(co.bo b' e').1]; exact l20, fun t ht => ((co.bo b' e').2 t ht).2.2⟩)
    refine ⟨fun σ' H' => Same H11 H' ∧ ∃ q : Addr, σ'[4]? = some (some (.ref q)) ∧ H' q = some (.lst (vsT (rowsC C.ds C.fs C.zs C.i C.ws C.bk))), ?_, ?_⟩
    · cases ebk : C.bk with
      | none =>
        rw [ebk] at hbk
        have hbk : bv = .non := hbk
        subst hbk
        refine ⟨_, rfl, rfl, _, rfl, iteF ⟨Same.refl _, pJ, rfl, ?_⟩⟩
        unfold rowsC
        rw [show bookRows none = [] from rfl, List.append_nil]
        exact epJ
      | some bb =>
        rw [ebk] at hbk rl
        obtain ⟨pb, rfl, hpb, b20, b8⟩ := hbk
        have hpb11 := s011 _ _ hpb
        refine ⟨_, rfl, rfl, _, rfl, iteT ⟨_, rfl, _, rfl, pb, rfl, ⟨_, SqL.of hpb11⟩, fun pK hK => lc_list (K := K) (a := pb) (xs := vsT bb) (fun j H' => Same H11 H' ∧ H' pK = some (.lst (vsT ((bb.take j).map wordRow)))) ⟨Same.upd hK, upd_same⟩ (fun j H' _ e => SqL.of (e.1 _ _ hpb11)) ?_ ?_⟩⟩
        · rintro j x H' hx ⟨sj, ej⟩
          obtain ⟨t, ht, rfl⟩ := vsT_get hx
          have t8 := b8 t (List.mem_of_getElem? ht)
          refine ⟨rfl, _, rfl, _, _, rfl, rfl, ?_, ?_⟩
          · rw [kWord_eq, txt_length, txt_length]
            exact sz_lit (by show 5 + _ ≤ 1000; omega)
          have := row_step (r := wordRow t) hK sj ej (by rw [List.length_map, List.length_take]; omega)
          rw [take_more ht, List.map_append, kWord_eq, txt_app]
          exact this
        rintro H12 ⟨s12, e12⟩
        rw [vsT_lenC, List.take_length] at e12
        have epJ12 := s12 _ _ epJ
        refine ⟨pJ, pK, _, _, rfl, rfl, epJ12, e12, ?_, fun pL hpL => ?_⟩
        · have := rl.1
          unfold rowsC at this
          rw [List.length_append] at this
          rw [vsT_lenC, vsT_lenC]
          exact sz_lit (Nat.le_trans this (by decide))
        rw [← vsT_appW]
        exact ⟨s12.trans (Same.upd hpL), pL, rfl, upd_same⟩
    rintro σ' H12 ⟨s12, q, hσ, e12⟩
    exact ⟨_, hσ, k q H12 (s011.trans s12) e12⟩
theorem o__law_case (T : Txt K mg) : OkF P w K mg base CX0 4 "_law_case" ["_law_script", "_law_most_things"] (spCase63 K) := by
  have o__law_pool := o__law_pool (P := P) (w := w) (base := base) T
  have o__law_take := o__law_take (P := P) (w := w) (base := base) T
  have o__law_tongue := o__law_tongue (P := P) (w := w) (base := base) T
  have o__law_wants := o__law_wants (P := P) (w := w) (base := base) T
  have o__law_texts := o__law_texts (P := P) (w := w) (base := base) T
  refine T.f__law_case.ok c__law_case (fun vs H Q E h => ?_) (fun f cdv A outer s H vs Q E hr h => ?_)
  · obtain ⟨a, ns, rfl, _⟩ := h
    rfl
  · obtain ⟨a, ns, rfl, hS, k⟩ := h
    refine ⟨_, (pss_cons (ps_set (i := 2) c__law_case.nd rfl (Or.inl rfl) (pe_c o__law_pool hr (pa_cons (pv 0) (pa_cons pe_int pa_nil))))
(pss_cons (ps_set (i := 3) c__law_case.nd rfl (Or.inl rfl) (pe_c o__law_tongue hr (pa_cons (pv 2) (pa_cons pe_int (pa_cons pe_int pa_nil)))))
(pss_cons (ps_set (i := 2) c__law_case.nd rfl (Or.inl rfl) (pe_c o__law_pool hr (pa_cons (pv 0) (pa_cons pe_int pa_nil))))
(pss_cons (ps_set (i := 4) c__law_case.nd rfl (Or.inl rfl) (pe_c o__law_wants hr (pa_cons (pv 2) (pa_cons (pe_op op_add pe_int (pe_c o__law_take hr (pa_cons (pv 2) (pa_cons (pv 1) pa_nil)))) pa_nil))))
(pss_cons (ps_set (i := 5) c__law_case.nd rfl (Or.inl rfl) pe_non)
(pss_cons (ps_set (i := 2) c__law_case.nd rfl (Or.inl rfl) (pe_c o__law_pool hr (pa_cons (pv 0) (pa_cons pe_int pa_nil))))
(C8.pss_cut (ps_if (pt_cmpR op_gt (pe_c o__law_take hr (pa_cons (pv 2) (pa_cons pe_int pa_nil))) pe_int (nomark _))
(pss_one (ps_set (i := 5) c__law_case.nd rfl (Or.inl rfl) (pe_c o__law_texts hr (pa_cons (pv 2) (pa_cons (pe_callB (call_len_seq_k K) (by rfl) T.b_len PySem.boot_len (pa_cons (pv 4) pa_nil)) pa_nil)))))
pss_nil)
(pss_one (ps_ret (pe_tup (pa_cons (pv 3) (pa_cons (pv 4) (pa_cons (pv 5) pa_nil))))))))))))), ?_⟩
    refine ⟨_, rfl, a, ns, 0, rfl, hS, by decide, by decide, fun l H1 hl s1 S1 => ⟨_, rfl, l, 6, 8, rfl, S1, by decide, by decide, by decide, by decide, fun v d ds cs fs zs i H2 B2 S2 td tg => ?_⟩⟩
    have s2 : Same H H2 := But.same0 s1 hl B2
    refine ⟨_, rfl, a, ns, 1, rfl, s2.seq hS, by decide, by decide, fun l3 H3 hl3 s3 S3 => ?_⟩
    refine ⟨_, rfl, _, rfl, _, rfl, l3, 20, rfl, S3, by decide, log_le 20 (by decide), fun r H4 r0 r1 B4 S4 => ⟨_, _, rfl, rfl, l3, 1 + r, rfl, S4, by omega, by omega, fun pw xs ws H5 hpw npl B5 S5 e5 d5 wo5 lw5 => ?_⟩⟩
    have s25 : Same H2 H5 := But.same0 s3 hl3 (B4.trans B5)
    have tg5 := tg.sm s25
    refine ⟨_, rfl, a, ns, 2, rfl, (s2.trans s25).seq hS, by decide, by decide, fun l6 H6 hl6 s6 S6 => ?_⟩
    have n6 : pw ≠ l6 := ne_of_none e5 hl6
    refine ⟨fun σ' H' => Same H5 H' ∧ ∃ (l : V) (bv : V) (bk : Option (List (List Nat))), σ' = [some (.ref a), some (.int 20), some l, some v, some (.ref pw), some bv] ∧ BkAt H' bv bk ∧ ∀ b, bk = some b → b.length = ws.length ∧ ∀ t ∈ b, TxOk63 t, ?_, ?_⟩
    · refine ⟨_, rfl, l6, 3, rfl, S6, by decide, log_le 3 (by decide), fun r7 H7 b0 b1 B7 S7 => ⟨_, _, rfl, rfl, _, rfl, itd (fun c => ?_) fun c => ⟨But.same0 s6 hl6 B7, _, .non, none, rfl, rfl, fun _ e => nomatch e⟩⟩⟩
      have e7 := B7 _ _ (s6 _ _ e5) n6
      have lx : xs.length = ws.length := by rw [d5.length, List.length_map]
      have l20 : ws.length ≤ 20 := by omega
      refine ⟨_, rfl, _, rfl, pw, _, rfl, .inl (SqL.of e7), l6, xs.length, rfl, S7, by omega, fun pb bk H8 hpb nb B8 S8 e8 l8 o8 => ?_⟩
      refine ⟨But.same0 s6 hl6 (B7.trans B8), _, .ref pb, some bk, rfl, ⟨pb, rfl, e8, by omega, fun t ht => (o8 t ht).2.2⟩, fun b e => ?_⟩
      injection e with e
      subst e
      exact ⟨by omega, o8⟩
    rintro σ' H7 ⟨s7, lv, bv, bk, rfl, hb, bo⟩
    refine ⟨_, rfl, _, rfl, _, rfl, (by show 3 ≤ sizeLine; decide), fun p hp => ?_⟩
    have u8 := Same.upd (o := .tup [v, V.ref pw, bv]) hp
    have s58 := s7.trans u8
    refine k (.ref p) ⟨d, ds, cs, fs, zs, i, ws, bk⟩ _ (s2.trans (s25.trans s58)) ⟨p, pw, v, bv, xs, _, rfl, upd_same, tg5.sm s58, s58 _ _ e5, d5.same s58, hb.same u8⟩ ⟨td, wo5, ?_, ?_, bo⟩
    · show 1 ≤ ws.length
      omega
    · show ws.length ≤ 20
      omega
end
end Dear

namespace Dear
open PySem PySem.Spec PyProof.Rows L2
/-! ### making the object, reading a whole text -/
theorem putF_len (f : Str) (v : V) : ∀ fs : List (Str × V), (putF f v fs).length ≤ fs.length + 1
  | [] => Nat.le_refl _
  | (g, x) :: r => by
    show (if g = f then (g, v) :: r else (g, x) :: putF f v r).length ≤ _
    split
    · exact Nat.le_succ _
    · have := putF_len f v r
      rw [List.length_cons, List.length_cons]
      omega
structure IniS (C : Addr) (Hb H : Hp) (p dx : Addr) (fs : List (Str × V)) (ls : List Addr) (n : Nat) : Prop where
  sm : Same Hb H
  np : Hb p = none
  hp : H p = some (.ins C dx fs)
  nd : ls.Nodup
  at_ : ∀ a ∈ ls, H a = some (.lst []) ∧ Hb a = none
  ln : fs.length ≤ n
section
variable {C : Addr} {Hb H : Hp} {p dx : Addr} {fs : List (Str × V)} {ls : List Addr} {n : Nat}
theorem IniS.new (h : IniS C Hb H p dx fs ls n) {a : Addr} {f : Str} (ha : H a = none) : IniS C Hb (upd (upd H a (.lst [])) p (.ins C dx (putF f (.ref a) fs))) p dx (putF f (.ref a) fs) (ls ++ [a]) (n + 1) := by
  obtain ⟨sm, np, hp, nd, at_, ln⟩ := h
  have npa : p ≠ a := ne_of_none hp ha
  have nls : ¬ a ∈ ls := fun z => by rw [(at_ a z).1] at ha; cases ha
  refine ⟨fun b o e => ?_, np, upd_same, nodup_snoc nd nls, fun x hx => ?_, by have := putF_len f (.ref a) fs; omega⟩
  · rw [upd_ne (ne_of_none e np), upd_ne (ne_of_none (sm _ _ e) ha)]
    exact sm _ _ e
  · rcases List.mem_append.mp hx with hx | hx
    · obtain ⟨h1, h2⟩ := at_ x hx
      refine ⟨?_, h2⟩
      rw [upd_ne (ne_of h1 hp (by intro z; cases z)), upd_ne (fun z => nls (by rw [← z]; exact hx))]
      exact h1
    · rw [List.mem_singleton] at hx
      subst hx
      refine ⟨?_, same_none sm ha⟩
      rw [upd_ne npa.symm]
      exact upd_same
theorem IniS.put (h : IniS C Hb H p dx fs ls n) {f : Str} {v : V} : IniS C Hb (upd H p (.ins C dx (putF f v fs))) p dx (putF f v fs) ls (n + 1) := by
  obtain ⟨sm, np, hp, nd, at_, ln⟩ := h
  refine ⟨fun b o e => ?_, np, upd_same, nd, fun x hx => ?_, by have := putF_len f v fs; omega⟩
  · rw [upd_ne (ne_of_none e np)]
    exact sm _ _ e
  · obtain ⟨h1, h2⟩ := at_ x hx
    refine ⟨?_, h2⟩
    rw [upd_ne (ne_of h1 hp (by intro z; cases z))]
    exact h1
end
def spCrI (C : Addr) : Sp := fun vs H Q _ => ∃ (p dx : Addr) (Hb : Hp), vs = [.ref p] ∧ H p = some (.ins C dx []) ∧ Same Hb H ∧ Hb p = none ∧ ∀ H', CrAt C Hb H' p .init → Q .non H'
def spTakes (C : Addr) : Sp := fun vs H Q _ => ∃ (p : Addr) (Hb : Hp) (st : Rd) (row : List Nat), vs = [.ref p, .str (txt row)] ∧ CrAt C Hb H p st ∧ row.length ≤ 900 ∧ Asc (txt row) ∧
  (∀ st', takesF st row = some st' → ∀ H', CrAt C Hb H' p st' → Q (.bl true) H') ∧ (takesF st row = none → ∀ H', CrAt C Hb H' p st → Q (.bl false) H')
def spLacks (C : Addr) : Sp := fun vs H Q _ => ∃ (p : Addr) (Hb : Hp) (st : Rd), vs = [.ref p] ∧ CrAt C Hb H p st ∧ ∀ H', Same H H' → Q (.bl (lacksB st)) H'
def csOf (st : Rd) : CsD := ⟨.tup [.lst st.ds, .lst ((st.fs.map sgn).map D.str), .lst (st.zs.map D.str), .int (st.lg.getD 0)], st.ds, st.cs, st.fs, st.zs, st.lg.getD 0, st.ws, if st.wd = [] then none else some st.wd⟩
def spMade (C : Addr) : Sp := fun vs H Q _ => ∃ (p : Addr) (Hb : Hp) (st : Rd), vs = [.ref p] ∧ CrAt C Hb H p st ∧ st.lg ≠ none ∧ ∀ (q : Addr) (H' : Hp), Same Hb H' → CsNew Hb H' q (csOf st) → Q (.ref q) H'
theorem split_c (l : List Nat) (c : Nat) (h : c < 256) : Txt.split (txt l) (txt [c]) = (TL.spl [c] 0 [] l).map txt := SX.split_S (List.cons_ne_nil _ _) (by simp [h])
theorem spl_sub (S : List Nat) : ∀ (l : List Nat) (k : Nat) (acc : List Nat), ∀ p ∈ TL.spl S k acc l, ∀ c ∈ p, c ∈ acc ∨ c ∈ l
  | [], k, acc => by
    rw [TL.spl_nil]
    intro p hp c hc
    rw [List.mem_singleton] at hp
    subst hp
    exact .inl hc
  | x :: r, 0, acc => by
    by_cases h : TL.pre S (x :: r) = true
    · rw [TL.spl_hit h]
      intro p hp c hc
      rcases List.mem_cons.mp hp with rfl | hp
      · exact .inl hc
      · rcases spl_sub S r (S.length - 1) [] p hp c hc with q | q
        · cases q
        · exact .inr (List.mem_cons_of_mem _ q)
    · rw [TL.spl_miss (by simpa using h)]
      intro p hp c hc
      rcases spl_sub S r 0 (acc ++ [x]) p hp c hc with q | q
      · rcases List.mem_append.mp q with q | q
        · exact .inl q
        · rw [List.mem_singleton] at q
          subst q
          exact .inr List.mem_cons_self
      · exact .inr (List.mem_cons_of_mem _ q)
  | x :: r, k + 1, acc => by
    intro p hp c hc
    rcases spl_sub S r k acc p hp c hc with q | q
    · exact .inl q
    · exact .inr (List.mem_cons_of_mem _ q)
theorem CrAt.grow {C : Addr} {Hb H : Hp} {p r : Addr} {st : Rd} {o : HO} (h : CrAt C Hb H p st) (hr : H r = none) : CrAt C (upd Hb r o) (upd H r o) p st := by
  have h' := h.same (Same.upd (o := o) hr)
  obtain ⟨dx, a, b, c, d, e, xs, ys, h1, h2, h3, h4, h5, h6, h7, h8, na, nb, nc, nd, ne, rs⟩ := h'.ex
  obtain ⟨dx0, a0, b0, c0, d0, e0, xs0, ys0, g1, g2, g3, g4, g5, g6, g7, g8, _⟩ := h.ex
  have nn : ∀ {x : Addr} {o' : HO}, Hb x = none → x ≠ r → (upd Hb r o) x = none := fun {x o'} hx n => by
    rw [upd_ne n]
    exact hx
  have hp : (upd H r o) p = some (.ins C dx0 (crF a0 (txt st.cs) b0 c0 (lgV st.lg) d0 e0)) := by rw [upd_ne (ne_of_none g1 hr)]; exact g1
  rw [hp] at h1
  injection h1 with h1
  injection h1 with _ h1 h9
  unfold crF at h9
  injection h9 with q1 h9
  injection h9 with _ h9
  injection h9 with q2 h9
  injection h9 with q3 h9
  injection h9 with _ h9
  injection h9 with q4 h9
  injection h9 with q5 h9
  injection q1 with _ q1
  injection q2 with _ q2
  injection q3 with _ q3
  injection q4 with _ q4
  injection q5 with _ q5
  injection q1 with q1
  injection q2 with q2
  injection q3 with q3
  injection q4 with q4
  injection q5 with q5
  subst q1 q2 q3 q4 q5 h1
  refine ⟨fun x o' e' => ?_, nn (o' := o) h.np (ne_of_none g1 hr), h.ok, dx0, a0, b0, c0, d0, e0, xs, ys, hp, h2, h3, h4, h5, h6, h7, h8, nn (o' := o) na (ne_of_none g2 hr), nn (o' := o) nb (ne_of_none g4 hr), nn (o' := o) nc (ne_of_none g5 hr), nn (o' := o) nd (ne_of_none g6 hr), nn (o' := o) ne (ne_of_none g8 hr), rs⟩
  by_cases z : x = r
  · subst z
    rw [upd_same] at e' ⊢
    exact e'
  · rw [upd_ne z] at e' ⊢
    exact h.sm _ _ e'
theorem inV_two (n m : Int) : inV (.int n) [.int 0, .int m] = (decide (n = 0) || decide (n = m)) := by
  show (eqV (.int 0) (.int n) || (eqV (.int m) (.int n) || false)) = _
  rw [Bool.or_false]
  show ((0 == n) || (m == n)) = _
  by_cases h1 : n = 0
  · subst h1
    simp
  · by_cases h2 : n = m
    · subst h2
      simp
    · rw [decide_eq_false h1, decide_eq_false h2, beq_eq_false_iff_ne.mpr (Ne.symm h1), beq_eq_false_iff_ne.mpr (Ne.symm h2)]
section
variable {P : Program} {w : World} {K : PySem.W.Frag} {mg : Str → Option Value} {base : Heap}
set_option pp.maxSteps 3000
theorem o_CaseRows (T : Txt K mg) : OkC P w K mg base CX0 1 "CaseRows" T.A.CaseRows ["self"] (spCrI T.A.CaseRows) := by
  refine T.I_CaseRows.ok c_CaseRows___init__ (fun vs H Q E h => ?_) (fun f cdv A outer s H vs Q E hr h => ?_)
  · obtain ⟨p, dx, Hb, rfl, _⟩ := h
    rfl
  · obtain ⟨p, dx, Hb, rfl, hp, sm, np, k⟩ := h
    refine ⟨_, (pss_cons (ps_fld (pv 0) (pe_lst pa_nil) rfl)
(pss_cons (ps_fld (pv 0) pe_str rfl)
(pss_cons (ps_fld (pv 0) (pe_lst pa_nil) rfl)
(pss_cons (ps_fld (pv 0) (pe_lst pa_nil) rfl)
(pss_cons (ps_fld (pv 0) pe_non rfl)
(pss_cons (ps_fld (pv 0) (pe_lst pa_nil) rfl)
(pss_one (ps_fld (pv 0) (pe_lst pa_nil) rfl)))))))), ?_⟩
    have I0 : IniS T.A.CaseRows Hb H p dx [] [] 0 := ⟨sm, np, hp, List.nodup_nil, (fun _ h => nomatch h), Nat.le_refl _⟩
    refine ⟨(by show 0 ≤ sizeLine; decide), fun a ha => ?_⟩
    refine ⟨_, rfl, p, _, dx, _, rfl, (by rw [upd_ne (ne_of_none hp ha)]; exact hp), T.K_CaseRows, T.N_CaseRows_signs, (by show 0 < 1000; decide), ?_⟩
    have I1 := I0.new (f := "signs") ha
    generalize upd (upd H a (.lst [])) p (.ins T.A.CaseRows dx (putF "signs" (.ref a) [])) = H1 at I1 ⊢
    refine ⟨_, rfl, p, _, dx, _, rfl, I1.hp, T.K_CaseRows, T.N_CaseRows_letters, Nat.lt_of_le_of_lt I1.ln (by decide), ?_⟩
    have I2 := I1.put (f := "letters") (v := .str "")
    generalize upd H1 p _ = H2 at I2 ⊢
    refine ⟨(by show 0 ≤ sizeLine; decide), fun b hb => ?_⟩
    refine ⟨_, rfl, p, _, dx, _, rfl, (by rw [upd_ne (ne_of_none I2.hp hb)]; exact I2.hp), T.K_CaseRows, T.N_CaseRows_firsts, Nat.lt_of_le_of_lt I2.ln (by decide), ?_⟩
    have I3 := I2.new (f := "firsts") hb
    generalize upd (upd H2 b (.lst [])) p _ = H3 at I3 ⊢
    refine ⟨(by show 0 ≤ sizeLine; decide), fun c hc => ?_⟩
    refine ⟨_, rfl, p, _, dx, _, rfl, (by rw [upd_ne (ne_of_none I3.hp hc)]; exact I3.hp), T.K_CaseRows, T.N_CaseRows_pairs, Nat.lt_of_le_of_lt I3.ln (by decide), ?_⟩
    have I4 := I3.new (f := "pairs") hc
    generalize upd (upd H3 c (.lst [])) p _ = H4 at I4 ⊢
    refine ⟨_, rfl, p, _, dx, _, rfl, I4.hp, T.K_CaseRows, T.N_CaseRows_longest, Nat.lt_of_le_of_lt I4.ln (by decide), ?_⟩
    have I5 := I4.put (f := "longest") (v := .non)
    generalize upd H4 p _ = H5 at I5 ⊢
    refine ⟨(by show 0 ≤ sizeLine; decide), fun d hd => ?_⟩
    refine ⟨_, rfl, p, _, dx, _, rfl, (by rw [upd_ne (ne_of_none I5.hp hd)]; exact I5.hp), T.K_CaseRows, T.N_CaseRows_wants, Nat.lt_of_le_of_lt I5.ln (by decide), ?_⟩
    have I6 := I5.new (f := "wants") hd
    generalize upd (upd H5 d (.lst [])) p _ = H6 at I6 ⊢
    refine ⟨(by show 0 ≤ sizeLine; decide), fun e he => ?_⟩
    refine ⟨_, rfl, p, _, dx, _, rfl, (by rw [upd_ne (ne_of_none I6.hp he)]; exact I6.hp), T.K_CaseRows, T.N_CaseRows_words, Nat.lt_of_le_of_lt I6.ln (by decide), ?_⟩
    have I7 := I6.new (f := "words") he
    generalize upd (upd H6 e (.lst [])) p _ = H7 at I7 ⊢
    obtain ⟨sm7, _, hp7, nd7, at7, _⟩ := I7
    rw [crF_new, show ("" : Str) = txt [] by decide +kernel] at hp7
    have ma := at7 a (by simp)
    have mb := at7 b (by simp)
    have mc := at7 c (by simp)
    have md := at7 d (by simp)
    have me := at7 e (by simp)
    have nd7 : [a, b, c, d, e].Nodup := nd7
    simp only [List.nodup_cons, List.mem_cons, List.not_mem_nil, or_false, not_or, not_false_eq_true, List.nodup_nil, and_true] at nd7
    obtain ⟨⟨n1, n2, n3, n4⟩, ⟨n5, n6, n7⟩, ⟨n8, n9⟩, n10⟩ := nd7
    exact k H7 ⟨sm7, np, .init, dx, a, b, c, d, e, [], [], hp7, ma.1, .nil, mb.1, mc.1, md.1, .nil, me.1, ma.2, mb.2, mc.2, md.2, me.2, n1, n2, n3, n4, n5, n6, n7, n8, n9, n10⟩
theorem o_CaseRows_takes (T : Txt K mg) : OkM P w K mg base CX0 7 T.A.CaseRows "takes" ["self", "row"] (spTakes T.A.CaseRows) := by
  have o_CaseRows_takes_sign := o_CaseRows_takes_sign (P := P) (w := w) (base := base) T
  have o_CaseRows_takes_first := o_CaseRows_takes_first (P := P) (w := w) (base := base) T
  have o_CaseRows_takes_pair := o_CaseRows_takes_pair (P := P) (w := w) (base := base) T
  have o_CaseRows_takes_longest := o_CaseRows_takes_longest (P := P) (w := w) (base := base) T
  have o_CaseRows_takes_thing := o_CaseRows_takes_thing (P := P) (w := w) (base := base) T
  have o_CaseRows_takes_word := o_CaseRows_takes_word (P := P) (w := w) (base := base) T
  refine T.M_CaseRows_takes.ok c_CaseRows_takes (fun vs H Q E h => ?_) (fun f cdv A outer s H vs Q E hr h => ?_)
  · obtain ⟨p, Hb, st, row, rfl, _⟩ := h
    rfl
  · obtain ⟨p, Hb, st, row, rfl, cr, l900, asc, ks, kn⟩ := h
    refine ⟨_, (pss_cons (ps_set (i := 2) c_CaseRows_takes.nd rfl (Or.inl rfl) (pe_ix (ix_list_k K) (pe_split (pv 1) pe_str) pe_int (fun _ _ => rfl)))
(pss_cons (ps_set (i := 3) c_CaseRows_takes.nd rfl (Or.inl rfl) (pe_slice (sl_list_k K) (pe_split (pv 1) pe_str) (po_some pe_int) po_none))
(pss_cons (ps_if (pt_cmpR op_eq (pv 2) pe_str (nomark _))
(pss_one (ps_ret (pe_m o_CaseRows_takes_sign T.K_CaseRows hr (pv 0) (pa_cons (pv 3) pa_nil))))
pss_nil)
(pss_cons (ps_if (pt_cmpR op_eq (pv 2) pe_str (nomark _))
(pss_one (ps_ret (pe_m o_CaseRows_takes_first T.K_CaseRows hr (pv 0) (pa_cons (pv 3) pa_nil))))
pss_nil)
(pss_cons (ps_if (pt_cmpR op_eq (pv 2) pe_str (nomark _))
(pss_one (ps_ret (pe_m o_CaseRows_takes_pair T.K_CaseRows hr (pv 0) (pa_cons (pv 3) pa_nil))))
pss_nil)
(pss_cons (ps_if (pt_cmpR op_eq (pv 2) pe_str (nomark _))
(pss_one (ps_ret (pe_m o_CaseRows_takes_longest T.K_CaseRows hr (pv 0) (pa_cons (pv 3) pa_nil))))
pss_nil)
(pss_cons (ps_if (pt_cmpR op_eq (pv 2) pe_str (nomark _))
(pss_one (ps_ret (pe_m o_CaseRows_takes_thing T.K_CaseRows hr (pv 0) (pa_cons (pv 3) pa_nil))))
pss_nil)
(pss_one (ps_ret (pe_and (pe_cmpR op_eq (pv 2) pe_str (nomark _)) (pe_one (pe_m o_CaseRows_takes_word T.K_CaseRows hr (pv 0) (pa_cons (pv 3) pa_nil))))))))))))), ?_⟩
    have hz : (txt row).length + 2 ≤ sizeLine := sz_lit (by rw [txt_length]; omega)
    have sp := split_c row 32 (by decide)
    obtain ⟨pl1, pl2⟩ := spl_len [32] row 0 []
    have ps3 := spl_sub [32] row 0 []
    obtain ⟨kd, ps, ekp⟩ : ∃ kd ps, TL.spl [32] 0 [] row = kd :: ps := by
      cases e9 : TL.spl [32] 0 [] row with
      | nil => exact absurd e9 (spl_ne [32] row 0 [])
      | cons kd ps => exact ⟨kd, ps, rfl⟩
    have tf : takesF st row = takesP st (kd :: ps) := by
      unfold takesF
      rw [ekp]
    rw [ekp] at sp pl1 pl2 ps3
    have pOk : ∀ t ∈ ps, t.length ≤ 900 ∧ Asc (txt t) := fun t ht => by
      have h1 := pl2 t (List.mem_cons_of_mem _ ht)
      rw [List.length_nil] at h1
      refine ⟨by omega, fun c hc => ?_⟩
      rw [txt_list] at hc
      rcases ps3 t (List.mem_cons_of_mem _ ht) c hc with q | q
      · cases q
      · exact asc c (by rw [txt_list]; exact q)
    rw [List.length_cons] at pl1
    refine ⟨_, rfl, ⟨_, rfl⟩, txt row, " ", rfl, rfl, (by decide +kernel), hz, fun r1 hr1 => ?_⟩
    rw [k32_eq, sp, ← vsT_strs]
    have uH1 := Same.upd (o := .lst (vsT (kd :: ps))) hr1
    have er1 : (upd H r1 (.lst (vsT (kd :: ps)))) r1 = some (.lst (vsT (kd :: ps))) := upd_same
    generalize upd H r1 (.lst (vsT (kd :: ps))) = H1 at uH1 er1 ⊢
    refine ⟨_, _, _, _, rfl, rfl, SqL.of er1, atI_nat (xs := vsT (kd :: ps)) (j := 0) rfl, ?_⟩
    refine ⟨_, rfl, ⟨_, rfl⟩, txt row, _, rfl, rfl, (by rw [← k32_eq]; decide +kernel), hz, fun r2 hr2 => ?_⟩
    rw [sp, ← vsT_strs]
    have uH2 := Same.upd (o := .lst (vsT (kd :: ps))) hr2
    have er2 : (upd H1 r2 (.lst (vsT (kd :: ps)))) r2 = some (.lst (vsT (kd :: ps))) := upd_same
    generalize upd H1 r2 (.lst (vsT (kd :: ps))) = H2 at uH2 er2 ⊢
    refine ⟨_, rfl, r2, _, rfl, SqL.of er2, fun r3 hr3 => ?_⟩
    have ec : cutV (vsT (kd :: ps)) (some 1) none = vsT ps := cutV_from (vsT (kd :: ps)) 1
    rw [ec]
    have uH3 := Same.upd (o := .lst (vsT ps)) hr3
    have er3 : (upd H2 r3 (.lst (vsT ps))) r3 = some (.lst (vsT ps)) := upd_same
    generalize upd H2 r3 (.lst (vsT ps)) = H3 at uH3 er3 ⊢
    have s03 := uH1.trans (uH2.trans uH3)
    have cr3 := cr.same s03
    obtain ⟨dx, _, _, _, _, _, _, _, h1, _⟩ := cr3.ex
    have eqk : ∀ {z : Str} {l : List Nat}, z = txt l → (V.str (txt kd) = V.str z ↔ kd = l) := fun {z l} hz' => by
      constructor
      · intro h
        injection h with h
        exact txt_inj (h.trans hz')
      · intro h
        rw [h, hz']
    have w1 := eqk (z := "sign") (l := wSign) (by decide +kernel)
    have w2 := eqk (z := "first") (l := wFirst) (by decide +kernel)
    have w3 := eqk (z := "pair") (l := wPair) (by decide +kernel)
    have w4 := eqk (z := "longest") (l := wLong) (by decide +kernel)
    have w5 := eqk (z := "thing") (l := wThing) (by decide +kernel)
    have w6 := eqk (z := "word") (l := wWord) (by decide +kernel)
    have tp : takesF st row = if kd = wSign then takesSign st ps else if kd = wFirst then takesFirst st ps else if kd = wPair then takesPair st ps else if kd = wLong then takesLong st ps else if kd = wThing then takesThing st ps else if kd = wWord then takesWord st ps else none := tf
    refine ⟨_, rfl, rfl, _, rfl, itd (fun c => ?_) fun c => ?_⟩
    · rw [if_pos (w1.mp c)] at tp
      exact ⟨_, rfl, p, dx, _, rfl, h1, crF_no_takes_sign .., _, rfl, p, r3, Hb, st, ps, rfl, cr3, er3, by omega, pOk, fun st' e H' => ks st' (tp.trans e) H', fun e H' => kn (tp.trans e) H'⟩
    rw [if_neg fun z => c (w1.mpr z)] at tp
    refine ⟨_, rfl, rfl, _, rfl, itd (fun c => ?_) fun c => ?_⟩
    · rw [if_pos (w2.mp c)] at tp
      exact ⟨_, rfl, p, dx, _, rfl, h1, crF_no_takes_first .., _, rfl, p, r3, Hb, st, ps, rfl, cr3, er3, by omega, pOk, fun st' e H' => ks st' (tp.trans e) H', fun e H' => kn (tp.trans e) H'⟩
    rw [if_neg fun z => c (w2.mpr z)] at tp
    refine ⟨_, rfl, rfl, _, rfl, itd (fun c => ?_) fun c => ?_⟩
    · rw [if_pos (w3.mp c)] at tp
      exact ⟨_, rfl, p, dx, _, rfl, h1, crF_no_takes_pair .., _, rfl, p, r3, Hb, st, ps, rfl, cr3, er3, by omega, pOk, fun st' e H' => ks st' (tp.trans e) H', fun e H' => kn (tp.trans e) H'⟩
    rw [if_neg fun z => c (w3.mpr z)] at tp
    refine ⟨_, rfl, rfl, _, rfl, itd (fun c => ?_) fun c => ?_⟩
    · rw [if_pos (w4.mp c)] at tp
      exact ⟨_, rfl, p, dx, _, rfl, h1, crF_no_takes_longest .., _, rfl, p, r3, Hb, st, ps, rfl, cr3, er3, by omega, pOk, fun st' e H' => ks st' (tp.trans e) H', fun e H' => kn (tp.trans e) H'⟩
    rw [if_neg fun z => c (w4.mpr z)] at tp
    refine ⟨_, rfl, rfl, _, rfl, itd (fun c => ?_) fun c => ?_⟩
    · rw [if_pos (w5.mp c)] at tp
      exact ⟨_, rfl, p, dx, _, rfl, h1, crF_no_takes_thing .., _, rfl, p, r3, Hb, st, ps, rfl, cr3, er3, by omega, pOk, fun st' e H' => ks st' (tp.trans e) H', fun e H' => kn (tp.trans e) H'⟩
    rw [if_neg fun z => c (w5.mpr z)] at tp
    refine ⟨_, rfl, rfl, _, rfl, ?_⟩
    by_cases c : kd = wWord
    · rw [if_pos c] at tp
      rw [decide_eq_true (w6.mpr c)]
      exact iteT ⟨_, rfl, p, dx, _, rfl, h1, crF_no_takes_word .., _, rfl, p, r3, Hb, st, ps, rfl, cr3, er3, by omega, pOk, fun st' e H' => ks st' (tp.trans e) H', fun e H' => kn (tp.trans e) H'⟩
    · rw [if_neg c] at tp
      rw [decide_eq_false fun z => c (w6.mp z)]
      exact iteF (kn tp H3 cr3)
theorem o_CaseRows_lacks (T : Txt K mg) : OkM P w K mg base CX0 1 T.A.CaseRows "lacks" ["self"] (spLacks T.A.CaseRows) := by
  refine T.M_CaseRows_lacks.ok c_CaseRows_lacks (fun vs H Q E h => ?_) (fun f cdv A outer s H vs Q E hr h => ?_)
  · obtain ⟨p, Hb, st, rfl, _⟩ := h
    rfl
  · obtain ⟨p, Hb, st, rfl, cr, k⟩ := h
    refine ⟨_, (pss_one (ps_ret (pe_or (pe_cmpR (op_eqD_k K hr.units) (pe_fld_k K (pv 0) rfl) (pe_lst pa_nil) (nomark _)) (pe_one (pe_cmpR (op_notIn_seq_k K) (pe_callB (call_len_seq_k K) (by rfl) T.b_len PySem.boot_len (pa_cons (pe_fld_k K (pv 0) rfl) pa_nil)) (pe_tup (pa_cons pe_int (pa_cons (pe_callB (call_len_seq_k K) (by rfl) T.b_len PySem.boot_len (pa_cons (pe_fld_k K (pv 0) rfl) pa_nil)) pa_nil))) rfl))))), ?_⟩
    obtain ⟨dx, a, b, c, d, e, xs, ys, cx⟩ := cr.x
    have ro := cr.ok
    have lws : ys.length = st.ws.length := by rw [cx.h7.length, List.length_map]
    have lwd := vsT_lenC st.wd
    refine ⟨_, rfl, p, _, dx, _, _, rfl, cx.h1, T.K_CaseRows, T.N_CaseRows_wants, crF_wants .., (by show 0 ≤ sizeLine; decide), fun r1 hr1 => ?_⟩
    have uH1 := Same.upd (o := .lst []) hr1
    have er1 : (upd H r1 (.lst [])) r1 = some (.lst []) := upd_same
    generalize upd H r1 (.lst []) = H1 at uH1 er1 ⊢
    have cx1 := cx.same uH1
    have wf := wants_facts ro.wo.all
    refine ⟨py (.lst (st.ws.map wantD)), .list [], (Dt.lst cx1.h6 cx1.h7).dp wf.2.1, .lst (SqL.of er1) .nil, shaped_py wf.1 wf.2.1 wf.2.2, shaped_nil, ?_⟩
    have eE : PyData.eqv (py (.lst (st.ws.map wantD))) (.list []) = decide (st.ws = []) := by
      show PyData.eqv (.list (pyAll (st.ws.map wantD))) (.list []) = _
      rw [eqv_nil]
      cases st.ws <;> rfl
    rw [eE]
    by_cases cw : st.ws = []
    · rw [decide_eq_true cw]
      refine ⟨_, rfl, iteT ?_⟩
      have := k H1 uH1
      rw [show lacksB st = true by unfold lacksB; rw [decide_eq_true cw, Bool.true_or]] at this
      exact this
    · rw [decide_eq_false cw]
      refine ⟨_, rfl, iteF ⟨_, rfl, p, _, dx, _, _, rfl, cx1.h1, T.K_CaseRows, T.N_CaseRows_words, crF_words .., e, _, rfl, .inl (SqL.of cx1.h8), _, rfl, p, _, dx, _, _, rfl, cx1.h1, T.K_CaseRows, T.N_CaseRows_wants, crF_wants .., d, _, rfl, .inl (SqL.of cx1.h6), (by show 2 ≤ sizeLine; decide), fun r2 hr2 => ?_⟩⟩
      refine ⟨r2, _, rfl, .inr (SqT.of upd_same), rfl, rfl, ?_⟩
      rw [inV_two, lwd, lws]
      have := k _ (uH1.trans (Same.upd (o := .tup [V.int 0, V.int ((ys.length : Nat) : Int)]) hr2))
      rw [show lacksB st = !(decide (((st.wd.length : Nat) : Int) = 0) || decide (((st.wd.length : Nat) : Int) = ((st.ws.length : Nat) : Int))) by
        unfold lacksB
        rw [decide_eq_false cw, Bool.false_or]
        congr 2
        · exact decide_eq_decide.mpr (by omega)
        · exact decide_eq_decide.mpr (by omega), lws] at this
      exact this
theorem o_CaseRows_made (T : Txt K mg) : OkM P w K mg base CX0 1 T.A.CaseRows "made" ["self"] (spMade T.A.CaseRows) := by
  refine T.M_CaseRows_made.ok c_CaseRows_made (fun vs H Q E h => ?_) (fun f cdv A outer s H vs Q E hr h => ?_)
  · obtain ⟨p, Hb, st, rfl, _⟩ := h
    rfl
  · obtain ⟨p, Hb, st, rfl, cr, lg, k⟩ := h
    refine ⟨_, (pss_cons (ps_set (i := 1) c_CaseRows_made.nd rfl (Or.inl rfl) pe_non)
(C8.pss_cut (ps_if (pt_cmpR (op_neD_k K hr.units) (pe_fld_k K (pv 0) rfl) (pe_lst pa_nil) (nomark _))
(pss_one (ps_set (i := 1) c_CaseRows_made.nd rfl (Or.inl rfl) (pe_fld_k K (pv 0) rfl)))
pss_nil)
(pss_one (ps_ret (pe_tup (pa_cons (pe_tup (pa_cons (pe_fld_k K (pv 0) rfl) (pa_cons (pe_fld_k K (pv 0) rfl) (pa_cons (pe_fld_k K (pv 0) rfl) (pa_cons (pe_fld_k K (pv 0) rfl) pa_nil))))) (pa_cons (pe_fld_k K (pv 0) rfl) (pa_cons (pv 1) pa_nil)))))))), ?_⟩
    obtain ⟨dx, a, b, c, d, e, xs, ys, cx⟩ := cr.x
    have ro := cr.ok
    obtain ⟨g, eg⟩ := Option.ne_none_iff_exists'.mp lg
    refine ⟨fun σ' H' => Same H H' ∧ ∃ bv : V, σ' = [some (.ref p), some bv] ∧ (match (csOf st).bk with | none => bv = .non | some bb => bv = .ref e), ?_, ?_⟩
    · refine ⟨_, rfl, p, _, dx, _, _, rfl, cx.h1, T.K_CaseRows, T.N_CaseRows_words, crF_words .., (by show 0 ≤ sizeLine; decide), fun r1 hr1 => ?_⟩
      have uH1 := Same.upd (o := .lst []) hr1
      have er1 : (upd H r1 (.lst [])) r1 = some (.lst []) := upd_same
      generalize upd H r1 (.lst []) = H1 at uH1 er1 ⊢
      have cx1 := cx.same uH1
      have ascW : ∀ y ∈ st.wd.map txt, Asc y := fun y hy => by
        obtain ⟨t', ht', rfl⟩ := List.mem_map.mp hy
        intro c' hc'
        rw [txt_list] at hc'
        exact in_letters_asc ((ro.wt t' ht').1 c' hc')
      have h8' := cx1.h8
      rw [vsT_strs] at h8'
      refine ⟨.list ((st.wd.map txt).map PyData.str), .list [], .lst (SqL.of h8') (dp_strs _), .lst (SqL.of er1) .nil, shaped_strs ascW, shaped_nil, ?_⟩
      rw [eqv_nil]
      have ez : ((st.wd.map txt).map PyData.str).isEmpty = decide (st.wd = []) := by cases st.wd <;> rfl
      rw [ez]
      by_cases cw : st.wd = []
      · rw [decide_eq_true cw]
        refine ⟨_, rfl, iteF ⟨uH1, _, rfl, ?_⟩⟩
        rw [show (csOf st).bk = none from if_pos cw]
      · rw [decide_eq_false cw]
        refine ⟨_, rfl, iteT ⟨_, rfl, p, _, dx, _, _, rfl, cx1.h1, T.K_CaseRows, T.N_CaseRows_words, crF_words .., uH1, _, rfl, ?_⟩⟩
        rw [show (csOf st).bk = some st.wd from if_neg cw]
    rintro σ' H1 ⟨s1, bv, rfl, hb⟩
    have cx1 := cx.same s1
    refine ⟨_, rfl, p, _, dx, _, _, rfl, cx1.h1, T.K_CaseRows, T.N_CaseRows_signs, crF_signs .., _, rfl, p, _, dx, _, _, rfl, cx1.h1, T.K_CaseRows, T.N_CaseRows_firsts, crF_firsts .., _, rfl, p, _, dx, _, _, rfl, cx1.h1, T.K_CaseRows, T.N_CaseRows_pairs, crF_pairs .., _, rfl, p, _, dx, _, _, rfl, cx1.h1, T.K_CaseRows, T.N_CaseRows_longest, crF_longest .., (by show 4 ≤ sizeLine; decide), fun q1 hq1 => ?_⟩
    rw [eg]
    dsimp only [lgV]
    have uH2 := Same.upd (o := .tup [V.ref a, V.ref b, V.ref c, V.int g]) hq1
    have eq1 : (upd H1 q1 (.tup [V.ref a, V.ref b, V.ref c, V.int g])) q1 = some (.tup [V.ref a, V.ref b, V.ref c, V.int g]) := upd_same
    generalize upd H1 q1 (.tup [V.ref a, V.ref b, V.ref c, V.int g]) = H2 at uH2 eq1 ⊢
    have cx2 := cx1.same uH2
    refine ⟨_, rfl, p, _, dx, _, _, rfl, cx2.h1, T.K_CaseRows, T.N_CaseRows_wants, crF_wants .., _, rfl, (by show 3 ≤ sizeLine; decide), fun q2 hq2 => ?_⟩
    have uH3 := Same.upd (o := .tup [V.ref q1, V.ref d, bv]) hq2
    have eq2 : (upd H2 q2 (.tup [V.ref q1, V.ref d, bv])) q2 = some (.tup [V.ref q1, V.ref d, bv]) := upd_same
    generalize upd H2 q2 (.tup [V.ref q1, V.ref d, bv]) = H3 at uH3 eq2 ⊢
    have cx3 := cx2.same uH3
    obtain ⟨na, nb, nc, nd, ne, ab, ac, ad, ae, bc, bd, be, cd, ce, de⟩ := cx.r
    have e1 := uH3 _ _ eq1
    refine k q2 H3 cx3.sm ⟨q1, a, b, c, d, bv, xs, ys, eq2, ?_, cx3.h2, cx3.h3, cx3.h4, cx3.h5, cx3.h6, cx3.h7, na, nb, nc, nd, ab, ac, bc, ad, bd, cd, ?_⟩
    · show H3 q1 = some (.tup [.ref a, .ref b, .ref c, .int (st.lg.getD 0)])
      rw [eg]
      exact e1
    · show (match (if st.wd = [] then none else some st.wd) with | none => bv = .non | some bb => _)
      have hb : (match (if st.wd = [] then none else some st.wd) with | none => bv = .non | some bb => bv = .ref e) := hb
      by_cases cw : st.wd = []
      · rw [if_pos cw] at hb ⊢
        exact hb
      · rw [if_neg cw] at hb ⊢
        exact ⟨e, hb, cx3.h8, ne, ae, be, ce, de⟩
end
end Dear

namespace Dear
open PySem PySem.Spec PyProof.Rows L2
def readD : D → Rd ⊕ Nat
  | .str z => readC z.cps.toList
  | _ => .inr 0
def RtOk : D → Prop
  | .str z => z.length ≤ 1000000 ∧ Asc z ∧ (rowsOf z.cps.toList).length ≤ 900 ∧ ∀ r ∈ rowsOf z.cps.toList, r.length ≤ 900
  | _ => True
def spReadC (N : Addr) : Sp := fun vs H Q E => ∃ (v : V) (d : D), vs = [v] ∧ Dt H v d ∧ RtOk d ∧
  (∀ n, readD d = .inr n → ∀ (dd : Addr) (H' : Hp), Same H H' → H dd = none → H' dd = some (.xd [("row", .int (n : Nat))]) → E (.ref N) (some dd) H') ∧
  (∀ st, readD d = .inl st → RdOk st → lacksB st = false → ∀ (q : Addr) (H' : Hp), Same H H' → CsNew H H' q (csOf st) → Q (.ref q) H')
theorem cs_ok {st : Rd} (o : RdOk st) (l : lacksB st = false) : CsOk (csOf st) ∧ st.lg ≠ none := by
  unfold lacksB at l
  rw [Bool.or_eq_false_iff, decide_eq_false_iff_not] at l
  obtain ⟨l1, l2⟩ := l
  have lg := o.wl l1
  obtain ⟨g, eg⟩ := Option.ne_none_iff_exists'.mp lg
  have gg := o.lg g eg
  have e : (csOf st).i = g := by
    show st.lg.getD 0 = g
    rw [eg]
    rfl
  refine ⟨⟨⟨rfl, o.sg, o.nd, o.l2 (.inr (.inr lg)), o.l6, o.fn, o.fo, o.po, by rw [e]; exact gg.1, by rw [e]; exact gg.2⟩, o.wo, ?_, o.w20, fun b hb => ?_⟩, lg⟩
  · show 1 ≤ st.ws.length
    exact List.length_pos_iff.mpr l1
  · have hb : (if st.wd = [] then none else some st.wd) = some b := hb
    split at hb
    · cases hb
    · rename_i cw
      injection hb with hb
      subst hb
      have l2 : (decide (st.wd.length = 0) || decide (st.wd.length = st.ws.length)) = true := by
        cases e9 : (decide (st.wd.length = 0) || decide (st.wd.length = st.ws.length)) with
        | true => rfl
        | false => rw [e9] at l2; cases l2
      rw [Bool.or_eq_true, decide_eq_true_eq, decide_eq_true_eq] at l2
      refine ⟨?_, o.wt⟩
      rcases l2 with l2 | l2
      · exact absurd (List.length_eq_zero_iff.mp l2) cw
      · exact l2
section
variable {P : Program} {w : World} {K : PySem.W.Frag} {mg : Str → Option Value} {base : Heap}
set_option pp.maxSteps 3000
theorem o_read_case (T : Txt K mg) : OkF P w K mg base (L2.CX P w) 9 "read_case" ["text"] (spReadC T.A.NoText) := by
  have o_CaseRows := o_CaseRows (P := P) (w := w) (base := base) T
  have o_CaseRows_takes := o_CaseRows_takes (P := P) (w := w) (base := base) T
  have o_CaseRows_lacks := o_CaseRows_lacks (P := P) (w := w) (base := base) T
  have o_CaseRows_made := o_CaseRows_made (P := P) (w := w) (base := base) T
  have oi_NoText := oi_NoText (P := P) (w := w) (base := base) T
  refine T.f_read_case.okX c_read_case (fun vs H Q E h => ?_) (fun f cdv A outer s H vs Q E hr h => ?_)
  · obtain ⟨v, d, rfl, _⟩ := h
    rfl
  · obtain ⟨v, d, rfl, hD, rt, kE, kQ⟩ := h
    refine ⟨_, (pss_cons (ps_if (pt_not (pt_val (pe_callB (call_isi_k K) (by rfl) T.b_isinstance (by decide +kernel) (pa_cons (pv 0) (pa_cons (pe_bltn (v := .ty "str") (by rfl) T.b_str (by decide +kernel) rfl) pa_nil)))))
(pss_one (ps_raise rfl (takes_of rfl rfl rfl rfl) (pmk_i oi_NoText hr (pa_cons pe_int pa_nil))))
pss_nil)
(pss_cons (ps_set (i := 1) c_read_case.nd rfl (Or.inl rfl) (pe_mk0 o_CaseRows hr))
(pss_cons (ps_set (i := 2) c_read_case.nd rfl (Or.inl rfl) (pe_split (pv 0) pe_str))
(pss_cons (ps_for (passes_of rfl) rfl (pi_enum (by rfl) T.b_enumerate (pa_cons (pv 2) pa_nil)) (pg_tup_k K (n := 2) rfl (pgs_cons (pg_name (i := 3) c_read_case.nd rfl (Or.inl rfl)) (pgs_cons (pg_name (i := 4) c_read_case.nd rfl (Or.inl rfl)) pgs_nil)))
(pss_one (ps_if (pt_not (pt_val (pe_m o_CaseRows_takes T.K_CaseRows hr (pv 1) (pa_cons (pv 4) pa_nil))))
(pss_one (ps_raise rfl (takes_of rfl rfl rfl rfl) (pmk_i oi_NoText hr (pa_cons (pv 3) pa_nil))))
pss_nil)))
(pss_cons (ps_if (pt_val (pe_mz o_CaseRows_lacks T.K_CaseRows hr (pv 1)))
(pss_one (ps_raise rfl (takes_of rfl rfl rfl rfl) (pmk_i oi_NoText hr (pa_cons (pe_callB (call_len_seq_k K) (by rfl) T.b_len PySem.boot_len (pa_cons (pv 2) pa_nil)) pa_nil))))
pss_nil)
(pss_one (ps_ret (pe_mz o_CaseRows_made T.K_CaseRows hr (pv 1))))))))), ?_⟩
    have fv : ∀ {n : Nat}, n ≤ 1000000 → FmtV (.int ((n : Nat) : Int)) := fun {n} h => .inr (.inr ⟨_, rfl, Nat.lt_of_le_of_lt (show ((n : Nat) : Int).natAbs ≤ 1000000 by omega) (by decide)⟩)
    have bad : ∀ {n : Nat} {H1 : Hp}, readD d = .inr n → Same H H1 → ∀ dd : Addr, H1 dd = none → E (.ref T.A.NoText) (some dd) (upd H1 dd (.xd [("row", .int ((n : Nat) : Int))])) := fun {n H1} e s1 dd hd => kE n e dd _ (s1.trans (Same.upd hd)) (same_none s1 hd) upd_same
    refine ⟨_, rfl, _, _, _, _, _, rfl, .ty _, hD.ty, kit_ty (kd_str _), _, rfl, ?_⟩
    cases hD with
    | str z =>
      obtain ⟨z1, za, zn, zr⟩ := rt
      refine iteF ?_
      refine fun x dx hx hdx nex => ⟨x, dx, H, rfl, upd_same, ?_, hx, fun H1 cr => ⟨rfl, ?_⟩⟩
      · intro b o e
        rw [upd_ne (ne_of_none e hx), upd_ne (ne_of_none e hdx)]
        exact e
      have ez := txt_of z
      generalize z.cps.toList = l at ez zn zr
      subst ez
      rw [txt_length] at z1
      refine ⟨_, rfl, ⟨_, rfl⟩, txt l, "\n", rfl, rfl, (by decide +kernel), ?_, fun r hr1 => ?_⟩
      · rw [txt_length]
        exact Nat.le_trans (Nat.add_le_add_right z1 2) (by decide)
      have sp := split_c l 10 (by decide)
      have ekl : TL.spl [10] 0 [] l = rowsOf l := rfl
      rw [show ("\n" : Str) = txt [10] by decide +kernel, sp, ekl, ← vsT_strs]
      have cg := cr.grow (o := .lst (vsT (rowsOf l))) hr1
      have hr0 : H r = none := same_none cr.sm hr1
      have s0 : Same H (upd H r (.lst (vsT (rowsOf l)))) := Same.upd hr0
      have erb : (upd H r (.lst (vsT (rowsOf l)))) r = some (.lst (vsT (rowsOf l))) := upd_same
      generalize upd H1 r (.lst (vsT (rowsOf l))) = H2 at cg ⊢
      generalize upd H r (.lst (vsT (rowsOf l))) = Hb at cg s0 erb
      have rdl : readD (.str (txt l)) = readC l := by
        show readC (txt l).cps.toList = _
        rw [txt_list]
      rw [rdl] at kE kQ bad
      have vl := vsT_lenC (rowsOf l)
      refine ⟨_, rfl, r, _, rfl, SqL.of (cg.sm _ _ erb), for_it walk_enum (fun j σ H' => ∃ (st : Rd) (v3 v4 : Option V), CrAt T.A.CaseRows Hb H' x st ∧ readF 0 .init ((rowsOf l).take j) = .inl st ∧ σ = [some (.str (txt l)), some (.ref x), some (.ref r), v3, v4])
        ⟨.init, _, _, cg, rfl, rfl⟩ (fun j σ H' _ h => by obtain ⟨st, v3, v4, c9, _⟩ := h; exact SqL.of (c9.sm _ _ erb)) ?_ ?_⟩
      · rintro j y σ H3 H3' hj ⟨st, v3, v4, c3, rd, rfl⟩ ⟨tp, y1, y2, rfl, htp, rfl, hy1, hy2⟩
        injection hy1 with hy1
        subst hy1
        obtain ⟨row, hrow, rfl⟩ := vsT_get hy2
        rw [vl] at hj
        have uH4 := Same.upd (o := .tup [V.int ((j : Nat) : Int), V.str (txt row)]) htp
        have etp : (upd H3 tp (.tup [V.int ((j : Nat) : Int), V.str (txt row)])) tp = some (.tup [V.int ((j : Nat) : Int), V.str (txt row)]) := upd_same
        generalize upd H3 tp (.tup [V.int ((j : Nat) : Int), V.str (txt row)]) = H4 at uH4 etp ⊢
        have c4 := c3.same uH4
        refine ⟨tp, _, rfl, SqT.of etp, rfl, _, _, rfl, _, _, rfl, rfl, ?_⟩
        obtain ⟨dx4, _, _, _, _, _, _, _, h1, _⟩ := c4.ex
        have hm := List.mem_of_getElem? hrow
        have asr : Asc (txt row) := fun c hc => by
          rw [txt_list] at hc
          rcases spl_sub [10] l 0 [] row hm c hc with q | q
          · cases q
          · exact za c (by rw [txt_list]; exact q)
        have step : ∀ st', takesF st row = some st' → readF 0 .init ((rowsOf l).take (j + 1)) = .inl st' := fun st' e => by
          rw [take_more hrow, readF_app rd]
          show (match takesF st row with | some s => readF _ s [] | none => .inr _) = _
          rw [e]
          rfl
        refine ⟨_, rfl, x, dx4, _, rfl, h1, crF_no_takes .., _, rfl, x, Hb, st, row, rfl, c4, zr row hm, asr, fun st' e H5 c5 => ⟨_, rfl, iteF ⟨st', _, _, c5, step st' e, rfl⟩⟩, fun e H5 c5 => ⟨_, rfl, iteT ⟨_, rfl, mkx T.X_NoText (fv (by omega)) (bad ?_ (s0.trans c5.sm))⟩⟩⟩
        have er : readF 0 .init (rowsOf l) = .inr j := by
          have hsplit : rowsOf l = (rowsOf l).take j ++ row :: (rowsOf l).drop (j + 1) := by
            rw [← drop_get hrow, List.take_append_drop]
          rw [hsplit, readF_app rd]
          show (match takesF st row with | some s => readF _ s _ | none => .inr (0 + ((rowsOf l).take j).length)) = _
          rw [e, List.length_take]
          show Sum.inr _ = Sum.inr _
          congr 1
          omega
        unfold readC
        rw [er]
      · rintro σ H3 ⟨st, v3, v4, c3, rd, rfl⟩
        rw [vl, List.take_length] at rd
        obtain ⟨dx3, _, _, _, _, _, _, _, h1, _⟩ := c3.ex
        have rc : readC l = if lacksB st then .inr (rowsOf l).length else .inl st := by
          unfold readC
          rw [rd]
        refine ⟨_, rfl, x, dx3, _, rfl, h1, crF_no_lacks .., x, Hb, st, rfl, c3, fun H4 s4 => ?_⟩
        have c4 := c3.same s4
        cases el : lacksB st with
        | true =>
          rw [el, if_pos rfl] at rc
          refine ⟨_, rfl, iteT ⟨_, rfl, r, _, rfl, .inl (SqL.of (c4.sm _ _ erb)), mkx T.X_NoText (fv (by omega)) (bad (by rw [vl]; exact rc) (s0.trans c4.sm))⟩⟩
        | false =>
          rw [el, if_neg (by decide)] at rc
          have co := cs_ok c4.ok el
          refine ⟨_, rfl, iteF ?_⟩
          obtain ⟨dx4, _, _, _, _, _, _, _, g1, _⟩ := c4.ex
          refine ⟨_, rfl, x, dx4, _, rfl, g1, crF_no_made .., x, Hb, st, rfl, c4, co.2, fun q H5 s5 cn => kQ st rc c4.ok el q H5 (s0.trans s5) ?_⟩
          obtain ⟨pt, a, b, c, pw, bv, xs, ys, e1, e2, e3, e4, e5, e6, e7, e8, n1, n2, n3, n4, m1, m2, m3, m4, m5, m6, hbk⟩ := cn.ex
          refine ⟨pt, a, b, c, pw, bv, xs, ys, e1, e2, e3, e4, e5, e6, e7, e8, same_none s0 n1, same_none s0 n2, same_none s0 n3, same_none s0 n4, m1, m2, m3, m4, m5, m6, ?_⟩
          cases eb : (csOf st).bk with
          | none => rw [eb] at hbk; exact hbk
          | some bb =>
            rw [eb] at hbk
            obtain ⟨pb, q1, q2, q3, q4⟩ := hbk
            exact ⟨pb, q1, q2, same_none s0 q3, q4⟩
    | non => exact iteT (mkx T.X_NoText (fv (n := 0) (by decide)) (bad rfl (Same.refl _)))
    | bl _ => exact iteT (mkx T.X_NoText (fv (n := 0) (by decide)) (bad rfl (Same.refl _)))
    | int _ => exact iteT (mkx T.X_NoText (fv (n := 0) (by decide)) (bad rfl (Same.refl _)))
    | lst _ _ => exact iteT (mkx T.X_NoText (fv (n := 0) (by decide)) (bad rfl (Same.refl _)))
    | tup _ _ => exact iteT (mkx T.X_NoText (fv (n := 0) (by decide)) (bad rfl (Same.refl _)))
    | dct _ => exact iteT (mkx T.X_NoText (fv (n := 0) (by decide)) (bad rfl (Same.refl _)))
end
end Dear

namespace Dear
open PySem PySem.Spec PyProof.Rows L2
theorem ix_seq_k {X : Cx} (K : PySem.W.Frag) (h : X.K = K := by rfl) : IxR X (rIx K) := h ▸ ix_seq
mutual
/-- no truths and no dicts, lists not too long -/
def SmOk : D → Prop
  | .bl _ => False
  | .dct => False
  | .lst ds => ds.length ≤ 900 ∧ SmAll ds
  | .tup ds => ds.length ≤ 900 ∧ SmAll ds
  | _ => True
def SmAll : List D → Prop
  | [] => True
  | d :: ds => SmOk d ∧ SmAll ds
end
theorem SmAll.mem : ∀ {ds : List D} {d : D}, SmAll ds → d ∈ ds → SmOk d
  | _ :: _, _, h, m => by
    rcases List.mem_cons.mp m with rfl | m
    · exact h.1
    · exact SmAll.mem h.2 m
theorem SmAll.of : ∀ {ds : List D}, (∀ d ∈ ds, SmOk d) → SmAll ds
  | [], _ => trivial
  | d :: _, h => ⟨h d List.mem_cons_self, SmAll.of fun e he => h e (List.mem_cons_of_mem _ he)⟩
theorem depAll_mem : ∀ {ds : List D} {d : D}, d ∈ ds → dep d ≤ depAll ds
  | e :: r, d, m => by
    rcases List.mem_cons.mp m with rfl | m
    · exact Nat.le_max_left _ _
    · exact Nat.le_trans (depAll_mem m) (Nat.le_max_right _ _)
theorem any_lst {K : PySem.W.Frag} (ds : List D) : PySem.W.kitAny K (.type (kind (.lst ds))) [.type "list", .type "tuple"] = some true := kitAny_cons (b := true) (kit_ty (kd_list _)) (fun z => nomatch z) fun _ => rfl
theorem any_tup {K : PySem.W.Frag} (ds : List D) : PySem.W.kitAny K (.type (kind (.tup ds))) [.type "list", .type "tuple"] = some true := kitAny_cons (b := false) (kit_ty (kd_list _)) (fun _ => kitAny_cons (b := true) (kit_ty (kd_tuple _)) (fun z => nomatch z) fun _ => rfl) fun z => nomatch z
theorem any_no {K : PySem.W.Frag} {d : D} (h1 : isLst d = false) (h2 : isTup d = false) : PySem.W.kitAny K (.type (kind d)) [.type "list", .type "tuple"] = some false := kitAny_cons (b := false) (kit_ty (by rw [kd_list, h1])) (fun _ => kitAny_cons (b := false) (kit_ty (by rw [kd_tuple, h2])) (fun _ => rfl) fun z => nomatch z) fun z => nomatch z
def spSameN (n : Nat) : Sp := fun vs H Q _ => ∃ (v u : V) (d : D), vs = [v, u] ∧ Dt H v d ∧ Dt H u d ∧ SmOk d ∧ dep d < n ∧ ∀ H', Same H H' → Q (.bl true) H'
section
variable {P : Program} {w : World} {K : PySem.W.Frag} {mg : Str → Option Value} {base : Heap}
set_option pp.maxSteps 3000
theorem same_succ (T : Txt K mg) (n : Nat) (o__law_same : OkF P w K mg base CX0 n "_law_same" ["_law_found", "_law_due"] (spSameN n)) : OkF P w K mg base CX0 (n + 1) "_law_same" ["_law_found", "_law_due"] (spSameN (n + 1)) := by
  refine T.f__law_same.ok c__law_same (fun vs H Q E h => ?_) (fun f cdv A outer s H vs Q E hr h => ?_)
  · obtain ⟨v, u, d, rfl, _⟩ := h
    rfl
  · obtain ⟨v, u, d, rfl, hv, hu, ok, dl, k⟩ := h
    refine ⟨_, (pss_cons (ps_if (pt_val (pe_callB (call_isiT_k K) (by rfl) T.b_isinstance (by decide +kernel) (pa_cons (pv 1) (pa_cons (pe_tup (pa_cons (pe_bltn (v := .ty "list") (by rfl) T.b_list (by decide +kernel) rfl) (pa_cons (pe_bltn (v := .ty "tuple") (by rfl) T.b_tuple (by decide +kernel) rfl) pa_nil))) pa_nil))))
(pss_cons (ps_if (PW.pt (pw_or (pt_not (pt_val (pe_callB (call_isiT_k K) (by rfl) T.b_isinstance (by decide +kernel) (pa_cons (pv 0) (pa_cons (pe_tup (pa_cons (pe_bltn (v := .ty "list") (by rfl) T.b_list (by decide +kernel) rfl) (pa_cons (pe_bltn (v := .ty "tuple") (by rfl) T.b_tuple (by decide +kernel) rfl) pa_nil))) pa_nil))))) (pw_or1 (pt_cmpR op_ne (pe_callB (call_isi_k K) (by rfl) T.b_isinstance (by decide +kernel) (pa_cons (pv 0) (pa_cons (pe_bltn (v := .ty "list") (by rfl) T.b_list (by decide +kernel) rfl) pa_nil))) (pe_callB (call_isi_k K) (by rfl) T.b_isinstance (by decide +kernel) (pa_cons (pv 1) (pa_cons (pe_bltn (v := .ty "list") (by rfl) T.b_list (by decide +kernel) rfl) pa_nil))) (nomark _)))))
(pss_one (ps_ret pe_bl))
pss_nil)
(pss_cons (ps_if (pt_cmpR op_ne (pe_callB (call_len_seq_k K) (by rfl) T.b_len PySem.boot_len (pa_cons (pv 0) pa_nil)) (pe_callB (call_len_seq_k K) (by rfl) T.b_len PySem.boot_len (pa_cons (pv 1) pa_nil)) (nomark _))
(pss_one (ps_ret pe_bl))
pss_nil)
(pss_one (ps_ret (pe_cmpR (op_eqD_k K hr.units) (pe_lc (own := [("_law_k", 2)]) (g := gName 2) (by rfl) c__law_same.nd (pi_range1 (by rfl) T.b_range (pa_cons (pe_callB (call_len_seq_k K) (by rfl) T.b_len PySem.boot_len (pa_cons (pv 1) pa_nil)) pa_nil)) (blkOk_by (own := [("_law_k", 2)]) (N := n__law_same) (sc := defScope s__law_same) (by decide +kernel)) (fun _ _ _ _ _ => (pg_name (i := 2) c__law_same.nd rfl (Or.inl rfl))) (fun _ _ _ _ _ => (pts_one (pt_not (pt_val (pe_c o__law_same hr (pa_cons (pe_ix (ix_seq_k K) (pv 0) (pv 2) (fun _ _ => rfl)) (pa_cons (pe_ix (ix_seq_k K) (pv 1) (pv 2) (fun _ _ => rfl)) pa_nil)) (Nat.le_refl _)))))) (fun _ _ _ _ _ => (pv 2))) (pe_lst pa_nil) (nomark _))))))
pss_nil)
(pss_cons (ps_if (pt_cmpR op_isN (pv 1) pe_non (nomark _))
(pss_one (ps_ret (pe_cmpR op_isN (pv 0) pe_non (nomark _))))
pss_nil)
(pss_cons (ps_if (pt_val (pe_callB (call_isi_k K) (by rfl) T.b_isinstance (by decide +kernel) (pa_cons (pv 1) (pa_cons (pe_bltn (v := .ty "str") (by rfl) T.b_str (by decide +kernel) rfl) pa_nil))))
(pss_one (ps_ret (pe_and (pe_callB (call_isi_k K) (by rfl) T.b_isinstance (by decide +kernel) (pa_cons (pv 0) (pa_cons (pe_bltn (v := .ty "str") (by rfl) T.b_str (by decide +kernel) rfl) pa_nil))) (pe_one (pe_cmpR op_eq (pv 0) (pv 1) (nomark _))))))
pss_nil)
(pss_one (ps_ret (pe_and (pe_callB (call_isi_k K) (by rfl) T.b_isinstance (by decide +kernel) (pa_cons (pv 0) (pa_cons (pe_bltn (v := .ty "int") (by rfl) T.b_int (by decide +kernel) rfl) pa_nil))) (pe_and (pe_not (pe_callB (call_isi_k K) (by rfl) T.b_isinstance (by decide +kernel) (pa_cons (pv 0) (pa_cons (pe_bltn (v := .ty "bool") (by rfl) T.b_bool (by decide +kernel) rfl) pa_nil)))) (pe_one (pe_cmpR op_eq (pv 0) (pv 1) (nomark _)))))))))), ?_⟩
    have flat : ∀ {H1 : Hp}, isLst d = false → isTup d = false → Same H H1 → True := fun _ _ _ => trivial
    cases hv with
    | lst ha hall =>
      rename_i a xs ds
      obtain ⟨b, ys, eu, hb, hallu⟩ := hu.lstAt
      subst eu
      obtain ⟨l900, sm⟩ := ok
      have lx : xs.length = ds.length := hall.length
      have ly : ys.length = ds.length := hallu.length
      refine ⟨_, rfl, (by show 2 ≤ sizeLine; decide), fun p1 hp1 => ?_⟩
      have uH1 := Same.upd (o := .tup [V.ty "list", V.ty "tuple"]) hp1
      have ep1 : (upd H p1 (.tup [V.ty "list", V.ty "tuple"])) p1 = some (.tup [V.ty "list", V.ty "tuple"]) := upd_same
      generalize upd H p1 (.tup [V.ty "list", V.ty "tuple"]) = H1 at uH1 ep1 ⊢
      have du1 : Dt H1 (.ref b) (.lst ds) := (Dt.lst hb hallu).same uH1
      refine ⟨.ref b, p1, _, _, _, true, rfl, ep1, .cons (.ty _) (.cons (.ty _) .nil), du1.ty, any_lst ds, _, rfl, iteT ?_⟩
      refine ⟨_, rfl, (by show 2 ≤ sizeLine; decide), fun p2 hp2 => ?_⟩
      have uH2 := Same.upd (o := .tup [V.ty "list", V.ty "tuple"]) hp2
      have ep2 : (upd H1 p2 (.tup [V.ty "list", V.ty "tuple"])) p2 = some (.tup [V.ty "list", V.ty "tuple"]) := upd_same
      generalize upd H1 p2 (.tup [V.ty "list", V.ty "tuple"]) = H2 at uH2 ep2 ⊢
      have s02 := uH1.trans uH2
      have dv2 : Dt H2 (.ref a) (.lst ds) := (Dt.lst ha hall).same s02
      have du2 := du1.same uH2
      refine ⟨.ref a, p2, _, _, _, true, rfl, ep2, .cons (.ty _) (.cons (.ty _) .nil), dv2.ty, any_lst ds, _, rfl, iteF ?_⟩
      refine ⟨_, rfl, _, _, _, _, _, rfl, .ty _, dv2.ty, kit_ty (kd_list _), _, rfl, _, _, _, _, _, rfl, .ty _, du2.ty, kit_ty (kd_list _), rfl, _, rfl, itnd (fun z => absurd rfl z) fun _ => ?_⟩
      refine ⟨_, rfl, a, _, rfl, .inl (SqL.of (s02 _ _ ha)), _, rfl, b, _, rfl, .inl (SqL.of (s02 _ _ hb)), rfl, _, rfl, itnd (fun z => absurd (by rw [lx, ly]) z) fun _ => ?_⟩
      refine ⟨_, rfl, b, _, rfl, .inl (SqL.of (s02 _ _ hb)), _, rfl, by omega, by omega, fun pD hD => lc_range (lo := 0) (n := ((ys.length : Nat) : Int).toNat) (fun j H' => Same H2 H' ∧ H' pD = some (.lst [])) ⟨Same.upd hD, upd_same⟩ ?_ ?_⟩
      · rintro j H3 hj ⟨s3, e3⟩
        obtain ⟨x, hx⟩ : ∃ x, xs[j]? = some x := ⟨_, List.getElem?_eq_getElem (by omega)⟩
        obtain ⟨y, hy⟩ : ∃ y, ys[j]? = some y := ⟨_, List.getElem?_eq_getElem (by omega)⟩
        obtain ⟨dj, hdj, dx⟩ := hall.get hx
        obtain ⟨dj', hdj', dy⟩ := hallu.get hy
        rw [hdj] at hdj'
        injection hdj' with hdj'
        subst hdj'
        have s03 := s02.trans s3
        have ax : atI xs (0 + ((j : Nat) : Int)) = some x := by rw [Int.zero_add]; exact atI_nat hx
        have ay : atI ys (0 + ((j : Nat) : Int)) = some y := by rw [Int.zero_add]; exact atI_nat hy
        have hm := List.mem_of_getElem? hdj
        refine ⟨rfl, _, rfl, _, rfl, .inl ⟨ _, _, _, _, rfl, rfl, SqL.of (s03 _ _ ha), ax, _, rfl, _, rfl, .inl ⟨ _, _, _, _, rfl, rfl, SqL.of (s03 _ _ hb), ay, ?_⟩⟩⟩
        exact ⟨x, y, dj, rfl, dx.same s03, dy.same s03, sm.mem hm, by have h9 := depAll_mem hm; have dl : depAll ds + 1 < n + 1 := dl; omega, fun H4 s4 => ⟨_, rfl, iteF ⟨s3.trans s4, s4 _ _ e3⟩⟩⟩
      · rintro H3 ⟨s3, e3⟩
        refine ⟨(by show 0 ≤ sizeLine; decide), fun pE hpE => ?_⟩
        have uH4 := Same.upd (o := .lst []) hpE
        have epE : (upd H3 pE (.lst [])) pE = some (.lst []) := upd_same
        generalize upd H3 pE (.lst []) = H4 at uH4 epE ⊢
        refine ⟨_, _, .lst (SqL.of (uH4 _ _ e3)) .nil, .lst (SqL.of epE) .nil, shaped_nil, shaped_nil, ?_⟩
        rw [eqv_nil]
        exact k _ (s02.trans (s3.trans uH4))
    | tup ha hall =>
      rename_i a xs ds
      obtain ⟨b, ys, eu, hb, hallu⟩ := hu.tupAt
      subst eu
      obtain ⟨l900, sm⟩ := ok
      have lx : xs.length = ds.length := hall.length
      have ly : ys.length = ds.length := hallu.length
      refine ⟨_, rfl, (by show 2 ≤ sizeLine; decide), fun p1 hp1 => ?_⟩
      have uH1 := Same.upd (o := .tup [V.ty "list", V.ty "tuple"]) hp1
      have ep1 : (upd H p1 (.tup [V.ty "list", V.ty "tuple"])) p1 = some (.tup [V.ty "list", V.ty "tuple"]) := upd_same
      generalize upd H p1 (.tup [V.ty "list", V.ty "tuple"]) = H1 at uH1 ep1 ⊢
      have du1 : Dt H1 (.ref b) (.tup ds) := (Dt.tup hb hallu).same uH1
      refine ⟨.ref b, p1, _, _, _, true, rfl, ep1, .cons (.ty _) (.cons (.ty _) .nil), du1.ty, any_tup ds, _, rfl, iteT ?_⟩
      refine ⟨_, rfl, (by show 2 ≤ sizeLine; decide), fun p2 hp2 => ?_⟩
      have uH2 := Same.upd (o := .tup [V.ty "list", V.ty "tuple"]) hp2
      have ep2 : (upd H1 p2 (.tup [V.ty "list", V.ty "tuple"])) p2 = some (.tup [V.ty "list", V.ty "tuple"]) := upd_same
      generalize upd H1 p2 (.tup [V.ty "list", V.ty "tuple"]) = H2 at uH2 ep2 ⊢
      have s02 := uH1.trans uH2
      have dv2 : Dt H2 (.ref a) (.tup ds) := (Dt.tup ha hall).same s02
      have du2 := du1.same uH2
      refine ⟨.ref a, p2, _, _, _, true, rfl, ep2, .cons (.ty _) (.cons (.ty _) .nil), dv2.ty, any_tup ds, _, rfl, iteF ?_⟩
      refine ⟨_, rfl, _, _, _, _, _, rfl, .ty _, dv2.ty, kit_ty (kd_list _), _, rfl, _, _, _, _, _, rfl, .ty _, du2.ty, kit_ty (kd_list _), rfl, _, rfl, itnd (fun z => absurd rfl z) fun _ => ?_⟩
      refine ⟨_, rfl, a, _, rfl, .inr (SqT.of (s02 _ _ ha)), _, rfl, b, _, rfl, .inr (SqT.of (s02 _ _ hb)), rfl, _, rfl, itnd (fun z => absurd (by rw [lx, ly]) z) fun _ => ?_⟩
      refine ⟨_, rfl, b, _, rfl, .inr (SqT.of (s02 _ _ hb)), _, rfl, by omega, by omega, fun pD hD => lc_range (lo := 0) (n := ((ys.length : Nat) : Int).toNat) (fun j H' => Same H2 H' ∧ H' pD = some (.lst [])) ⟨Same.upd hD, upd_same⟩ ?_ ?_⟩
      · rintro j H3 hj ⟨s3, e3⟩
        obtain ⟨x, hx⟩ : ∃ x, xs[j]? = some x := ⟨_, List.getElem?_eq_getElem (by omega)⟩
        obtain ⟨y, hy⟩ : ∃ y, ys[j]? = some y := ⟨_, List.getElem?_eq_getElem (by omega)⟩
        obtain ⟨dj, hdj, dx⟩ := hall.get hx
        obtain ⟨dj', hdj', dy⟩ := hallu.get hy
        rw [hdj] at hdj'
        injection hdj' with hdj'
        subst hdj'
        have s03 := s02.trans s3
        have ax : atI xs (0 + ((j : Nat) : Int)) = some x := by rw [Int.zero_add]; exact atI_nat hx
        have ay : atI ys (0 + ((j : Nat) : Int)) = some y := by rw [Int.zero_add]; exact atI_nat hy
        have hm := List.mem_of_getElem? hdj
        refine ⟨rfl, _, rfl, _, rfl, .inr (.inl ⟨ _, _, _, _, rfl, rfl, SqT.of (s03 _ _ ha), ax, _, rfl, _, rfl, .inr (.inl ⟨ _, _, _, _, rfl, rfl, SqT.of (s03 _ _ hb), ay, ?_⟩)⟩)⟩
        exact ⟨x, y, dj, rfl, dx.same s03, dy.same s03, sm.mem hm, by have h9 := depAll_mem hm; have dl : depAll ds + 1 < n + 1 := dl; omega, fun H4 s4 => ⟨_, rfl, iteF ⟨s3.trans s4, s4 _ _ e3⟩⟩⟩
      · rintro H3 ⟨s3, e3⟩
        refine ⟨(by show 0 ≤ sizeLine; decide), fun pE hpE => ?_⟩
        have uH4 := Same.upd (o := .lst []) hpE
        have epE : (upd H3 pE (.lst [])) pE = some (.lst []) := upd_same
        generalize upd H3 pE (.lst []) = H4 at uH4 epE ⊢
        refine ⟨_, _, .lst (SqL.of (uH4 _ _ e3)) .nil, .lst (SqL.of epE) .nil, shaped_nil, shaped_nil, ?_⟩
        rw [eqv_nil]
        exact k _ (s02.trans (s3.trans uH4))
    | non =>
      cases hu
      refine ⟨_, rfl, (by show 2 ≤ sizeLine; decide), fun p1 hp1 => ?_⟩
      have uH1 := Same.upd (o := .tup [V.ty "list", V.ty "tuple"]) hp1
      have ep1 : (upd H p1 (.tup [V.ty "list", V.ty "tuple"])) p1 = some (.tup [V.ty "list", V.ty "tuple"]) := upd_same
      generalize upd H p1 (.tup [V.ty "list", V.ty "tuple"]) = H1 at uH1 ep1 ⊢
      refine ⟨.non, p1, _, _, _, false, rfl, ep1, .cons (.ty _) (.cons (.ty _) .nil), (Dt.non (H := H1)).ty, any_no rfl rfl, _, rfl, iteF ?_⟩
      exact ⟨_, rfl, rfl, _, rfl, iteT ⟨_, rfl, rfl, k _ uH1⟩⟩
    | str z =>
      cases hu
      refine ⟨_, rfl, (by show 2 ≤ sizeLine; decide), fun p1 hp1 => ?_⟩
      have uH1 := Same.upd (o := .tup [V.ty "list", V.ty "tuple"]) hp1
      have ep1 : (upd H p1 (.tup [V.ty "list", V.ty "tuple"])) p1 = some (.tup [V.ty "list", V.ty "tuple"]) := upd_same
      generalize upd H p1 (.tup [V.ty "list", V.ty "tuple"]) = H1 at uH1 ep1 ⊢
      refine ⟨.str z, p1, _, _, _, false, rfl, ep1, .cons (.ty _) (.cons (.ty _) .nil), (Dt.str (H := H1) z).ty, any_no rfl rfl, _, rfl, iteF ?_⟩
      refine ⟨_, rfl, rfl, _, rfl, iteF ⟨_, rfl, _, _, _, _, _, rfl, .ty _, (Dt.str (H := H1) z).ty, kit_ty (kd_str (.str z)), _, rfl, iteT ?_⟩⟩
      refine ⟨_, rfl, _, _, _, _, _, rfl, .ty _, (Dt.str (H := H1) z).ty, kit_ty (kd_str (.str z)), _, rfl, iteT ⟨_, rfl, _, rfl, rfl, ?_⟩⟩
      rw [decide_eq_true rfl]
      exact k _ uH1
    | int i =>
      cases hu
      refine ⟨_, rfl, (by show 2 ≤ sizeLine; decide), fun p1 hp1 => ?_⟩
      have uH1 := Same.upd (o := .tup [V.ty "list", V.ty "tuple"]) hp1
      have ep1 : (upd H p1 (.tup [V.ty "list", V.ty "tuple"])) p1 = some (.tup [V.ty "list", V.ty "tuple"]) := upd_same
      generalize upd H p1 (.tup [V.ty "list", V.ty "tuple"]) = H1 at uH1 ep1 ⊢
      refine ⟨.int i, p1, _, _, _, false, rfl, ep1, .cons (.ty _) (.cons (.ty _) .nil), (Dt.int (H := H1) i).ty, any_no rfl rfl, _, rfl, iteF ?_⟩
      refine ⟨_, rfl, rfl, _, rfl, iteF ⟨_, rfl, _, _, _, _, _, rfl, .ty _, (Dt.int (H := H1) i).ty, kit_ty (kd_str (.int i)), _, rfl, iteF ?_⟩⟩
      refine ⟨_, rfl, _, _, _, _, _, rfl, .ty _, (Dt.int (H := H1) i).ty, kit_ty (kd_int (.int i)), _, rfl, iteT ?_⟩
      refine ⟨_, rfl, _, _, _, _, _, rfl, .ty _, (Dt.int (H := H1) i).ty, kit_ty (kd_bool (.int i)), _, rfl, _, rfl, iteT ⟨_, rfl, _, rfl, rfl, ?_⟩⟩
      rw [decide_eq_true rfl]
      exact k _ uH1
    | bl b => exact False.elim ok
    | dct _ => exact False.elim ok
theorem same_at (T : Txt K mg) : ∀ n, OkF P w K mg base CX0 n "_law_same" ["_law_found", "_law_due"] (spSameN n)
  | 0 => by
    obtain ⟨f, fd, hm, F, hb⟩ := T.f__law_same
    refine ⟨f, fd, hm, F.kp, hb, fun vs H Q E h => ?_, fun A outer s H args us vs Q E _ _ _ _ h => ?_⟩
    · obtain ⟨v, u, d, _, _, _, _, h, _⟩ := h
      exact absurd h (Nat.not_lt_zero _)
    · obtain ⟨v, u, d, _, _, _, _, h, _⟩ := h
      exact absurd h (Nat.not_lt_zero _)
  | n + 1 => same_succ T n (same_at T n)
end
end Dear

namespace Dear
open PySem PySem.Spec PyProof.Rows L2
/-! ### what a case writes is read back -/
theorem mem_joinL {sep : List Nat} {c : Nat} : ∀ {rs : List (List Nat)}, c ∈ TL.joinL sep rs → c ∈ sep ∨ ∃ r ∈ rs, c ∈ r
  | [], h => nomatch h
  | [r], h => .inr ⟨r, List.mem_cons_self, h⟩
  | r :: r2 :: rs, h => by
    have h : c ∈ r ++ (sep ++ TL.joinL sep (r2 :: rs)) := by
      have h' : c ∈ r ++ sep ++ TL.joinL sep (r2 :: rs) ∨ c ∈ r ++ (sep ++ TL.joinL sep (r2 :: rs)) := by first | exact .inr h | exact .inl h
      rcases h' with h' | h'
      · rw [List.append_assoc] at h'
        exact h'
      · exact h'
    rcases List.mem_append.mp h with h | h
    · exact .inr ⟨r, List.mem_cons_self, h⟩
    · rcases List.mem_append.mp h with h | h
      · exact .inl h
      · rcases mem_joinL h with h | ⟨r', h1, h2⟩
        · exact .inl h
        · exact .inr ⟨r', List.mem_cons_of_mem _ h1, h2⟩
theorem len_joinL {n : Nat} : ∀ {rs : List (List Nat)}, (∀ r ∈ rs, r.length ≤ n) → (TL.joinL [10] rs).length ≤ (n + 1) * rs.length
  | [], _ => Nat.zero_le _
  | [r], h => by
    have := h r List.mem_cons_self
    show r.length ≤ (n + 1) * 1
    omega
  | r :: r2 :: rs, h => by
    have h1 := h r List.mem_cons_self
    have ih := len_joinL (rs := r2 :: rs) fun r hr => h r (List.mem_cons_of_mem _ hr)
    have e : (TL.joinL [10] (r :: r2 :: rs)).length = r.length + 1 + (TL.joinL [10] (r2 :: rs)).length := by
      show (r ++ ([10] ++ TL.joinL [10] (r2 :: rs))).length = _
      rw [List.length_append, List.length_append]
      show r.length + (1 + _) = _
      omega
    rw [e, List.length_cons, Nat.mul_succ]
    omega
theorem frac_asc {t b : Int} {c : Nat} (q : c ∈ fracL t b) : c < 128 := by
  unfold fracL at q
  rcases List.mem_append.mp q with q | q
  · rcases List.mem_append.mp q with q | q
    · split at q
      · rw [List.mem_singleton] at q
        omega
      · cases q
    · have := fig_dig _ c q
      omega
  · split at q
    · cases q
    · rcases List.mem_cons.mp q with q | q
      · omega
      · have := fig_dig _ c q
        omega
theorem last_asc {l : D} {c : Nat} (s : LastD l) (q : c ∈ fracD l) : c < 128 := by
  match l, s with
  | .non, _ =>
    have q : c ∈ [45] := q
    rw [List.mem_singleton] at q
    omega
  | .tup [.int t, .int b], _ => exact frac_asc q
theorem row_asc {d : D} {ds : List D} {cs fs : List Nat} {zs : List Str} {i : Int} {ws : List (List Nat × Int)} {bk : Option (List (List Nat))} (td : TgD d ds cs fs zs i) (wo : WsOk ws) (hb : ∀ t ∈ bkL bk, nmOk t = true) : ∀ r ∈ rowsC ds fs zs i ws bk, ∀ c ∈ r, c < 128 := by
  have hl : ∀ c ∈ cs, c < 128 := fun c hc => in_letters_asc (td.sg.facts.2.2.2.2.2 c hc)
  have kS : ∀ c ∈ kSign, c < 128 := by decide
  have kF : ∀ c ∈ kFirst, c < 128 := by decide
  have kP : ∀ c ∈ kPair, c < 128 := by decide
  have kL : ∀ c ∈ kLong, c < 128 := by decide
  have kT : ∀ c ∈ kThing, c < 128 := by decide
  have kW : ∀ c ∈ kWord, c < 128 := by decide
  have sp : ∀ c ∈ [32], c < 128 := by decide
  have fg : ∀ {n c : Nat}, c ∈ figL n → c < 128 := fun {n c} q => by
    have := fig_dig n c q
    omega
  intro r hr x q
  unfold rowsC at hr
  simp only [List.mem_append] at hr
  rcases hr with ((((hr | hr) | hr) | hr) | hr) | hr
  · obtain ⟨d', hd, rfl⟩ := List.mem_map.mp hr
    obtain ⟨j, hj⟩ := List.getElem?_of_mem hd
    obtain ⟨c, _, sd⟩ := td.sg.get hj
    obtain ⟨t, b, l, rfl, hp, hl'⟩ := sd.ex
    have hc := in_letters_asc sd.2
    have q : x ∈ kSign ++ [c] ++ [32] ++ fracL t b ++ [32] ++ fracD l := q
    simp only [List.mem_append] at q
    rcases q with ((((q | q) | q) | q) | q) | q
    · exact kS x q
    · rw [List.mem_singleton] at q
      rw [q]
      exact hc
    · exact sp x q
    · exact frac_asc q
    · exact sp x q
    · exact last_asc hl' q
  · obtain ⟨c, hc, rfl⟩ := List.mem_map.mp hr
    have := hl c (td.fo c hc)
    rcases List.mem_append.mp q with q | q
    · exact kF x q
    · rw [List.mem_singleton] at q
      rw [q]
      exact this
  · obtain ⟨z, hz, rfl⟩ := List.mem_map.mp hr
    obtain ⟨a, ha, b, hb', rfl⟩ := td.po.of z hz
    have h1 := hl a ha
    have h2 := hl b hb'
    have q : x ∈ kPair ++ (sgn a ++ sgn b).cps.toList := q
    rw [tl_sgn2] at q
    rcases List.mem_append.mp q with q | q
    · exact kP x q
    · simp only [List.mem_cons, List.not_mem_nil, or_false] at q
      rcases q with q | q <;> (rw [q]; assumption)
  · rw [List.mem_singleton] at hr
    subst hr
    rcases List.mem_append.mp q with q | q
    · exact kL x q
    · exact fg q
  · obtain ⟨w, hw, rfl⟩ := List.mem_map.mp hr
    have ow := wo.all w hw
    have q : x ∈ kThing ++ w.1 ++ [32] ++ figL w.2.natAbs := q
    simp only [List.mem_append] at q
    rcases q with ((q | q) | q) | q
    · exact kT x q
    · exact in_letters_asc (ow.l x q)
    · exact sp x q
    · exact fg q
  · have eb : bookRows bk = (bkL bk).map wordRow := by cases bk <;> rfl
    rw [eb] at hr
    obtain ⟨t, ht, rfl⟩ := List.mem_map.mp hr
    rcases List.mem_append.mp q with q | q
    · exact kW x q
    · exact in_letters_asc ((nmOk_iff.mp (hb t ht)).1 x q)
section
variable {C : CsD}
theorem CsOk.nm (o : CsOk C) : ∀ t ∈ bkL C.bk, nmOk t = true := by
  cases e : C.bk with
  | none => intro t ht; cases ht
  | some b => exact fun t ht => nmOk_iff.mpr ((o.bo b e).2 t ht)
theorem CsOk.rows (o : CsOk C) : (rowsC C.ds C.fs C.zs C.i C.ws C.bk).length ≤ 100 ∧ ∀ r ∈ rowsC C.ds C.fs C.zs C.i C.ws C.bk, r.length ≤ 500 :=
  have l20 := o.l20
  rows_len o.td o.wo.all l20 (bk := C.bk) fun b' e' => ⟨by rw [(o.bo b' e').1]; exact l20, fun t ht => ((o.bo b' e').2 t ht).2.2⟩
theorem CsOk.rt (o : CsOk C) : RtOk (.str (caseText C.ds C.fs C.zs C.i C.ws C.bk)) := by
  obtain ⟨r1, r2⟩ := o.rows
  rw [case_txt]
  refine ⟨?_, fun c hc => ?_, ?_, ?_⟩
  · rw [txt_length]
    have := len_joinL r2
    unfold caseL
    omega
  · rw [txt_list] at hc
    rcases mem_joinL hc with h | ⟨r, h1, h2⟩
    · rw [List.mem_singleton] at h
      omega
    · exact row_asc o.td o.wo o.nm r h1 c h2
  · rw [txt_list, case_rows o.td o.wo o.nm]
    omega
  · rw [txt_list, case_rows o.td o.wo o.nm]
    intro r hr
    have := r2 r hr
    omega
/-- the state that such a text leaves -/
def stOf (C : CsD) : Rd := ⟨C.ds, C.cs, C.fs, C.zs, some C.i, C.ws, bkL C.bk⟩
theorem CsOk.lacks (o : CsOk C) : lacksB (stOf C) = false := by
  have l1 := o.l1
  unfold lacksB stOf
  have h1 : C.ws ≠ [] := List.length_pos_iff.mp l1
  rw [decide_eq_false h1]
  cases e : C.bk with
  | none => rfl
  | some b =>
    show (false || !(decide (b.length = 0) || decide (b.length = C.ws.length))) = false
    rw [decide_eq_true (o.bo b e).1, Bool.or_true]
    rfl
theorem CsOk.back (o : CsOk C) : readD (.str (caseText C.ds C.fs C.zs C.i C.ws C.bk)) = .inl (stOf C) := by
  show readC (caseText C.ds C.fs C.zs C.i C.ws C.bk).cps.toList = _
  rw [case_txt, txt_list]
  unfold readC
  have lb : (bkL C.bk).length ≤ C.ws.length := by
    cases e : C.bk with
    | none => exact Nat.zero_le _
    | some b => exact Nat.le_of_eq (o.bo b e).1
  have e : readF 0 .init (rowsOf (caseL C.ds C.fs C.zs C.i C.ws C.bk)) = .inl (stOf C) := by
    rw [case_rows o.td o.wo o.nm]
    exact rows_back o.td o.wo o.l20 ⟨lb, o.nm⟩
  rw [e]
  show (if lacksB (stOf C) then _ else _) = _
  rw [o.lacks]
  rfl
theorem CsOk.cs (o : CsOk C) : csOf (stOf C) = C := by
  have e1 : (if bkL C.bk = [] then none else some (bkL C.bk)) = C.bk := by
    cases e : C.bk with
    | none => rfl
    | some b =>
      have l1 := o.l1
      have := (o.bo b e).1
      exact if_neg (List.length_pos_iff.mp (show 0 < b.length by omega))
  have e2 := o.td.eq
  cases C with
  | mk d ds cs fs zs i ws bk =>
    unfold csOf stOf
    simp only at e1 e2 ⊢
    rw [e1, e2]
    rfl
end
end Dear

namespace Dear
open PySem PySem.Spec PyProof.Rows L2
/-! ### the first rows of a case, and rows that are refused -/
section
variable {C : CsD}
def headN (C : CsD) : Nat := C.ds.length + C.fs.length + C.zs.length
def rowsOfC (C : CsD) : List (List Nat) := rowsC C.ds C.fs C.zs C.i C.ws C.bk
/-- the state behind the first n rows -/
def stAt (C : CsD) (n : Nat) : Rd := ⟨C.ds.take n, C.cs.take n, C.fs.take (n - C.ds.length), C.zs.take (n - (C.ds.length + C.fs.length)), if n ≤ headN C then none else some C.i, C.ws.take (n - (headN C + 1)), (bkL C.bk).take (n - (headN C + 1 + C.ws.length))⟩
theorem SgAll.take : ∀ {ds : List D} {cs : List Nat} (n : Nat), SgAll ds cs → SgAll (ds.take n) (cs.take n)
  | _, _, 0, _ => .nil
  | _, _, _ + 1, .nil => .nil
  | _, _, n + 1, .cons s r => .cons s (r.take n)
theorem book_rows (bk : Option (List (List Nat))) : bookRows bk = (bkL bk).map wordRow := by cases bk <;> rfl
theorem rows_count : (rowsOfC C).length = headN C + 1 + C.ws.length + (bkL C.bk).length := by
  unfold rowsOfC rowsC headN
  rw [book_rows]
  simp only [List.length_append, List.length_map, List.length_cons, List.length_nil]
theorem rows_take (n : Nat) : (rowsOfC C).take n = (C.ds.take n).map signRow ++ (C.fs.take (n - C.ds.length)).map firstRow ++ (C.zs.take (n - (C.ds.length + C.fs.length))).map pairRow ++ [longRow C.i].take (n - headN C) ++ (C.ws.take (n - (headN C + 1))).map thingRow ++ ((bkL C.bk).take (n - (headN C + 1 + C.ws.length))).map wordRow := by
  unfold rowsOfC rowsC headN
  rw [book_rows]
  simp only [List.take_append, List.map_take, List.length_append, List.length_map, List.length_cons, List.length_nil]
theorem nodup_take {α : Type} {l : List α} (n : Nat) (h : l.Nodup) : (l.take n).Nodup := h.sublist (List.take_sublist n l)
theorem CsOk.at (o : CsOk C) (n : Nat) : readF 0 .init ((rowsOfC C).take n) = .inl (stAt C n) := by
  have td := o.td
  have ld : C.ds.length = C.cs.length := td.sg.facts.2.2.2.2.1
  have l2 := td.l2
  have l6 := td.l6
  have hl : ∀ c ∈ C.cs, 97 ≤ c := fun c hc => lett_no (td.sg.facts.2.2.2.2.2 c hc)
  rw [rows_take]
  have e1 := seg_sign (n := 0) (st := .init) (td.sg.take n) rfl rfl rfl (by rw [show Rd.init.cs = [] from rfl, List.nil_append]; exact nodup_take n td.nd) (by rw [show Rd.init.cs = [] from rfl, List.nil_append, List.length_take]; omega)
  have e1 : readF 0 .init ((C.ds.take n).map signRow) = .inl ⟨C.ds.take n, C.cs.take n, [], [], none, [], []⟩ := e1
  by_cases c1 : n ≤ C.ds.length
  · have a1 : n - C.ds.length = 0 := by omega
    have a2 : n - (C.ds.length + C.fs.length) = 0 := by omega
    have a3 : n - headN C = 0 := by unfold headN; omega
    have a4 : n - (headN C + 1) = 0 := by omega
    have a5 : n - (headN C + 1 + C.ws.length) = 0 := by omega
    unfold stAt
    rw [a1, a2, a3, a4, a5, if_pos (by omega)]
    simp only [List.take_zero, List.map_nil, List.append_nil]
    exact e1
  · have t1 : C.ds.take n = C.ds := List.take_of_length_le (by omega)
    have t2 : C.cs.take n = C.cs := List.take_of_length_le (by omega)
    rw [t1, t2] at e1
    rw [t1]
    have e2 := seg_first (fs := C.fs.take (n - C.ds.length)) (n := 0 + (C.ds.map signRow).length) (st := ⟨C.ds, C.cs, [], [], none, [], []⟩) td.l2 rfl rfl (fun c hc => td.fo c (List.mem_of_mem_take hc)) (fun c hc => hl c (td.fo c (List.mem_of_mem_take hc))) (nodup_take _ td.fn)
    have e3 := seg_pair (zs := C.zs.take (n - (C.ds.length + C.fs.length))) (n := 0 + (C.ds.map signRow ++ (C.fs.take (n - C.ds.length)).map firstRow).length) (st := ⟨C.ds, C.cs, C.fs.take (n - C.ds.length), [], none, [], []⟩) td.l2 rfl (fun z hz => td.po.of z (List.mem_of_mem_take hz)) hl (nodup_take _ td.po.nd)
    have e12 := (readF_app (b := (C.fs.take (n - C.ds.length)).map firstRow) e1).trans e2
    have e13 := (readF_app (b := (C.zs.take (n - (C.ds.length + C.fs.length))).map pairRow) e12).trans e3
    have e13 : readF 0 .init (C.ds.map signRow ++ (C.fs.take (n - C.ds.length)).map firstRow ++ (C.zs.take (n - (C.ds.length + C.fs.length))).map pairRow) = .inl ⟨C.ds, C.cs, C.fs.take (n - C.ds.length), C.zs.take (n - (C.ds.length + C.fs.length)), none, [], []⟩ := e13
    by_cases c2 : n ≤ headN C
    · have a3 : n - headN C = 0 := by omega
      have a4 : n - (headN C + 1) = 0 := by omega
      have a5 : n - (headN C + 1 + C.ws.length) = 0 := by omega
      unfold stAt
      rw [a3, a4, a5, if_pos c2, t1, t2]
      simp only [List.take_zero, List.map_nil, List.append_nil]
      exact e13
    · have t3 : C.fs.take (n - C.ds.length) = C.fs := List.take_of_length_le (by unfold headN at c2; omega)
      have t4 : C.zs.take (n - (C.ds.length + C.fs.length)) = C.zs := List.take_of_length_le (by unfold headN at c2; omega)
      rw [t3, t4] at e13
      rw [t3, t4]
      have t5 : [longRow C.i].take (n - headN C) = [longRow C.i] := List.take_of_length_le (by show 1 ≤ _; omega)
      rw [t5]
      have e14 : readF 0 .init (C.ds.map signRow ++ C.fs.map firstRow ++ C.zs.map pairRow ++ [longRow C.i]) = .inl ⟨C.ds, C.cs, C.fs, C.zs, some C.i, [], []⟩ := by
        rw [readF_app (b := [longRow C.i]) e13]
        show (match takesF ⟨C.ds, C.cs, C.fs, C.zs, none, [], []⟩ (longRow C.i) with | some s => readF _ s [] | none => .inr _) = _
        rw [take_long (st := ⟨C.ds, C.cs, C.fs, C.zs, none, [], []⟩) td.l2 rfl td.i1 td.i8]
        rfl
      have l20 := o.l20
      have e5 := seg_thing (ws := C.ws.take (n - (headN C + 1))) (n := 0 + (C.ds.map signRow ++ C.fs.map firstRow ++ C.zs.map pairRow ++ [longRow C.i]).length) (st := ⟨C.ds, C.cs, C.fs, C.zs, some C.i, [], []⟩) (fun q => nomatch q) rfl (fun w hw => o.wo.all w (List.mem_of_mem_take hw)) (by show ((C.ws.take _).map Prod.fst).Nodup; rw [List.map_take]; exact nodup_take _ o.wo.nd) (by show (C.ws.take _).length ≤ 20; rw [List.length_take]; omega)
      have e15 := (readF_app (b := (C.ws.take (n - (headN C + 1))).map thingRow) e14).trans e5
      have lb : (bkL C.bk).length ≤ C.ws.length := by
        cases e : C.bk with
        | none => exact Nat.zero_le _
        | some b => exact Nat.le_of_eq (o.bo b e).1
      have e6 := seg_word (bk := (bkL C.bk).take (n - (headN C + 1 + C.ws.length))) (n := 0 + (C.ds.map signRow ++ C.fs.map firstRow ++ C.zs.map pairRow ++ [longRow C.i] ++ (C.ws.take (n - (headN C + 1))).map thingRow).length) (st := ⟨C.ds, C.cs, C.fs, C.zs, some C.i, C.ws.take (n - (headN C + 1)), []⟩) (by show ((bkL C.bk).take _).length ≤ (C.ws.take _).length; rw [List.length_take, List.length_take]; omega) (fun t ht => o.nm t (List.mem_of_mem_take ht))
      have := (readF_app (b := ((bkL C.bk).take (n - (headN C + 1 + C.ws.length))).map wordRow) e15).trans e6
      rw [this]
      unfold stAt
      rw [t1, t2, t3, t4, if_neg c2]
      rfl
/-- a row that is refused behind the first n -/
theorem CsOk.ref (o : CsOk C) {n : Nat} (hn : n ≤ (rowsOfC C).length) {x : List Nat} {rest : List (List Nat)} (hx : takesF (stAt C n) x = none) : readF 0 .init ((rowsOfC C).take n ++ x :: rest) = .inr n := by
  rw [readF_app (b := x :: rest) (o.at n)]
  show (match takesF (stAt C n) x with | some s => readF _ s rest | none => .inr _) = _
  rw [hx, List.length_take, Nat.min_eq_left hn]
  show Sum.inr (0 + n) = _
  rw [Nat.zero_add]
end
/-- a row as a text's row -/
structure RowOk (x : List Nat) : Prop where
  l : x.length ≤ 500
  a : ∀ c ∈ x, c < 128
  n : 10 ∉ x
theorem CsOk.row {C : CsD} (o : CsOk C) : ∀ r ∈ rowsOfC C, RowOk r := fun r hr => ⟨o.rows.2 r hr, row_asc o.td o.wo o.nm r hr, rows_no o.td o.wo o.nm r hr⟩
theorem join_txt (rs : List (List Nat)) : Txt.join "\n" (rs.map txt) = txt (TL.joinL [10] rs) := by
  rw [show ("\n" : Str) = txt [10] by decide +kernel]
  exact SX.join_S [10] rs
theorem rows_join {rs : List (List Nat)} (hne : rs ≠ []) (h : ∀ r ∈ rs, RowOk r) : rowsOf (TL.joinL [10] rs) = rs := TL.spl_join hne fun r hr => (h r hr).n
theorem rt_join {rs : List (List Nat)} (hl : rs.length ≤ 900) (h : ∀ r ∈ rs, RowOk r) : RtOk (.str (Txt.join "\n" (rs.map txt))) := by
  rw [join_txt]
  refine ⟨?_, fun c hc => ?_, ?_, ?_⟩
  · rw [txt_length]
    have := len_joinL fun r hr => (h r hr).l
    omega
  · rw [txt_list] at hc
    rcases mem_joinL hc with q | ⟨r, h1, h2⟩
    · rw [List.mem_singleton] at q
      omega
    · exact (h r h1).a c h2
  · rw [txt_list]
    cases rs with
    | nil => decide
    | cons r rs => rw [rows_join (List.cons_ne_nil _ _) h]; exact hl
  · rw [txt_list]
    cases rs with
    | nil => decide
    | cons r rs =>
      rw [rows_join (List.cons_ne_nil _ _) h]
      intro r' hr'
      have := (h r' hr').l
      omega
theorem readD_join {rs : List (List Nat)} (hne : rs ≠ []) (h : ∀ r ∈ rs, RowOk r) : readD (.str (Txt.join "\n" (rs.map txt))) = (match readF 0 .init rs with | .inl st => if lacksB st then .inr rs.length else .inl st | .inr n => .inr n) := by
  rw [join_txt]
  show readC (txt (TL.joinL [10] rs)).cps.toList = _
  rw [txt_list]
  unfold readC
  rw [rows_join hne h]
  all_goals (cases readF 0 .init rs <;> rfl)
theorem readD_nil : readD (.str (Txt.join "\n" (([] : List (List Nat)).map txt))) = .inr 0 := by
  rw [join_txt]
  show readC (txt (TL.joinL [10] [])).cps.toList = _
  rw [txt_list]
  rfl
/-- the words that a state can take at all -/
def canTake : List (List Nat) → Bool
  | k :: ps => if k = wSign then (match ps with | [[c], p, l] => isLt c && (priceIn p).isSome && (lastIn l).isSome | _ => false)
    else if k = wFirst then (match ps with | [[c]] => isLt c | _ => false)
    else if k = wPair then (match ps with | [[a, b]] => isLt a && isLt b | _ => false)
    else if k = wLong then (match ps with | [t] => (match wholeN 1 t with | some n => decide (1 ≤ n ∧ n ≤ 8) | none => false) | _ => false)
    else if k = wThing then (match ps with | [t, q] => (match wholeN 10 q with | some n => decide (n ≤ 1000000000) && nmOk t | none => false) | _ => false)
    else if k = wWord then (match ps with | [t] => nmOk t | _ => false)
    else false
  | [] => false
theorem not_take {st : Rd} (hc : ∀ c ∈ st.cs, isLt c = true) {ps : List (List Nat)} (h : canTake ps = false) : takesP st ps = none := by
  match ps, h with
  | [], _ => rfl
  | k :: ps, h =>
    unfold canTake at h
    dsimp only at h
    show (if k = wSign then takesSign st ps else if k = wFirst then takesFirst st ps else if k = wPair then takesPair st ps else if k = wLong then takesLong st ps else if k = wThing then takesThing st ps else if k = wWord then takesWord st ps else none) = none
    split
    · rename_i c1
      rw [if_pos c1] at h
      unfold takesSign
      split
      · rename_i c p l
        simp only [Bool.and_eq_false_iff] at h
        split
        · rfl
        · rename_i q
          rcases h with (h | h) | h
          · exact absurd (.inr (.inr (.inr (.inr (.inl h))))) q
          · cases e : priceIn p with
            | none => rfl
            | some x => rw [e] at h; cases h
          · cases e : lastIn l with
            | none =>
              cases priceIn p <;> rfl
            | some x => rw [e] at h; cases h
      · rfl
    · rename_i c1
      rw [if_neg c1] at h
      split
      · rename_i c2
        rw [if_pos c2] at h
        unfold takesFirst
        split
        · rename_i c
          have h : isLt c = false := h
          rw [if_neg]
          intro q
          rw [Bool.and_eq_true, Bool.and_eq_true] at q
          have := hc c ((openB_iff.mp q.1.1).2 c List.mem_cons_self)
          rw [h] at this
          cases this
        · rfl
      · rename_i c2
        rw [if_neg c2] at h
        split
        · rename_i c3
          rw [if_pos c3] at h
          unfold takesPair
          split
          · rename_i a b
            have h : (isLt a && isLt b) = false := h
            rw [if_neg]
            intro q
            rw [Bool.and_eq_true] at q
            have q1 := (openB_iff.mp q.1).2
            rw [hc a (q1 a List.mem_cons_self), hc b (q1 b (List.mem_cons_of_mem _ List.mem_cons_self))] at h
            cases h
          · rfl
        · rename_i c3
          rw [if_neg c3] at h
          split
          · rename_i c4
            rw [if_pos c4] at h
            unfold takesLong
            split
            · rename_i t
              split
              · cases e : wholeN 1 t with
                | none => rfl
                | some n =>
                  simp only [e] at h
                  exact if_neg (of_decide_eq_false h)
              · rfl
            · rfl
          · rename_i c4
            rw [if_neg c4] at h
            split
            · rename_i c5
              rw [if_pos c5] at h
              unfold takesThing
              split
              · rename_i t q
                split
                · cases e : wholeN 10 q with
                  | none => rfl
                  | some n =>
                    simp only [e] at h
                    refine if_neg fun z => ?_
                    rw [decide_eq_true z.1, z.2.1] at h
                    cases h
                · rfl
              · rfl
            · rename_i c5
              rw [if_neg c5] at h
              split
              · rename_i c6
                rw [if_pos c6] at h
                unfold takesWord
                split
                · rename_i t
                  have h : nmOk t = false := h
                  refine if_neg fun z => ?_
                  rw [h] at z
                  exact nomatch z.2
                · rfl
              · rfl
/-- a row that no state takes -/
structure Never (x : List Nat) : Prop where
  r : RowOk x
  c : canTake (TL.spl [32] 0 [] x) = false
theorem CsOk.lt {C : CsD} (o : CsOk C) (n : Nat) : ∀ c ∈ (stAt C n).cs, isLt c = true := fun c hc => decide_eq_true (o.td.sg.facts.2.2.2.2.2 c (List.mem_of_mem_take hc))
theorem Never.at {C : CsD} {x : List Nat} (h : Never x) (o : CsOk C) (n : Nat) : takesF (stAt C n) x = none := not_take (o.lt n) h.c
end Dear

namespace Dear
open PySem PySem.Spec PyProof.Rows L2
/-! ### rows that stand at no place of theirs -/
section
variable {st : Rd} {C : CsD}
theorem tk_join {ps : List (List Nat)} (hne : ps ≠ []) (h : ∀ p ∈ ps, 32 ∉ p) : takesF st (TL.joinL [32] ps) = takesP st ps := by
  unfold takesF
  rw [spl32 hne h]
theorem no_sign {c : Nat} {p l : List Nat} (h : st.fs ≠ [] ∨ st.zs ≠ [] ∨ st.lg ≠ none ∨ st.cs.length = 6 ∨ c ∈ st.cs) : takesP st [wSign, [c], p, l] = none := by
  show (if st.fs ≠ [] ∨ st.zs ≠ [] ∨ st.lg ≠ none ∨ st.cs.length = 6 ∨ isLt c = false ∨ c ∈ st.cs then none else _) = none
  refine if_pos ?_
  rcases h with h | h | h | h | h
  · exact .inl h
  · exact .inr (.inl h)
  · exact .inr (.inr (.inl h))
  · exact .inr (.inr (.inr (.inl h)))
  · exact .inr (.inr (.inr (.inr (.inr h))))
theorem no_first {c : Nat} (h : ¬ 2 ≤ st.cs.length ∨ st.lg ≠ none ∨ ¬ c ∈ st.cs ∨ st.zs ≠ [] ∨ c ∈ st.fs) : takesP st [wFirst, [c]] = none := by
  show (if openB st [c] 1 && decide (st.zs = []) && !decide (c ∈ st.fs) then _ else none) = none
  refine if_neg fun q => ?_
  rw [Bool.and_eq_true, Bool.and_eq_true, decide_eq_true_eq] at q
  obtain ⟨⟨q1, q2⟩, q3⟩ := q
  obtain ⟨⟨a1, a2, _⟩, a3⟩ := openB_iff.mp q1
  rcases h with h | h | h | h | h
  · exact h a1
  · exact h a2
  · exact h (a3 c List.mem_cons_self)
  · exact h q2
  · rw [decide_eq_true h] at q3
    cases q3
theorem no_pair {a b : Nat} (h : ¬ 2 ≤ st.cs.length ∨ st.lg ≠ none ∨ ¬ a ∈ st.cs ∨ ¬ b ∈ st.cs ∨ sgn a ++ sgn b ∈ st.zs) : takesP st [wPair, [a, b]] = none := by
  show (if openB st [a, b] 2 && !decide (sgn a ++ sgn b ∈ st.zs) then _ else none) = none
  refine if_neg fun q => ?_
  rw [Bool.and_eq_true] at q
  obtain ⟨q1, q3⟩ := q
  obtain ⟨⟨a1, a2, _⟩, a3⟩ := openB_iff.mp q1
  rcases h with h | h | h | h | h
  · exact h a1
  · exact h a2
  · exact h (a3 a List.mem_cons_self)
  · exact h (a3 b (List.mem_cons_of_mem _ List.mem_cons_self))
  · rw [decide_eq_true h] at q3
    cases q3
theorem no_long {t : List Nat} (h : ¬ 2 ≤ st.cs.length ∨ st.lg ≠ none) : takesP st [wLong, t] = none := by
  show (if 2 ≤ st.cs.length ∧ st.lg = none then _ else none) = none
  refine if_neg fun q => ?_
  rcases h with h | h
  · exact h q.1
  · exact h q.2
theorem no_thing {t q : List Nat} (h : st.lg = none ∨ st.wd ≠ [] ∨ st.ws.length = 20 ∨ t ∈ st.ws.map Prod.fst) : takesP st [wThing, t, q] = none := by
  show (if st.lg ≠ none ∧ st.wd = [] ∧ st.ws.length ≠ 20 then match wholeN 10 q with
    | some n => if n ≤ 1000000000 ∧ nmOk t = true ∧ ¬ t ∈ st.ws.map Prod.fst then some { st with ws := st.ws ++ [(t, ((n : Nat) : Int))] } else none
    | none => none
    else none) = none
  split
  · rename_i g
    cases wholeN 10 q with
    | none => rfl
    | some n =>
      refine if_neg fun z => ?_
      rcases h with h | h | h | h
      · exact g.1 h
      · exact h g.2.1
      · exact g.2.2 h
      · exact z.2.2 h
  · rfl
theorem no_word {t : List Nat} (h : st.ws.length ≤ st.wd.length) : takesP st [wWord, t] = none := by
  show (if st.wd.length < st.ws.length ∧ nmOk t = true then _ else none) = none
  exact if_neg fun z => by omega
def rSignNew (c : Nat) : List Nat := kSign ++ [c] ++ [32, 49, 32, 49]
def rSignOld (c : Nat) : List Nat := kSign ++ [c] ++ [32, 55, 47, 57, 32, 45]
def rPair (a b : Nat) : List Nat := kPair ++ [a, b]
def rLong3 : List Nat := kLong ++ [51]
def rThing : List Nat := kThing ++ [113, 114, 115, 32, 49]
def rWord : List Nat := kWord ++ [113, 114, 115]
def rThing7 (t : List Nat) : List Nat := kThing ++ t ++ [32, 55]
theorem ok_lt {c : Nat} (h : c ∈ letters.cps.toList) : 97 ≤ c ∧ c < 128 := ⟨lett_no h, in_letters_asc h⟩
theorem row_app {x y : List Nat} (h1 : x.length ≤ 100 ∧ (∀ c ∈ x, c < 128 ∧ c ≠ 10)) (h2 : y.length ≤ 100 ∧ (∀ c ∈ y, c < 128 ∧ c ≠ 10)) : RowOk (x ++ y) := by
  refine ⟨by rw [List.length_append]; omega, fun c hc => ?_, fun hc => ?_⟩
  · rcases List.mem_append.mp hc with hc | hc
    · exact (h1.2 c hc).1
    · exact (h2.2 c hc).1
  · rcases List.mem_append.mp hc with hc | hc
    · exact (h1.2 _ hc).2 rfl
    · exact (h2.2 _ hc).2 rfl
theorem one_lt {c : Nat} (h : c ∈ letters.cps.toList) : ∀ x ∈ [c], x < 128 ∧ x ≠ 10 := fun x hx => by
  have := ok_lt h
  rw [List.mem_singleton] at hx
  omega
theorem two_lt {a b : Nat} (h : a ∈ letters.cps.toList) (h' : b ∈ letters.cps.toList) : ∀ x ∈ [a, b], x < 128 ∧ x ≠ 10 := fun x hx => by
  have := ok_lt h
  have := ok_lt h'
  simp only [List.mem_cons, List.not_mem_nil, or_false] at hx
  omega
theorem ro_first {c : Nat} (h : c ∈ letters.cps.toList) : RowOk (firstRow c) := row_app (x := kFirst) (by decide) ⟨(by show 1 ≤ 100; decide), one_lt h⟩
theorem ro_pair {a b : Nat} (h : a ∈ letters.cps.toList) (h' : b ∈ letters.cps.toList) : RowOk (rPair a b) := row_app (x := kPair) (by decide) ⟨(by show 2 ≤ 100; decide), two_lt h h'⟩
theorem ro_long : RowOk rLong3 := row_app (x := kLong) (by decide) (by decide)
theorem ro_thing : RowOk rThing := row_app (x := kThing) (by decide) (by decide)
theorem ro_word : RowOk rWord := row_app (x := kWord) (by decide) (by decide)
theorem sg_app {c : Nat} (h : c ∈ letters.cps.toList) : (kSign ++ [c]).length ≤ 100 ∧ (∀ x ∈ kSign ++ [c], x < 128 ∧ x ≠ 10) := by
  refine ⟨(by show 6 ≤ 100; decide), fun x hx => ?_⟩
  rcases List.mem_append.mp hx with hx | hx
  · exact (by decide : ∀ x ∈ kSign, x < 128 ∧ x ≠ 10) x hx
  · exact one_lt h x hx
theorem ro_new {c : Nat} (h : c ∈ letters.cps.toList) : RowOk (rSignNew c) := row_app (sg_app h) (by decide)
theorem ro_old {c : Nat} (h : c ∈ letters.cps.toList) : RowOk (rSignOld c) := row_app (sg_app h) (by decide)
theorem ro_thing7 {w : List Nat × Int} (h : WOk w) : RowOk (rThing7 w.1) := by
  refine row_app ⟨?_, fun x hx => ?_⟩ (by decide)
  · have := h.n8
    rw [List.length_append]
    show 6 + _ ≤ 100
    omega
  · rcases List.mem_append.mp hx with hx | hx
    · exact (by decide : ∀ x ∈ kThing, x < 128 ∧ x ≠ 10) x hx
    · have := ok_lt (h.l x hx)
      omega
theorem n32 {c : Nat} (h : c ∈ letters.cps.toList) : 32 ∉ [c] := fun q => by
  have := ok_lt h
  rw [List.mem_singleton] at q
  omega
theorem tk_first {c : Nat} (h : c ∈ letters.cps.toList) : takesF st (firstRow c) = takesP st [wFirst, [c]] := by
  rw [show firstRow c = TL.joinL [32] [wFirst, [c]] from rfl]
  refine tk_join (by simp) fun p hp => ?_
  simp only [List.mem_cons, List.not_mem_nil, or_false] at hp
  rcases hp with rfl | rfl
  · decide
  · exact n32 h
theorem tk_pair {a b : Nat} (h : a ∈ letters.cps.toList) (h' : b ∈ letters.cps.toList) : takesF st (rPair a b) = takesP st [wPair, [a, b]] := by
  rw [show rPair a b = TL.joinL [32] [wPair, [a, b]] from rfl]
  refine tk_join (by simp) fun p hp => ?_
  simp only [List.mem_cons, List.not_mem_nil, or_false] at hp
  rcases hp with rfl | rfl
  · decide
  · intro q
    have := ok_lt h
    have := ok_lt h'
    simp only [List.mem_cons, List.not_mem_nil, or_false] at q
    omega
theorem tk_sign {c : Nat} {p l : List Nat} (h : c ∈ letters.cps.toList) (hp : 32 ∉ p) (hl : 32 ∉ l) : takesF st (kSign ++ [c] ++ ([32] ++ p ++ [32] ++ l)) = takesP st [wSign, [c], p, l] := by
  rw [show kSign ++ [c] ++ ([32] ++ p ++ [32] ++ l) = TL.joinL [32] [wSign, [c], p, l] by
    show kSign ++ [c] ++ ([32] ++ p ++ [32] ++ l) = wSign ++ ([32] ++ ([c] ++ ([32] ++ (p ++ ([32] ++ l)))))
    simp only [List.append_assoc]
    rfl]
  refine tk_join (by simp) fun x hx => ?_
  simp only [List.mem_cons, List.not_mem_nil, or_false] at hx
  rcases hx with rfl | rfl | rfl | rfl
  · decide
  · exact n32 h
  · exact hp
  · exact hl
theorem tk_new {c : Nat} (h : c ∈ letters.cps.toList) : takesF st (rSignNew c) = takesP st [wSign, [c], [49], [49]] := tk_sign (p := [49]) (l := [49]) h (by decide) (by decide)
theorem tk_old {c : Nat} (h : c ∈ letters.cps.toList) : takesF st (rSignOld c) = takesP st [wSign, [c], [55, 47, 57], [45]] := tk_sign (p := [55, 47, 57]) (l := [45]) h (by decide) (by decide)
theorem tk_long3 : takesF st rLong3 = takesP st [wLong, [51]] := tk_join (ps := [wLong, [51]]) (by simp) (by decide)
theorem tk_thing : takesF st rThing = takesP st [wThing, [113, 114, 115], [49]] := tk_join (ps := [wThing, [113, 114, 115], [49]]) (by simp) (by decide)
theorem tk_word : takesF st rWord = takesP st [wWord, [113, 114, 115]] := tk_join (ps := [wWord, [113, 114, 115]]) (by simp) (by decide)
theorem tk_thingX {t q : List Nat} (ht : 32 ∉ t) (hq : 32 ∉ q) : takesF st (kThing ++ t ++ [32] ++ q) = takesP st [wThing, t, q] := by
  rw [show kThing ++ t ++ [32] ++ q = TL.joinL [32] [wThing, t, q] by
    show kThing ++ t ++ [32] ++ q = wThing ++ ([32] ++ (t ++ ([32] ++ q)))
    simp only [List.append_assoc]
    rfl]
  refine tk_join (by simp) fun p hp => ?_
  simp only [List.mem_cons, List.not_mem_nil, or_false] at hp
  rcases hp with rfl | rfl | rfl
  · decide
  · exact ht
  · exact hq
theorem w32 {w : List Nat × Int} (h : WOk w) : 32 ∉ w.1 := fun q => by
  have := ok_lt (h.l _ q)
  omega
theorem tk_thing7 {w : List Nat × Int} (h : WOk w) : takesF st (rThing7 w.1) = takesP st [wThing, w.1, [55]] := by
  have := tk_thingX (st := st) (t := w.1) (q := [55]) (w32 h) (by decide)
  rw [← this]
  unfold rThing7
  simp only [List.append_assoc]
  rfl
theorem tk_longR {i : Int} : takesF st (longRow i) = takesP st [wLong, figL i.natAbs] := by
  rw [show longRow i = TL.joinL [32] [wLong, figL i.natAbs] from rfl]
  refine tk_join (by simp) fun p hp' => ?_
  simp only [List.mem_cons, List.not_mem_nil, or_false] at hp'
  rcases hp' with rfl | rfl
  · decide
  · exact fig_no (by decide)
/-! the state behind n rows -/
theorem at_low (n : Nat) (h : n ≤ 1) : ¬ 2 ≤ (stAt C n).cs.length := by
  show ¬ 2 ≤ (C.cs.take n).length
  rw [List.length_take]
  omega
theorem at_none {n : Nat} (h : n ≤ headN C) : (stAt C n).lg = none := if_pos h
theorem at_some {n : Nat} (h : headN C < n) : (stAt C n).lg ≠ none := by
  show (if n ≤ headN C then none else some C.i) ≠ none
  rw [if_neg (by omega)]
  exact fun z => nomatch z
theorem take_ne {α : Type} {l : List α} {n : Nat} (h : 1 ≤ n) (hl : l ≠ []) : l.take n ≠ [] := by
  cases l with
  | nil => exact absurd rfl hl
  | cons a l =>
    cases n with
    | zero => cases h
    | succ n => exact fun z => nomatch z
theorem mem_take {α : Type} {l : List α} {j n : Nat} {a : α} (h : l[j]? = some a) (hj : j < n) : a ∈ l.take n := by
  have : (l.take n)[j]? = some a := by
    rw [List.getElem?_take_of_lt hj]
    exact h
  exact List.mem_of_getElem? this
/-- behind all signs something else has been told -/
theorem at_signs (n : Nat) (h : C.ds.length < n) : (stAt C n).fs ≠ [] ∨ (stAt C n).zs ≠ [] ∨ (stAt C n).lg ≠ none := by
  by_cases c1 : headN C < n
  · exact .inr (.inr (at_some c1))
  · by_cases c2 : C.fs = []
    · refine .inr (.inl ?_)
      have : C.fs.length = 0 := by rw [c2]; rfl
      refine take_ne (by omega) fun z => ?_
      have : C.zs.length = 0 := by rw [z]; rfl
      unfold headN at c1
      omega
    · exact .inl (take_ne (by omega) c2)
/-- a row told again -/
theorem CsOk.again (o : CsOk C) {j n : Nat} (h1 : j < n) (h2 : j < headN C + 1 + C.ws.length) : ∃ x, (rowsOfC C)[j]? = some x ∧ takesF (stAt C n) x = none := by
  have td := o.td
  have ld : C.ds.length = C.cs.length := td.sg.facts.2.2.2.2.1
  have hl := td.sg.facts.2.2.2.2.2
  have er : rowsOfC C = C.ds.map signRow ++ (C.fs.map firstRow ++ (C.zs.map pairRow ++ ([longRow C.i] ++ (C.ws.map thingRow ++ bookRows C.bk)))) := by
    unfold rowsOfC rowsC
    simp only [List.append_assoc]
  rw [er]
  unfold headN at h2
  by_cases c1 : j < C.ds.length
  · rw [List.getElem?_append_left (by rw [List.length_map]; exact c1), List.getElem?_map, List.getElem?_eq_getElem c1]
    refine ⟨_, rfl, ?_⟩
    have hj := List.getElem?_eq_getElem c1
    obtain ⟨c, hc, sd⟩ := td.sg.get hj
    obtain ⟨t, b, l, e, hp, hl', sp⟩ := sign_parts sd
    unfold takesF
    rw [sp]
    exact no_sign (.inr (.inr (.inr (.inr (mem_take hc h1)))))
  · rw [List.getElem?_append_right (by rw [List.length_map]; omega), List.length_map]
    by_cases c2 : j < C.ds.length + C.fs.length
    · have q : j - C.ds.length < C.fs.length := by omega
      rw [List.getElem?_append_left (by rw [List.length_map]; exact q), List.getElem?_map, List.getElem?_eq_getElem q]
      refine ⟨_, rfl, ?_⟩
      have hm := td.fo _ (List.getElem_mem q)
      rw [tk_first (hl _ hm)]
      refine no_first (.inr (.inr (.inr (.inr ?_))))
      exact mem_take (List.getElem?_eq_getElem q) (by omega)
    · rw [List.getElem?_append_right (by rw [List.length_map]; omega), List.length_map]
      by_cases c3 : j < C.ds.length + C.fs.length + C.zs.length
      · have q : j - C.ds.length - C.fs.length < C.zs.length := by omega
        rw [List.getElem?_append_left (by rw [List.length_map]; exact q), List.getElem?_map, List.getElem?_eq_getElem q]
        refine ⟨_, rfl, ?_⟩
        have hm : C.zs[j - C.ds.length - C.fs.length] ∈ (stAt C n).zs := mem_take (List.getElem?_eq_getElem q) (by omega)
        obtain ⟨a, ha, b, hb, e⟩ := td.po.of _ (List.getElem_mem q)
        rw [e] at hm ⊢
        rw [show pairRow (sgn a ++ sgn b) = rPair a b by
          show kPair ++ (sgn a ++ sgn b).cps.toList = _
          rw [tl_sgn2]
          rfl, tk_pair (hl _ ha) (hl _ hb)]
        exact no_pair (.inr (.inr (.inr (.inr hm))))
      · rw [List.getElem?_append_right (by rw [List.length_map]; omega), List.length_map]
        by_cases c4 : j - C.ds.length - C.fs.length - C.zs.length = 0
        · rw [c4]
          refine ⟨_, rfl, ?_⟩
          rw [tk_longR]
          exact no_long (.inr (at_some (by unfold headN; omega)))
        · rw [List.getElem?_append_right (by show 1 ≤ _; omega)]
          have q : j - C.ds.length - C.fs.length - C.zs.length - 1 < C.ws.length := by omega
          show ∃ x, (C.ws.map thingRow ++ bookRows C.bk)[j - C.ds.length - C.fs.length - C.zs.length - 1]? = some x ∧ _
          rw [List.getElem?_append_left (by rw [List.length_map]; exact q), List.getElem?_map, List.getElem?_eq_getElem q]
          refine ⟨_, rfl, ?_⟩
          have ow := o.wo.all _ (List.getElem_mem q)
          have := tk_thingX (st := stAt C n) (q := figL (C.ws[j - C.ds.length - C.fs.length - C.zs.length - 1]).2.natAbs) (w32 ow) (fig_no (by decide))
          refine this.trans (no_thing (.inr (.inr (.inr (List.mem_map_of_mem ?_)))))
          exact mem_take (List.getElem?_eq_getElem q) (by unfold headN; omega)
end
end Dear

namespace Dear
open PySem PySem.Spec PyProof.Rows L2
/-! the rows that no state takes -/
def neverL : List (List Nat) := [[], [32], [115, 105, 103, 110], [115, 105, 103, 110, 32, 113, 32, 49], [115, 105, 103, 110, 32, 113, 32, 49, 32, 49, 32, 49], [115, 105, 103, 110, 32, 81, 32, 49, 32, 49], [115, 105, 103, 110, 32, 113, 113, 32, 49, 32, 49], [115, 105, 103, 110, 32, 113, 32, 48, 32, 49], [115, 105, 103, 110, 32, 113, 32, 49, 32, 48], [115, 105, 103, 110, 32, 113, 32, 45, 49, 32, 49], [115, 105, 103, 110, 32, 113, 32, 50, 47, 52, 32, 49], [115, 105, 103, 110, 32, 113, 32, 49, 47, 49, 32, 49], [115, 105, 103, 110, 32, 113, 32, 49, 32, 43], [115, 105, 103, 110, 32, 113, 32, 49, 32, 45, 45], [115, 105, 103, 110, 32, 113, 32, 48, 49, 32, 49], [115, 105, 103, 110, 32, 113, 32, 49, 50, 51, 52, 53, 54, 55, 56, 57, 48, 32, 49], [115, 105, 103, 110, 32, 113, 32, 49, 32, 49, 47, 49, 50, 51, 52, 53, 54, 55, 56, 57, 48], [102, 105, 114, 115, 116], [102, 105, 114, 115, 116, 32, 113, 114], [102, 105, 114, 115, 116, 32, 81], [112, 97, 105, 114, 32, 113], [112, 97, 105, 114, 32, 113, 114, 115], [112, 97, 105, 114, 32, 81, 63], [108, 111, 110, 103, 101, 115, 116], [108, 111, 110, 103, 101, 115, 116, 32, 48], [108, 111, 110, 103, 101, 115, 116, 32, 57], [108, 111, 110, 103, 101, 115, 116, 32, 48, 56], [108, 111, 110, 103, 101, 115, 116, 32, 49, 32, 49], [108, 111, 110, 103, 101, 115, 116, 32, 120], [116, 104, 105, 110, 103], [116, 104, 105, 110, 103, 32, 113, 114, 115], [116, 104, 105, 110, 103, 32, 97, 98, 99, 100, 101, 102, 103, 104, 105, 32, 49], [116, 104, 105, 110, 103, 32, 81, 32, 49], [116, 104, 105, 110, 103, 32, 113, 114, 115, 32, 48, 49], [116, 104, 105, 110, 103, 32, 113, 114, 115, 32, 45, 49], [116, 104, 105, 110, 103, 32, 113, 114, 115, 32, 49, 48, 48, 48, 48, 48, 48, 48, 48, 49], [116, 104, 105, 110, 103, 32, 113, 114, 115, 32, 49, 48, 48, 48, 48, 48, 48, 48, 48, 48, 48], [116, 104, 105, 110, 103, 32, 113, 114, 115, 32, 49, 32, 49], [119, 111, 114, 100], [119, 111, 114, 100, 32, 81], [119, 111, 114, 100, 32, 97, 98, 99, 100, 101, 102, 103, 104, 105], [119, 111, 114, 100, 32, 113, 49], [119, 111, 114, 100, 32, 113, 32, 114], [119, 111, 114, 100, 115, 32, 113], [83, 105, 103, 110, 32, 113, 32, 49, 32, 49], [115, 105, 103, 110, 32, 32, 113, 32, 49, 32, 49], [115, 105, 103, 110, 32, 113, 32, 49, 32, 49, 32], [32, 115, 105, 103, 110, 32, 113, 32, 49, 32, 49], [116, 104, 105, 110, 103, 32, 113, 114, 115, 32, 49, 9], [116, 104, 105, 110, 103, 32, 113, 49, 32, 49], [115, 105, 103, 110, 32, 113, 32, 49, 32, 49, 50, 51, 52, 53, 54, 55, 56, 57, 48], [115, 105, 103, 110, 32, 113, 32, 49, 47, 49, 50, 51, 52, 53, 54, 55, 56, 57, 48, 32, 49], [116, 104, 105, 110, 103, 32, 113, 32, 43, 49], [116, 104, 105, 110, 103, 32, 113, 32, 49, 95, 48], [108, 111, 110, 103, 101, 115, 116, 32, 43, 51], [108, 111, 110, 103, 101, 115, 116, 9, 51], [119, 111, 114, 100, 32], [102, 105, 114, 115, 116, 32, 113, 32]]
def neverS : List Str := [("" : Str), (" " : Str), ("sign" : Str), ("sign q 1" : Str), ("sign q 1 1 1" : Str), ("sign Q 1 1" : Str), ("sign qq 1 1" : Str), ("sign q 0 1" : Str), ("sign q 1 0" : Str), ("sign q -1 1" : Str), ("sign q 2/4 1" : Str), ("sign q 1/1 1" : Str), ("sign q 1 +" : Str), ("sign q 1 --" : Str), ("sign q 01 1" : Str), ("sign q 1234567890 1" : Str), ("sign q 1 1/1234567890" : Str), ("first" : Str), ("first qr" : Str), ("first Q" : Str), ("pair q" : Str), ("pair qrs" : Str), ("pair Q?" : Str), ("longest" : Str), ("longest 0" : Str), ("longest 9" : Str), ("longest 08" : Str), ("longest 1 1" : Str), ("longest x" : Str), ("thing" : Str), ("thing qrs" : Str), ("thing abcdefghi 1" : Str), ("thing Q 1" : Str), ("thing qrs 01" : Str), ("thing qrs -1" : Str), ("thing qrs 1000000001" : Str), ("thing qrs 10000000000" : Str), ("thing qrs 1 1" : Str), ("word" : Str), ("word Q" : Str), ("word abcdefghi" : Str), ("word q1" : Str), ("word q r" : Str), ("words q" : Str), ("Sign q 1 1" : Str), ("sign  q 1 1" : Str), ("sign q 1 1 " : Str), (" sign q 1 1" : Str), ("thing qrs 1\t" : Str), ("thing q1 1" : Str), ("sign q 1 1234567890" : Str), ("sign q 1/1234567890 1" : Str), ("thing q +1" : Str), ("thing q 1_0" : Str), ("longest +3" : Str), ("longest\t3" : Str), ("word " : Str), ("first q " : Str)]
theorem never_eq : neverS = neverL.map txt := by decide +kernel
theorem never_ok : neverL.all (fun x => decide (x.length ≤ 500) && x.all (fun c => decide (c < 128)) && !decide (10 ∈ x) && !canTake (TL.spl [32] 0 [] x)) = true := by decide +kernel
def spNever : Sp := fun vs H Q _ => ∃ l : Addr, vs = [.ref l] ∧ Src H l ∧ ∀ (x : List Nat) (H' : Hp), But l H H' → Src H' l → Never x → Q (.str (txt x)) H'
def spFresh : Sp := fun vs H Q _ => ∃ (v : V) (C : CsD), vs = [v] ∧ CsAt H v C ∧ CsOk C ∧ ∀ (c : Nat) (H' : Hp), Same H H' → c ∈ letters.cps.toList → ¬ c ∈ C.cs → Q (.str (txt [c])) H'
/-- what a row to be refused is told as -/
def RowAt (C : CsD) (H : Hp) (q : Addr) : Prop := ∃ (n : Nat) (x : List Nat), H q = some (.tup [.int (n : Nat), .str (txt x)]) ∧ n ≤ (rowsOfC C).length ∧ RowOk x ∧ takesF (stAt C n) x = none
def spAgain : Sp := fun vs H Q _ => ∃ (l : Addr) (v : V) (pr : Addr) (n : Nat) (C : CsD) (Hb : Hp), vs = [.ref l, v, .ref pr, .int (n : Nat)] ∧ Src H l ∧ CsAt Hb v C ∧ CsOk C ∧ Hb l = none ∧ Same Hb H ∧ Hb pr = some (.lst (vsT (rowsOfC C))) ∧ n ≤ (rowsOfC C).length ∧
  ∀ (q : Addr) (H' : Hp), Same Hb H' → Src H' l → RowAt C H' q → Q (.ref q) H'
theorem sbBut {Hb H H' : Hp} {l : Addr} (hl : Hb l = none) (sb : Same Hb H) (B : But l H H') : Same Hb H' := fun _ _ e => B _ _ (sb _ _ e) (ne_of_none e hl)
theorem mem_sgn (c : Nat) (cs : List Nat) : decide (sgn c ∈ cs.map sgn) = decide (c ∈ cs) := by
  by_cases h : c ∈ cs
  · rw [decide_eq_true h]
    exact decide_eq_true (List.mem_map_of_mem h)
  · rw [decide_eq_false h]
    refine decide_eq_false fun z => h ?_
    obtain ⟨x, hx, e⟩ := List.mem_map.mp z
    have := txt_inj (show txt [x] = txt [c] from e)
    injection this with this
    rw [← this]
    exact hx
theorem cat_sz {x y : Str} (hx : x.length ≤ 500) (hy : y.length ≤ 500) : x.length + y.length ≤ sizeLine := Nat.le_trans (Nat.add_le_add hx hy) (by decide)
theorem never_at {r : Int} (r0 : 0 ≤ r) (r1 : r < 58) : ∃ x, atI (neverS.map V.str) r = some (.str (txt x)) ∧ Never x := by
  obtain ⟨n, rfl⟩ := Int.eq_ofNat_of_zero_le r0
  have hn : n < neverL.length := by
    show n < 58
    omega
  have hx := List.getElem?_eq_getElem hn
  refine ⟨neverL[n], atI_nat ?_, ?_⟩
  · rw [never_eq, List.getElem?_map, List.getElem?_map, hx]
    rfl
  · have := List.all_eq_true.mp never_ok _ (List.getElem_mem hn)
    rw [Bool.and_eq_true, Bool.and_eq_true, Bool.and_eq_true, decide_eq_true_eq] at this
    obtain ⟨⟨⟨a, b⟩, c⟩, d⟩ := this
    refine ⟨⟨a, fun x hx => of_decide_eq_true (List.all_eq_true.mp b x hx), fun q => ?_⟩, ?_⟩
    · rw [decide_eq_true q] at c
      cases c
    · cases e : canTake (TL.spl [32] 0 [] neverL[n]) with
      | false => rfl
      | true => rw [e] at d; cases d
section
variable {P : Program} {w : World} {K : PySem.W.Frag} {mg : Str → Option Value} {base : Heap}
set_option pp.maxSteps 3000
theorem o__law_never (T : Txt K mg) : OkF P w K mg base CX0 2 "_law_never" ["_law_pool_here"] spNever := by
  have o__law_take := o__law_take (P := P) (w := w) (base := base) T
  refine T.f__law_never.ok c__law_never (fun vs H Q E h => ?_) (fun f cdv A outer s H vs Q E hr h => ?_)
  · obtain ⟨l, rfl, _⟩ := h
    rfl
  · obtain ⟨l, rfl, S, k⟩ := h
    refine ⟨_, (pss_cons (ps_set (i := 1) c__law_never.nd rfl (Or.inl rfl) (pe_lst (pa_cons pe_str (pa_cons pe_str (pa_cons pe_str (pa_cons pe_str (pa_cons pe_str (pa_cons pe_str (pa_cons pe_str (pa_cons pe_str (pa_cons pe_str pa_nil)))))))))))
(pss_cons (ps_set (i := 1) c__law_never.nd rfl (Or.inl rfl) (pe_op op_cat (pv 1) (pe_lst (pa_cons pe_str (pa_cons pe_str (pa_cons pe_str (pa_cons pe_str (pa_cons pe_str (pa_cons pe_str pa_nil)))))))))
(pss_cons (ps_set (i := 1) c__law_never.nd rfl (Or.inl rfl) (pe_op op_cat (pv 1) (pe_lst (pa_cons pe_str (pa_cons pe_str (pa_cons pe_str (pa_cons pe_str (pa_cons pe_str (pa_cons pe_str pa_nil)))))))))
(pss_cons (ps_set (i := 1) c__law_never.nd rfl (Or.inl rfl) (pe_op op_cat (pv 1) (pe_lst (pa_cons pe_str (pa_cons pe_str (pa_cons pe_str (pa_cons pe_str (pa_cons pe_str (pa_cons pe_str (pa_cons pe_str (pa_cons pe_str pa_nil)))))))))))
(pss_cons (ps_set (i := 1) c__law_never.nd rfl (Or.inl rfl) (pe_op op_cat (pv 1) (pe_lst (pa_cons pe_str (pa_cons pe_str (pa_cons pe_str (pa_cons pe_str (pa_cons pe_str (pa_cons pe_str pa_nil)))))))))
(pss_cons (ps_set (i := 1) c__law_never.nd rfl (Or.inl rfl) (pe_op op_cat (pv 1) (pe_lst (pa_cons pe_str (pa_cons pe_str (pa_cons pe_str (pa_cons pe_str (pa_cons pe_str pa_nil))))))))
(pss_cons (ps_set (i := 1) c__law_never.nd rfl (Or.inl rfl) (pe_op op_cat (pv 1) (pe_lst (pa_cons pe_str (pa_cons pe_str pa_nil)))))
(pss_cons (ps_set (i := 1) c__law_never.nd rfl (Or.inl rfl) (pe_op op_cat (pv 1) (pe_lst (pa_cons pe_str (pa_cons pe_str (pa_cons pe_str (pa_cons pe_str (pa_cons pe_str (pa_cons pe_str (pa_cons pe_str pa_nil))))))))))
(pss_cons (ps_set (i := 1) c__law_never.nd rfl (Or.inl rfl) (pe_op op_cat (pv 1) (pe_lst (pa_cons pe_str (pa_cons pe_str (pa_cons pe_str pa_nil))))))
(pss_cons (ps_set (i := 1) c__law_never.nd rfl (Or.inl rfl) (pe_op op_cat (pv 1) (pe_lst (pa_cons pe_str (pa_cons pe_str (pa_cons pe_str pa_nil))))))
(pss_one (ps_ret (pe_ix (ix_list_k K) (pe_op op_cat (pv 1) (pe_lst (pa_cons pe_str (pa_cons pe_str (pa_cons pe_str pa_nil))))) (pe_c o__law_take hr (pa_cons (pv 0) (pa_cons pe_int pa_nil))) (fun _ _ => rfl)))))))))))))), ?_⟩
    refine ⟨(by show 9 ≤ sizeLine; decide), fun p0 hp0 => ?_⟩
    have n0 := S.ne hp0
    have uG0 := Same.upd (o := .lst [V.str "", V.str " ", V.str "sign", V.str "sign q 1", V.str "sign q 1 1 1", V.str "sign Q 1 1", V.str "sign qq 1 1", V.str "sign q 0 1", V.str "sign q 1 0"]) hp0
    have ep0 : (upd H p0 (.lst [V.str "", V.str " ", V.str "sign", V.str "sign q 1", V.str "sign q 1 1 1", V.str "sign Q 1 1", V.str "sign qq 1 1", V.str "sign q 0 1", V.str "sign q 1 0"])) p0 = some (.lst [V.str "", V.str " ", V.str "sign", V.str "sign q 1", V.str "sign q 1 1 1", V.str "sign Q 1 1", V.str "sign qq 1 1", V.str "sign q 0 1", V.str "sign q 1 0"]) := upd_same
    generalize upd H p0 (.lst [V.str "", V.str " ", V.str "sign", V.str "sign q 1", V.str "sign q 1 1 1", V.str "sign Q 1 1", V.str "sign qq 1 1", V.str "sign q 0 1", V.str "sign q 1 0"]) = G0 at uG0 ep0 ⊢
    refine ⟨_, rfl, (by show 6 ≤ sizeLine; decide), fun q1 hq1 => ?_⟩
    have uM1 := Same.upd (o := .lst [V.str "sign q -1 1", V.str "sign q 2/4 1", V.str "sign q 1/1 1", V.str "sign q 1 +", V.str "sign q 1 --", V.str "sign q 01 1"]) hq1
    have eq1 : (upd G0 q1 (.lst [V.str "sign q -1 1", V.str "sign q 2/4 1", V.str "sign q 1/1 1", V.str "sign q 1 +", V.str "sign q 1 --", V.str "sign q 01 1"])) q1 = some (.lst [V.str "sign q -1 1", V.str "sign q 2/4 1", V.str "sign q 1/1 1", V.str "sign q 1 +", V.str "sign q 1 --", V.str "sign q 01 1"]) := upd_same
    generalize upd G0 q1 (.lst [V.str "sign q -1 1", V.str "sign q 2/4 1", V.str "sign q 1/1 1", V.str "sign q 1 +", V.str "sign q 1 --", V.str "sign q 01 1"]) = M1 at uM1 eq1 ⊢
    refine ⟨p0, q1, _, _, rfl, rfl, uM1 _ _ ep0, eq1, sz_lit (by show 9 + 6 ≤ 1000; decide), fun p1 hp1 => ?_⟩
    have uG1 := Same.upd (o := .lst ([V.str "", V.str " ", V.str "sign", V.str "sign q 1", V.str "sign q 1 1 1", V.str "sign Q 1 1", V.str "sign qq 1 1", V.str "sign q 0 1", V.str "sign q 1 0"] ++ [V.str "sign q -1 1", V.str "sign q 2/4 1", V.str "sign q 1/1 1", V.str "sign q 1 +", V.str "sign q 1 --", V.str "sign q 01 1"])) hp1
    have ep1 : (upd M1 p1 (.lst ([V.str "", V.str " ", V.str "sign", V.str "sign q 1", V.str "sign q 1 1 1", V.str "sign Q 1 1", V.str "sign qq 1 1", V.str "sign q 0 1", V.str "sign q 1 0"] ++ [V.str "sign q -1 1", V.str "sign q 2/4 1", V.str "sign q 1/1 1", V.str "sign q 1 +", V.str "sign q 1 --", V.str "sign q 01 1"]))) p1 = some (.lst ([V.str "", V.str " ", V.str "sign", V.str "sign q 1", V.str "sign q 1 1 1", V.str "sign Q 1 1", V.str "sign qq 1 1", V.str "sign q 0 1", V.str "sign q 1 0"] ++ [V.str "sign q -1 1", V.str "sign q 2/4 1", V.str "sign q 1/1 1", V.str "sign q 1 +", V.str "sign q 1 --", V.str "sign q 01 1"])) := upd_same
    generalize upd M1 p1 (.lst ([V.str "", V.str " ", V.str "sign", V.str "sign q 1", V.str "sign q 1 1 1", V.str "sign Q 1 1", V.str "sign qq 1 1", V.str "sign q 0 1", V.str "sign q 1 0"] ++ [V.str "sign q -1 1", V.str "sign q 2/4 1", V.str "sign q 1/1 1", V.str "sign q 1 +", V.str "sign q 1 --", V.str "sign q 01 1"])) = G1 at uG1 ep1 ⊢
    refine ⟨_, rfl, (by show 6 ≤ sizeLine; decide), fun q2 hq2 => ?_⟩
    have uM2 := Same.upd (o := .lst [V.str "sign q 1234567890 1", V.str "sign q 1 1/1234567890", V.str "first", V.str "first qr", V.str "first Q", V.str "pair q"]) hq2
    have eq2 : (upd G1 q2 (.lst [V.str "sign q 1234567890 1", V.str "sign q 1 1/1234567890", V.str "first", V.str "first qr", V.str "first Q", V.str "pair q"])) q2 = some (.lst [V.str "sign q 1234567890 1", V.str "sign q 1 1/1234567890", V.str "first", V.str "first qr", V.str "first Q", V.str "pair q"]) := upd_same
    generalize upd G1 q2 (.lst [V.str "sign q 1234567890 1", V.str "sign q 1 1/1234567890", V.str "first", V.str "first qr", V.str "first Q", V.str "pair q"]) = M2 at uM2 eq2 ⊢
    refine ⟨p1, q2, _, _, rfl, rfl, uM2 _ _ ep1, eq2, sz_lit (by show 15 + 6 ≤ 1000; decide), fun p2 hp2 => ?_⟩
    have uG2 := Same.upd (o := .lst (([V.str "", V.str " ", V.str "sign", V.str "sign q 1", V.str "sign q 1 1 1", V.str "sign Q 1 1", V.str "sign qq 1 1", V.str "sign q 0 1", V.str "sign q 1 0"] ++ [V.str "sign q -1 1", V.str "sign q 2/4 1", V.str "sign q 1/1 1", V.str "sign q 1 +", V.str "sign q 1 --", V.str "sign q 01 1"]) ++ [V.str "sign q 1234567890 1", V.str "sign q 1 1/1234567890", V.str "first", V.str "first qr", V.str "first Q", V.str "pair q"])) hp2
    have ep2 : (upd M2 p2 (.lst (([V.str "", V.str " ", V.str "sign", V.str "sign q 1", V.str "sign q 1 1 1", V.str "sign Q 1 1", V.str "sign qq 1 1", V.str "sign q 0 1", V.str "sign q 1 0"] ++ [V.str "sign q -1 1", V.str "sign q 2/4 1", V.str "sign q 1/1 1", V.str "sign q 1 +", V.str "sign q 1 --", V.str "sign q 01 1"]) ++ [V.str "sign q 1234567890 1", V.str "sign q 1 1/1234567890", V.str "first", V.str "first qr", V.str "first Q", V.str "pair q"]))) p2 = some (.lst (([V.str "", V.str " ", V.str "sign", V.str "sign q 1", V.str "sign q 1 1 1", V.str "sign Q 1 1", V.str "sign qq 1 1", V.str "sign q 0 1", V.str "sign q 1 0"] ++ [V.str "sign q -1 1", V.str "sign q 2/4 1", V.str "sign q 1/1 1", V.str "sign q 1 +", V.str "sign q 1 --", V.str "sign q 01 1"]) ++ [V.str "sign q 1234567890 1", V.str "sign q 1 1/1234567890", V.str "first", V.str "first qr", V.str "first Q", V.str "pair q"])) := upd_same
    generalize upd M2 p2 (.lst (([V.str "", V.str " ", V.str "sign", V.str "sign q 1", V.str "sign q 1 1 1", V.str "sign Q 1 1", V.str "sign qq 1 1", V.str "sign q 0 1", V.str "sign q 1 0"] ++ [V.str "sign q -1 1", V.str "sign q 2/4 1", V.str "sign q 1/1 1", V.str "sign q 1 +", V.str "sign q 1 --", V.str "sign q 01 1"]) ++ [V.str "sign q 1234567890 1", V.str "sign q 1 1/1234567890", V.str "first", V.str "first qr", V.str "first Q", V.str "pair q"])) = G2 at uG2 ep2 ⊢
    refine ⟨_, rfl, (by show 8 ≤ sizeLine; decide), fun q3 hq3 => ?_⟩
    have uM3 := Same.upd (o := .lst [V.str "pair qrs", V.str "pair Q?", V.str "longest", V.str "longest 0", V.str "longest 9", V.str "longest 08", V.str "longest 1 1", V.str "longest x"]) hq3
    have eq3 : (upd G2 q3 (.lst [V.str "pair qrs", V.str "pair Q?", V.str "longest", V.str "longest 0", V.str "longest 9", V.str "longest 08", V.str "longest 1 1", V.str "longest x"])) q3 = some (.lst [V.str "pair qrs", V.str "pair Q?", V.str "longest", V.str "longest 0", V.str "longest 9", V.str "longest 08", V.str "longest 1 1", V.str "longest x"]) := upd_same
    generalize upd G2 q3 (.lst [V.str "pair qrs", V.str "pair Q?", V.str "longest", V.str "longest 0", V.str "longest 9", V.str "longest 08", V.str "longest 1 1", V.str "longest x"]) = M3 at uM3 eq3 ⊢
    refine ⟨p2, q3, _, _, rfl, rfl, uM3 _ _ ep2, eq3, sz_lit (by show 21 + 8 ≤ 1000; decide), fun p3 hp3 => ?_⟩
    have uG3 := Same.upd (o := .lst ((([V.str "", V.str " ", V.str "sign", V.str "sign q 1", V.str "sign q 1 1 1", V.str "sign Q 1 1", V.str "sign qq 1 1", V.str "sign q 0 1", V.str "sign q 1 0"] ++ [V.str "sign q -1 1", V.str "sign q 2/4 1", V.str "sign q 1/1 1", V.str "sign q 1 +", V.str "sign q 1 --", V.str "sign q 01 1"]) ++ [V.str "sign q 1234567890 1", V.str "sign q 1 1/1234567890", V.str "first", V.str "first qr", V.str "first Q", V.str "pair q"]) ++ [V.str "pair qrs", V.str "pair Q?", V.str "longest", V.str "longest 0", V.str "longest 9", V.str "longest 08", V.str "longest 1 1", V.str "longest x"])) hp3
    have ep3 : (upd M3 p3 (.lst ((([V.str "", V.str " ", V.str "sign", V.str "sign q 1", V.str "sign q 1 1 1", V.str "sign Q 1 1", V.str "sign qq 1 1", V.str "sign q 0 1", V.str "sign q 1 0"] ++ [V.str "sign q -1 1", V.str "sign q 2/4 1", V.str "sign q 1/1 1", V.str "sign q 1 +", V.str "sign q 1 --", V.str "sign q 01 1"]) ++ [V.str "sign q 1234567890 1", V.str "sign q 1 1/1234567890", V.str "first", V.str "first qr", V.str "first Q", V.str "pair q"]) ++ [V.str "pair qrs", V.str "pair Q?", V.str "longest", V.str "longest 0", V.str "longest 9", V.str "longest 08", V.str "longest 1 1", V.str "longest x"]))) p3 = some (.lst ((([V.str "", V.str " ", V.str "sign", V.str "sign q 1", V.str "sign q 1 1 1", V.str "sign Q 1 1", V.str "sign qq 1 1", V.str "sign q 0 1", V.str "sign q 1 0"] ++ [V.str "sign q -1 1", V.str "sign q 2/4 1", V.str "sign q 1/1 1", V.str "sign q 1 +", V.str "sign q 1 --", V.str "sign q 01 1"]) ++ [V.str "sign q 1234567890 1", V.str "sign q 1 1/1234567890", V.str "first", V.str "first qr", V.str "first Q", V.str "pair q"]) ++ [V.str "pair qrs", V.str "pair Q?", V.str "longest", V.str "longest 0", V.str "longest 9", V.str "longest 08", V.str "longest 1 1", V.str "longest x"])) := upd_same
    generalize upd M3 p3 (.lst ((([V.str "", V.str " ", V.str "sign", V.str "sign q 1", V.str "sign q 1 1 1", V.str "sign Q 1 1", V.str "sign qq 1 1", V.str "sign q 0 1", V.str "sign q 1 0"] ++ [V.str "sign q -1 1", V.str "sign q 2/4 1", V.str "sign q 1/1 1", V.str "sign q 1 +", V.str "sign q 1 --", V.str "sign q 01 1"]) ++ [V.str "sign q 1234567890 1", V.str "sign q 1 1/1234567890", V.str "first", V.str "first qr", V.str "first Q", V.str "pair q"]) ++ [V.str "pair qrs", V.str "pair Q?", V.str "longest", V.str "longest 0", V.str "longest 9", V.str "longest 08", V.str "longest 1 1", V.str "longest x"])) = G3 at uG3 ep3 ⊢
    refine ⟨_, rfl, (by show 6 ≤ sizeLine; decide), fun q4 hq4 => ?_⟩
    have uM4 := Same.upd (o := .lst [V.str "thing", V.str "thing qrs", V.str "thing abcdefghi 1", V.str "thing Q 1", V.str "thing qrs 01", V.str "thing qrs -1"]) hq4
    have eq4 : (upd G3 q4 (.lst [V.str "thing", V.str "thing qrs", V.str "thing abcdefghi 1", V.str "thing Q 1", V.str "thing qrs 01", V.str "thing qrs -1"])) q4 = some (.lst [V.str "thing", V.str "thing qrs", V.str "thing abcdefghi 1", V.str "thing Q 1", V.str "thing qrs 01", V.str "thing qrs -1"]) := upd_same
    generalize upd G3 q4 (.lst [V.str "thing", V.str "thing qrs", V.str "thing abcdefghi 1", V.str "thing Q 1", V.str "thing qrs 01", V.str "thing qrs -1"]) = M4 at uM4 eq4 ⊢
    refine ⟨p3, q4, _, _, rfl, rfl, uM4 _ _ ep3, eq4, sz_lit (by show 29 + 6 ≤ 1000; decide), fun p4 hp4 => ?_⟩
    have uG4 := Same.upd (o := .lst (((([V.str "", V.str " ", V.str "sign", V.str "sign q 1", V.str "sign q 1 1 1", V.str "sign Q 1 1", V.str "sign qq 1 1", V.str "sign q 0 1", V.str "sign q 1 0"] ++ [V.str "sign q -1 1", V.str "sign q 2/4 1", V.str "sign q 1/1 1", V.str "sign q 1 +", V.str "sign q 1 --", V.str "sign q 01 1"]) ++ [V.str "sign q 1234567890 1", V.str "sign q 1 1/1234567890", V.str "first", V.str "first qr", V.str "first Q", V.str "pair q"]) ++ [V.str "pair qrs", V.str "pair Q?", V.str "longest", V.str "longest 0", V.str "longest 9", V.str "longest 08", V.str "longest 1 1", V.str "longest x"]) ++ [V.str "thing", V.str "thing qrs", V.str "thing abcdefghi 1", V.str "thing Q 1", V.str "thing qrs 01", V.str "thing qrs -1"])) hp4
    have ep4 : (upd M4 p4 (.lst (((([V.str "", V.str " ", V.str "sign", V.str "sign q 1", V.str "sign q 1 1 1", V.str "sign Q 1 1", V.str "sign qq 1 1", V.str "sign q 0 1", V.str "sign q 1 0"] ++ [V.str "sign q -1 1", V.str "sign q 2/4 1", V.str "sign q 1/1 1", V.str "sign q 1 +", V.str "sign q 1 --", V.str "sign q 01 1"]) ++ [V.str "sign q 1234567890 1", V.str "sign q 1 1/1234567890", V.str "first", V.str "first qr", V.str "first Q", V.str "pair q"]) ++ [V.str "pair qrs", V.str "pair Q?", V.str "longest", V.str "longest 0", V.str "longest 9", V.str "longest 08", V.str "longest 1 1", V.str "longest x"]) ++ [V.str "thing", V.str "thing qrs", V.str "thing abcdefghi 1", V.str "thing Q 1", V.str "thing qrs 01", V.str "thing qrs -1"]))) p4 = some (.lst (((([V.str "", V.str " ", V.str "sign", V.str "sign q 1", V.str "sign q 1 1 1", V.str "sign Q 1 1", V.str "sign qq 1 1", V.str "sign q 0 1", V.str "sign q 1 0"] ++ [V.str "sign q -1 1", V.str "sign q 2/4 1", V.str "sign q 1/1 1", V.str "sign q 1 +", V.str "sign q 1 --", V.str "sign q 01 1"]) ++ [V.str "sign q 1234567890 1", V.str "sign q 1 1/1234567890", V.str "first", V.str "first qr", V.str "first Q", V.str "pair q"]) ++ [V.str "pair qrs", V.str "pair Q?", V.str "longest", V.str "longest 0", V.str "longest 9", V.str "longest 08", V.str "longest 1 1", V.str "longest x"]) ++ [V.str "thing", V.str "thing qrs", V.str "thing abcdefghi 1", V.str "thing Q 1", V.str "thing qrs 01", V.str "thing qrs -1"])) := upd_same
    generalize upd M4 p4 (.lst (((([V.str "", V.str " ", V.str "sign", V.str "sign q 1", V.str "sign q 1 1 1", V.str "sign Q 1 1", V.str "sign qq 1 1", V.str "sign q 0 1", V.str "sign q 1 0"] ++ [V.str "sign q -1 1", V.str "sign q 2/4 1", V.str "sign q 1/1 1", V.str "sign q 1 +", V.str "sign q 1 --", V.str "sign q 01 1"]) ++ [V.str "sign q 1234567890 1", V.str "sign q 1 1/1234567890", V.str "first", V.str "first qr", V.str "first Q", V.str "pair q"]) ++ [V.str "pair qrs", V.str "pair Q?", V.str "longest", V.str "longest 0", V.str "longest 9", V.str "longest 08", V.str "longest 1 1", V.str "longest x"]) ++ [V.str "thing", V.str "thing qrs", V.str "thing abcdefghi 1", V.str "thing Q 1", V.str "thing qrs 01", V.str "thing qrs -1"])) = G4 at uG4 ep4 ⊢
    refine ⟨_, rfl, (by show 5 ≤ sizeLine; decide), fun q5 hq5 => ?_⟩
    have uM5 := Same.upd (o := .lst [V.str "thing qrs 1000000001", V.str "thing qrs 10000000000", V.str "thing qrs 1 1", V.str "word", V.str "word Q"]) hq5
    have eq5 : (upd G4 q5 (.lst [V.str "thing qrs 1000000001", V.str "thing qrs 10000000000", V.str "thing qrs 1 1", V.str "word", V.str "word Q"])) q5 = some (.lst [V.str "thing qrs 1000000001", V.str "thing qrs 10000000000", V.str "thing qrs 1 1", V.str "word", V.str "word Q"]) := upd_same
    generalize upd G4 q5 (.lst [V.str "thing qrs 1000000001", V.str "thing qrs 10000000000", V.str "thing qrs 1 1", V.str "word", V.str "word Q"]) = M5 at uM5 eq5 ⊢
    refine ⟨p4, q5, _, _, rfl, rfl, uM5 _ _ ep4, eq5, sz_lit (by show 35 + 5 ≤ 1000; decide), fun p5 hp5 => ?_⟩
    have uG5 := Same.upd (o := .lst ((((([V.str "", V.str " ", V.str "sign", V.str "sign q 1", V.str "sign q 1 1 1", V.str "sign Q 1 1", V.str "sign qq 1 1", V.str "sign q 0 1", V.str "sign q 1 0"] ++ [V.str "sign q -1 1", V.str "sign q 2/4 1", V.str "sign q 1/1 1", V.str "sign q 1 +", V.str "sign q 1 --", V.str "sign q 01 1"]) ++ [V.str "sign q 1234567890 1", V.str "sign q 1 1/1234567890", V.str "first", V.str "first qr", V.str "first Q", V.str "pair q"]) ++ [V.str "pair qrs", V.str "pair Q?", V.str "longest", V.str "longest 0", V.str "longest 9", V.str "longest 08", V.str "longest 1 1", V.str "longest x"]) ++ [V.str "thing", V.str "thing qrs", V.str "thing abcdefghi 1", V.str "thing Q 1", V.str "thing qrs 01", V.str "thing qrs -1"]) ++ [V.str "thing qrs 1000000001", V.str "thing qrs 10000000000", V.str "thing qrs 1 1", V.str "word", V.str "word Q"])) hp5
    have ep5 : (upd M5 p5 (.lst ((((([V.str "", V.str " ", V.str "sign", V.str "sign q 1", V.str "sign q 1 1 1", V.str "sign Q 1 1", V.str "sign qq 1 1", V.str "sign q 0 1", V.str "sign q 1 0"] ++ [V.str "sign q -1 1", V.str "sign q 2/4 1", V.str "sign q 1/1 1", V.str "sign q 1 +", V.str "sign q 1 --", V.str "sign q 01 1"]) ++ [V.str "sign q 1234567890 1", V.str "sign q 1 1/1234567890", V.str "first", V.str "first qr", V.str "first Q", V.str "pair q"]) ++ [V.str "pair qrs", V.str "pair Q?", V.str "longest", V.str "longest 0", V.str "longest 9", V.str "longest 08", V.str "longest 1 1", V.str "longest x"]) ++ [V.str "thing", V.str "thing qrs", V.str "thing abcdefghi 1", V.str "thing Q 1", V.str "thing qrs 01", V.str "thing qrs -1"]) ++ [V.str "thing qrs 1000000001", V.str "thing qrs 10000000000", V.str "thing qrs 1 1", V.str "word", V.str "word Q"]))) p5 = some (.lst ((((([V.str "", V.str " ", V.str "sign", V.str "sign q 1", V.str "sign q 1 1 1", V.str "sign Q 1 1", V.str "sign qq 1 1", V.str "sign q 0 1", V.str "sign q 1 0"] ++ [V.str "sign q -1 1", V.str "sign q 2/4 1", V.str "sign q 1/1 1", V.str "sign q 1 +", V.str "sign q 1 --", V.str "sign q 01 1"]) ++ [V.str "sign q 1234567890 1", V.str "sign q 1 1/1234567890", V.str "first", V.str "first qr", V.str "first Q", V.str "pair q"]) ++ [V.str "pair qrs", V.str "pair Q?", V.str "longest", V.str "longest 0", V.str "longest 9", V.str "longest 08", V.str "longest 1 1", V.str "longest x"]) ++ [V.str "thing", V.str "thing qrs", V.str "thing abcdefghi 1", V.str "thing Q 1", V.str "thing qrs 01", V.str "thing qrs -1"]) ++ [V.str "thing qrs 1000000001", V.str "thing qrs 10000000000", V.str "thing qrs 1 1", V.str "word", V.str "word Q"])) := upd_same
    generalize upd M5 p5 (.lst ((((([V.str "", V.str " ", V.str "sign", V.str "sign q 1", V.str "sign q 1 1 1", V.str "sign Q 1 1", V.str "sign qq 1 1", V.str "sign q 0 1", V.str "sign q 1 0"] ++ [V.str "sign q -1 1", V.str "sign q 2/4 1", V.str "sign q 1/1 1", V.str "sign q 1 +", V.str "sign q 1 --", V.str "sign q 01 1"]) ++ [V.str "sign q 1234567890 1", V.str "sign q 1 1/1234567890", V.str "first", V.str "first qr", V.str "first Q", V.str "pair q"]) ++ [V.str "pair qrs", V.str "pair Q?", V.str "longest", V.str "longest 0", V.str "longest 9", V.str "longest 08", V.str "longest 1 1", V.str "longest x"]) ++ [V.str "thing", V.str "thing qrs", V.str "thing abcdefghi 1", V.str "thing Q 1", V.str "thing qrs 01", V.str "thing qrs -1"]) ++ [V.str "thing qrs 1000000001", V.str "thing qrs 10000000000", V.str "thing qrs 1 1", V.str "word", V.str "word Q"])) = G5 at uG5 ep5 ⊢
    refine ⟨_, rfl, (by show 2 ≤ sizeLine; decide), fun q6 hq6 => ?_⟩
    have uM6 := Same.upd (o := .lst [V.str "word abcdefghi", V.str "word q1"]) hq6
    have eq6 : (upd G5 q6 (.lst [V.str "word abcdefghi", V.str "word q1"])) q6 = some (.lst [V.str "word abcdefghi", V.str "word q1"]) := upd_same
    generalize upd G5 q6 (.lst [V.str "word abcdefghi", V.str "word q1"]) = M6 at uM6 eq6 ⊢
    refine ⟨p5, q6, _, _, rfl, rfl, uM6 _ _ ep5, eq6, sz_lit (by show 40 + 2 ≤ 1000; decide), fun p6 hp6 => ?_⟩
    have uG6 := Same.upd (o := .lst (((((([V.str "", V.str " ", V.str "sign", V.str "sign q 1", V.str "sign q 1 1 1", V.str "sign Q 1 1", V.str "sign qq 1 1", V.str "sign q 0 1", V.str "sign q 1 0"] ++ [V.str "sign q -1 1", V.str "sign q 2/4 1", V.str "sign q 1/1 1", V.str "sign q 1 +", V.str "sign q 1 --", V.str "sign q 01 1"]) ++ [V.str "sign q 1234567890 1", V.str "sign q 1 1/1234567890", V.str "first", V.str "first qr", V.str "first Q", V.str "pair q"]) ++ [V.str "pair qrs", V.str "pair Q?", V.str "longest", V.str "longest 0", V.str "longest 9", V.str "longest 08", V.str "longest 1 1", V.str "longest x"]) ++ [V.str "thing", V.str "thing qrs", V.str "thing abcdefghi 1", V.str "thing Q 1", V.str "thing qrs 01", V.str "thing qrs -1"]) ++ [V.str "thing qrs 1000000001", V.str "thing qrs 10000000000", V.str "thing qrs 1 1", V.str "word", V.str "word Q"]) ++ [V.str "word abcdefghi", V.str "word q1"])) hp6
    have ep6 : (upd M6 p6 (.lst (((((([V.str "", V.str " ", V.str "sign", V.str "sign q 1", V.str "sign q 1 1 1", V.str "sign Q 1 1", V.str "sign qq 1 1", V.str "sign q 0 1", V.str "sign q 1 0"] ++ [V.str "sign q -1 1", V.str "sign q 2/4 1", V.str "sign q 1/1 1", V.str "sign q 1 +", V.str "sign q 1 --", V.str "sign q 01 1"]) ++ [V.str "sign q 1234567890 1", V.str "sign q 1 1/1234567890", V.str "first", V.str "first qr", V.str "first Q", V.str "pair q"]) ++ [V.str "pair qrs", V.str "pair Q?", V.str "longest", V.str "longest 0", V.str "longest 9", V.str "longest 08", V.str "longest 1 1", V.str "longest x"]) ++ [V.str "thing", V.str "thing qrs", V.str "thing abcdefghi 1", V.str "thing Q 1", V.str "thing qrs 01", V.str "thing qrs -1"]) ++ [V.str "thing qrs 1000000001", V.str "thing qrs 10000000000", V.str "thing qrs 1 1", V.str "word", V.str "word Q"]) ++ [V.str "word abcdefghi", V.str "word q1"]))) p6 = some (.lst (((((([V.str "", V.str " ", V.str "sign", V.str "sign q 1", V.str "sign q 1 1 1", V.str "sign Q 1 1", V.str "sign qq 1 1", V.str "sign q 0 1", V.str "sign q 1 0"] ++ [V.str "sign q -1 1", V.str "sign q 2/4 1", V.str "sign q 1/1 1", V.str "sign q 1 +", V.str "sign q 1 --", V.str "sign q 01 1"]) ++ [V.str "sign q 1234567890 1", V.str "sign q 1 1/1234567890", V.str "first", V.str "first qr", V.str "first Q", V.str "pair q"]) ++ [V.str "pair qrs", V.str "pair Q?", V.str "longest", V.str "longest 0", V.str "longest 9", V.str "longest 08", V.str "longest 1 1", V.str "longest x"]) ++ [V.str "thing", V.str "thing qrs", V.str "thing abcdefghi 1", V.str "thing Q 1", V.str "thing qrs 01", V.str "thing qrs -1"]) ++ [V.str "thing qrs 1000000001", V.str "thing qrs 10000000000", V.str "thing qrs 1 1", V.str "word", V.str "word Q"]) ++ [V.str "word abcdefghi", V.str "word q1"])) := upd_same
    generalize upd M6 p6 (.lst (((((([V.str "", V.str " ", V.str "sign", V.str "sign q 1", V.str "sign q 1 1 1", V.str "sign Q 1 1", V.str "sign qq 1 1", V.str "sign q 0 1", V.str "sign q 1 0"] ++ [V.str "sign q -1 1", V.str "sign q 2/4 1", V.str "sign q 1/1 1", V.str "sign q 1 +", V.str "sign q 1 --", V.str "sign q 01 1"]) ++ [V.str "sign q 1234567890 1", V.str "sign q 1 1/1234567890", V.str "first", V.str "first qr", V.str "first Q", V.str "pair q"]) ++ [V.str "pair qrs", V.str "pair Q?", V.str "longest", V.str "longest 0", V.str "longest 9", V.str "longest 08", V.str "longest 1 1", V.str "longest x"]) ++ [V.str "thing", V.str "thing qrs", V.str "thing abcdefghi 1", V.str "thing Q 1", V.str "thing qrs 01", V.str "thing qrs -1"]) ++ [V.str "thing qrs 1000000001", V.str "thing qrs 10000000000", V.str "thing qrs 1 1", V.str "word", V.str "word Q"]) ++ [V.str "word abcdefghi", V.str "word q1"])) = G6 at uG6 ep6 ⊢
    refine ⟨_, rfl, (by show 7 ≤ sizeLine; decide), fun q7 hq7 => ?_⟩
    have uM7 := Same.upd (o := .lst [V.str "word q r", V.str "words q", V.str "Sign q 1 1", V.str "sign  q 1 1", V.str "sign q 1 1 ", V.str " sign q 1 1", V.str "thing qrs 1\t"]) hq7
    have eq7 : (upd G6 q7 (.lst [V.str "word q r", V.str "words q", V.str "Sign q 1 1", V.str "sign  q 1 1", V.str "sign q 1 1 ", V.str " sign q 1 1", V.str "thing qrs 1\t"])) q7 = some (.lst [V.str "word q r", V.str "words q", V.str "Sign q 1 1", V.str "sign  q 1 1", V.str "sign q 1 1 ", V.str " sign q 1 1", V.str "thing qrs 1\t"]) := upd_same
    generalize upd G6 q7 (.lst [V.str "word q r", V.str "words q", V.str "Sign q 1 1", V.str "sign  q 1 1", V.str "sign q 1 1 ", V.str " sign q 1 1", V.str "thing qrs 1\t"]) = M7 at uM7 eq7 ⊢
    refine ⟨p6, q7, _, _, rfl, rfl, uM7 _ _ ep6, eq7, sz_lit (by show 42 + 7 ≤ 1000; decide), fun p7 hp7 => ?_⟩
    have uG7 := Same.upd (o := .lst ((((((([V.str "", V.str " ", V.str "sign", V.str "sign q 1", V.str "sign q 1 1 1", V.str "sign Q 1 1", V.str "sign qq 1 1", V.str "sign q 0 1", V.str "sign q 1 0"] ++ [V.str "sign q -1 1", V.str "sign q 2/4 1", V.str "sign q 1/1 1", V.str "sign q 1 +", V.str "sign q 1 --", V.str "sign q 01 1"]) ++ [V.str "sign q 1234567890 1", V.str "sign q 1 1/1234567890", V.str "first", V.str "first qr", V.str "first Q", V.str "pair q"]) ++ [V.str "pair qrs", V.str "pair Q?", V.str "longest", V.str "longest 0", V.str "longest 9", V.str "longest 08", V.str "longest 1 1", V.str "longest x"]) ++ [V.str "thing", V.str "thing qrs", V.str "thing abcdefghi 1", V.str "thing Q 1", V.str "thing qrs 01", V.str "thing qrs -1"]) ++ [V.str "thing qrs 1000000001", V.str "thing qrs 10000000000", V.str "thing qrs 1 1", V.str "word", V.str "word Q"]) ++ [V.str "word abcdefghi", V.str "word q1"]) ++ [V.str "word q r", V.str "words q", V.str "Sign q 1 1", V.str "sign  q 1 1", V.str "sign q 1 1 ", V.str " sign q 1 1", V.str "thing qrs 1\t"])) hp7
    have ep7 : (upd M7 p7 (.lst ((((((([V.str "", V.str " ", V.str "sign", V.str "sign q 1", V.str "sign q 1 1 1", V.str "sign Q 1 1", V.str "sign qq 1 1", V.str "sign q 0 1", V.str "sign q 1 0"] ++ [V.str "sign q -1 1", V.str "sign q 2/4 1", V.str "sign q 1/1 1", V.str "sign q 1 +", V.str "sign q 1 --", V.str "sign q 01 1"]) ++ [V.str "sign q 1234567890 1", V.str "sign q 1 1/1234567890", V.str "first", V.str "first qr", V.str "first Q", V.str "pair q"]) ++ [V.str "pair qrs", V.str "pair Q?", V.str "longest", V.str "longest 0", V.str "longest 9", V.str "longest 08", V.str "longest 1 1", V.str "longest x"]) ++ [V.str "thing", V.str "thing qrs", V.str "thing abcdefghi 1", V.str "thing Q 1", V.str "thing qrs 01", V.str "thing qrs -1"]) ++ [V.str "thing qrs 1000000001", V.str "thing qrs 10000000000", V.str "thing qrs 1 1", V.str "word", V.str "word Q"]) ++ [V.str "word abcdefghi", V.str "word q1"]) ++ [V.str "word q r", V.str "words q", V.str "Sign q 1 1", V.str "sign  q 1 1", V.str "sign q 1 1 ", V.str " sign q 1 1", V.str "thing qrs 1\t"]))) p7 = some (.lst ((((((([V.str "", V.str " ", V.str "sign", V.str "sign q 1", V.str "sign q 1 1 1", V.str "sign Q 1 1", V.str "sign qq 1 1", V.str "sign q 0 1", V.str "sign q 1 0"] ++ [V.str "sign q -1 1", V.str "sign q 2/4 1", V.str "sign q 1/1 1", V.str "sign q 1 +", V.str "sign q 1 --", V.str "sign q 01 1"]) ++ [V.str "sign q 1234567890 1", V.str "sign q 1 1/1234567890", V.str "first", V.str "first qr", V.str "first Q", V.str "pair q"]) ++ [V.str "pair qrs", V.str "pair Q?", V.str "longest", V.str "longest 0", V.str "longest 9", V.str "longest 08", V.str "longest 1 1", V.str "longest x"]) ++ [V.str "thing", V.str "thing qrs", V.str "thing abcdefghi 1", V.str "thing Q 1", V.str "thing qrs 01", V.str "thing qrs -1"]) ++ [V.str "thing qrs 1000000001", V.str "thing qrs 10000000000", V.str "thing qrs 1 1", V.str "word", V.str "word Q"]) ++ [V.str "word abcdefghi", V.str "word q1"]) ++ [V.str "word q r", V.str "words q", V.str "Sign q 1 1", V.str "sign  q 1 1", V.str "sign q 1 1 ", V.str " sign q 1 1", V.str "thing qrs 1\t"])) := upd_same
    generalize upd M7 p7 (.lst ((((((([V.str "", V.str " ", V.str "sign", V.str "sign q 1", V.str "sign q 1 1 1", V.str "sign Q 1 1", V.str "sign qq 1 1", V.str "sign q 0 1", V.str "sign q 1 0"] ++ [V.str "sign q -1 1", V.str "sign q 2/4 1", V.str "sign q 1/1 1", V.str "sign q 1 +", V.str "sign q 1 --", V.str "sign q 01 1"]) ++ [V.str "sign q 1234567890 1", V.str "sign q 1 1/1234567890", V.str "first", V.str "first qr", V.str "first Q", V.str "pair q"]) ++ [V.str "pair qrs", V.str "pair Q?", V.str "longest", V.str "longest 0", V.str "longest 9", V.str "longest 08", V.str "longest 1 1", V.str "longest x"]) ++ [V.str "thing", V.str "thing qrs", V.str "thing abcdefghi 1", V.str "thing Q 1", V.str "thing qrs 01", V.str "thing qrs -1"]) ++ [V.str "thing qrs 1000000001", V.str "thing qrs 10000000000", V.str "thing qrs 1 1", V.str "word", V.str "word Q"]) ++ [V.str "word abcdefghi", V.str "word q1"]) ++ [V.str "word q r", V.str "words q", V.str "Sign q 1 1", V.str "sign  q 1 1", V.str "sign q 1 1 ", V.str " sign q 1 1", V.str "thing qrs 1\t"])) = G7 at uG7 ep7 ⊢
    refine ⟨_, rfl, (by show 3 ≤ sizeLine; decide), fun q8 hq8 => ?_⟩
    have uM8 := Same.upd (o := .lst [V.str "thing q1 1", V.str "sign q 1 1234567890", V.str "sign q 1/1234567890 1"]) hq8
    have eq8 : (upd G7 q8 (.lst [V.str "thing q1 1", V.str "sign q 1 1234567890", V.str "sign q 1/1234567890 1"])) q8 = some (.lst [V.str "thing q1 1", V.str "sign q 1 1234567890", V.str "sign q 1/1234567890 1"]) := upd_same
    generalize upd G7 q8 (.lst [V.str "thing q1 1", V.str "sign q 1 1234567890", V.str "sign q 1/1234567890 1"]) = M8 at uM8 eq8 ⊢
    refine ⟨p7, q8, _, _, rfl, rfl, uM8 _ _ ep7, eq8, sz_lit (by show 49 + 3 ≤ 1000; decide), fun p8 hp8 => ?_⟩
    have uG8 := Same.upd (o := .lst (((((((([V.str "", V.str " ", V.str "sign", V.str "sign q 1", V.str "sign q 1 1 1", V.str "sign Q 1 1", V.str "sign qq 1 1", V.str "sign q 0 1", V.str "sign q 1 0"] ++ [V.str "sign q -1 1", V.str "sign q 2/4 1", V.str "sign q 1/1 1", V.str "sign q 1 +", V.str "sign q 1 --", V.str "sign q 01 1"]) ++ [V.str "sign q 1234567890 1", V.str "sign q 1 1/1234567890", V.str "first", V.str "first qr", V.str "first Q", V.str "pair q"]) ++ [V.str "pair qrs", V.str "pair Q?", V.str "longest", V.str "longest 0", V.str "longest 9", V.str "longest 08", V.str "longest 1 1", V.str "longest x"]) ++ [V.str "thing", V.str "thing qrs", V.str "thing abcdefghi 1", V.str "thing Q 1", V.str "thing qrs 01", V.str "thing qrs -1"]) ++ [V.str "thing qrs 1000000001", V.str "thing qrs 10000000000", V.str "thing qrs 1 1", V.str "word", V.str "word Q"]) ++ [V.str "word abcdefghi", V.str "word q1"]) ++ [V.str "word q r", V.str "words q", V.str "Sign q 1 1", V.str "sign  q 1 1", V.str "sign q 1 1 ", V.str " sign q 1 1", V.str "thing qrs 1\t"]) ++ [V.str "thing q1 1", V.str "sign q 1 1234567890", V.str "sign q 1/1234567890 1"])) hp8
    have ep8 : (upd M8 p8 (.lst (((((((([V.str "", V.str " ", V.str "sign", V.str "sign q 1", V.str "sign q 1 1 1", V.str "sign Q 1 1", V.str "sign qq 1 1", V.str "sign q 0 1", V.str "sign q 1 0"] ++ [V.str "sign q -1 1", V.str "sign q 2/4 1", V.str "sign q 1/1 1", V.str "sign q 1 +", V.str "sign q 1 --", V.str "sign q 01 1"]) ++ [V.str "sign q 1234567890 1", V.str "sign q 1 1/1234567890", V.str "first", V.str "first qr", V.str "first Q", V.str "pair q"]) ++ [V.str "pair qrs", V.str "pair Q?", V.str "longest", V.str "longest 0", V.str "longest 9", V.str "longest 08", V.str "longest 1 1", V.str "longest x"]) ++ [V.str "thing", V.str "thing qrs", V.str "thing abcdefghi 1", V.str "thing Q 1", V.str "thing qrs 01", V.str "thing qrs -1"]) ++ [V.str "thing qrs 1000000001", V.str "thing qrs 10000000000", V.str "thing qrs 1 1", V.str "word", V.str "word Q"]) ++ [V.str "word abcdefghi", V.str "word q1"]) ++ [V.str "word q r", V.str "words q", V.str "Sign q 1 1", V.str "sign  q 1 1", V.str "sign q 1 1 ", V.str " sign q 1 1", V.str "thing qrs 1\t"]) ++ [V.str "thing q1 1", V.str "sign q 1 1234567890", V.str "sign q 1/1234567890 1"]))) p8 = some (.lst (((((((([V.str "", V.str " ", V.str "sign", V.str "sign q 1", V.str "sign q 1 1 1", V.str "sign Q 1 1", V.str "sign qq 1 1", V.str "sign q 0 1", V.str "sign q 1 0"] ++ [V.str "sign q -1 1", V.str "sign q 2/4 1", V.str "sign q 1/1 1", V.str "sign q 1 +", V.str "sign q 1 --", V.str "sign q 01 1"]) ++ [V.str "sign q 1234567890 1", V.str "sign q 1 1/1234567890", V.str "first", V.str "first qr", V.str "first Q", V.str "pair q"]) ++ [V.str "pair qrs", V.str "pair Q?", V.str "longest", V.str "longest 0", V.str "longest 9", V.str "longest 08", V.str "longest 1 1", V.str "longest x"]) ++ [V.str "thing", V.str "thing qrs", V.str "thing abcdefghi 1", V.str "thing Q 1", V.str "thing qrs 01", V.str "thing qrs -1"]) ++ [V.str "thing qrs 1000000001", V.str "thing qrs 10000000000", V.str "thing qrs 1 1", V.str "word", V.str "word Q"]) ++ [V.str "word abcdefghi", V.str "word q1"]) ++ [V.str "word q r", V.str "words q", V.str "Sign q 1 1", V.str "sign  q 1 1", V.str "sign q 1 1 ", V.str " sign q 1 1", V.str "thing qrs 1\t"]) ++ [V.str "thing q1 1", V.str "sign q 1 1234567890", V.str "sign q 1/1234567890 1"])) := upd_same
    generalize upd M8 p8 (.lst (((((((([V.str "", V.str " ", V.str "sign", V.str "sign q 1", V.str "sign q 1 1 1", V.str "sign Q 1 1", V.str "sign qq 1 1", V.str "sign q 0 1", V.str "sign q 1 0"] ++ [V.str "sign q -1 1", V.str "sign q 2/4 1", V.str "sign q 1/1 1", V.str "sign q 1 +", V.str "sign q 1 --", V.str "sign q 01 1"]) ++ [V.str "sign q 1234567890 1", V.str "sign q 1 1/1234567890", V.str "first", V.str "first qr", V.str "first Q", V.str "pair q"]) ++ [V.str "pair qrs", V.str "pair Q?", V.str "longest", V.str "longest 0", V.str "longest 9", V.str "longest 08", V.str "longest 1 1", V.str "longest x"]) ++ [V.str "thing", V.str "thing qrs", V.str "thing abcdefghi 1", V.str "thing Q 1", V.str "thing qrs 01", V.str "thing qrs -1"]) ++ [V.str "thing qrs 1000000001", V.str "thing qrs 10000000000", V.str "thing qrs 1 1", V.str "word", V.str "word Q"]) ++ [V.str "word abcdefghi", V.str "word q1"]) ++ [V.str "word q r", V.str "words q", V.str "Sign q 1 1", V.str "sign  q 1 1", V.str "sign q 1 1 ", V.str " sign q 1 1", V.str "thing qrs 1\t"]) ++ [V.str "thing q1 1", V.str "sign q 1 1234567890", V.str "sign q 1/1234567890 1"])) = G8 at uG8 ep8 ⊢
    refine ⟨_, rfl, (by show 3 ≤ sizeLine; decide), fun q9 hq9 => ?_⟩
    have uM9 := Same.upd (o := .lst [V.str "thing q +1", V.str "thing q 1_0", V.str "longest +3"]) hq9
    have eq9 : (upd G8 q9 (.lst [V.str "thing q +1", V.str "thing q 1_0", V.str "longest +3"])) q9 = some (.lst [V.str "thing q +1", V.str "thing q 1_0", V.str "longest +3"]) := upd_same
    generalize upd G8 q9 (.lst [V.str "thing q +1", V.str "thing q 1_0", V.str "longest +3"]) = M9 at uM9 eq9 ⊢
    refine ⟨p8, q9, _, _, rfl, rfl, uM9 _ _ ep8, eq9, sz_lit (by show 52 + 3 ≤ 1000; decide), fun p9 hp9 => ?_⟩
    have uG9 := Same.upd (o := .lst ((((((((([V.str "", V.str " ", V.str "sign", V.str "sign q 1", V.str "sign q 1 1 1", V.str "sign Q 1 1", V.str "sign qq 1 1", V.str "sign q 0 1", V.str "sign q 1 0"] ++ [V.str "sign q -1 1", V.str "sign q 2/4 1", V.str "sign q 1/1 1", V.str "sign q 1 +", V.str "sign q 1 --", V.str "sign q 01 1"]) ++ [V.str "sign q 1234567890 1", V.str "sign q 1 1/1234567890", V.str "first", V.str "first qr", V.str "first Q", V.str "pair q"]) ++ [V.str "pair qrs", V.str "pair Q?", V.str "longest", V.str "longest 0", V.str "longest 9", V.str "longest 08", V.str "longest 1 1", V.str "longest x"]) ++ [V.str "thing", V.str "thing qrs", V.str "thing abcdefghi 1", V.str "thing Q 1", V.str "thing qrs 01", V.str "thing qrs -1"]) ++ [V.str "thing qrs 1000000001", V.str "thing qrs 10000000000", V.str "thing qrs 1 1", V.str "word", V.str "word Q"]) ++ [V.str "word abcdefghi", V.str "word q1"]) ++ [V.str "word q r", V.str "words q", V.str "Sign q 1 1", V.str "sign  q 1 1", V.str "sign q 1 1 ", V.str " sign q 1 1", V.str "thing qrs 1\t"]) ++ [V.str "thing q1 1", V.str "sign q 1 1234567890", V.str "sign q 1/1234567890 1"]) ++ [V.str "thing q +1", V.str "thing q 1_0", V.str "longest +3"])) hp9
    have ep9 : (upd M9 p9 (.lst ((((((((([V.str "", V.str " ", V.str "sign", V.str "sign q 1", V.str "sign q 1 1 1", V.str "sign Q 1 1", V.str "sign qq 1 1", V.str "sign q 0 1", V.str "sign q 1 0"] ++ [V.str "sign q -1 1", V.str "sign q 2/4 1", V.str "sign q 1/1 1", V.str "sign q 1 +", V.str "sign q 1 --", V.str "sign q 01 1"]) ++ [V.str "sign q 1234567890 1", V.str "sign q 1 1/1234567890", V.str "first", V.str "first qr", V.str "first Q", V.str "pair q"]) ++ [V.str "pair qrs", V.str "pair Q?", V.str "longest", V.str "longest 0", V.str "longest 9", V.str "longest 08", V.str "longest 1 1", V.str "longest x"]) ++ [V.str "thing", V.str "thing qrs", V.str "thing abcdefghi 1", V.str "thing Q 1", V.str "thing qrs 01", V.str "thing qrs -1"]) ++ [V.str "thing qrs 1000000001", V.str "thing qrs 10000000000", V.str "thing qrs 1 1", V.str "word", V.str "word Q"]) ++ [V.str "word abcdefghi", V.str "word q1"]) ++ [V.str "word q r", V.str "words q", V.str "Sign q 1 1", V.str "sign  q 1 1", V.str "sign q 1 1 ", V.str " sign q 1 1", V.str "thing qrs 1\t"]) ++ [V.str "thing q1 1", V.str "sign q 1 1234567890", V.str "sign q 1/1234567890 1"]) ++ [V.str "thing q +1", V.str "thing q 1_0", V.str "longest +3"]))) p9 = some (.lst ((((((((([V.str "", V.str " ", V.str "sign", V.str "sign q 1", V.str "sign q 1 1 1", V.str "sign Q 1 1", V.str "sign qq 1 1", V.str "sign q 0 1", V.str "sign q 1 0"] ++ [V.str "sign q -1 1", V.str "sign q 2/4 1", V.str "sign q 1/1 1", V.str "sign q 1 +", V.str "sign q 1 --", V.str "sign q 01 1"]) ++ [V.str "sign q 1234567890 1", V.str "sign q 1 1/1234567890", V.str "first", V.str "first qr", V.str "first Q", V.str "pair q"]) ++ [V.str "pair qrs", V.str "pair Q?", V.str "longest", V.str "longest 0", V.str "longest 9", V.str "longest 08", V.str "longest 1 1", V.str "longest x"]) ++ [V.str "thing", V.str "thing qrs", V.str "thing abcdefghi 1", V.str "thing Q 1", V.str "thing qrs 01", V.str "thing qrs -1"]) ++ [V.str "thing qrs 1000000001", V.str "thing qrs 10000000000", V.str "thing qrs 1 1", V.str "word", V.str "word Q"]) ++ [V.str "word abcdefghi", V.str "word q1"]) ++ [V.str "word q r", V.str "words q", V.str "Sign q 1 1", V.str "sign  q 1 1", V.str "sign q 1 1 ", V.str " sign q 1 1", V.str "thing qrs 1\t"]) ++ [V.str "thing q1 1", V.str "sign q 1 1234567890", V.str "sign q 1/1234567890 1"]) ++ [V.str "thing q +1", V.str "thing q 1_0", V.str "longest +3"])) := upd_same
    generalize upd M9 p9 (.lst ((((((((([V.str "", V.str " ", V.str "sign", V.str "sign q 1", V.str "sign q 1 1 1", V.str "sign Q 1 1", V.str "sign qq 1 1", V.str "sign q 0 1", V.str "sign q 1 0"] ++ [V.str "sign q -1 1", V.str "sign q 2/4 1", V.str "sign q 1/1 1", V.str "sign q 1 +", V.str "sign q 1 --", V.str "sign q 01 1"]) ++ [V.str "sign q 1234567890 1", V.str "sign q 1 1/1234567890", V.str "first", V.str "first qr", V.str "first Q", V.str "pair q"]) ++ [V.str "pair qrs", V.str "pair Q?", V.str "longest", V.str "longest 0", V.str "longest 9", V.str "longest 08", V.str "longest 1 1", V.str "longest x"]) ++ [V.str "thing", V.str "thing qrs", V.str "thing abcdefghi 1", V.str "thing Q 1", V.str "thing qrs 01", V.str "thing qrs -1"]) ++ [V.str "thing qrs 1000000001", V.str "thing qrs 10000000000", V.str "thing qrs 1 1", V.str "word", V.str "word Q"]) ++ [V.str "word abcdefghi", V.str "word q1"]) ++ [V.str "word q r", V.str "words q", V.str "Sign q 1 1", V.str "sign  q 1 1", V.str "sign q 1 1 ", V.str " sign q 1 1", V.str "thing qrs 1\t"]) ++ [V.str "thing q1 1", V.str "sign q 1 1234567890", V.str "sign q 1/1234567890 1"]) ++ [V.str "thing q +1", V.str "thing q 1_0", V.str "longest +3"])) = G9 at uG9 ep9 ⊢
    refine ⟨_, rfl, (by show 3 ≤ sizeLine; decide), fun q10 hq10 => ?_⟩
    have uM10 := Same.upd (o := .lst [V.str "longest\t3", V.str "word ", V.str "first q "]) hq10
    have eq10 : (upd G9 q10 (.lst [V.str "longest\t3", V.str "word ", V.str "first q "])) q10 = some (.lst [V.str "longest\t3", V.str "word ", V.str "first q "]) := upd_same
    generalize upd G9 q10 (.lst [V.str "longest\t3", V.str "word ", V.str "first q "]) = M10 at uM10 eq10 ⊢
    refine ⟨p9, q10, _, _, rfl, rfl, uM10 _ _ ep9, eq10, sz_lit (by show 55 + 3 ≤ 1000; decide), fun p10 hp10 => ?_⟩
    have uG10 := Same.upd (o := .lst (((((((((([V.str "", V.str " ", V.str "sign", V.str "sign q 1", V.str "sign q 1 1 1", V.str "sign Q 1 1", V.str "sign qq 1 1", V.str "sign q 0 1", V.str "sign q 1 0"] ++ [V.str "sign q -1 1", V.str "sign q 2/4 1", V.str "sign q 1/1 1", V.str "sign q 1 +", V.str "sign q 1 --", V.str "sign q 01 1"]) ++ [V.str "sign q 1234567890 1", V.str "sign q 1 1/1234567890", V.str "first", V.str "first qr", V.str "first Q", V.str "pair q"]) ++ [V.str "pair qrs", V.str "pair Q?", V.str "longest", V.str "longest 0", V.str "longest 9", V.str "longest 08", V.str "longest 1 1", V.str "longest x"]) ++ [V.str "thing", V.str "thing qrs", V.str "thing abcdefghi 1", V.str "thing Q 1", V.str "thing qrs 01", V.str "thing qrs -1"]) ++ [V.str "thing qrs 1000000001", V.str "thing qrs 10000000000", V.str "thing qrs 1 1", V.str "word", V.str "word Q"]) ++ [V.str "word abcdefghi", V.str "word q1"]) ++ [V.str "word q r", V.str "words q", V.str "Sign q 1 1", V.str "sign  q 1 1", V.str "sign q 1 1 ", V.str " sign q 1 1", V.str "thing qrs 1\t"]) ++ [V.str "thing q1 1", V.str "sign q 1 1234567890", V.str "sign q 1/1234567890 1"]) ++ [V.str "thing q +1", V.str "thing q 1_0", V.str "longest +3"]) ++ [V.str "longest\t3", V.str "word ", V.str "first q "])) hp10
    have ep10 : (upd M10 p10 (.lst (((((((((([V.str "", V.str " ", V.str "sign", V.str "sign q 1", V.str "sign q 1 1 1", V.str "sign Q 1 1", V.str "sign qq 1 1", V.str "sign q 0 1", V.str "sign q 1 0"] ++ [V.str "sign q -1 1", V.str "sign q 2/4 1", V.str "sign q 1/1 1", V.str "sign q 1 +", V.str "sign q 1 --", V.str "sign q 01 1"]) ++ [V.str "sign q 1234567890 1", V.str "sign q 1 1/1234567890", V.str "first", V.str "first qr", V.str "first Q", V.str "pair q"]) ++ [V.str "pair qrs", V.str "pair Q?", V.str "longest", V.str "longest 0", V.str "longest 9", V.str "longest 08", V.str "longest 1 1", V.str "longest x"]) ++ [V.str "thing", V.str "thing qrs", V.str "thing abcdefghi 1", V.str "thing Q 1", V.str "thing qrs 01", V.str "thing qrs -1"]) ++ [V.str "thing qrs 1000000001", V.str "thing qrs 10000000000", V.str "thing qrs 1 1", V.str "word", V.str "word Q"]) ++ [V.str "word abcdefghi", V.str "word q1"]) ++ [V.str "word q r", V.str "words q", V.str "Sign q 1 1", V.str "sign  q 1 1", V.str "sign q 1 1 ", V.str " sign q 1 1", V.str "thing qrs 1\t"]) ++ [V.str "thing q1 1", V.str "sign q 1 1234567890", V.str "sign q 1/1234567890 1"]) ++ [V.str "thing q +1", V.str "thing q 1_0", V.str "longest +3"]) ++ [V.str "longest\t3", V.str "word ", V.str "first q "]))) p10 = some (.lst (((((((((([V.str "", V.str " ", V.str "sign", V.str "sign q 1", V.str "sign q 1 1 1", V.str "sign Q 1 1", V.str "sign qq 1 1", V.str "sign q 0 1", V.str "sign q 1 0"] ++ [V.str "sign q -1 1", V.str "sign q 2/4 1", V.str "sign q 1/1 1", V.str "sign q 1 +", V.str "sign q 1 --", V.str "sign q 01 1"]) ++ [V.str "sign q 1234567890 1", V.str "sign q 1 1/1234567890", V.str "first", V.str "first qr", V.str "first Q", V.str "pair q"]) ++ [V.str "pair qrs", V.str "pair Q?", V.str "longest", V.str "longest 0", V.str "longest 9", V.str "longest 08", V.str "longest 1 1", V.str "longest x"]) ++ [V.str "thing", V.str "thing qrs", V.str "thing abcdefghi 1", V.str "thing Q 1", V.str "thing qrs 01", V.str "thing qrs -1"]) ++ [V.str "thing qrs 1000000001", V.str "thing qrs 10000000000", V.str "thing qrs 1 1", V.str "word", V.str "word Q"]) ++ [V.str "word abcdefghi", V.str "word q1"]) ++ [V.str "word q r", V.str "words q", V.str "Sign q 1 1", V.str "sign  q 1 1", V.str "sign q 1 1 ", V.str " sign q 1 1", V.str "thing qrs 1\t"]) ++ [V.str "thing q1 1", V.str "sign q 1 1234567890", V.str "sign q 1/1234567890 1"]) ++ [V.str "thing q +1", V.str "thing q 1_0", V.str "longest +3"]) ++ [V.str "longest\t3", V.str "word ", V.str "first q "])) := upd_same
    generalize upd M10 p10 (.lst (((((((((([V.str "", V.str " ", V.str "sign", V.str "sign q 1", V.str "sign q 1 1 1", V.str "sign Q 1 1", V.str "sign qq 1 1", V.str "sign q 0 1", V.str "sign q 1 0"] ++ [V.str "sign q -1 1", V.str "sign q 2/4 1", V.str "sign q 1/1 1", V.str "sign q 1 +", V.str "sign q 1 --", V.str "sign q 01 1"]) ++ [V.str "sign q 1234567890 1", V.str "sign q 1 1/1234567890", V.str "first", V.str "first qr", V.str "first Q", V.str "pair q"]) ++ [V.str "pair qrs", V.str "pair Q?", V.str "longest", V.str "longest 0", V.str "longest 9", V.str "longest 08", V.str "longest 1 1", V.str "longest x"]) ++ [V.str "thing", V.str "thing qrs", V.str "thing abcdefghi 1", V.str "thing Q 1", V.str "thing qrs 01", V.str "thing qrs -1"]) ++ [V.str "thing qrs 1000000001", V.str "thing qrs 10000000000", V.str "thing qrs 1 1", V.str "word", V.str "word Q"]) ++ [V.str "word abcdefghi", V.str "word q1"]) ++ [V.str "word q r", V.str "words q", V.str "Sign q 1 1", V.str "sign  q 1 1", V.str "sign q 1 1 ", V.str " sign q 1 1", V.str "thing qrs 1\t"]) ++ [V.str "thing q1 1", V.str "sign q 1 1234567890", V.str "sign q 1/1234567890 1"]) ++ [V.str "thing q +1", V.str "thing q 1_0", V.str "longest +3"]) ++ [V.str "longest\t3", V.str "word ", V.str "first q "])) = G10 at uG10 ep10 ⊢
    have sM : Same H M10 := (uG0.trans (uM1.trans (uG1.trans (uM2.trans (uG2.trans (uM3.trans (uG3.trans (uM4.trans (uG4.trans (uM5.trans (uG5.trans (uM6.trans (uG6.trans (uM7.trans (uG7.trans (uM8.trans (uG8.trans (uM9.trans (uG9.trans uM10)))))))))))))))))))
    have nk := (S.same sM).ne hp10
    have sG : Same H G10 := sM.trans uG10
    have SG := S.same sG
    have ek : G10 p10 = some (.lst (neverS.map V.str)) := ep10
    refine ⟨_, rfl, l, 58, rfl, SG, by decide, log_le 58 (by decide), fun r H1 r0 r1 B1 S1 => ?_⟩
    obtain ⟨x, hx, nx⟩ := never_at r0 r1
    refine ⟨_, _, _, _, rfl, rfl, SqL.of (B1 _ _ ek nk), hx, ?_⟩
    exact k x H1 (fun b o e n => B1 _ _ (sG _ _ e) n) S1 nx
theorem o__law_fresh (T : Txt K mg) : OkF P w K mg base CX0 1 "_law_fresh" ["_law_case_here"] spFresh := by
  refine T.f__law_fresh.ok c__law_fresh (fun vs H Q E h => ?_) (fun f cdv A outer s H vs Q E hr h => ?_)
  · obtain ⟨v, C, rfl, _⟩ := h
    rfl
  · obtain ⟨v, C, rfl, ca, co, k⟩ := h
    refine ⟨_, (pss_cons (ps_set (i := 1) c__law_fresh.nd rfl (Or.inr rfl) (pe_lc (own := [("_law_row", 2)]) (g := gName 2) (tt := tYes) (by rfl) c__law_fresh.nd (pi_list_k K (pe_ix (ix_tup_k K) (pe_ix (ix_tup_k K) (pv 0) pe_int (fun _ _ => rfl)) pe_int (fun _ _ => rfl))) (blkOk_by (own := [("_law_row", 2)]) (N := n__law_fresh) (sc := defScope s__law_fresh) (by decide +kernel)) (fun _ _ _ _ _ => (pg_name (i := 2) c__law_fresh.nd rfl (Or.inl rfl))) (fun _ _ _ _ _ => pts_nil) (fun _ _ _ _ _ => (pe_ix (ix_tup_k K) (pv 2) pe_int (fun _ _ => rfl)))))
(pss_one (ps_ret (pe_ix (ix_list_k K) (pe_lc (own := [("_law_letter", 3)]) (g := gName 3) (by rfl) c__law_fresh.nd (pi_str pe_str) (blkOk_by (own := [("_law_letter", 3)]) (N := n__law_fresh) (sc := defScope s__law_fresh) (by decide +kernel)) (fun _ _ _ _ _ => (pg_name (i := 3) c__law_fresh.nd rfl (Or.inl rfl))) (fun _ _ _ _ _ => (pts_one (pt_cmpR (op_notIn_seq_k K) (pv 3) (pv 1) rfl))) (fun _ _ _ _ _ => (pv 3))) pe_int (fun _ _ => rfl))))), ?_⟩
    obtain ⟨p, pw, tv, bv, ys, H0, rfl, hp, ta, hw, hall, hbk⟩ := ca
    obtain ⟨pt, a, b, cc, xs, rfl, h1, h2, h3, h4, h5, _⟩ := ta.ex
    have td := co.td
    have ld : C.ds.length = C.cs.length := td.sg.facts.2.2.2.2.1
    have l6 := td.l6
    have lx : xs.length = C.ds.length := h3.length
    refine ⟨_, rfl, _, _, _, _, rfl, rfl, SqT.of hp, rfl, _, _, _, _, rfl, rfl, SqT.of h1, rfl, a, rfl, ⟨_, SqL.of h2⟩, fun pD hD => lc_list (K := K) (a := a) (xs := xs) (fun j H' => Same H H' ∧ H' pD = some (.lst (((C.cs.take j).map sgn).map V.str))) ⟨Same.upd hD, upd_same⟩ (fun j H' _ h => SqL.of (h.1 _ _ h2)) ?_ ?_⟩
    · rintro j x H5 hx ⟨s5, e5⟩
      obtain ⟨dm, hdm, dxm⟩ := (h3.same s5).get hx
      obtain ⟨c, hc, sd⟩ := td.sg.get hdm
      obtain ⟨q, pa, t, bo, lD, lv, rfl, hq, rfl, hpa, dl, pr, ll⟩ := sign_at dxm sd
      refine ⟨rfl, _, rfl, _, _, _, _, rfl, rfl, SqT.of hq, rfl, _, e5, small1000 (by rw [List.length_map, List.length_map, List.length_take]; omega), ?_, ?_⟩
      · intro b' o' hb'
        rw [upd_ne (ne_of_none hb' hD)]
        exact s5 _ _ hb'
      · rw [upd_same, take_more hc, List.map_append, List.map_append]
        rfl
    rintro H5 ⟨s5, e5⟩
    rw [lx, ld, List.take_length] at e5
    refine ⟨_, rfl, fun pE hE => lc_it (walk_str (z := letters)) (fun j H' => Same H5 H' ∧ H' pE = some (.lst ((((letters.cps.toList.take j).filter fun c => !decide (c ∈ C.cs)).map sgn).map V.str))) ⟨Same.upd hE, upd_same⟩ (fun _ _ _ _ => trivial) ?_ ?_⟩
    · rintro j x H6 H7 hj ⟨s6, e6⟩ ⟨rfl, c, hc, rfl⟩
      have hc : letters.cps.toList[j]? = some c := by rw [Array.getElem?_toList]; exact hc
      refine ⟨rfl, _, rfl, _, rfl, pD, _, rfl, .inl (SqL.of (s6 _ _ e5)), rfl, flat_str _, ?_⟩
      rw [inV_strs, show (decide (({ cps := #[c] } : Str) ∈ C.cs.map sgn)) = decide (c ∈ C.cs) from mem_sgn c C.cs, take_more hc]
      have nE : ∀ {y : List V}, Same H5 (upd H7 pE (.lst y)) := fun b' o' hb' => by
        rw [upd_ne (ne_of_none hb' hE)]
        exact s6 _ _ hb'
      by_cases q9 : c ∈ C.cs
      · rw [decide_eq_true q9]
        refine ⟨_, rfl, iteF ⟨s6, ?_⟩⟩
        rw [List.filter_append, List.filter_cons_of_neg (by rw [decide_eq_true q9]; exact fun z => nomatch z), List.filter_nil, List.append_nil]
        exact e6
      · rw [decide_eq_false q9]
        refine ⟨_, rfl, iteT ⟨_, rfl, _, e6, small1000 ?_, nE, ?_⟩⟩
        · rw [List.length_map, List.length_map]
          refine Nat.le_trans (List.length_filter_le _ _) ?_
          rw [List.length_take]
          have : letters.cps.toList.length = 26 := by decide +kernel
          omega
        · rw [upd_same, List.filter_append, List.filter_cons_of_pos (by rw [decide_eq_false q9]; rfl), List.filter_nil, List.map_append, List.map_append]
          rfl
    rintro H6 ⟨s6, e6⟩
    rw [show letters.cps.toList.take letters.cps.size = letters.cps.toList from List.take_of_length_le (Nat.le_of_eq (Array.length_toList ..))] at e6
    cases ef : letters.cps.toList.filter fun c => !decide (c ∈ C.cs) with
    | nil =>
      exfalso
      have sub : ∀ c ∈ letters.cps.toList, c ∈ C.cs := fun c hc => by
        by_cases q : c ∈ C.cs
        · exact q
        · exfalso
          have : c ∈ letters.cps.toList.filter fun c => !decide (c ∈ C.cs) := List.mem_filter.mpr ⟨hc, by rw [decide_eq_false q]; rfl⟩
          rw [ef] at this
          cases this
      have := len_sub (show letters.cps.toList.Nodup by decide +kernel) sub
      have e26 : letters.cps.toList.length = 26 := by decide +kernel
      omega
    | cons c r =>
      rw [ef] at e6
      have hm : c ∈ letters.cps.toList.filter fun c => !decide (c ∈ C.cs) := by rw [ef]; exact List.mem_cons_self
      obtain ⟨m1, m2⟩ := List.mem_filter.mp hm
      refine ⟨_, _, _, _, rfl, rfl, SqL.of e6, atI_nat (xs := V.str (sgn c) :: (r.map sgn).map V.str) (j := 0) rfl, ?_⟩
      refine k c H6 (s5.trans s6) m1 fun q => ?_
      rw [decide_eq_true q] at m2
      cases m2
theorem o__law_told_again (T : Txt K mg) : OkF P w K mg base CX0 2 "_law_told_again" ["_law_pool_here", "_law_case_here", "_law_rows_here", "_law_at"] spAgain := by
  have o__law_take := o__law_take (P := P) (w := w) (base := base) T
  refine T.f__law_told_again.ok c__law_told_again (fun vs H Q E h => ?_) (fun f cdv A outer s H vs Q E hr h => ?_)
  · obtain ⟨l, v, pr, n, C, Hb, rfl, _⟩ := h
    rfl
  · obtain ⟨l, v, pr, n, C, Hb, rfl, S, ca, co, hl, sb, hr9, hn, k⟩ := h
    refine ⟨_, (pss_cons (ps_asg (pe_ix (ix_tup_k K) (pv 1) pe_int (fun _ _ => rfl)) (pg_tup_k K (n := 4) rfl (pgs_cons (pg_name (i := 4) c__law_told_again.nd rfl (Or.inl rfl)) (pgs_cons (pg_name (i := 5) c__law_told_again.nd rfl (Or.inl rfl)) (pgs_cons (pg_name (i := 6) c__law_told_again.nd rfl (Or.inl rfl)) (pgs_cons (pg_name (i := 7) c__law_told_again.nd rfl (Or.inl rfl)) pgs_nil))))))
(pss_cons (ps_set (i := 8) c__law_told_again.nd rfl (Or.inl rfl) (pe_op op_add (pe_op op_add (pe_callB (call_len_seq_k K) (by rfl) T.b_len PySem.boot_len (pa_cons (pv 4) pa_nil)) (pe_callB (call_len_seq_k K) (by rfl) T.b_len PySem.boot_len (pa_cons (pv 5) pa_nil))) (pe_callB (call_len_seq_k K) (by rfl) T.b_len PySem.boot_len (pa_cons (pv 6) pa_nil))))
(pss_cons (ps_set (i := 9) c__law_told_again.nd rfl (Or.inl rfl) (pe_c o__law_take hr (pa_cons (pv 0) (pa_cons pe_int pa_nil))))
(C8.pss_cut (ps_if (PW.pt (pw_and (pt_cmpR op_eq (pv 9) pe_int (nomark _)) (pw_and1 (pt_cmpR op_gt (pv 3) pe_int (nomark _)))))
(pss_one (ps_ret (pe_tup (pa_cons (pv 3) (pa_cons (pe_ix (ix_list_k K) (pv 2) (pe_c o__law_take hr (pa_cons (pv 0) (pa_cons (pe_callB (call_min2 rfl) (by rfl) T.b_min (by decide +kernel) (pa_cons (pv 3) (pa_cons (pe_op op_add (pe_op op_add (pv 8) pe_int) (pe_callB (call_len_seq_k K) (by rfl) T.b_len PySem.boot_len (pa_cons (pe_ix (ix_tup_k K) (pv 1) pe_int (fun _ _ => rfl)) pa_nil))) pa_nil))) pa_nil))) (fun _ _ => rfl)) pa_nil)))))
pss_nil)
(C8.pss_cut (ps_if (pt_cmpR op_eq (pv 9) pe_int (nomark _))
(pss_cons (ps_set (i := 10) c__law_told_again.nd rfl (Or.inl rfl) (pe_c o__law_take hr (pa_cons (pv 0) (pa_cons (pe_callB (call_len_seq_k K) (by rfl) T.b_len PySem.boot_len (pa_cons (pv 4) pa_nil)) pa_nil))))
(pss_cons (ps_set (i := 3) c__law_told_again.nd rfl (Or.inl rfl) (pe_op op_add (pe_op op_add (pv 10) pe_int) (pe_c o__law_take hr (pa_cons (pv 0) (pa_cons (pe_op op_sub (pe_callB (call_len_seq_k K) (by rfl) T.b_len PySem.boot_len (pa_cons (pv 4) pa_nil)) (pv 10)) pa_nil)))))
(pss_one (ps_ret (pe_tup (pa_cons (pv 3) (pa_cons (pe_op op_add_str (pe_op op_add_str pe_str (pe_ix (ix_tup_k K) (pe_ix (ix_list_k K) (pv 4) (pv 10) (fun _ _ => rfl)) pe_int (fun _ _ => rfl))) pe_str) pa_nil)))))))
pss_nil)
(pss_cons (ps_set (i := 10) c__law_told_again.nd rfl (Or.inl rfl) (pe_c o__law_take hr (pa_cons (pv 0) (pa_cons (pe_callB (call_len_seq_k K) (by rfl) T.b_len PySem.boot_len (pa_cons (pe_ix (ix_tup_k K) (pv 1) pe_int (fun _ _ => rfl)) pa_nil)) pa_nil))))
(pss_cons (ps_set (i := 3) c__law_told_again.nd rfl (Or.inl rfl) (pe_op op_add (pe_op op_add (pe_op op_add (pv 8) (pv 10)) pe_int) (pe_c o__law_take hr (pa_cons (pv 0) (pa_cons (pe_op op_sub (pe_callB (call_len_seq_k K) (by rfl) T.b_len PySem.boot_len (pa_cons (pe_ix (ix_tup_k K) (pv 1) pe_int (fun _ _ => rfl)) pa_nil)) (pv 10)) pa_nil)))))
(pss_one (ps_ret (pe_tup (pa_cons (pv 3) (pa_cons (pe_op op_add_str (pe_op op_add_str pe_str (pe_ix (ix_tup_k K) (pe_ix (ix_list_k K) (pe_ix (ix_tup_k K) (pv 1) pe_int (fun _ _ => rfl)) (pv 10) (fun _ _ => rfl)) pe_int (fun _ _ => rfl))) pe_str) pa_nil)))))))))))), ?_⟩
    obtain ⟨p, pw, tv, bv, ys, H0, rfl, hp, ta, hw, hall, hbk⟩ := ca
    obtain ⟨pt, a, b, cc, xs, rfl, h1, h2, h3, h4, h5, _⟩ := ta.ex
    have td := co.td
    have ld : C.ds.length = C.cs.length := td.sg.facts.2.2.2.2.1
    have l2 := td.l2
    have l6 := td.l6
    have lf := td.fs6
    have lz := td.zs36
    have l1 := co.l1
    have l20 := co.l20
    have lx : xs.length = C.ds.length := h3.length
    have ly : ys.length = C.ws.length := by rw [hall.length, List.length_map]
    have lv : (vsT (rowsOfC C)).length = (rowsOfC C).length := vsT_lenC _
    have rc := rows_count (C := C)
    have r100 : (rowsOfC C).length ≤ 100 := co.rows.1
    have lF : ((C.fs.map sgn).map V.str).length = C.fs.length := by rw [List.length_map, List.length_map]
    have lZ : (C.zs.map V.str).length = C.zs.length := List.length_map ..
    refine ⟨_, rfl, _, _, _, _, rfl, rfl, SqT.of (sb _ _ hp), rfl, pt, _, rfl, SqT.of (sb _ _ h1), rfl, _, _, rfl, _, _, rfl, _, _, rfl, _, _, rfl, rfl, ?_⟩
    refine ⟨_, rfl, a, _, rfl, .inl (SqL.of (sb _ _ h2)), _, rfl, b, _, rfl, .inl (SqL.of (sb _ _ h4)), _, _, rfl, rfl, _, rfl, cc, _, rfl, .inl (SqL.of (sb _ _ h5)), _, _, rfl, rfl, ?_⟩
    dsimp only
    rw [lx, lF, lZ, show (((C.ds.length : Nat) : Int) + ((C.fs.length : Nat) : Int) + ((C.zs.length : Nat) : Int)) = ((headN C : Nat) : Int) by unfold headN; omega]
    refine ⟨_, rfl, l, 3, rfl, S, by decide, log_le 3 (by decide), fun way H1 w0 w1 B1 S1 => ?_⟩
    have sb1 := sbBut hl sb B1
    have fin : ∀ {m : Nat} {x : List Nat} {H9 : Hp}, Same Hb H9 → Src H9 l → m ≤ (rowsOfC C).length → RowOk x → takesF (stAt C m) x = none → ∀ q : Addr, H9 q = none → Q (.ref q) (upd H9 q (.tup [.int (m : Nat), .str (txt x)])) := fun {m x H9} s9 S9 hm rx tx q hq => k q _ (s9.trans (Same.upd hq)) (S9.same (Same.upd hq)) ⟨m, x, upd_same, hm, rx, tx⟩
    refine ⟨fun σ' H' => σ' = [some (.ref l), some (.ref p), some (.ref pr), some (.int (n : Nat)), some (.ref a), some (.ref b), some (.ref cc), some (.int C.i), some (.int (headN C : Nat)), some (.int way), none] ∧ H' = H1, ?_, ?_⟩
    · refine ⟨_, rfl, rfl, _, rfl, itd (fun _ => ?_) fun _ => iteF ⟨rfl, rfl⟩⟩
      refine ⟨_, rfl, _, _, rfl, rfl, _, rfl, itd (fun n0 => ?_) fun _ => ⟨rfl, rfl⟩⟩
      refine ⟨_, rfl, _, rfl, _, rfl, _, rfl, _, rfl, _, _, rfl, rfl, _, rfl, _, _, _, _, rfl, rfl, SqT.of (sb1 _ _ hp), rfl, pw, _, rfl, .inl (SqL.of (sb1 _ _ hw)), _, _, rfl, rfl, _, _, rfl, l, _, rfl, S1, ?_, ?_, fun r H2 r0 r1 B2 S2 => ?_⟩
      · split <;> omega
      · refine log_le 900 ?_
        split <;> omega
      have r2 : r < (n : Int) ∧ r < (headN C : Int) + 1 + (C.ws.length : Nat) := by
        rw [ly] at r1
        split at r1 <;> omega
      clear r1
      obtain ⟨j, rfl⟩ := Int.eq_ofNat_of_zero_le r0
      obtain ⟨x, hx, tx⟩ := co.again (j := j) (n := n) (by omega) (by omega)
      have sb2 := sbBut hl sb1 B2
      refine ⟨_, _, _, _, rfl, rfl, SqL.of (sb2 _ _ hr9), atI_nat (by unfold vsT; rw [List.getElem?_map, hx]; rfl), (by show 2 ≤ sizeLine; decide), fun q hq => fin sb2 S2 hn (co.row x (List.mem_of_getElem? hx)) tx q hq⟩
    rintro σ' H1' ⟨rfl, rfl⟩
    refine ⟨fun σ' H' => σ' = [some (.ref l), some (.ref p), some (.ref pr), some (.int (n : Nat)), some (.ref a), some (.ref b), some (.ref cc), some (.int C.i), some (.int (headN C : Nat)), some (.int way), none] ∧ H' = H1', ?_, ?_⟩
    · refine ⟨_, rfl, rfl, _, rfl, itd (fun _ => ?_) fun _ => ⟨rfl, rfl⟩⟩
      refine ⟨_, rfl, _, rfl, a, _, rfl, .inl (SqL.of (sb1 _ _ h2)), l, _, rfl, S1, by omega, log_le 6 (by omega), fun r H2 r0 r1 B2 S2 => ?_⟩
      have sb2 := sbBut hl sb1 B2
      obtain ⟨j, rfl⟩ := Int.eq_ofNat_of_zero_le r0
      refine ⟨_, rfl, _, _, rfl, rfl, _, rfl, _, rfl, a, _, rfl, .inl (SqL.of (sb2 _ _ h2)), _, rfl, _, _, rfl, rfl, l, _, rfl, S2, by omega, log_le 6 (by omega), fun t H3 t0 t1 B3 S3 => ⟨_, _, rfl, rfl, ?_⟩⟩
      have sb3 := sbBut hl sb2 B3
      obtain ⟨u, rfl⟩ := Int.eq_ofNat_of_zero_le t0
      obtain ⟨xm, hxm⟩ : ∃ xm, xs[j]? = some xm := ⟨_, List.getElem?_eq_getElem (by omega)⟩
      obtain ⟨dm, hdm, dxm⟩ := (h3.same sb3).get hxm
      obtain ⟨c, hc, sd⟩ := td.sg.get hdm
      obtain ⟨q, pa, tt, bo, lD, lv', rfl, hq, rfl, hpa, dl, pr', ll⟩ := sign_at dxm sd
      have ec : (("sign " : Str) ++ sgn c) = txt (kSign ++ [c]) := by rw [show ("sign " : Str) = txt kSign by decide +kernel, sgn_txt, txt_app]
      refine ⟨_, rfl, _, rfl, _, rfl, _, _, _, _, rfl, rfl, SqL.of (sb3 _ _ h2), atI_nat hxm, _, _, _, _, rfl, rfl, SqT.of hq, rfl, _, _, rfl, rfl, cat_sz (by decide +kernel) (show 1 ≤ 500 by decide), ?_⟩
      rw [ec]
      refine ⟨_, _, rfl, rfl, cat_sz (by rw [txt_length]; show 6 ≤ 500; decide) (by decide +kernel), (by show 2 ≤ sizeLine; decide), fun q9 hq9 => ?_⟩
      dsimp only
      rw [show txt (kSign ++ [c]) ++ (" 7/9 -" : Str) = txt (rSignOld c) by rw [show (" 7/9 -" : Str) = txt [32, 55, 47, 57, 32, 45] by decide +kernel, txt_app]; rfl, show ((j : Nat) : Int) + 1 + ((u : Nat) : Int) = ((j + 1 + u : Nat) : Int) by omega]
      exact fin sb3 S3 (by unfold headN at rc; omega) (ro_old sd.2) (by rw [tk_old sd.2]; exact no_sign (.inr (.inr (.inr (.inr (mem_take hc (by omega))))))) q9 hq9
    rintro σ' H' ⟨rfl, rfl⟩
    refine ⟨_, rfl, _, rfl, _, _, _, _, rfl, rfl, SqT.of (sb1 _ _ hp), rfl, pw, _, rfl, .inl (SqL.of (sb1 _ _ hw)), l, _, rfl, S1, by omega, log_le 20 (by omega), fun r H2 r0 r1 B2 S2 => ?_⟩
    have sb2 := sbBut hl sb1 B2
    obtain ⟨j, rfl⟩ := Int.eq_ofNat_of_zero_le r0
    refine ⟨_, rfl, _, rfl, _, _, rfl, rfl, _, _, rfl, rfl, _, rfl, _, rfl, _, _, _, _, rfl, rfl, SqT.of (sb2 _ _ hp), rfl, pw, _, rfl, .inl (SqL.of (sb2 _ _ hw)), _, rfl, _, _, rfl, rfl, l, _, rfl, S2, by omega, log_le 20 (by omega), fun t H3 t0 t1 B3 S3 => ⟨_, _, rfl, rfl, ?_⟩⟩
    have sb3 := sbBut hl sb2 B3
    obtain ⟨u, rfl⟩ := Int.eq_ofNat_of_zero_le t0
    obtain ⟨ym, hym⟩ : ∃ ym, ys[j]? = some ym := ⟨_, List.getElem?_eq_getElem (by omega)⟩
    obtain ⟨wj, hwj, tj, rfl, htj⟩ := want_at' (hall.same sb3) hym
    have ow := co.wo.all wj (List.mem_of_getElem? hwj)
    have n8 := ow.n8
    have ec : (("thing " : Str) ++ txt wj.1) = txt (kThing ++ wj.1) := by rw [show ("thing " : Str) = txt kThing by decide +kernel, txt_app]
    refine ⟨_, rfl, _, rfl, _, _, _, _, rfl, rfl, SqT.of (sb3 _ _ hp), rfl, _, rfl, _, _, _, _, rfl, rfl, SqL.of (sb3 _ _ hw), atI_nat hym, _, _, _, _, rfl, rfl, SqT.of htj, rfl, _, _, rfl, rfl, cat_sz (by decide +kernel) (by rw [txt_length]; omega), ?_⟩
    rw [ec]
    refine ⟨_, _, rfl, rfl, cat_sz (by rw [txt_length, List.length_append]; show 6 + _ ≤ 500; omega) (by decide +kernel), (by show 2 ≤ sizeLine; decide), fun q9 hq9 => ?_⟩
    dsimp only
    rw [show txt (kThing ++ wj.1) ++ (" 7" : Str) = txt (rThing7 wj.1) by rw [show (" 7" : Str) = txt [32, 55] by decide +kernel, txt_app]; rfl, show ((headN C : Nat) : Int) + ((j : Nat) : Int) + 2 + ((u : Nat) : Int) = ((headN C + j + 2 + u : Nat) : Int) by omega]
    exact fin sb3 S3 (by omega) (ro_thing7 ow) (by rw [tk_thing7 ow]; exact no_thing (.inr (.inr (.inr (List.mem_map_of_mem (mem_take hwj (by omega))))))) q9 hq9
end
end Dear

namespace Dear
open PySem PySem.Spec PyProof.Rows L2
def spBarred : Sp := fun vs H Q _ => ∃ (l : Addr) (v : V) (pr : Addr) (C : CsD) (Hb : Hp), vs = [.ref l, v, .ref pr] ∧ Src H l ∧ CsAt Hb v C ∧ CsOk C ∧ Hb l = none ∧ Same Hb H ∧ Hb pr = some (.lst (vsT (rowsOfC C))) ∧
  ∀ (q : Addr) (H' : Hp), Same Hb H' → Src H' l → RowAt C H' q → Q (.ref q) H'
theorem neNilS {K : PySem.W.Frag} {H : Hp} {Q : VK} {a b : Addr} {ys : List Str} (h1 : H a = some (.lst (ys.map V.str))) (h2 : H b = some (.lst [])) (as : ∀ y ∈ ys, Asc y) (q : Q (.bl (!ys.isEmpty)) H) : rNeD K (.ref a) (.ref b) H Q := by
  refine ⟨.list (ys.map PyData.str), .list [], .lst (SqL.of h1) (dp_strs _), .lst (SqL.of h2) .nil, shaped_strs as, shaped_nil, ?_⟩
  rw [eqv_nil]
  have : (ys.map PyData.str).isEmpty = ys.isEmpty := by cases ys <;> rfl
  rw [this]
  exact q
theorem two_at {x y : V} {r : Int} (r0 : 0 ≤ r) (r1 : r < 2) : atI [x, y] r = some x ∨ atI [x, y] r = some y := by
  obtain ⟨n, rfl⟩ := Int.eq_ofNat_of_zero_le r0
  match n, r1 with
  | 0, _ => exact .inl (atI_nat (xs := [x, y]) (j := 0) rfl)
  | 1, _ => exact .inr (atI_nat (xs := [x, y]) (j := 1) rfl)
  | n + 2, h => exact absurd h (by omega)
theorem three_at {x y z : V} {r : Int} (r0 : 0 ≤ r) (r1 : r < 3) : atI [x, y, z] r = some x ∨ atI [x, y, z] r = some y ∨ atI [x, y, z] r = some z := by
  obtain ⟨n, rfl⟩ := Int.eq_ofNat_of_zero_le r0
  match n, r1 with
  | 0, _ => exact .inl (atI_nat (xs := [x, y, z]) (j := 0) rfl)
  | 1, _ => exact .inr (.inl (atI_nat (xs := [x, y, z]) (j := 1) rfl))
  | 2, _ => exact .inr (.inr (atI_nat (xs := [x, y, z]) (j := 2) rfl))
  | n + 3, h => exact absurd h (by omega)
theorem s_first (c : Nat) : ("first " : Str) ++ txt [c] = txt (firstRow c) := by rw [show ("first " : Str) = txt kFirst by decide +kernel, txt_app]; rfl
theorem s_pair1 (c : Nat) : ("pair " : Str) ++ txt [c] = txt (kPair ++ [c]) := by rw [show ("pair " : Str) = txt kPair by decide +kernel, txt_app]
theorem s_pair (a b : Nat) : ("pair " : Str) ++ txt [a] ++ txt [b] = txt (rPair a b) := by rw [s_pair1, txt_app]; rfl
theorem s_sign1 (c : Nat) : ("sign " : Str) ++ txt [c] = txt (kSign ++ [c]) := by rw [show ("sign " : Str) = txt kSign by decide +kernel, txt_app]
theorem s_new (c : Nat) : ("sign " : Str) ++ txt [c] ++ (" 1 1" : Str) = txt (rSignNew c) := by rw [s_sign1, show (" 1 1" : Str) = txt [32, 49, 32, 49] by decide +kernel, txt_app]; rfl
theorem s_long : ("longest 3" : Str) = txt rLong3 := by decide +kernel
theorem s_thing : ("thing qrs 1" : Str) = txt rThing := by decide +kernel
theorem s_word : ("word qrs" : Str) = txt rWord := by decide +kernel
theorem z_first (c : Nat) : ("first " : Str).length + (txt [c]).length ≤ sizeLine := cat_sz (by decide +kernel) (by rw [txt_length]; show 1 ≤ 500; decide)
theorem z_pair (c : Nat) : ("pair " : Str).length + (txt [c]).length ≤ sizeLine := cat_sz (by decide +kernel) (by rw [txt_length]; show 1 ≤ 500; decide)
theorem z_pair2 (a b : Nat) : (("pair " : Str) ++ txt [a]).length + (txt [b]).length ≤ sizeLine := cat_sz (by rw [s_pair1, txt_length]; show 6 ≤ 500; decide) (by rw [txt_length]; show 1 ≤ 500; decide)
theorem z_sign (c : Nat) : ("sign " : Str).length + (txt [c]).length ≤ sizeLine := cat_sz (by decide +kernel) (by rw [txt_length]; show 1 ≤ 500; decide)
theorem z_sign2 (c : Nat) : (("sign " : Str) ++ txt [c]).length + (" 1 1" : Str).length ≤ sizeLine := cat_sz (by rw [s_sign1, txt_length]; show 6 ≤ 500; decide) (by decide +kernel)
section
variable {P : Program} {w : World} {K : PySem.W.Frag} {mg : Str → Option Value} {base : Heap}
set_option pp.maxSteps 3000
theorem o__law_barred (T : Txt K mg) : OkF P w K mg base CX0 3 "_law_barred" ["_law_pool_here", "_law_case_here", "_law_rows_here"] spBarred := by
  have o__law_take := o__law_take (P := P) (w := w) (base := base) T
  have o__law_fresh := o__law_fresh (P := P) (w := w) (base := base) T
  have o__law_told_again := o__law_told_again (P := P) (w := w) (base := base) T
  refine T.f__law_barred.ok c__law_barred (fun vs H Q E h => ?_) (fun f cdv A outer s H vs Q E hr h => ?_)
  · obtain ⟨l, v, pr, C, Hb, rfl, _⟩ := h
    rfl
  · obtain ⟨l, v, pr, C, Hb, rfl, S, ca, co, hl, sb, hr9, k⟩ := h
    refine ⟨_, (pss_cons (ps_asg (pe_ix (ix_tup_k K) (pv 1) pe_int (fun _ _ => rfl)) (pg_tup_k K (n := 4) rfl (pgs_cons (pg_name (i := 3) c__law_barred.nd rfl (Or.inl rfl)) (pgs_cons (pg_name (i := 4) c__law_barred.nd rfl (Or.inr rfl)) (pgs_cons (pg_name (i := 5) c__law_barred.nd rfl (Or.inl rfl)) (pgs_cons (pg_name (i := 6) c__law_barred.nd rfl (Or.inl rfl)) pgs_nil))))))
(pss_cons (ps_set (i := 7) c__law_barred.nd rfl (Or.inl rfl) (pe_c o__law_fresh hr (pa_cons (pv 1) pa_nil)))
(pss_cons (ps_set (i := 8) c__law_barred.nd rfl (Or.inl rfl) (pe_ix (ix_tup_k K) (pe_ix (ix_list_k K) (pv 3) (pe_c o__law_take hr (pa_cons (pv 0) (pa_cons (pe_callB (call_len_seq_k K) (by rfl) T.b_len PySem.boot_len (pa_cons (pv 3) pa_nil)) pa_nil))) (fun _ _ => rfl)) pe_int (fun _ _ => rfl)))
(pss_cons (ps_set (i := 9) c__law_barred.nd rfl (Or.inl rfl) (pe_op op_add (pe_op op_add (pe_callB (call_len_seq_k K) (by rfl) T.b_len PySem.boot_len (pa_cons (pv 3) pa_nil)) (pe_callB (call_len_seq_k K) (by rfl) T.b_len PySem.boot_len (pa_cons (pv 4) pa_nil))) (pe_callB (call_len_seq_k K) (by rfl) T.b_len PySem.boot_len (pa_cons (pv 5) pa_nil))))
(pss_cons (ps_set (i := 10) c__law_barred.nd rfl (Or.inl rfl) (pe_op op_add (pe_op op_add (pv 9) pe_int) (pe_callB (call_len_seq_k K) (by rfl) T.b_len PySem.boot_len (pa_cons (pe_ix (ix_tup_k K) (pv 1) pe_int (fun _ _ => rfl)) pa_nil))))
(pss_cons (ps_set (i := 11) c__law_barred.nd rfl (Or.inl rfl) (pe_c o__law_take hr (pa_cons (pv 0) (pa_cons pe_int pa_nil))))
(pss_cons (ps_set (i := 12) c__law_barred.nd rfl (Or.inl rfl) (pe_c o__law_take hr (pa_cons (pv 0) (pa_cons (pe_op op_add (pe_callB (call_len_seq_k K) (by rfl) T.b_len PySem.boot_len (pa_cons (pv 2) pa_nil)) pe_int) pa_nil))))
(pss_cons (ps_setLc (i := 13) (own := [("_law_row", 14)]) (g := gName 14) (by rfl) c__law_barred.nd rfl rfl (sw_true rfl rfl rfl (by decide +kernel)) (pi_list_k K (pv 3)) (blkOk_by (own := [("_law_row", 14)]) (N := n__law_barred) (sc := defScope s__law_barred) (by decide +kernel)) (fun _ _ _ _ _ => (pg_name (i := 14) c__law_barred.nd rfl (Or.inl rfl))) (fun _ _ _ _ _ => (pts_one (pt_cmpR (op_notIn_seq_k K) (pe_ix (ix_tup_k K) (pv 14) pe_int (fun _ _ => rfl)) (pv 4) rfl))) (fun _ _ _ _ _ => (pe_ix (ix_tup_k K) (pv 14) pe_int (fun _ _ => rfl))))
(C8.pss_cut (ps_if (pt_cmpR op_eq (pv 11) pe_int (nomark _))
(pss_one (ps_ret (pe_tup (pa_cons (pe_c o__law_take hr (pa_cons (pv 0) (pa_cons pe_int pa_nil))) (pa_cons (pe_ix (ix_list_k K) (pe_lst (pa_cons (pe_op op_add_str pe_str (pv 8)) (pa_cons (pe_op op_add_str (pe_op op_add_str pe_str (pv 8)) (pv 8)) (pa_cons pe_str pa_nil)))) (pe_c o__law_take hr (pa_cons (pv 0) (pa_cons pe_int pa_nil))) (fun _ _ => rfl)) pa_nil)))))
pss_nil)
(C8.pss_cut (ps_if (pt_cmpR op_eq (pv 11) pe_int (nomark _))
(pss_one (ps_ret (pe_tup (pa_cons (pe_c o__law_take hr (pa_cons (pv 0) (pa_cons (pe_op op_add (pv 9) pe_int) pa_nil))) (pa_cons (pe_ix (ix_list_k K) (pe_lst (pa_cons pe_str (pa_cons pe_str pa_nil))) (pe_c o__law_take hr (pa_cons (pv 0) (pa_cons pe_int pa_nil))) (fun _ _ => rfl)) pa_nil)))))
pss_nil)
(C8.pss_cut (ps_if (pt_cmpR op_eq (pv 11) pe_int (nomark _))
(pss_one (ps_ret (pe_tup (pa_cons (pv 12) (pa_cons (pe_ix (ix_list_k K) (pe_lst (pa_cons (pe_op op_add_str pe_str (pv 7)) (pa_cons (pe_op op_add_str (pe_op op_add_str pe_str (pv 8)) (pv 7)) (pa_cons (pe_op op_add_str (pe_op op_add_str pe_str (pv 7)) (pv 8)) pa_nil)))) (pe_c o__law_take hr (pa_cons (pv 0) (pa_cons pe_int pa_nil))) (fun _ _ => rfl)) pa_nil)))))
pss_nil)
(C8.pss_cut (ps_if (pt_cmpR op_eq (pv 11) pe_int (nomark _))
(pss_one (ps_ret (pe_tup (pa_cons (pe_callB (call_max2 rfl) (by rfl) T.b_max (by decide +kernel) (pa_cons (pv 12) (pa_cons (pe_op op_add (pe_callB (call_len_seq_k K) (by rfl) T.b_len PySem.boot_len (pa_cons (pv 3) pa_nil)) pe_int) pa_nil))) (pa_cons (pe_op op_add_str (pe_op op_add_str pe_str (pv 7)) pe_str) pa_nil)))))
pss_nil)
(C8.pss_cut (ps_if (pt_chain op_lt op_lt pe_int (pv 11) pe_int)
(pss_one (ps_ret (pe_c o__law_told_again hr (pa_cons (pv 0) (pa_cons (pv 1) (pa_cons (pv 2) (pa_cons (pv 12) pa_nil)))))))
pss_nil)
(C8.pss_cut (ps_if (PW.pt (pw_and (pt_cmpR op_eq (pv 11) pe_int (nomark _)) (pw_and (pt_cmpR (op_neD_k K hr.units) (pv 5) (pe_lst pa_nil) (nomark _)) (pw_and1 (pt_cmpR (op_neD_k K hr.units) (pv 13) (pe_lst pa_nil) (nomark _))))))
(pss_one (ps_ret (pe_tup (pa_cons (pe_op op_sub (pv 9) (pe_c o__law_take hr (pa_cons (pv 0) (pa_cons (pe_callB (call_len_seq_k K) (by rfl) T.b_len PySem.boot_len (pa_cons (pv 5) pa_nil)) pa_nil)))) (pa_cons (pe_op op_add_str pe_str (pe_ix (ix_list_k K) (pv 13) pe_int (fun _ _ => rfl))) pa_nil)))))
pss_nil)
(C8.pss_cut (ps_if (PW.pt (pw_and (pt_cmpR op_eq (pv 11) pe_int (nomark _)) (pw_and1 (pt_cmpR op_notN (pe_ix (ix_tup_k K) (pv 1) pe_int (fun _ _ => rfl)) pe_non (nomark _)))))
(pss_one (ps_ret (pe_ix (ix_list_k K) (pe_lst (pa_cons (pe_tup (pa_cons (pe_callB (call_max2 rfl) (by rfl) T.b_max (by decide +kernel) (pa_cons (pv 12) (pa_cons (pe_op op_add (pv 10) pe_int) pa_nil))) (pa_cons pe_str pa_nil))) (pa_cons (pe_tup (pa_cons (pe_callB (call_len_seq_k K) (by rfl) T.b_len PySem.boot_len (pa_cons (pv 2) pa_nil)) (pa_cons pe_str pa_nil))) pa_nil))) (pe_c o__law_take hr (pa_cons (pv 0) (pa_cons pe_int pa_nil))) (fun _ _ => rfl))))
pss_nil)
(C8.pss_cut (ps_if (pt_cmpR op_eq (pv 11) pe_int (nomark _))
(pss_one (ps_ret (pe_tup (pa_cons (pe_op op_add (pv 9) pe_int) (pa_cons pe_str pa_nil)))))
pss_nil)
(C8.pss_cut (ps_if (PW.pt (pw_and (pt_cmpR op_eq (pv 11) pe_int (nomark _)) (pw_and1 (pt_cmpR op_eq (pe_callB (call_len_seq_k K) (by rfl) T.b_len PySem.boot_len (pa_cons (pe_ix (ix_tup_k K) (pv 1) pe_int (fun _ _ => rfl)) pa_nil)) pe_int (nomark _)))))
(pss_one (ps_ret (pe_tup (pa_cons (pv 10) (pa_cons pe_str pa_nil)))))
pss_nil)
(C8.pss_cut (ps_if (PW.pt (pw_and (pt_cmpR op_eq (pv 11) pe_int (nomark _)) (pw_and1 (pt_cmpR op_eq (pe_callB (call_len_seq_k K) (by rfl) T.b_len PySem.boot_len (pa_cons (pv 3) pa_nil)) pe_int (nomark _)))))
(pss_one (ps_ret (pe_tup (pa_cons pe_int (pa_cons (pe_op op_add_str (pe_op op_add_str pe_str (pv 7)) pe_str) pa_nil)))))
pss_nil)
(pss_one (ps_ret (pe_tup (pa_cons (pe_callB (call_max2 rfl) (by rfl) T.b_max (by decide +kernel) (pa_cons (pv 12) (pa_cons (pe_op op_add (pv 9) pe_int) pa_nil))) (pa_cons (pe_ix (ix_list_k K) (pe_lst (pa_cons pe_str (pa_cons (pe_op op_add_str pe_str (pv 8)) (pa_cons (pe_op op_add_str (pe_op op_add_str pe_str (pv 8)) (pv 8)) pa_nil)))) (pe_c o__law_take hr (pa_cons (pv 0) (pa_cons pe_int pa_nil))) (fun _ _ => rfl)) pa_nil))))))))))))))))))))))), ?_⟩
    have ca0 := ca
    obtain ⟨p, pw, tv, bv, ys, H0, rfl, hp, ta, hw, hall, hbk⟩ := ca
    obtain ⟨pt, a, b, cc, xs, rfl, h1, h2, h3, h4, h5, _⟩ := ta.ex
    have td := co.td
    have ld : C.ds.length = C.cs.length := td.sg.facts.2.2.2.2.1
    have lts := td.sg.facts.2.2.2.2.2
    have l2 := td.l2
    have l6 := td.l6
    have lf := td.fs6
    have lz := td.zs36
    have l1 := co.l1
    have l20 := co.l20
    have lx : xs.length = C.ds.length := h3.length
    have ly : ys.length = C.ws.length := by rw [hall.length, List.length_map]
    have lv : (vsT (rowsOfC C)).length = (rowsOfC C).length := vsT_lenC _
    have rc := rows_count (C := C)
    have r100 : (rowsOfC C).length ≤ 100 := co.rows.1
    have lF : ((C.fs.map sgn).map V.str).length = C.fs.length := by rw [List.length_map, List.length_map]
    have lZ : (C.zs.map V.str).length = C.zs.length := List.length_map ..
    have hh : headN C = C.ds.length + C.fs.length + C.zs.length := rfl
    refine ⟨_, rfl, _, _, _, _, rfl, rfl, SqT.of (sb _ _ hp), rfl, pt, _, rfl, SqT.of (sb _ _ h1), rfl, _, _, rfl, _, _, rfl, _, _, rfl, _, _, rfl, rfl, ?_⟩
    refine ⟨_, rfl, _, C, rfl, ca0.same sb, co, fun fc H1 s1 fl fn => ?_⟩
    have sb1 := sb.trans s1
    have S1 := S.same s1
    refine ⟨_, rfl, _, rfl, _, rfl, a, _, rfl, .inl (SqL.of (sb1 _ _ h2)), l, _, rfl, S1, by omega, log_le 6 (by omega), fun r H2 r0 r1 B2 S2 => ?_⟩
    have sb2 := sbBut hl sb1 B2
    obtain ⟨j, rfl⟩ := Int.eq_ofNat_of_zero_le r0
    obtain ⟨xm, hxm⟩ : ∃ xm, xs[j]? = some xm := ⟨_, List.getElem?_eq_getElem (by omega)⟩
    obtain ⟨dm, hdm, dxm⟩ := (h3.same sb2).get hxm
    obtain ⟨oc, hoc, sd⟩ := td.sg.get hdm
    obtain ⟨q, pa, tt, bo, lD, lv', rfl, hq, rfl, hpa, dl, pr', ll⟩ := sign_at dxm sd
    have om : oc ∈ C.cs := List.mem_of_getElem? hoc
    have ol := sd.2
    refine ⟨_, _, _, _, rfl, rfl, SqL.of (sb2 _ _ h2), atI_nat hxm, _, _, _, _, rfl, rfl, SqT.of hq, rfl, ?_⟩
    rw [sgn_txt oc]
    refine ⟨_, rfl, a, _, rfl, .inl (SqL.of (sb2 _ _ h2)), _, rfl, b, _, rfl, .inl (SqL.of (sb2 _ _ h4)), _, _, rfl, rfl, _, rfl, cc, _, rfl, .inl (SqL.of (sb2 _ _ h5)), _, _, rfl, rfl, ?_⟩
    dsimp only
    rw [lx, lF, lZ, show (((C.ds.length : Nat) : Int) + ((C.fs.length : Nat) : Int) + ((C.zs.length : Nat) : Int)) = ((headN C : Nat) : Int) by omega]
    refine ⟨_, rfl, _, _, rfl, rfl, _, rfl, _, _, _, _, rfl, rfl, SqT.of (sb2 _ _ hp), rfl, pw, _, rfl, .inl (SqL.of (sb2 _ _ hw)), _, _, rfl, rfl, ?_⟩
    dsimp only
    rw [ly, show (((headN C : Nat) : Int) + 1 + ((C.ws.length : Nat) : Int)) = ((headN C + 1 + C.ws.length : Nat) : Int) by omega]
    refine ⟨_, rfl, l, 12, rfl, S2, by decide, log_le 12 (by decide), fun way H3 w0 w1 B3 S3 => ?_⟩
    have sb3 := sbBut hl sb2 B3
    obtain ⟨way, rfl⟩ := Int.eq_ofNat_of_zero_le w0
    refine ⟨_, rfl, _, rfl, pr, _, rfl, .inl (SqL.of (sb3 _ _ hr9)), _, _, rfl, rfl, l, _, rfl, S3, by omega, log_le 200 (by omega), fun at_ H4 a0 a1 B4 S4 => ?_⟩
    have sb4 := sbBut hl sb3 B4
    obtain ⟨n, rfl⟩ := Int.eq_ofNat_of_zero_le a0
    have hn : n ≤ (rowsOfC C).length := by omega
    refine ⟨_, rfl, a, rfl, ⟨_, SqL.of (sb4 _ _ h2)⟩, fun po hpo => lc_list (K := K) (a := a) (xs := xs) (fun j H' => Same H4 H' ∧ H' po = some (.lst ((((C.cs.take j).filter fun c => !decide (c ∈ C.fs)).map sgn).map V.str))) ⟨Same.upd hpo, upd_same⟩ (fun j H' _ h => SqL.of (h.1 _ _ (sb4 _ _ h2))) ?_ ?_⟩
    · rintro j x H5 hx ⟨s5, e5⟩
      have sb5 := sb4.trans s5
      obtain ⟨dm, hdm, dxm⟩ := (h3.same sb5).get hx
      obtain ⟨c, hc, sd⟩ := td.sg.get hdm
      obtain ⟨q, pa, t, bo, lD, lv, rfl, hq, rfl, hpa, dl, pr, ll⟩ := sign_at dxm sd
      refine ⟨rfl, _, rfl, _, _, _, _, rfl, rfl, SqT.of hq, rfl, _, rfl, b, _, rfl, .inl (SqL.of (sb5 _ _ h4)), rfl, flat_str _, ?_⟩
      rw [inV_strs, mem_sgn, take_more hc]
      have nE : ∀ {y : List V}, Same H4 (upd H5 po (.lst y)) := fun b' o' hb' => by
        rw [upd_ne (ne_of_none hb' hpo)]
        exact s5 _ _ hb'
      by_cases q9 : c ∈ C.fs
      · rw [decide_eq_true q9]
        refine ⟨_, rfl, iteF ⟨s5, ?_⟩⟩
        rw [List.filter_append, List.filter_cons_of_neg (by rw [decide_eq_true q9]; exact fun z => nomatch z), List.filter_nil, List.append_nil]
        exact e5
      · rw [decide_eq_false q9]
        refine ⟨_, rfl, iteT ⟨_, rfl, _, _, _, _, rfl, rfl, SqT.of hq, rfl, _, e5, small1000 ?_, nE, ?_⟩⟩
        · rw [List.length_map, List.length_map]
          refine Nat.le_trans (List.length_filter_le _ _) ?_
          rw [List.length_take]
          omega
        · rw [upd_same, List.filter_append, List.filter_cons_of_pos (by rw [decide_eq_false q9]; rfl), List.filter_nil, List.map_append, List.map_append]
          rfl
    rintro H5 ⟨s5, eo⟩
    rw [lx, ld, List.take_length] at eo
    have sb5 := sb4.trans s5
    have S5 := S4.same s5
    have npo := S4.ne hpo
    clear s5 sb4 S4 B4 sb3 S3 B3 sb2 S2 B2 sb1 S1 s1 hpo hq hpa dl dxm hxm hdm
    generalize hos : C.cs.filter (fun c => !decide (c ∈ C.fs)) = os at eo
    have osl : ∀ c ∈ os, c ∈ letters.cps.toList := fun c hc => by
      rw [← hos] at hc
      exact lts c (List.mem_filter.mp hc).1
    have fin : ∀ {m : Nat} {x : List Nat} {H9 : Hp} {z : Int} {y : Str}, Same Hb H9 → Src H9 l → m ≤ (rowsOfC C).length → RowOk x → takesF (stAt C m) x = none → z = ((m : Nat) : Int) → y = txt x → ∀ q : Addr, H9 q = none → Q (.ref q) (upd H9 q (.tup [.int z, .str y])) := fun {m x H9 z y} s9 S9 hm rx tx hz hy q hq => k q _ (s9.trans (Same.upd hq)) (S9.same (Same.upd hq)) ⟨m, x, by rw [upd_same, hz, hy], hm, rx, tx⟩
    -- 0
    refine ⟨fun σ' H' => σ' = [some (.ref l), some (.ref p), some (.ref pr), some (.ref a), some (.ref b), some (.ref cc), some (.int C.i), some (.str (txt [fc])), some (.str (txt [oc])), some (.int (headN C : Nat)), some (.int (headN C + 1 + C.ws.length : Nat)), some (.int (way : Nat)), some (.int (n : Nat)), some (.ref po), none] ∧ H' = H5, ?_, ?_⟩
    · refine ⟨_, rfl, rfl, _, rfl, itd (fun _ => ?_) fun _ => ⟨rfl, rfl⟩⟩
      refine ⟨_, rfl, l, 2, rfl, S5, by decide, log_le 2 (by decide), fun r H6 r0 r1 B6 S6 => ?_⟩
      have sb6 := sbBut hl sb5 B6
      refine ⟨_, rfl, _, _, rfl, rfl, z_first oc, _, rfl, _, _, rfl, rfl, z_pair oc, _, rfl, _, _, rfl, rfl, z_pair2 oc oc, (by show 3 ≤ sizeLine; decide), fun q1 hq1 => ?_⟩
      have nq1 := S6.ne hq1
      have uH7 := Same.upd (o := .lst [V.str (("first " : Str) ++ txt [oc]), V.str (("pair " : Str) ++ txt [oc] ++ txt [oc]), V.str "longest 3"]) hq1
      have eq1 : (upd H6 q1 (.lst [V.str (("first " : Str) ++ txt [oc]), V.str (("pair " : Str) ++ txt [oc] ++ txt [oc]), V.str "longest 3"])) q1 = some (.lst [V.str (("first " : Str) ++ txt [oc]), V.str (("pair " : Str) ++ txt [oc] ++ txt [oc]), V.str "longest 3"]) := upd_same
      generalize upd H6 q1 (.lst [V.str (("first " : Str) ++ txt [oc]), V.str (("pair " : Str) ++ txt [oc] ++ txt [oc]), V.str "longest 3"]) = H7 at uH7 eq1 ⊢
      have S7 := S6.same uH7
      refine ⟨_, rfl, l, 3, rfl, S7, by decide, log_le 3 (by decide), fun t H8 t0 t1 B8 S8 => ?_⟩
      have sb8 := sbBut hl (sb6.trans uH7) B8
      obtain ⟨m, rfl⟩ := Int.eq_ofNat_of_zero_le r0
      have lo := at_low (C := C) m (by omega)
      rcases three_at (x := V.str (("first " : Str) ++ txt [oc])) (y := V.str (("pair " : Str) ++ txt [oc] ++ txt [oc])) (z := V.str "longest 3") t0 t1 with e | e | e
      · exact ⟨_, _, _, _, rfl, rfl, SqL.of (B8 _ _ eq1 nq1), e, (by show 2 ≤ sizeLine; decide), fin sb8 S8 (by omega) (ro_first ol) (by rw [tk_first ol]; exact no_first (.inl lo)) rfl (s_first oc)⟩
      · exact ⟨_, _, _, _, rfl, rfl, SqL.of (B8 _ _ eq1 nq1), e, (by show 2 ≤ sizeLine; decide), fin sb8 S8 (by omega) (ro_pair ol ol) (by rw [tk_pair ol ol]; exact no_pair (.inl lo)) rfl (s_pair oc oc)⟩
      · exact ⟨_, _, _, _, rfl, rfl, SqL.of (B8 _ _ eq1 nq1), e, (by show 2 ≤ sizeLine; decide), fin sb8 S8 (by omega) ro_long (by rw [tk_long3]; exact no_long (.inl lo)) rfl s_long⟩
    rintro σ' H5 ⟨rfl, rfl⟩
    -- 1
    refine ⟨fun σ' H' => σ' = [some (.ref l), some (.ref p), some (.ref pr), some (.ref a), some (.ref b), some (.ref cc), some (.int C.i), some (.str (txt [fc])), some (.str (txt [oc])), some (.int (headN C : Nat)), some (.int (headN C + 1 + C.ws.length : Nat)), some (.int (way : Nat)), some (.int (n : Nat)), some (.ref po), none] ∧ H' = H5, ?_, ?_⟩
    · refine ⟨_, rfl, rfl, _, rfl, itd (fun _ => ?_) fun _ => ⟨rfl, rfl⟩⟩
      refine ⟨_, rfl, _, rfl, _, _, rfl, rfl, l, _, rfl, S5, by omega, log_le 100 (by omega), fun r H6 r0 r1 B6 S6 => ?_⟩
      have sb6 := sbBut hl sb5 B6
      refine ⟨(by show 2 ≤ sizeLine; decide), fun q1 hq1 => ?_⟩
      have nq1 := S6.ne hq1
      have uH7 := Same.upd (o := .lst [V.str "thing qrs 1", V.str "word qrs"]) hq1
      have eq1 : (upd H6 q1 (.lst [V.str "thing qrs 1", V.str "word qrs"])) q1 = some (.lst [V.str "thing qrs 1", V.str "word qrs"]) := upd_same
      generalize upd H6 q1 (.lst [V.str "thing qrs 1", V.str "word qrs"]) = H7 at uH7 eq1 ⊢
      have S7 := S6.same uH7
      refine ⟨_, rfl, l, 2, rfl, S7, by decide, log_le 2 (by decide), fun t H8 t0 t1 B8 S8 => ?_⟩
      have sb8 := sbBut hl (sb6.trans uH7) B8
      obtain ⟨m, rfl⟩ := Int.eq_ofNat_of_zero_le r0
      have mh : m ≤ headN C := by omega
      have wn : (stAt C m).ws.length ≤ (stAt C m).wd.length := by
        show (C.ws.take _).length ≤ _
        rw [List.length_take]
        omega
      rcases two_at (x := V.str "thing qrs 1") (y := V.str "word qrs") t0 t1 with e | e
      · exact ⟨_, _, _, _, rfl, rfl, SqL.of (B8 _ _ eq1 nq1), e, (by show 2 ≤ sizeLine; decide), fin sb8 S8 (by omega) ro_thing (by rw [tk_thing]; exact no_thing (.inl (at_none mh))) rfl s_thing⟩
      · exact ⟨_, _, _, _, rfl, rfl, SqL.of (B8 _ _ eq1 nq1), e, (by show 2 ≤ sizeLine; decide), fin sb8 S8 (by omega) ro_word (by rw [tk_word]; exact no_word wn) rfl s_word⟩
    rintro σ' H5 ⟨rfl, rfl⟩
    -- 2
    have fnn : ∀ m, ¬ fc ∈ (stAt C m).cs := fun m q => fn (List.mem_of_mem_take q)
    refine ⟨fun σ' H' => σ' = [some (.ref l), some (.ref p), some (.ref pr), some (.ref a), some (.ref b), some (.ref cc), some (.int C.i), some (.str (txt [fc])), some (.str (txt [oc])), some (.int (headN C : Nat)), some (.int (headN C + 1 + C.ws.length : Nat)), some (.int (way : Nat)), some (.int (n : Nat)), some (.ref po), none] ∧ H' = H5, ?_, ?_⟩
    · refine ⟨_, rfl, rfl, _, rfl, itd (fun _ => ?_) fun _ => ⟨rfl, rfl⟩⟩
      refine ⟨_, rfl, _, rfl, _, _, rfl, rfl, z_first fc, _, rfl, _, _, rfl, rfl, z_pair oc, _, rfl, _, _, rfl, rfl, z_pair2 oc fc, _, rfl, _, _, rfl, rfl, z_pair fc, _, rfl, _, _, rfl, rfl, z_pair2 fc oc, (by show 3 ≤ sizeLine; decide), fun q1 hq1 => ?_⟩
      have nq1 := S5.ne hq1
      have uH7 := Same.upd (o := .lst [V.str (("first " : Str) ++ txt [fc]), V.str (("pair " : Str) ++ txt [oc] ++ txt [fc]), V.str (("pair " : Str) ++ txt [fc] ++ txt [oc])]) hq1
      have eq1 : (upd H5 q1 (.lst [V.str (("first " : Str) ++ txt [fc]), V.str (("pair " : Str) ++ txt [oc] ++ txt [fc]), V.str (("pair " : Str) ++ txt [fc] ++ txt [oc])])) q1 = some (.lst [V.str (("first " : Str) ++ txt [fc]), V.str (("pair " : Str) ++ txt [oc] ++ txt [fc]), V.str (("pair " : Str) ++ txt [fc] ++ txt [oc])]) := upd_same
      generalize upd H5 q1 (.lst [V.str (("first " : Str) ++ txt [fc]), V.str (("pair " : Str) ++ txt [oc] ++ txt [fc]), V.str (("pair " : Str) ++ txt [fc] ++ txt [oc])]) = H7 at uH7 eq1 ⊢
      have S7 := S5.same uH7
      refine ⟨_, rfl, l, 3, rfl, S7, by decide, log_le 3 (by decide), fun t H8 t0 t1 B8 S8 => ?_⟩
      have sb8 := sbBut hl (sb5.trans uH7) B8
      rcases three_at (x := V.str (("first " : Str) ++ txt [fc])) (y := V.str (("pair " : Str) ++ txt [oc] ++ txt [fc])) (z := V.str (("pair " : Str) ++ txt [fc] ++ txt [oc])) t0 t1 with e | e | e
      · exact ⟨_, _, _, _, rfl, rfl, SqL.of (B8 _ _ eq1 nq1), e, (by show 2 ≤ sizeLine; decide), fin sb8 S8 hn (ro_first fl) (by rw [tk_first fl]; exact no_first (.inr (.inr (.inl (fnn _))))) rfl (s_first fc)⟩
      · exact ⟨_, _, _, _, rfl, rfl, SqL.of (B8 _ _ eq1 nq1), e, (by show 2 ≤ sizeLine; decide), fin sb8 S8 hn (ro_pair ol fl) (by rw [tk_pair ol fl]; exact no_pair (.inr (.inr (.inr (.inl (fnn _)))))) rfl (s_pair oc fc)⟩
      · exact ⟨_, _, _, _, rfl, rfl, SqL.of (B8 _ _ eq1 nq1), e, (by show 2 ≤ sizeLine; decide), fin sb8 S8 hn (ro_pair fl ol) (by rw [tk_pair fl ol]; exact no_pair (.inr (.inr (.inl (fnn _))))) rfl (s_pair fc oc)⟩
    rintro σ' H5 ⟨rfl, rfl⟩
    -- 3
    refine ⟨fun σ' H' => σ' = [some (.ref l), some (.ref p), some (.ref pr), some (.ref a), some (.ref b), some (.ref cc), some (.int C.i), some (.str (txt [fc])), some (.str (txt [oc])), some (.int (headN C : Nat)), some (.int (headN C + 1 + C.ws.length : Nat)), some (.int (way : Nat)), some (.int (n : Nat)), some (.ref po), none] ∧ H' = H5, ?_, ?_⟩
    · refine ⟨_, rfl, rfl, _, rfl, itd (fun _ => ?_) fun _ => ⟨rfl, rfl⟩⟩
      refine ⟨_, rfl, _, rfl, a, _, rfl, .inl (SqL.of (sb5 _ _ h2)), _, _, rfl, rfl, _, _, rfl, _, rfl, _, _, rfl, rfl, z_sign fc, _, _, rfl, rfl, z_sign2 fc, (by show 2 ≤ sizeLine; decide), fun q1 hq1 => ?_⟩
      refine fin (m := max n (C.ds.length + 1)) sb5 S5 (by omega) (ro_new fl) ?_ (by rw [lx]; split <;> omega) (s_new fc) q1 hq1
      rw [tk_new fl]
      rcases at_signs (C := C) (max n (C.ds.length + 1)) (by omega) with e | e | e
      · exact no_sign (.inl e)
      · exact no_sign (.inr (.inl e))
      · exact no_sign (.inr (.inr (.inl e)))
    rintro σ' H5 ⟨rfl, rfl⟩
    -- 4 to 6
    refine ⟨fun σ' H' => σ' = [some (.ref l), some (.ref p), some (.ref pr), some (.ref a), some (.ref b), some (.ref cc), some (.int C.i), some (.str (txt [fc])), some (.str (txt [oc])), some (.int (headN C : Nat)), some (.int (headN C + 1 + C.ws.length : Nat)), some (.int (way : Nat)), some (.int (n : Nat)), some (.ref po), none] ∧ H' = H5, ?_, ?_⟩
    · refine ⟨_, rfl, _, _, rfl, rfl, _, rfl, itd (fun g => ⟨_, _, rfl, rfl, _, rfl, itd (fun _ => ?_) fun _ => ⟨rfl, rfl⟩⟩) fun g => ⟨_, rfl, iteF ⟨rfl, rfl⟩⟩⟩
      exact ⟨_, rfl, _, rfl, _, rfl, _, rfl, l, _, pr, n, C, Hb, rfl, S5, ca0, co, hl, sb5, hr9, hn, fun q H' s' S' ra => k q H' s' S' ra⟩
    rintro σ' H5 ⟨rfl, rfl⟩
    -- 7
    have ascZ : ∀ z ∈ C.zs, Asc z := fun z hz => by
      obtain ⟨a', ha', b', hb', rfl⟩ := td.po.of z hz
      intro c' hc'
      rw [tl_sgn2] at hc'
      simp only [List.mem_cons, List.not_mem_nil, or_false] at hc'
      rcases hc' with rfl | rfl
      · exact in_letters_asc (lts _ ha')
      · exact in_letters_asc (lts _ hb')
    have ascO : ∀ z ∈ os.map sgn, Asc z := fun z hz => by
      obtain ⟨c', hc', rfl⟩ := List.mem_map.mp hz
      exact asc_one (in_letters_asc (osl c' hc'))
    refine ⟨fun σ' H' => σ' = [some (.ref l), some (.ref p), some (.ref pr), some (.ref a), some (.ref b), some (.ref cc), some (.int C.i), some (.str (txt [fc])), some (.str (txt [oc])), some (.int (headN C : Nat)), some (.int (headN C + 1 + C.ws.length : Nat)), some (.int (way : Nat)), some (.int (n : Nat)), some (.ref po), none] ∧ Same Hb H' ∧ Src H' l, ?_, ?_⟩
    · refine ⟨_, rfl, rfl, _, rfl, itd (fun _ => ?_) fun _ => iteF ⟨rfl, sb5, S5⟩⟩
      refine ⟨_, rfl, (by show 0 ≤ sizeLine; decide), fun q1 hq1 => ?_⟩
      have uH6 := Same.upd (o := .lst []) hq1
      have eq1 : (upd H5 q1 (.lst [])) q1 = some (.lst []) := upd_same
      generalize upd H5 q1 (.lst []) = H6 at uH6 eq1 ⊢
      refine neNilS (uH6 _ _ (sb5 _ _ h5)) eq1 ascZ ⟨_, rfl, ?_⟩
      have sb6 := sb5.trans uH6
      have S6 := S5.same uH6
      by_cases zn : C.zs = []
      · rw [show (!C.zs.isEmpty) = false by rw [zn]; rfl]
        exact iteF (iteF ⟨rfl, sb6, S6⟩)
      rw [show (!C.zs.isEmpty) = true by cases e : C.zs with | nil => exact absurd e zn | cons _ _ => rfl]
      refine iteT ⟨_, rfl, (by show 0 ≤ sizeLine; decide), fun q2 hq2 => ?_⟩
      have uH7 := Same.upd (o := .lst []) hq2
      have eq2 : (upd H6 q2 (.lst [])) q2 = some (.lst []) := upd_same
      generalize upd H6 q2 (.lst []) = H7 at uH7 eq2 ⊢
      refine neNilS (uH7 _ _ (uH6 _ _ eo)) eq2 ascO ⟨_, rfl, ?_⟩
      have sb7 := sb6.trans uH7
      have S7 := S6.same uH7
      cases eos : os with
      | nil => exact iteF ⟨rfl, sb7, S7⟩
      | cons o0 r0' =>
        have z1 : 1 ≤ C.zs.length := List.length_pos_iff.mpr zn
        have o0l := osl o0 (by rw [eos]; exact List.mem_cons_self)
        refine iteT ⟨_, rfl, _, rfl, _, rfl, cc, _, rfl, .inl (SqL.of (sb7 _ _ h5)), l, _, rfl, S7, by omega, log_le 36 (by omega), fun r H8 r0 r1 B8 S8 => ?_⟩
        have sb8 := sbBut hl sb7 B8
        have eo8 := B8 _ _ (uH7 _ _ (uH6 _ _ eo)) npo
        rw [eos] at eo8
        obtain ⟨r, rfl⟩ := Int.eq_ofNat_of_zero_le r0
        refine ⟨_, _, rfl, rfl, _, rfl, _, _, _, _, rfl, rfl, SqL.of eo8, atI_nat (xs := V.str (txt [o0]) :: (r0'.map sgn).map V.str) (j := 0) rfl, _, _, rfl, rfl, z_first o0, (by show 2 ≤ sizeLine; decide), fun q9 hq9 => ?_⟩
        refine fin (m := headN C - r) sb8 S8 (by omega) (ro_first o0l) ?_ (by omega) (s_first o0) q9 hq9
        rw [tk_first o0l]
        exact no_first (.inr (.inr (.inr (.inl (take_ne (by omega) zn)))))
    clear sb5 S5 eo
    rintro σ' H5 ⟨rfl, sb5, S5⟩
    -- 8
    refine ⟨fun σ' H' => σ' = [some (.ref l), some (.ref p), some (.ref pr), some (.ref a), some (.ref b), some (.ref cc), some (.int C.i), some (.str (txt [fc])), some (.str (txt [oc])), some (.int (headN C : Nat)), some (.int (headN C + 1 + C.ws.length : Nat)), some (.int (way : Nat)), some (.int (n : Nat)), some (.ref po), none] ∧ Same Hb H' ∧ Src H' l, ?_, ?_⟩
    · refine ⟨_, rfl, rfl, _, rfl, itd (fun _ => ?_) fun _ => iteF ⟨rfl, sb5, S5⟩⟩
      cases eb : C.bk with
      | none =>
        rw [eb] at hbk
        have hbk : bv = .non := hbk
        subst hbk
        exact ⟨_, rfl, _, _, _, _, rfl, rfl, SqT.of (sb5 _ _ hp), rfl, rfl, _, rfl, iteF ⟨rfl, sb5, S5⟩⟩
      | some bb =>
        rw [eb] at hbk
        obtain ⟨pb, rfl, hpb, _⟩ := hbk
        have lb := (co.bo bb eb).1
        have lbk : (bkL C.bk).length = C.ws.length := by rw [eb]; exact lb
        refine ⟨_, rfl, _, _, _, _, rfl, rfl, SqT.of (sb5 _ _ hp), rfl, rfl, _, rfl, iteT ?_⟩
        refine ⟨_, rfl, _, rfl, _, _, rfl, rfl, _, _, rfl, (by show 2 ≤ sizeLine; decide), fun q1 hq1 => ?_⟩
        have nq1 := S5.ne hq1
        have uH6 := Same.upd (o := .tup [V.int (if ((headN C + 1 + C.ws.length : Nat) : Int) + 1 > ((n : Nat) : Int) then ((headN C + 1 + C.ws.length : Nat) : Int) + 1 else ((n : Nat) : Int)), V.str "thing qrs 1"]) hq1
        have eq1 : (upd H5 q1 (.tup [V.int (if ((headN C + 1 + C.ws.length : Nat) : Int) + 1 > ((n : Nat) : Int) then ((headN C + 1 + C.ws.length : Nat) : Int) + 1 else ((n : Nat) : Int)), V.str "thing qrs 1"])) q1 = some (.tup [V.int (if ((headN C + 1 + C.ws.length : Nat) : Int) + 1 > ((n : Nat) : Int) then ((headN C + 1 + C.ws.length : Nat) : Int) + 1 else ((n : Nat) : Int)), V.str "thing qrs 1"]) := upd_same
        generalize upd H5 q1 (.tup [V.int (if ((headN C + 1 + C.ws.length : Nat) : Int) + 1 > ((n : Nat) : Int) then ((headN C + 1 + C.ws.length : Nat) : Int) + 1 else ((n : Nat) : Int)), V.str "thing qrs 1"]) = H6 at uH6 eq1 ⊢
        have S6 := S5.same uH6
        have sb6 := sb5.trans uH6
        refine ⟨_, rfl, pr, _, rfl, .inl (SqL.of (sb6 _ _ hr9)), (by show 2 ≤ sizeLine; decide), fun q2 hq2 => ?_⟩
        have nq2 := S6.ne hq2
        have uH7 := Same.upd (o := .tup [V.int (((vsT (rowsOfC C)).length : Nat) : Int), V.str "word qrs"]) hq2
        have eq2 : (upd H6 q2 (.tup [V.int (((vsT (rowsOfC C)).length : Nat) : Int), V.str "word qrs"])) q2 = some (.tup [V.int (((vsT (rowsOfC C)).length : Nat) : Int), V.str "word qrs"]) := upd_same
        generalize upd H6 q2 (.tup [V.int (((vsT (rowsOfC C)).length : Nat) : Int), V.str "word qrs"]) = H7 at uH7 eq2 ⊢
        have S7 := S6.same uH7
        refine ⟨(by show 2 ≤ sizeLine; decide), fun q3 hq3 => ?_⟩
        have nq3 := S7.ne hq3
        have uH8 := Same.upd (o := .lst [V.ref q1, V.ref q2]) hq3
        have eq3 : (upd H7 q3 (.lst [V.ref q1, V.ref q2])) q3 = some (.lst [V.ref q1, V.ref q2]) := upd_same
        generalize upd H7 q3 (.lst [V.ref q1, V.ref q2]) = H8 at uH8 eq3 ⊢
        have S8 := S7.same uH8
        refine ⟨_, rfl, l, 2, rfl, S8, by decide, log_le 2 (by decide), fun t H9 t0 t1 B9 S9 => ?_⟩
        have sb9 := sbBut hl (sb6.trans (uH7.trans uH8)) B9
        rcases two_at (x := V.ref q1) (y := V.ref q2) t0 t1 with e | e
        · refine ⟨_, _, _, _, rfl, rfl, SqL.of (B9 _ _ eq3 nq3), e, k q1 H9 sb9 S9 ⟨max n (headN C + 1 + C.ws.length + 1), rThing, ?_, by omega, ro_thing, ?_⟩⟩
          · rw [B9 _ _ (uH8 _ _ (uH7 _ _ eq1)) nq1, s_thing, show (if ((headN C + 1 + C.ws.length : Nat) : Int) + 1 > ((n : Nat) : Int) then ((headN C + 1 + C.ws.length : Nat) : Int) + 1 else ((n : Nat) : Int)) = ((max n (headN C + 1 + C.ws.length + 1) : Nat) : Int) by split <;> omega]
          · rw [tk_thing]
            exact no_thing (.inr (.inl (take_ne (by omega) (List.length_pos_iff.mp (by omega)))))
        · refine ⟨_, _, _, _, rfl, rfl, SqL.of (B9 _ _ eq3 nq3), e, k q2 H9 sb9 S9 ⟨(rowsOfC C).length, rWord, ?_, Nat.le_refl _, ro_word, ?_⟩⟩
          · rw [B9 _ _ (uH8 _ _ eq2) nq2, s_word, lv]
          · rw [tk_word]
            refine no_word ?_
            show (C.ws.take _).length ≤ ((bkL C.bk).take _).length
            rw [List.length_take, List.length_take]
            omega
    clear sb5 S5
    rintro σ' H5 ⟨rfl, sb5, S5⟩
    -- 9
    refine ⟨fun σ' H' => σ' = [some (.ref l), some (.ref p), some (.ref pr), some (.ref a), some (.ref b), some (.ref cc), some (.int C.i), some (.str (txt [fc])), some (.str (txt [oc])), some (.int (headN C : Nat)), some (.int (headN C + 1 + C.ws.length : Nat)), some (.int (way : Nat)), some (.int (n : Nat)), some (.ref po), none] ∧ Same Hb H' ∧ Src H' l, ?_, ?_⟩
    · refine ⟨_, rfl, rfl, _, rfl, itd (fun _ => ?_) fun _ => ⟨rfl, sb5, S5⟩⟩
      refine ⟨_, rfl, _, _, rfl, rfl, (by show 2 ≤ sizeLine; decide), fun q1 hq1 => ?_⟩
      refine fin (m := headN C + 1) sb5 S5 (by omega) ro_word ?_ (by omega) s_word q1 hq1
      rw [tk_word]
      refine no_word ?_
      show (C.ws.take _).length ≤ _
      rw [List.length_take]
      omega
    clear sb5 S5
    rintro σ' H5 ⟨rfl, sb5, S5⟩
    -- 10
    refine ⟨fun σ' H' => σ' = [some (.ref l), some (.ref p), some (.ref pr), some (.ref a), some (.ref b), some (.ref cc), some (.int C.i), some (.str (txt [fc])), some (.str (txt [oc])), some (.int (headN C : Nat)), some (.int (headN C + 1 + C.ws.length : Nat)), some (.int (way : Nat)), some (.int (n : Nat)), some (.ref po), none] ∧ Same Hb H' ∧ Src H' l, ?_, ?_⟩
    · refine ⟨_, rfl, rfl, _, rfl, itd (fun _ => ?_) fun _ => iteF ⟨rfl, sb5, S5⟩⟩
      refine ⟨_, rfl, _, _, _, _, rfl, rfl, SqT.of (sb5 _ _ hp), rfl, pw, _, rfl, .inl (SqL.of (sb5 _ _ hw)), rfl, _, rfl, itd (fun e => ?_) fun _ => ⟨rfl, sb5, S5⟩⟩
      have e : (ys.length : Int) = 20 := by
        injection e with e
      refine ⟨_, rfl, (by show 2 ≤ sizeLine; decide), fun q1 hq1 => ?_⟩
      refine fin (m := headN C + 1 + C.ws.length) sb5 S5 (by omega) ro_thing ?_ rfl s_thing q1 hq1
      rw [tk_thing]
      refine no_thing (.inr (.inr (.inl ?_)))
      show (C.ws.take _).length = 20
      rw [List.length_take]
      omega
    clear sb5 S5
    rintro σ' H5 ⟨rfl, sb5, S5⟩
    refine ⟨fun σ' H' => σ' = [some (.ref l), some (.ref p), some (.ref pr), some (.ref a), some (.ref b), some (.ref cc), some (.int C.i), some (.str (txt [fc])), some (.str (txt [oc])), some (.int (headN C : Nat)), some (.int (headN C + 1 + C.ws.length : Nat)), some (.int (way : Nat)), some (.int (n : Nat)), some (.ref po), none] ∧ Same Hb H' ∧ Src H' l, ?_, ?_⟩
    · refine ⟨_, rfl, rfl, _, rfl, itd (fun _ => ?_) fun _ => iteF ⟨rfl, sb5, S5⟩⟩
      refine ⟨_, rfl, a, _, rfl, .inl (SqL.of (sb5 _ _ h2)), rfl, _, rfl, itd (fun e => ?_) fun _ => ⟨rfl, sb5, S5⟩⟩
      have e : (xs.length : Int) = 6 := by
        injection e with e
      refine ⟨_, rfl, _, _, rfl, rfl, z_sign fc, _, _, rfl, rfl, z_sign2 fc, (by show 2 ≤ sizeLine; decide), fun q1 hq1 => ?_⟩
      refine fin (m := 6) sb5 S5 (by omega) (ro_new fl) ?_ rfl (s_new fc) q1 hq1
      rw [tk_new fl]
      refine no_sign (.inr (.inr (.inr (.inl ?_))))
      show (C.cs.take 6).length = 6
      rw [List.length_take]
      omega
    clear sb5 S5
    rintro σ' H5 ⟨rfl, sb5, S5⟩
    refine ⟨_, rfl, _, rfl, _, _, rfl, rfl, _, _, rfl, _, rfl, _, _, rfl, rfl, z_first oc, _, rfl, _, _, rfl, rfl, z_pair oc, _, rfl, _, _, rfl, rfl, z_pair2 oc oc, (by show 3 ≤ sizeLine; decide), fun q1 hq1 => ?_⟩
    have nq1 := S5.ne hq1
    have uH7 := Same.upd (o := .lst [V.str "longest 3", V.str (("first " : Str) ++ txt [oc]), V.str (("pair " : Str) ++ txt [oc] ++ txt [oc])]) hq1
    have eq1 : (upd H5 q1 (.lst [V.str "longest 3", V.str (("first " : Str) ++ txt [oc]), V.str (("pair " : Str) ++ txt [oc] ++ txt [oc])])) q1 = some (.lst [V.str "longest 3", V.str (("first " : Str) ++ txt [oc]), V.str (("pair " : Str) ++ txt [oc] ++ txt [oc])]) := upd_same
    generalize upd H5 q1 (.lst [V.str "longest 3", V.str (("first " : Str) ++ txt [oc]), V.str (("pair " : Str) ++ txt [oc] ++ txt [oc])]) = H7 at uH7 eq1 ⊢
    have S7 := S5.same uH7
    refine ⟨_, rfl, l, 3, rfl, S7, by decide, log_le 3 (by decide), fun t H8 t0 t1 B8 S8 => ?_⟩
    have sb8 := sbBut hl (sb5.trans uH7) B8
    have lg := at_some (C := C) (n := max n (headN C + 1)) (by omega)
    rcases three_at (x := V.str "longest 3") (y := V.str (("first " : Str) ++ txt [oc])) (z := V.str (("pair " : Str) ++ txt [oc] ++ txt [oc])) t0 t1 with e | e | e
    · exact ⟨_, _, _, _, rfl, rfl, SqL.of (B8 _ _ eq1 nq1), e, (by show 2 ≤ sizeLine; decide), fin (m := max n (headN C + 1)) sb8 S8 (by omega) ro_long (by rw [tk_long3]; exact no_long (.inr lg)) (by split <;> omega) s_long⟩
    · exact ⟨_, _, _, _, rfl, rfl, SqL.of (B8 _ _ eq1 nq1), e, (by show 2 ≤ sizeLine; decide), fin (m := max n (headN C + 1)) sb8 S8 (by omega) (ro_first ol) (by rw [tk_first ol]; exact no_first (.inr (.inl lg))) (by split <;> omega) (s_first oc)⟩
    · exact ⟨_, _, _, _, rfl, rfl, SqL.of (B8 _ _ eq1 nq1), e, (by show 2 ≤ sizeLine; decide), fin (m := max n (headN C + 1)) sb8 S8 (by omega) (ro_pair ol ol) (by rw [tk_pair ol ol]; exact no_pair (.inr (.inl lg))) (by split <;> omega) (s_pair oc oc)⟩
end
end Dear

namespace Dear
open PySem PySem.Spec PyProof.Rows L2
/-- what is due for a text -/
def Due (H : Hp) (q : Addr) (d : D) : Prop := match readD d with
  | .inr n => H q = some (.tup [.str "row", .int (n : Nat)])
  | .inl st => ∃ u : V, H q = some (.tup [.str "case", u]) ∧ Dt H u (caseD (csOf st)) ∧ CsOk (csOf st)
theorem due_row {H : Hp} {q : Addr} {d : D} {n : Nat} (h : readD d = .inr n) (e : H q = some (.tup [.str "row", .int (n : Nat)])) : Due H q d := by
  unfold Due
  rw [h]
  exact e
theorem due_case {H : Hp} {q : Addr} {d : D} {st : Rd} {C : CsD} {u : V} (h : readD d = .inl st) (hc : csOf st = C) (o : CsOk C) (e : H q = some (.tup [.str "case", u])) (du : Dt H u (caseD C)) : Due H q d := by
  unfold Due
  rw [h]
  subst hc
  exact ⟨u, e, du, o⟩
theorem Due.same {H H' : Hp} {q : Addr} {d : D} (h : Due H q d) (s : Same H H') : Due H' q d := by
  unfold Due at h ⊢
  cases e : readD d with
  | inr n =>
    rw [e] at h
    exact s _ _ h
  | inl st =>
    rw [e] at h
    obtain ⟨u, h1, h2, h3⟩ := h
    exact ⟨u, s _ _ h1, h2.same s, h3⟩
/-- the text of the first n rows -/
def firstT (C : CsD) (n : Nat) : D := .str (Txt.join "\n" (((rowsOfC C).take n).map txt))
def cutC (C : CsD) (m : Nat) : CsD := { C with ws := C.ws.take m, bk := none }
section
variable {C : CsD}
theorem CsOk.cut (o : CsOk C) {m : Nat} (h : 1 ≤ m) : CsOk (cutC C m) := by
  have l1 := o.l1
  have l20 := o.l20
  refine ⟨o.td, ⟨fun w hw => o.wo.all w (List.mem_of_mem_take hw), ?_⟩, ?_, ?_, fun b e => nomatch e⟩
  · show ((C.ws.take m).map Prod.fst).Nodup
    rw [List.map_take]
    exact nodup_take _ o.wo.nd
  · show 1 ≤ (C.ws.take m).length
    rw [List.length_take]
    omega
  · show (C.ws.take m).length ≤ 20
    rw [List.length_take]
    omega
theorem CsOk.first (o : CsOk C) {n : Nat} (h1 : 1 ≤ n) (hn : n ≤ (rowsOfC C).length) : readD (firstT C n) = if lacksB (stAt C n) then .inr n else .inl (stAt C n) := by
  unfold firstT
  have lt : ((rowsOfC C).take n).length = n := by rw [List.length_take]; omega
  rw [readD_join (List.length_pos_iff.mp (by omega)) (fun r hr => o.row r (List.mem_of_mem_take hr)), o.at n]
  show (if lacksB (stAt C n) then Sum.inr ((rowsOfC C).take n).length else Sum.inl (stAt C n)) = _
  rw [lt]
theorem CsOk.first_lo (o : CsOk C) {n : Nat} (hn : n ≤ headN C + 1) : readD (firstT C n) = .inr n := by
  have rc := rows_count (C := C)
  by_cases h0 : n = 0
  · subst h0
    exact readD_nil
  · rw [o.first (by omega) (by omega)]
    have : lacksB (stAt C n) = true := by
      unfold lacksB
      have : (stAt C n).ws = [] := by
        show C.ws.take (n - (headN C + 1)) = []
        rw [show n - (headN C + 1) = 0 by omega]
        rfl
      rw [decide_eq_true this]
      rfl
    rw [this]
    rfl
theorem ws_take (n : Nat) : (stAt C n).ws = C.ws.take (n - (headN C + 1)) := rfl
theorem CsOk.first_mid (o : CsOk C) {n : Nat} (h1 : headN C + 1 < n) (h2 : n ≤ headN C + 1 + C.ws.length) : readD (firstT C n) = .inl (stAt C n) ∧ csOf (stAt C n) = cutC C (n - (headN C + 1)) := by
  have rc := rows_count (C := C)
  have td := o.td
  have ld : C.ds.length = C.cs.length := td.sg.facts.2.2.2.2.1
  have hh : headN C = C.ds.length + C.fs.length + C.zs.length := rfl
  have wd : (stAt C n).wd = [] := by
    show (bkL C.bk).take (n - (headN C + 1 + C.ws.length)) = []
    rw [show n - (headN C + 1 + C.ws.length) = 0 by omega]
    rfl
  have l1 := o.l1
  have wn : (stAt C n).ws ≠ [] := by
    rw [ws_take]
    exact take_ne (by omega) (List.length_pos_iff.mp (by omega))
  constructor
  · rw [o.first (by omega) (by omega)]
    have : lacksB (stAt C n) = false := by
      unfold lacksB
      rw [decide_eq_false wn, wd]
      rfl
    rw [this]
    rfl
  · have e : csOf (stAt C n) = ⟨.tup [.lst (C.ds.take n), .lst (((C.fs.take (n - C.ds.length)).map sgn).map D.str), .lst ((C.zs.take (n - (C.ds.length + C.fs.length))).map D.str), .int ((if n ≤ headN C then none else some C.i).getD 0)], C.ds.take n, C.cs.take n, C.fs.take (n - C.ds.length), C.zs.take (n - (C.ds.length + C.fs.length)), (if n ≤ headN C then none else some C.i).getD 0, C.ws.take (n - (headN C + 1)), if (stAt C n).wd = [] then none else some (stAt C n).wd⟩ := rfl
    rw [e, if_pos wd, if_neg (show ¬ n ≤ headN C by omega), List.take_of_length_le (show C.ds.length ≤ n by omega), List.take_of_length_le (show C.cs.length ≤ n by omega), List.take_of_length_le (show C.fs.length ≤ n - C.ds.length by omega), List.take_of_length_le (show C.zs.length ≤ n - (C.ds.length + C.fs.length) by omega)]
    unfold cutC
    rw [o.td.eq]
    rfl
theorem CsOk.first_hi (o : CsOk C) {n : Nat} (h1 : headN C + 1 + C.ws.length < n) (h2 : n < (rowsOfC C).length) : readD (firstT C n) = .inr n := by
  have rc := rows_count (C := C)
  have lb : (bkL C.bk).length ≤ C.ws.length := by
    cases e : C.bk with
    | none => exact Nat.zero_le _
    | some b => exact Nat.le_of_eq (o.bo b e).1
  rw [o.first (by omega) (by omega)]
  have : lacksB (stAt C n) = true := by
    unfold lacksB
    have e1 : (stAt C n).wd.length = n - (headN C + 1 + C.ws.length) := by
      show ((bkL C.bk).take _).length = _
      rw [List.length_take]
      omega
    have e2 : (stAt C n).ws.length = C.ws.length := by
      show (C.ws.take _).length = _
      rw [List.length_take]
      omega
    rw [e1, e2, decide_eq_false (show ¬ n - (headN C + 1 + C.ws.length) = 0 by omega), decide_eq_false (show ¬ n - (headN C + 1 + C.ws.length) = C.ws.length by omega)]
    exact Bool.or_true _
  rw [this]
  rfl
theorem first_all : firstT C (rowsOfC C).length = .str (caseText C.ds C.fs C.zs C.i C.ws C.bk) := by
  unfold firstT
  rw [List.take_length]
  rfl
end
def spFirst : Sp := fun vs H Q _ => ∃ (v : V) (pr : Addr) (n : Nat) (C : CsD), vs = [v, .ref pr, .int (n : Nat)] ∧ CsAt H v C ∧ CsOk C ∧ H pr = some (.lst (vsT (rowsOfC C))) ∧ n ≤ (rowsOfC C).length ∧ ∀ (q : Addr) (H' : Hp), Same H H' → Due H' q (firstT C n) → Q (.ref q) H'
def spTold65 : Sp := fun vs H Q _ => ∃ (v : V) (d : D), vs = [v] ∧ Dt H v d ∧ RtOk d ∧ ∀ (q : Addr) (H' : Hp), Same H H' → Due H' q d → Q (.ref q) H'
section
variable {P : Program} {w : World} {K : PySem.W.Frag} {mg : Str → Option Value} {base : Heap}
set_option pp.maxSteps 3000
theorem o__law_first_rows (T : Txt K mg) : OkF P w K mg base CX0 1 "_law_first_rows" ["_law_case_here", "_law_rows_here", "_law_at"] spFirst := by
  refine T.f__law_first_rows.ok c__law_first_rows (fun vs H Q E h => ?_) (fun f cdv A outer s H vs Q E hr h => ?_)
  · obtain ⟨v, pr, n, C, rfl, _⟩ := h
    rfl
  · obtain ⟨v, pr, n, C, rfl, ca, co, hr9, hn, k⟩ := h
    refine ⟨_, (pss_cons (ps_asg (pv 0) (pg_tup_k K (n := 3) rfl (pgs_cons (pg_name (i := 3) c__law_first_rows.nd rfl (Or.inl rfl)) (pgs_cons (pg_name (i := 4) c__law_first_rows.nd rfl (Or.inl rfl)) (pgs_cons (pg_name (i := 5) c__law_first_rows.nd rfl (Or.inl rfl)) pgs_nil)))))
(pss_cons (ps_set (i := 6) c__law_first_rows.nd rfl (Or.inl rfl) (pe_op op_add (pe_op op_add (pe_op op_add (pe_callB (call_len_seq_k K) (by rfl) T.b_len PySem.boot_len (pa_cons (pe_ix (ix_tup_k K) (pv 3) pe_int (fun _ _ => rfl)) pa_nil)) (pe_callB (call_len_seq_k K) (by rfl) T.b_len PySem.boot_len (pa_cons (pe_ix (ix_tup_k K) (pv 3) pe_int (fun _ _ => rfl)) pa_nil))) (pe_callB (call_len_seq_k K) (by rfl) T.b_len PySem.boot_len (pa_cons (pe_ix (ix_tup_k K) (pv 3) pe_int (fun _ _ => rfl)) pa_nil))) pe_int))
(C8.pss_cut (ps_if (pt_cmpR op_le (pv 2) (pv 6) (nomark _))
(pss_one (ps_ret (pe_tup (pa_cons pe_str (pa_cons (pv 2) pa_nil)))))
pss_nil)
(C8.pss_cut (ps_if (pt_cmpR op_le (pv 2) (pe_op op_add (pv 6) (pe_callB (call_len_seq_k K) (by rfl) T.b_len PySem.boot_len (pa_cons (pv 4) pa_nil))) (nomark _))
(pss_one (ps_ret (pe_tup (pa_cons pe_str (pa_cons (pe_tup (pa_cons (pv 3) (pa_cons (pe_slice (sl_list_k K) (pv 4) po_none (po_some (pe_op op_sub (pv 2) (pv 6)))) (pa_cons pe_non pa_nil)))) pa_nil)))))
pss_nil)
(C8.pss_cut (ps_if (pt_cmpR op_lt (pv 2) (pe_callB (call_len_seq_k K) (by rfl) T.b_len PySem.boot_len (pa_cons (pv 1) pa_nil)) (nomark _))
(pss_one (ps_ret (pe_tup (pa_cons pe_str (pa_cons (pv 2) pa_nil)))))
pss_nil)
(pss_one (ps_ret (pe_tup (pa_cons pe_str (pa_cons (pv 0) pa_nil)))))))))), ?_⟩
    have ca0 := ca
    obtain ⟨p, pw, tv, bv, ys, H0, rfl, hp, ta, hw, hall, hbk⟩ := ca
    obtain ⟨pt, a, b, cc, xs, rfl, h1, h2, h3, h4, h5, _⟩ := id ta.ex
    have td := co.td
    have l20 := co.l20
    have lx : xs.length = C.ds.length := h3.length
    have ly : ys.length = C.ws.length := by rw [hall.length, List.length_map]
    have lv : (vsT (rowsOfC C)).length = (rowsOfC C).length := vsT_lenC _
    have rc := rows_count (C := C)
    have lF : ((C.fs.map sgn).map V.str).length = C.fs.length := by rw [List.length_map, List.length_map]
    have lZ : (C.zs.map V.str).length = C.zs.length := List.length_map ..
    have hh : headN C = C.ds.length + C.fs.length + C.zs.length := rfl
    refine ⟨_, rfl, p, _, rfl, SqT.of hp, rfl, _, _, rfl, _, _, rfl, _, _, rfl, rfl, ?_⟩
    refine ⟨_, rfl, _, _, _, _, rfl, rfl, SqT.of h1, rfl, a, _, rfl, .inl (SqL.of h2), _, rfl, _, _, _, _, rfl, rfl, SqT.of h1, rfl, b, _, rfl, .inl (SqL.of h4), _, _, rfl, rfl, _, rfl, _, _, _, _, rfl, rfl, SqT.of h1, rfl, cc, _, rfl, .inl (SqL.of h5), _, _, rfl, rfl, _, _, rfl, rfl, ?_⟩
    dsimp only
    rw [lx, lF, lZ, show (((C.ds.length : Nat) : Int) + ((C.fs.length : Nat) : Int) + ((C.zs.length : Nat) : Int) + 1) = ((headN C + 1 : Nat) : Int) by omega]
    refine ⟨fun σ' H' => (headN C + 1 < n ∧ σ' = [some (.ref p), some (.ref pr), some (.int (n : Nat)), some (.ref pt), some (.ref pw), some bv, some (.int (headN C + 1 : Nat))]) ∧ H' = H, ?_, ?_⟩
    · refine ⟨_, rfl, _, rfl, _, _, rfl, rfl, _, rfl, itd (fun g => ?_) fun g => ⟨⟨by omega, rfl⟩, rfl⟩⟩
      exact ⟨_, rfl, (by show 2 ≤ sizeLine; decide), fun q hq => k q _ (Same.upd hq) (due_row (co.first_lo (by omega)) upd_same)⟩
    rintro σ' H' ⟨⟨g1, rfl⟩, rfl⟩
    refine ⟨fun σ' H'' => (headN C + 1 + C.ws.length < n ∧ σ' = [some (.ref p), some (.ref pr), some (.int (n : Nat)), some (.ref pt), some (.ref pw), some bv, some (.int (headN C + 1 : Nat))]) ∧ H'' = H', ?_, ?_⟩
    · refine ⟨_, rfl, _, rfl, _, rfl, pw, _, rfl, .inl (SqL.of hw), _, _, rfl, rfl, _, _, rfl, rfl, _, rfl, itd (fun g => ?_) fun g => ⟨⟨by omega, rfl⟩, rfl⟩⟩
      have g3 : n ≤ headN C + 1 + C.ws.length := by omega
      obtain ⟨fm1, fm2⟩ := co.first_mid g1 g3
      refine ⟨_, rfl, _, rfl, _, rfl, _, rfl, _, _, rfl, rfl, _, rfl, pw, _, rfl, SqL.of hw, fun q1 hq1 => ?_⟩
      rw [show ((n : Nat) : Int) - ((headN C + 1 : Nat) : Int) = ((n - (headN C + 1) : Nat) : Int) by omega, cutV_pre]
      have uH1 := Same.upd (o := .lst (ys.take (n - (headN C + 1)))) hq1
      have eq1 : (upd H' q1 (.lst (ys.take (n - (headN C + 1))))) q1 = some (.lst (ys.take (n - (headN C + 1)))) := upd_same
      generalize upd H' q1 (.lst (ys.take (n - (headN C + 1)))) = H1 at uH1 eq1 ⊢
      refine ⟨(by show 3 ≤ sizeLine; decide), fun q2 hq2 => ?_⟩
      have uH2 := Same.upd (o := .tup [V.ref pt, V.ref q1, V.non]) hq2
      have eq2 : (upd H1 q2 (.tup [V.ref pt, V.ref q1, V.non])) q2 = some (.tup [V.ref pt, V.ref q1, V.non]) := upd_same
      generalize upd H1 q2 (.tup [V.ref pt, V.ref q1, V.non]) = H2 at uH2 eq2 ⊢
      refine ⟨(by show 2 ≤ sizeLine; decide), fun q3 hq3 => k q3 _ (uH1.trans (uH2.trans (Same.upd hq3))) (due_case fm1 fm2 (co.cut (by omega)) upd_same ?_)⟩
      have s3 := Same.upd (o := .tup [V.str "case", V.ref q2]) hq3
      have s03 := uH1.trans (uH2.trans s3)
      refine .tup (s3 _ _ eq2) (.cons ((ta.sm s03).dt td) (.cons (.lst (s3 _ _ (uH2 _ _ eq1)) ?_) (.cons .non .nil)))
      show DtAll _ _ ((C.ws.take (n - (headN C + 1))).map wantD)
      rw [List.map_take]
      exact (hall.take _).same s03
    rintro σ' H'' ⟨⟨g2, rfl⟩, rfl⟩
    refine ⟨fun σ' H' => (n = (rowsOfC C).length ∧ σ' = [some (.ref p), some (.ref pr), some (.int (n : Nat)), some (.ref pt), some (.ref pw), some bv, some (.int (headN C + 1 : Nat))]) ∧ H' = H'', ?_, ?_⟩
    · refine ⟨_, rfl, _, rfl, pr, _, rfl, .inl (SqL.of hr9), _, _, rfl, rfl, _, rfl, itd (fun g => ?_) fun g => ⟨⟨by omega, rfl⟩, rfl⟩⟩
      exact ⟨_, rfl, (by show 2 ≤ sizeLine; decide), fun q hq => k q _ (Same.upd hq) (due_row (co.first_hi g2 (by omega)) upd_same)⟩
    rintro σ' H' ⟨⟨rfl, rfl⟩, rfl⟩
    refine ⟨_, rfl, (by show 2 ≤ sizeLine; decide), fun q hq => k q _ (Same.upd hq) ?_⟩
    rw [first_all]
    exact due_case co.back co.cs co upd_same ((ca0.same (Same.upd hq)).dt co)
theorem o__law_told (T : Txt K mg) : OkF P w K mg base CX0 10 "_law_told" ["_law_text"] spTold65 := by
  have o_read_case := o_read_case (P := P) (w := w) (base := base) T
  refine T.f__law_told.ok c__law_told (fun vs H Q E h => ?_) (fun f cdv A outer s H vs Q E hr h => ?_)
  · obtain ⟨v, d, rfl, _⟩ := h
    rfl
  · obtain ⟨v, d, rfl, hD, rt, k⟩ := h
    refine ⟨_, (pss_cons (ps_set (i := 1) c__law_told.nd rfl (Or.inl rfl) pe_non)
(pss_cons (ps_set (i := 2) c__law_told.nd rfl (Or.inl rfl) pe_non)
(pss_cons (ps_try_kept (i := 3) (j := 1) rfl rfl rfl c__law_told.nd rfl rfl (by decide) rfl rfl ⟨rfl, by decide, Or.inl T.C_DearError⟩ takes0 (fun W pn xe tk _ =>
(pss_one (ps_set (i := 2) c__law_told.nd rfl (Or.inl rfl) (pe_cx o_read_case hr tk (pa_cons (pv 0) pa_nil))))))
(pss_cons (ps_if (pt_cmpR op_isN (pv 1) pe_non (nomark _))
(pss_one (ps_ret (pe_tup (pa_cons pe_str (pa_cons (pv 2) pa_nil)))))
pss_nil)
(pss_cons (ps_if (PW.pt (pw_or (pt_not (pt_val (pe_callB (call_isY_k K) (by rfl) T.b_isinstance (by decide +kernel) (pa_cons (pv 1) (pa_cons (pe_glob (v := .ref T.A.NoText) rfl T.C_NoText rfl) pa_nil))))) (pw_or (pt_not (pt_val (pe_callB (call_isY_k K) (by rfl) T.b_isinstance (by decide +kernel) (pa_cons (pv 1) (pa_cons (pe_bltn (v := .ty "ValueError") (by rfl) T.b_ValueError (by decide +kernel) rfl) pa_nil))))) (pw_or1 (pt_val (pe_callB (call_isi_k K) (by rfl) T.b_isinstance (by decide +kernel) (pa_cons (pe_xfK K (pv 1)) (pa_cons (pe_bltn (v := .ty "bool") (by rfl) T.b_bool (by decide +kernel) rfl) pa_nil))))))))
(pss_one (ps_ret (pe_tup (pa_cons pe_str (pa_cons pe_non pa_nil)))))
pss_nil)
(pss_cons (ps_if (pt_val (pe_callB (call_isYT_k K) (by rfl) T.b_isinstance (by decide +kernel) (pa_cons (pv 1) (pa_cons (pe_tup (pa_cons (pe_glob (v := .ref T.A.BadSign) rfl T.C_BadSign rfl) (pa_cons (pe_glob (v := .ref T.A.NoBook) rfl T.C_NoBook rfl) (pa_cons (pe_glob (v := .ref T.A.NoCount) rfl T.C_NoCount rfl) (pa_cons (pe_glob (v := .ref T.A.NoNumber) rfl T.C_NoNumber rfl) (pa_cons (pe_glob (v := .ref T.A.NoRow) rfl T.C_NoRow rfl) (pa_cons (pe_glob (v := .ref T.A.NoThing) rfl T.C_NoThing rfl) (pa_cons (pe_glob (v := .ref T.A.NoTongue) rfl T.C_NoTongue rfl) (pa_cons (pe_glob (v := .ref T.A.NoTree) rfl T.C_NoTree rfl) (pa_cons (pe_glob (v := .ref T.A.NoTurn) rfl T.C_NoTurn rfl) pa_nil)))))))))) pa_nil))))
(pss_one (ps_ret (pe_tup (pa_cons pe_str (pa_cons pe_non pa_nil)))))
pss_nil)
(pss_cons (ps_if (pt_val (pe_callB (call_isYT_k K) (by rfl) T.b_isinstance (by decide +kernel) (pa_cons (pv 1) (pa_cons (pe_tup (pa_cons (pe_glob (v := .ref T.A.NoUndo) rfl T.C_NoUndo rfl) (pa_cons (pe_glob (v := .ref T.A.NoWants) rfl T.C_NoWants rfl) (pa_cons (pe_glob (v := .ref T.A.TooMany) rfl T.C_TooMany rfl) (pa_cons (pe_glob (v := .ref T.A.Unknown) rfl T.C_Unknown rfl) pa_nil))))) pa_nil))))
(pss_one (ps_ret (pe_tup (pa_cons pe_str (pa_cons pe_non pa_nil)))))
pss_nil)
(pss_one (ps_ret (pe_tup (pa_cons pe_str (pa_cons (pe_xfK K (pv 1)) pa_nil)))))))))))), ?_⟩
    have two : 2 ≤ sizeLine := by decide
    refine ⟨_, rfl, v, d, rfl, hD, rt, fun i hi dd H1 s1 hdd hx => ?_, fun st hst ro lk q H1 s1 cn => ?_⟩
    · refine ⟨true, T.m_NoText, fun _ a ha => ?_, fun q => nomatch q⟩
      have u1 := Same.upd (o := ExK (.ref T.A.NoText) (some dd) a) ha
      have eA : (upd H1 a (ExK (.ref T.A.NoText) (some dd) a)) a = some (ExK (.ref T.A.NoText) (some dd) a) := upd_same
      have s2 := s1.trans u1
      have hx2 := u1 _ _ hx
      generalize upd H1 a (ExK (.ref T.A.NoText) (some dd) a) = H2 at eA s2 hx2 ⊢
      have at2 : ∀ {H' : Hp}, Same H2 H' → ExAt H' T.A.NoText a := fun {H'} sx => .inr ⟨dd, _, sx _ _ eA, sx _ _ hx2⟩
      have lk : List.lookup ("row" : Str) [(("row" : Str), V.int (i : Nat))] = some (V.int (i : Nat)) := by simp [List.lookup]
      refine ⟨_, rfl, rfl, _, rfl, itd (fun q => nomatch q) fun _ => ?_⟩
      refine ⟨_, rfl, a, _, _, _, _, rfl, at2 (Same.refl _), T.X_NoText.c, .own _, T.q_NoText_NoText, _, rfl, iteF ?_⟩
      refine ⟨_, rfl, a, _, _, _, _, rfl, at2 (Same.refl _), T.X_NoText.c, .ty _, T.q_NoText_ValueError, _, rfl, iteF ?_⟩
      refine ⟨_, rfl, a, _, dd, _, _, rfl, eA, hx2, T.X_NoText.c, T.X_NoText.n, lk, _, _, _, _, _, rfl, .ty _, (Dt.int (H := H2) (i : Nat)).ty, kit_ty (kd_bool (.int (i : Nat))), _, rfl, iteF ?_⟩
      refine ⟨_, rfl, (by show 9 ≤ sizeLine; decide), fun p1 hp1 => ?_⟩
      have v1 := Same.upd (o := .tup [.ref T.A.BadSign, .ref T.A.NoBook, .ref T.A.NoCount, .ref T.A.NoNumber, .ref T.A.NoRow, .ref T.A.NoThing, .ref T.A.NoTongue, .ref T.A.NoTree, .ref T.A.NoTurn]) hp1
      refine ⟨a, _, p1, _, _, false, rfl, at2 v1, T.X_NoText.c, upd_same, cls_all (cs := [_, _, _, _, _, _, _, _, _]), kit_none ?_, _, rfl, iteF ?_⟩
      · intro x hx
        simp only [List.map_cons, List.map_nil, List.mem_cons, List.not_mem_nil, or_false] at hx
        rcases hx with rfl | rfl | rfl | rfl | rfl | rfl | rfl | rfl | rfl
        · exact T.q_NoText_BadSign
        · exact T.q_NoText_NoBook
        · exact T.q_NoText_NoCount
        · exact T.q_NoText_NoNumber
        · exact T.q_NoText_NoRow
        · exact T.q_NoText_NoThing
        · exact T.q_NoText_NoTongue
        · exact T.q_NoText_NoTree
        · exact T.q_NoText_NoTurn
      refine ⟨_, rfl, (by show 4 ≤ sizeLine; decide), fun p2 hp2 => ?_⟩
      have v2 := v1.trans (Same.upd (o := .tup [.ref T.A.NoUndo, .ref T.A.NoWants, .ref T.A.TooMany, .ref T.A.Unknown]) hp2)
      refine ⟨a, _, p2, _, _, false, rfl, at2 v2, T.X_NoText.c, upd_same, cls_all (cs := [_, _, _, _]), kit_none ?_, _, rfl, iteF ?_⟩
      · intro x hx
        simp only [List.map_cons, List.map_nil, List.mem_cons, List.not_mem_nil, or_false] at hx
        rcases hx with rfl | rfl | rfl | rfl
        · exact T.q_NoText_NoUndo
        · exact T.q_NoText_NoWants
        · exact T.q_NoText_TooMany
        · exact T.q_NoText_Unknown
      exact ⟨_, rfl, a, _, dd, _, _, rfl, v2 _ _ eA, v2 _ _ hx2, T.X_NoText.c, T.X_NoText.n, lk, two, fun p hp => k p _ ((s2.trans v2).trans (Same.upd hp)) (due_row hi upd_same)⟩
    · have co := (cs_ok ro lk).1
      exact ⟨_, rfl, rfl, _, rfl, itd (fun _ => ⟨_, rfl, two, fun p hp => k p _ (s1.trans (Same.upd hp)) (due_case hst rfl co upd_same (((cn.at co).same (Same.upd hp)).dt co))⟩) fun q => absurd rfl q⟩
end
end Dear

namespace Dear
open PySem PySem.Spec PyProof.Rows L2
def spAsked : Sp := fun vs H Q _ => ∃ (l : Addr) (v : V) (pr : Addr) (C : CsD) (Hb : Hp), vs = [.ref l, v, .ref pr] ∧ Src H l ∧ CsAt Hb v C ∧ CsOk C ∧ Hb l = none ∧ Same Hb H ∧ Hb pr = some (.lst (vsT (rowsOfC C))) ∧
  ∀ (q : Addr) (v : V) (pd : Addr) (d : D) (H' : Hp), Same Hb H' → H' q = some (.tup [v, .ref pd]) → Dt H' v d → RtOk d → Due H' pd d → Q (.ref q) H'
theorem join_size9 {rs : List (List Nat)} (h1 : rs.length ≤ 900) (h2 : ∀ r ∈ rs, r.length ≤ 500) : ((rs.map txt).map (·.length)).sum + (rs.map txt).length * ("\n" : Str).length ≤ 16777216 := by
  have e : ∀ rs : List (List Nat), (∀ r ∈ rs, r.length ≤ 500) → ((rs.map txt).map (·.length)).sum ≤ 500 * rs.length := fun rs => by
    induction rs with
    | nil => intro _; exact Nat.le_refl _
    | cons r rs ih =>
      intro h
      have := ih fun r hr => h r (List.mem_cons_of_mem _ hr)
      have h3 := h r List.mem_cons_self
      rw [List.map_cons, List.map_cons, List.sum_cons, txt_length, List.length_cons]
      omega
  have := e rs h2
  rw [List.length_map, show ("\n" : Str).length = 1 by decide +kernel]
  omega
theorem vsT_take (bs : List (List Nat)) (n : Nat) : (vsT bs).take n = vsT (bs.take n) := by
  unfold vsT
  rw [List.map_take]
theorem vsT_drop (bs : List (List Nat)) (n : Nat) : (vsT bs).drop n = vsT (bs.drop n) := by
  unfold vsT
  rw [List.map_drop]
theorem vsT_app (a b : List (List Nat)) : vsT a ++ vsT b = vsT (a ++ b) := by
  unfold vsT
  rw [List.map_append]
theorem vsT_D (H : Hp) : ∀ bs : List (List Nat), DtAll H (vsT bs) (bs.map fun t => D.str (txt t))
  | [] => .nil
  | _ :: bs => .cons (.str _) (vsT_D H bs)
theorem rep_nil : ∀ n : Nat, (List.replicate n [V.str ""]).flatten = vsT (List.replicate n [])
  | 0 => rfl
  | n + 1 => by
    rw [List.replicate_succ, List.replicate_succ, List.flatten_cons, rep_nil n]
    show [V.str ""] ++ vsT (List.replicate n []) = V.str (txt []) :: vsT (List.replicate n [])
    rw [show ("" : Str) = txt [] by decide +kernel]
    rfl
theorem nv_nil : Never [] := ⟨⟨Nat.zero_le _, (fun c h => nomatch h), (fun h => nomatch h)⟩, by decide +kernel⟩
/-- the rows of a text with a row that is refused -/
theorem CsOk.bad {C : CsD} (o : CsOk C) {m : Nat} {y : List Nat} {rest : List (List Nat)} (hm : m ≤ (rowsOfC C).length) (ry : RowOk y) (ty : takesF (stAt C m) y = none) (hr : ∀ r ∈ rest, RowOk r) (hl : rest.length ≤ 200) : (∀ r ∈ (rowsOfC C).take m ++ y :: rest, RowOk r) ∧ ((rowsOfC C).take m ++ y :: rest).length ≤ 900 ∧ readD (.str (Txt.join "\n" (((rowsOfC C).take m ++ y :: rest).map txt))) = .inr m := by
  have r100 : (rowsOfC C).length ≤ 100 := o.rows.1
  have hall : ∀ r ∈ (rowsOfC C).take m ++ y :: rest, RowOk r := fun r h => by
    rcases List.mem_append.mp h with h | h
    · exact o.row r (List.mem_of_mem_take h)
    · rcases List.mem_cons.mp h with rfl | h
      · exact ry
      · exact hr r h
  refine ⟨hall, ?_, ?_⟩
  · rw [List.length_append, List.length_take, List.length_cons]
    omega
  · rw [readD_join (by simp) hall, o.ref hm ty]
section
variable {P : Program} {w : World} {K : PySem.W.Frag} {mg : Str → Option Value} {base : Heap}
set_option pp.maxSteps 3000
theorem o__law_asked (T : Txt K mg) : OkF P w K mg base CX0 4 "_law_asked" ["_law_pool_here", "_law_case_here", "_law_rows_here"] spAsked := by
  have o__law_take := o__law_take (P := P) (w := w) (base := base) T
  have o__law_never := o__law_never (P := P) (w := w) (base := base) T
  have o__law_first_rows := o__law_first_rows (P := P) (w := w) (base := base) T
  have o__law_barred := o__law_barred (P := P) (w := w) (base := base) T
  refine T.f__law_asked.ok c__law_asked (fun vs H Q E h => ?_) (fun f cdv A outer s H vs Q E hr h => ?_)
  · obtain ⟨l, v, pr, C, Hb, rfl, _⟩ := h
    rfl
  · obtain ⟨l, v, pr, C, Hb, rfl, S, ca, co, hl, sb, hr9, k⟩ := h
    refine ⟨_, (pss_cons (ps_set (i := 3) c__law_asked.nd rfl (Or.inl rfl) (pe_c o__law_take hr (pa_cons (pv 0) (pa_cons pe_int pa_nil))))
(pss_cons (ps_set (i := 4) c__law_asked.nd rfl (Or.inl rfl) (pe_c o__law_take hr (pa_cons (pv 0) (pa_cons (pe_op op_add (pe_callB (call_len_seq_k K) (by rfl) T.b_len PySem.boot_len (pa_cons (pv 2) pa_nil)) pe_int) pa_nil))))
(C8.pss_cut (ps_if (pt_cmpR op_eq (pv 3) pe_int (nomark _))
(pss_one (ps_ret (pe_tup (pa_cons (pe_join_k K pe_str (pe_slice (sl_list_k K) (pv 2) po_none (po_some (pv 4)))) (pa_cons (pe_c o__law_first_rows hr (pa_cons (pv 1) (pa_cons (pv 2) (pa_cons (pv 4) pa_nil)))) pa_nil)))))
pss_nil)
(C8.pss_cut (ps_if (pt_cmpR op_eq (pv 3) pe_int (nomark _))
(pss_one (ps_ret (pe_tup (pa_cons (pe_join_k K pe_str (pe_op op_cat (pv 2) (pe_op op_rep (pe_lst (pa_cons pe_str pa_nil)) (pe_op op_add pe_int (pe_c o__law_take hr (pa_cons (pv 0) (pa_cons pe_int pa_nil))))))) (pa_cons (pe_tup (pa_cons pe_str (pa_cons (pe_callB (call_len_seq_k K) (by rfl) T.b_len PySem.boot_len (pa_cons (pv 2) pa_nil)) pa_nil))) pa_nil)))))
pss_nil)
(C8.pss_cut (ps_if (PW.pt (pw_and (pt_cmpR op_eq (pv 3) pe_int (nomark _)) (pw_and1 (pt_cmpR op_eq (pe_c o__law_take hr (pa_cons (pv 0) (pa_cons pe_int pa_nil))) pe_int (nomark _)))))
(pss_one (ps_ret (pe_tup (pa_cons (pe_ix (ix_list_k K) (pe_lst (pa_cons pe_non (pa_cons pe_int (pa_cons pe_bl (pa_cons (pv 2) (pa_cons (pe_callTy (call_tuple_of_k K) (by rfl) T.b_tuple (by decide +kernel) (pa_cons (pv 2) pa_nil)) (pa_cons pe_dnewK pa_nil))))))) (pe_c o__law_take hr (pa_cons (pv 0) (pa_cons pe_int pa_nil))) (fun _ _ => rfl)) (pa_cons (pe_tup (pa_cons pe_str (pa_cons pe_int pa_nil))) pa_nil)))))
pss_nil)
(pss_cons (ps_set (i := 5) c__law_asked.nd rfl (Or.inl rfl) (pe_c o__law_never hr (pa_cons (pv 0) pa_nil)))
(C8.pss_cut (ps_if (pt_cmpR op_gt (pv 3) pe_int (nomark _))
(pss_one (ps_asg (pe_c o__law_barred hr (pa_cons (pv 0) (pa_cons (pv 1) (pa_cons (pv 2) pa_nil)))) (pg_tup_k K (n := 2) rfl (pgs_cons (pg_name (i := 4) c__law_asked.nd rfl (Or.inl rfl)) (pgs_cons (pg_name (i := 5) c__law_asked.nd rfl (Or.inl rfl)) pgs_nil)))))
pss_nil)
(pss_cons (ps_set (i := 6) c__law_asked.nd rfl (Or.inl rfl) (pe_ix (ix_list_k K) (pe_lst (pa_cons (pe_slice (sl_list_k K) (pv 2) (po_some (pv 4)) po_none) (pa_cons (pe_lst pa_nil) pa_nil))) (pe_c o__law_take hr (pa_cons (pv 0) (pa_cons pe_int pa_nil))) (fun _ _ => rfl)))
(C8.pss_cut (ps_if (pt_cmpR op_eq (pe_c o__law_take hr (pa_cons (pv 0) (pa_cons pe_int pa_nil))) pe_int (nomark _))
(pss_one (ps_set (i := 6) c__law_asked.nd rfl (Or.inl rfl) (pe_op op_cat (pv 6) (pe_lst (pa_cons (pe_c o__law_never hr (pa_cons (pv 0) pa_nil)) pa_nil)))))
pss_nil)
(pss_one (ps_ret (pe_tup (pa_cons (pe_join_k K pe_str (pe_op op_cat (pe_op op_cat (pe_slice (sl_list_k K) (pv 2) po_none (po_some (pv 4))) (pe_lst (pa_cons (pv 5) pa_nil))) (pv 6))) (pa_cons (pe_tup (pa_cons pe_str (pa_cons (pv 4) pa_nil))) pa_nil)))))))))))))), ?_⟩
    have lv : (vsT (rowsOfC C)).length = (rowsOfC C).length := vsT_lenC _
    have r100 : (rowsOfC C).length ≤ 100 := co.rows.1
    have two : 2 ≤ sizeLine := by decide
    refine ⟨_, rfl, l, 6, rfl, S, by decide, log_le 6 (by decide), fun way H1 w0 w1 B1 S1 => ?_⟩
    have sb1 := sbBut hl sb B1
    refine ⟨_, rfl, _, rfl, pr, _, rfl, .inl (SqL.of (sb1 _ _ hr9)), _, _, rfl, rfl, l, _, rfl, S1, by omega, log_le 200 (by omega), fun at_ H2 a0 a1 B2 S2 => ?_⟩
    have sb2 := sbBut hl sb1 B2
    obtain ⟨n, rfl⟩ := Int.eq_ofNat_of_zero_le a0
    have hn : n ≤ (rowsOfC C).length := by omega
    clear sb1 B1 S1 a1 B2
    -- the first rows
    refine ⟨fun σ' H' => σ' = [some (.ref l), some v, some (.ref pr), some (.int way), some (.int (n : Nat)), none, none] ∧ Same Hb H' ∧ Src H' l, ?_, ?_⟩
    · refine ⟨_, rfl, rfl, _, rfl, itd (fun _ => ?_) fun _ => ⟨rfl, sb2, S2⟩⟩
      refine ⟨⟨_, rfl⟩, _, rfl, _, rfl, _, rfl, pr, _, rfl, SqL.of (sb2 _ _ hr9), fun q1 hq1 => ?_⟩
      rw [cutV_pre, vsT_take]
      have uH3 := Same.upd (o := .lst (vsT ((rowsOfC C).take n))) hq1
      have eq1 : (upd H2 q1 (.lst (vsT ((rowsOfC C).take n)))) q1 = some (.lst (vsT ((rowsOfC C).take n))) := upd_same
      generalize upd H2 q1 (.lst (vsT ((rowsOfC C).take n))) = H3 at uH3 eq1 ⊢
      rw [vsT_strs] at eq1
      have ho : ∀ r ∈ (rowsOfC C).take n, RowOk r := fun r hr => co.row r (List.mem_of_mem_take hr)
      have hl9 : ((rowsOfC C).take n).length ≤ 900 := by rw [List.length_take]; omega
      refine ⟨_, q1, ((rowsOfC C).take n).map txt, rfl, rfl, .inl (SqL.of eq1), join_size9 hl9 fun r hr => (ho r hr).l, ?_⟩
      have sb3 := sb2.trans uH3
      refine ⟨_, rfl, _, rfl, _, rfl, v, pr, n, C, rfl, ca.same sb3, co, sb3 _ _ hr9, hn, fun q H' s' du => ⟨two, fun q9 hq9 => ?_⟩⟩
      exact k q9 _ q (firstT C n) _ (sb3.trans (s'.trans (Same.upd hq9))) upd_same (.str _) (rt_join hl9 ho) (du.same (Same.upd hq9))
    clear sb2 S2
    rintro σ' H2 ⟨rfl, sb2, S2⟩
    -- rows without signs behind
    refine ⟨fun σ' H' => σ' = [some (.ref l), some v, some (.ref pr), some (.int way), some (.int (n : Nat)), none, none] ∧ Same Hb H' ∧ Src H' l, ?_, ?_⟩
    · refine ⟨_, rfl, rfl, _, rfl, itd (fun _ => ?_) fun _ => ⟨rfl, sb2, S2⟩⟩
      refine ⟨⟨_, rfl⟩, _, rfl, (by show 1 ≤ sizeLine; decide), fun q1 hq1 => ?_⟩
      have nq1 := S2.ne hq1
      have uH3 := Same.upd (o := .lst [V.str ""]) hq1
      have eq1 : (upd H2 q1 (.lst [V.str ""])) q1 = some (.lst [V.str ""]) := upd_same
      generalize upd H2 q1 (.lst [V.str ""]) = H3 at uH3 eq1 ⊢
      have S3 := S2.same uH3
      refine ⟨_, rfl, l, 2, rfl, S3, by decide, log_le 2 (by decide), fun r H4 r0 r1 B4 S4 => ?_⟩
      have sb4 := sbBut hl (sb2.trans uH3) B4
      obtain ⟨r, rfl⟩ := Int.eq_ofNat_of_zero_le r0
      refine ⟨_, _, rfl, rfl, q1, _, _, rfl, rfl, B4 _ _ eq1 nq1, by omega, by omega, ?_, ?_⟩
      · show 1 * (1 + (r : Int)).toNat ≤ sizeLine
        refine Nat.le_trans (show _ ≤ 1000 by omega) (by decide)
      intro q2 hq2
      rw [show (1 + (r : Int)).toNat = r + 1 by omega, rep_nil]
      have uH5 := Same.upd (o := .lst (vsT (List.replicate (r + 1) []))) hq2
      have eq2 : (upd H4 q2 (.lst (vsT (List.replicate (r + 1) [])))) q2 = some (.lst (vsT (List.replicate (r + 1) []))) := upd_same
      generalize upd H4 q2 (.lst (vsT (List.replicate (r + 1) []))) = H5 at uH5 eq2 ⊢
      have lr : (vsT (List.replicate (r + 1) ([] : List Nat))).length = r + 1 := by rw [vsT_lenC, List.length_replicate]
      have sb5 := sb4.trans uH5
      refine ⟨pr, q2, _, _, rfl, rfl, sb5 _ _ hr9, eq2, sz_lit (by rw [lv, lr]; omega), fun q3 hq3 => ?_⟩
      rw [vsT_app]
      have uH6 := Same.upd (o := .lst (vsT (rowsOfC C ++ List.replicate (r + 1) []))) hq3
      have eq3 : (upd H5 q3 (.lst (vsT (rowsOfC C ++ List.replicate (r + 1) [])))) q3 = some (.lst (vsT (rowsOfC C ++ List.replicate (r + 1) []))) := upd_same
      generalize upd H5 q3 (.lst (vsT (rowsOfC C ++ List.replicate (r + 1) []))) = H6 at uH6 eq3 ⊢
      have sb6 := sb5.trans uH6
      obtain ⟨b1, b2, b3⟩ := co.bad (m := (rowsOfC C).length) (y := []) (rest := List.replicate r []) (Nat.le_refl _) nv_nil.r (nv_nil.at co _) (fun r' hr' => by rw [List.eq_of_mem_replicate hr']; exact nv_nil.r) (by rw [List.length_replicate]; omega)
      rw [List.take_length, ← List.replicate_succ] at b1 b2 b3
      rw [vsT_strs] at eq3
      refine ⟨_, q3, (rowsOfC C ++ List.replicate (r + 1) []).map txt, rfl, rfl, .inl (SqL.of eq3), join_size9 b2 fun r hr => (b1 r hr).l, ?_⟩
      refine ⟨_, rfl, pr, _, rfl, .inl (SqL.of (sb6 _ _ hr9)), two, fun q4 hq4 => ?_⟩
      rw [lv]
      have uH7 := Same.upd (o := .tup [V.str "row", V.int (((rowsOfC C).length : Nat) : Int)]) hq4
      have eq4 : (upd H6 q4 (.tup [V.str "row", V.int (((rowsOfC C).length : Nat) : Int)])) q4 = some (.tup [V.str "row", V.int (((rowsOfC C).length : Nat) : Int)]) := upd_same
      generalize upd H6 q4 (.tup [V.str "row", V.int (((rowsOfC C).length : Nat) : Int)]) = H7 at uH7 eq4 ⊢
      refine ⟨two, fun q9 hq9 => ?_⟩
      exact k q9 _ q4 _ _ (sb6.trans (uH7.trans (Same.upd hq9))) upd_same (.str _) (rt_join b2 b1) (due_row b3 (Same.upd hq9 _ _ eq4))
    clear sb2 S2
    rintro σ' H2 ⟨rfl, sb2, S2⟩
    -- no text
    refine ⟨fun σ' H' => σ' = [some (.ref l), some v, some (.ref pr), some (.int way), some (.int (n : Nat)), none, none] ∧ Same Hb H' ∧ Src H' l, ?_, ?_⟩
    · refine ⟨_, rfl, rfl, _, rfl, itd (fun _ => ?_) fun _ => iteF ⟨rfl, sb2, S2⟩⟩
      refine ⟨_, rfl, l, 4, rfl, S2, by decide, log_le 4 (by decide), fun r H3 r0 r1 B3 S3 => ?_⟩
      have sb3 := sbBut hl sb2 B3
      refine ⟨rfl, _, rfl, itd (fun _ => ?_) fun _ => ⟨rfl, sb3, S3⟩⟩
      refine ⟨_, rfl, _, rfl, pr, _, rfl, .inl ⟨SqL.of (sb3 _ _ hr9), fun q1 hq1 => ?_⟩⟩
      have nq1 := S3.ne hq1
      have uH4 := Same.upd (o := .tup (vsT (rowsOfC C))) hq1
      have eq1 : (upd H3 q1 (.tup (vsT (rowsOfC C)))) q1 = some (.tup (vsT (rowsOfC C))) := upd_same
      generalize upd H3 q1 (.tup (vsT (rowsOfC C))) = H4 at uH4 eq1 ⊢
      have S4 := S3.same uH4
      intro q2 hq2
      have nq2 := S4.ne hq2
      have uH5 := Same.upd (o := .dK []) hq2
      have eq2 : (upd H4 q2 (.dK [])) q2 = some (.dK []) := upd_same
      generalize upd H4 q2 (.dK []) = H5 at uH5 eq2 ⊢
      have S5 := S4.same uH5
      refine ⟨(by show 6 ≤ sizeLine; decide), fun q3 hq3 => ?_⟩
      have nq3 := S5.ne hq3
      have uH6 := Same.upd (o := .lst [V.non, V.int 5, V.bl true, V.ref pr, V.ref q1, V.ref q2]) hq3
      have eq3 : (upd H5 q3 (.lst [V.non, V.int 5, V.bl true, V.ref pr, V.ref q1, V.ref q2])) q3 = some (.lst [V.non, V.int 5, V.bl true, V.ref pr, V.ref q1, V.ref q2]) := upd_same
      generalize upd H5 q3 (.lst [V.non, V.int 5, V.bl true, V.ref pr, V.ref q1, V.ref q2]) = H6 at uH6 eq3 ⊢
      have S6 := S5.same uH6
      refine ⟨_, rfl, l, 6, rfl, S6, by decide, log_le 6 (by decide), fun t H7 t0 t1 B7 S7 => ?_⟩
      have sb7 := sbBut hl (sb3.trans (uH4.trans (uH5.trans uH6))) B7
      have key : ∃ (x : V) (d : D), atI [V.non, V.int 5, V.bl true, V.ref pr, V.ref q1, V.ref q2] t = some x ∧ Dt H7 x d ∧ RtOk d ∧ readD d = .inr 0 := by
        obtain ⟨j, rfl⟩ := Int.eq_ofNat_of_zero_le t0
        match j, t1 with
        | 0, _ => exact ⟨_, .non, atI_nat (j := 0) rfl, .non, trivial, rfl⟩
        | 1, _ => exact ⟨_, .int 5, atI_nat (j := 1) rfl, .int _, trivial, rfl⟩
        | 2, _ => exact ⟨_, .bl true, atI_nat (j := 2) rfl, .bl _, trivial, rfl⟩
        | 3, _ => exact ⟨_, .lst ((rowsOfC C).map fun t => D.str (txt t)), atI_nat (j := 3) rfl, .lst (sb7 _ _ hr9) (vsT_D _ _), trivial, rfl⟩
        | 4, _ => exact ⟨_, .tup ((rowsOfC C).map fun t => D.str (txt t)), atI_nat (j := 4) rfl, .tup (B7 _ _ (uH6 _ _ (uH5 _ _ eq1)) nq1) (vsT_D _ _), trivial, rfl⟩
        | 5, _ => exact ⟨_, .dct, atI_nat (j := 5) rfl, .dct (B7 _ _ (uH6 _ _ eq2) nq2), trivial, rfl⟩
        | j + 6, h => exact absurd h (by omega)
      obtain ⟨x, d, hx, dx, rx, ex⟩ := key
      refine ⟨_, _, _, _, rfl, rfl, SqL.of (B7 _ _ eq3 nq3), hx, two, fun q4 hq4 => ?_⟩
      have uH8 := Same.upd (o := .tup [V.str "row", V.int 0]) hq4
      have eq4 : (upd H7 q4 (.tup [V.str "row", V.int 0])) q4 = some (.tup [V.str "row", V.int 0]) := upd_same
      generalize upd H7 q4 (.tup [V.str "row", V.int 0]) = H8 at uH8 eq4 ⊢
      refine ⟨two, fun q9 hq9 => ?_⟩
      exact k q9 _ q4 d _ (sb7.trans (uH8.trans (Same.upd hq9))) upd_same (dx.same (uH8.trans (Same.upd hq9))) rx (due_row ex (Same.upd hq9 _ _ eq4))
    clear sb2 S2
    rintro σ' H2 ⟨rfl, sb2, S2⟩
    -- a row that is refused
    refine ⟨_, rfl, l, rfl, S2, fun x H3 B3 S3 nx => ?_⟩
    have sb3 := sbBut hl sb2 B3
    refine ⟨fun σ' H' => ∃ (m : Nat) (y : List Nat), σ' = [some (.ref l), some v, some (.ref pr), some (.int way), some (.int (m : Nat)), some (.str (txt y)), none] ∧ Same Hb H' ∧ Src H' l ∧ m ≤ (rowsOfC C).length ∧ RowOk y ∧ takesF (stAt C m) y = none, ?_, ?_⟩
    · refine ⟨_, rfl, _, _, rfl, rfl, _, rfl, itd (fun _ => ?_) fun _ => ⟨n, x, rfl, sb3, S3, hn, nx.r, nx.at co n⟩⟩
      refine ⟨_, rfl, _, rfl, _, rfl, l, v, pr, C, Hb, rfl, S3, ca, co, hl, sb3, hr9, fun q H4 s4 S4 ra => ?_⟩
      obtain ⟨m, y, e, hm, ry, ty⟩ := ra
      exact ⟨q, _, rfl, SqT.of e, rfl, _, _, rfl, _, _, rfl, rfl, m, y, rfl, s4, S4, hm, ry, ty⟩
    clear sb3 S3 B3 nx sb2 S2
    rintro σ' H3 ⟨m, y, rfl, sb3, S3, hm, ry, ty⟩
    refine ⟨_, rfl, _, rfl, _, rfl, pr, _, rfl, SqL.of (sb3 _ _ hr9), fun q1 hq1 => ?_⟩
    rw [cutV_from, vsT_drop]
    have nq1 := S3.ne hq1
    have uH4 := Same.upd (o := .lst (vsT ((rowsOfC C).drop m))) hq1
    have eq1 : (upd H3 q1 (.lst (vsT ((rowsOfC C).drop m)))) q1 = some (.lst (vsT ((rowsOfC C).drop m))) := upd_same
    generalize upd H3 q1 (.lst (vsT ((rowsOfC C).drop m))) = H4 at uH4 eq1 ⊢
    have S4 := S3.same uH4
    refine ⟨(by show 0 ≤ sizeLine; decide), fun q2 hq2 => ?_⟩
    have nq2 := S4.ne hq2
    have uH5 := Same.upd (o := .lst []) hq2
    have eq2 : (upd H4 q2 (.lst [])) q2 = some (.lst []) := upd_same
    generalize upd H4 q2 (.lst []) = H5 at uH5 eq2 ⊢
    have S5 := S4.same uH5
    refine ⟨two, fun q3 hq3 => ?_⟩
    have nq3 := S5.ne hq3
    have uH6 := Same.upd (o := .lst [V.ref q1, V.ref q2]) hq3
    have eq3 : (upd H5 q3 (.lst [V.ref q1, V.ref q2])) q3 = some (.lst [V.ref q1, V.ref q2]) := upd_same
    generalize upd H5 q3 (.lst [V.ref q1, V.ref q2]) = H6 at uH6 eq3 ⊢
    have S6 := S5.same uH6
    refine ⟨_, rfl, l, 2, rfl, S6, by decide, log_le 2 (by decide), fun t H7 t0 t1 B7 S7 => ?_⟩
    have sb7 := sbBut hl (sb3.trans (uH4.trans (uH5.trans uH6))) B7
    have key : ∃ (qr : Addr) (rs : List (List Nat)), atI [V.ref q1, V.ref q2] t = some (.ref qr) ∧ H7 qr = some (.lst (vsT rs)) ∧ qr ≠ l ∧ rs.length ≤ 100 ∧ ∀ r ∈ rs, RowOk r := by
      rcases two_at (x := V.ref q1) (y := V.ref q2) t0 t1 with e | e
      · exact ⟨q1, _, e, B7 _ _ (uH6 _ _ (uH5 _ _ eq1)) nq1, nq1, by rw [List.length_drop]; omega, fun r hr => co.row r (List.mem_of_mem_drop hr)⟩
      · exact ⟨q2, [], e, B7 _ _ (uH6 _ _ eq2) nq2, nq2, Nat.zero_le _, (fun r hr => nomatch hr)⟩
    obtain ⟨qr, rs, hx, er, nr, lr, or_⟩ := key
    refine ⟨_, _, _, _, rfl, rfl, SqL.of (B7 _ _ eq3 nq3), hx, ?_⟩
    refine ⟨fun σ' H' => ∃ (qr : Addr) (rs : List (List Nat)), σ' = [some (.ref l), some v, some (.ref pr), some (.int way), some (.int (m : Nat)), some (.str (txt y)), some (.ref qr)] ∧ Same Hb H' ∧ H' qr = some (.lst (vsT rs)) ∧ rs.length ≤ 101 ∧ ∀ r ∈ rs, RowOk r, ?_, ?_⟩
    · refine ⟨_, rfl, l, 3, rfl, S7, by decide, log_le 3 (by decide), fun u H8 u0 u1 B8 S8 => ?_⟩
      have sb8 := sbBut hl sb7 B8
      have er8 := B8 _ _ er nr
      refine ⟨rfl, _, rfl, itd (fun _ => ?_) fun _ => ⟨qr, rs, rfl, sb8, er8, by omega, or_⟩⟩
      refine ⟨_, rfl, _, rfl, l, rfl, S8, fun x H9 B9 S9 nx => ⟨(by show 1 ≤ sizeLine; decide), fun q4 hq4 => ?_⟩⟩
      have sb9 := sbBut hl sb8 B9
      have uH10 := Same.upd (o := .lst [V.str (txt x)]) hq4
      have eq4 : (upd H9 q4 (.lst [V.str (txt x)])) q4 = some (.lst [V.str (txt x)]) := upd_same
      generalize upd H9 q4 (.lst [V.str (txt x)]) = H10 at uH10 eq4 ⊢
      refine ⟨qr, q4, _, _, rfl, rfl, uH10 _ _ (B9 _ _ er8 nr), eq4, sz_lit (by rw [vsT_lenC]; show rs.length + 1 ≤ 1000; omega), fun q5 hq5 => ?_⟩
      refine ⟨q5, rs ++ [x], rfl, sb9.trans (uH10.trans (Same.upd hq5)), ?_, by rw [List.length_append]; show rs.length + 1 ≤ 101; omega, fun r hr => ?_⟩
      · rw [upd_same, ← vsT_app]
        rfl
      · rcases List.mem_append.mp hr with hr | hr
        · exact or_ r hr
        · rw [List.mem_singleton] at hr
          rw [hr]
          exact nx.r
    clear sb7 B7 S7 er hx or_ lr nr
    rintro σ' H8 ⟨qr, rs, rfl, sb8, er, lr, or_⟩
    refine ⟨⟨_, rfl⟩, _, rfl, _, rfl, _, rfl, pr, _, rfl, SqL.of (sb8 _ _ hr9), fun p1 hp1 => ?_⟩
    rw [cutV_pre, vsT_take]
    have uH9 := Same.upd (o := .lst (vsT ((rowsOfC C).take m))) hp1
    have ep1 : (upd H8 p1 (.lst (vsT ((rowsOfC C).take m)))) p1 = some (.lst (vsT ((rowsOfC C).take m))) := upd_same
    generalize upd H8 p1 (.lst (vsT ((rowsOfC C).take m))) = H9 at uH9 ep1 ⊢
    refine ⟨_, rfl, (by show 1 ≤ sizeLine; decide), fun p2 hp2 => ?_⟩
    have uH10 := Same.upd (o := .lst [V.str (txt y)]) hp2
    have ep2 : (upd H9 p2 (.lst [V.str (txt y)])) p2 = some (.lst [V.str (txt y)]) := upd_same
    generalize upd H9 p2 (.lst [V.str (txt y)]) = H10 at uH10 ep2 ⊢
    have lt : (vsT ((rowsOfC C).take m)).length ≤ 100 := by rw [vsT_lenC, List.length_take]; omega
    refine ⟨p1, p2, _, _, rfl, rfl, uH10 _ _ ep1, ep2, sz_lit (by show _ + 1 ≤ 1000; omega), fun p3 hp3 => ?_⟩
    rw [show vsT ((rowsOfC C).take m) ++ [V.str (txt y)] = vsT ((rowsOfC C).take m ++ [y]) by rw [← vsT_app]; rfl]
    have uH11 := Same.upd (o := .lst (vsT ((rowsOfC C).take m ++ [y]))) hp3
    have ep3 : (upd H10 p3 (.lst (vsT ((rowsOfC C).take m ++ [y])))) p3 = some (.lst (vsT ((rowsOfC C).take m ++ [y]))) := upd_same
    generalize upd H10 p3 (.lst (vsT ((rowsOfC C).take m ++ [y]))) = H11 at uH11 ep3 ⊢
    have s811 := uH9.trans (uH10.trans uH11)
    refine ⟨_, rfl, p3, qr, _, _, rfl, rfl, ep3, s811 _ _ er, sz_lit (by rw [vsT_lenC, vsT_lenC, List.length_append, List.length_take]; show _ + 1 + _ ≤ 1000; omega), fun p4 hp4 => ?_⟩
    rw [vsT_app, List.append_assoc]
    have uH12 := Same.upd (o := .lst (vsT ((rowsOfC C).take m ++ ([y] ++ rs)))) hp4
    have ep4 : (upd H11 p4 (.lst (vsT ((rowsOfC C).take m ++ ([y] ++ rs))))) p4 = some (.lst (vsT ((rowsOfC C).take m ++ ([y] ++ rs)))) := upd_same
    generalize upd H11 p4 (.lst (vsT ((rowsOfC C).take m ++ ([y] ++ rs)))) = H12 at uH12 ep4 ⊢
    obtain ⟨b1, b2, b3⟩ := co.bad (rest := rs) hm ry ty or_ (by omega)
    rw [vsT_strs] at ep4
    refine ⟨_, p4, ((rowsOfC C).take m ++ y :: rs).map txt, rfl, rfl, .inl (SqL.of ep4), join_size9 b2 fun r hr => (b1 r hr).l, ?_⟩
    refine ⟨_, rfl, two, fun p5 hp5 => ?_⟩
    have uH13 := Same.upd (o := .tup [V.str "row", V.int ((m : Nat) : Int)]) hp5
    have ep5 : (upd H12 p5 (.tup [V.str "row", V.int ((m : Nat) : Int)])) p5 = some (.tup [V.str "row", V.int ((m : Nat) : Int)]) := upd_same
    generalize upd H12 p5 (.tup [V.str "row", V.int ((m : Nat) : Int)]) = H13 at uH13 ep5 ⊢
    refine ⟨two, fun q9 hq9 => ?_⟩
    exact k q9 _ p5 _ _ (sb8.trans (s811.trans (uH12.trans (uH13.trans (Same.upd hq9))))) upd_same (.str _) (rt_join b2 b1) (due_row b3 (Same.upd hq9 _ _ ep5))
end
end Dear

namespace Dear
open PySem PySem.Spec PyProof.Rows L2
theorem SmAll.strs : ∀ (zs : List Str), SmAll (zs.map D.str)
  | [] => trivial
  | _ :: zs => ⟨trivial, SmAll.strs zs⟩
theorem SmAll.wants : ∀ (ws : List (List Nat × Int)), SmAll (ws.map wantD)
  | [] => trivial
  | _ :: ws => ⟨⟨(by show 2 ≤ 900; decide), trivial, trivial, trivial⟩, SmAll.wants ws⟩
theorem SmAll.txts : ∀ (bs : List (List Nat)), SmAll (bs.map fun t => D.str (txt t))
  | [] => trivial
  | _ :: bs => ⟨trivial, SmAll.txts bs⟩
theorem sm_sign {d : D} {c : Nat} (s : SgD d c) : SmOk d := by
  obtain ⟨t, b, l, rfl, hp, hl⟩ := s.ex
  refine ⟨(by show 3 ≤ 900; decide), trivial, ⟨(by show 2 ≤ 900; decide), trivial, trivial, trivial⟩, ?_, trivial⟩
  match l, hl with
  | .non, _ => trivial
  | .tup [.int t, .int b], _ => exact ⟨(by show 2 ≤ 900; decide), trivial, trivial, trivial⟩
theorem CsOk.sm {C : CsD} (o : CsOk C) : SmOk (caseD C) := by
  have l6 := o.td.l6
  have ld : C.ds.length = C.cs.length := o.td.sg.facts.2.2.2.2.1
  have lf := o.td.fs6
  have lz := o.td.zs36
  have l20 := o.l20
  refine ⟨(by show 3 ≤ 900; decide), ?_, ⟨by rw [List.length_map]; omega, SmAll.wants _⟩, ?_, trivial⟩
  · rw [o.td.eq]
    refine ⟨(by show 4 ≤ 900; decide), ⟨by omega, SmAll.of fun d hd => ?_⟩, ⟨by rw [List.length_map, List.length_map]; omega, SmAll.strs _⟩, ⟨by rw [List.length_map]; omega, SmAll.strs _⟩, trivial, trivial⟩
    obtain ⟨j, hj⟩ := List.getElem?_of_mem hd
    obtain ⟨c, _, sd⟩ := o.td.sg.get hj
    exact sm_sign sd
  · cases e : C.bk with
    | none => trivial
    | some b =>
      have := (o.bo b e).1
      exact ⟨by rw [List.length_map]; omega, SmAll.txts _⟩
theorem CsOk.dep6 {C : CsD} (o : CsOk C) : dep (caseD C) < 6 := by
  have wd := wants_dep (ws := C.ws)
  have d4 := o.td.dep4
  have fB : dep (bkOD C.bk) ≤ 1 := by
    cases e : C.bk with
    | none => exact Nat.zero_le _
    | some b => exact (txts_facts fun t ht => ⟨((o.bo b e).2 t ht).2.2, ((o.bo b e).2 t ht).asc⟩).2.2
  show max (dep C.d) (max (dep (.lst (C.ws.map wantD))) (max (dep (bkOD C.bk)) 0)) + 1 < 6
  omega
theorem CsNew.same {H H' H2 : Hp} {p : Addr} {C : CsD} (h : CsNew H H' p C) (s : Same H' H2) : CsNew H H2 p C := by
  obtain ⟨pt, a, b, c, pw, bv, xs, ys, h1, h2, h3, h4, h5, h6, h7, h8, n1, n2, n3, n4, m1, m2, m3, m4, m5, m6, hb⟩ := h.ex
  refine ⟨pt, a, b, c, pw, bv, xs, ys, s _ _ h1, s _ _ h2, s _ _ h3, h4.same s, s _ _ h5, s _ _ h6, s _ _ h7, h8.same s, n1, n2, n3, n4, m1, m2, m3, m4, m5, m6, ?_⟩
  cases e : C.bk with
  | none => rw [e] at hb; exact hb
  | some bb =>
    rw [e] at hb
    obtain ⟨pb, e1, e2, r⟩ := hb
    exact ⟨pb, e1, s _ _ e2, r⟩
end Dear

namespace Dear
open PySem PySem.Spec PyProof.Rows L2
section
variable {P : Program} {w : World} {K : PySem.W.Frag} {mg : Str → Option Value} {base : Heap}
set_option pp.maxSteps 3000
theorem ok_law (T : Txt K mg) {f : Addr} {fd : FuncData} (F : Fun K "law" "law" s_law f fd) : FnOk P w K mg base CX0 11 f fd ["_law_script"] (spLaw K) := by
  have o__law_pool := o__law_pool (P := P) (w := w) (base := base) T
  have o__law_case := o__law_case (P := P) (w := w) (base := base) T
  have o__law_rows := o__law_rows (P := P) (w := w) (base := base) T
  have o__law_asked := o__law_asked (P := P) (w := w) (base := base) T
  have o__law_told := o__law_told (P := P) (w := w) (base := base) T
  have o__law_same := same_at (P := P) (w := w) (base := base) T 6
  have o_read_case := o_read_case (P := P) (w := w) (base := base) T
  refine F.ok c_law (fun vs H Q E h => ?_) (fun cdv A outer s H vs Q E hr h => ?_)
  · obtain ⟨a, ns, rfl, _⟩ := h
    rfl
  · obtain ⟨a, ns, rfl, hS, hlen, k⟩ := h
    refine ⟨_, (pss_cons (ps_set (i := 1) c_law.nd rfl (Or.inl rfl) (pe_c o__law_case hr (pa_cons (pv 0) (pa_cons pe_int pa_nil))))
(pss_cons (ps_set (i := 2) c_law.nd rfl (Or.inl rfl) (pe_c o__law_rows hr (pa_cons (pv 1) pa_nil)))
(pss_cons (ps_for PassesOwn.never rfl (pi_range2 (by rfl) T.b_range (pa_cons pe_int (pa_cons (pe_callB (call_max2 rfl) (by rfl) T.b_max (by decide +kernel) (pa_cons pe_int (pa_cons (pe_callB (call_min2 rfl) (by rfl) T.b_min (by decide +kernel) (pa_cons (pe_callB (call_len_seq_k K) (by rfl) T.b_len PySem.boot_len (pa_cons (pv 0) pa_nil)) (pa_cons pe_int pa_nil))) pa_nil))) pa_nil))) (pg_name (i := 3) c_law.nd rfl (Or.inl rfl))
(pss_cons (ps_asg (pe_c o__law_asked hr (pa_cons (pe_c o__law_pool hr (pa_cons (pv 0) (pa_cons (pv 3) pa_nil))) (pa_cons (pv 1) (pa_cons (pv 2) pa_nil)))) (pg_tup_k K (n := 2) rfl (pgs_cons (pg_name (i := 4) c_law.nd rfl (Or.inl rfl)) (pgs_cons (pg_name (i := 5) c_law.nd rfl (Or.inl rfl)) pgs_nil))))
(pss_cons (ps_set (i := 6) c_law.nd rfl (Or.inl rfl) (pe_c o__law_told hr (pa_cons (pv 4) pa_nil)))
(pss_one (ps_if (PW.pt (pw_or (pt_cmpR op_ne (pe_ix (ix_tup_k K) (pv 6) pe_int (fun _ _ => rfl)) (pe_ix (ix_tup_k K) (pv 5) pe_int (fun _ _ => rfl)) (nomark _)) (pw_or1 (pt_not (pt_val (pe_c o__law_same hr (pa_cons (pe_ix (ix_tup_k K) (pv 6) pe_int (fun _ _ => rfl)) (pa_cons (pe_ix (ix_tup_k K) (pv 5) pe_int (fun _ _ => rfl)) pa_nil))))))))
(pss_one (ps_ret pe_bl))
pss_nil)))))
(pss_one (ps_ret (pe_c o__law_same hr (pa_cons (pe_cx o_read_case hr takes0 (pa_cons (pe_join_k K pe_str (pv 2)) pa_nil)) (pa_cons (pv 1) pa_nil)))))))), ?_⟩
    have nl : (ns.map V.int).length = ns.length := List.length_map ..
    refine ⟨_, rfl, a, ns, rfl, hS, fun v C H1 s1 ca co => ?_⟩
    refine ⟨_, rfl, v, C, rfl, ca, co, fun pr H2 s2 e2 => ?_⟩
    have e2 : H2 pr = some (.lst (vsT (rowsOfC C))) := e2
    have s02 := s1.trans s2
    have ca2 := ca.same s2
    refine ⟨_, rfl, _, _, rfl, .inl (s02.seq hS), _, _, rfl, _, _, rfl, _, _, rfl, ⟨by decide, by decide, ?_, ?_⟩, for_range (lo := 3) (fun j σ H' => Same H2 H' ∧ ∃ (v3 v4 v5 v6 : Option V), σ = [some (.ref a), some v, some (.ref pr), v3, v4, v5, v6])
      ⟨Same.refl _, _, _, _, _, rfl⟩ ?_ ?_⟩
    · split <;> split <;> omega
    · split <;> split <;> omega
    · rintro j σ H4 hj ⟨s4, v3, v4, v5, v6, rfl⟩
      have j63 : j < 63 := Nat.lt_of_lt_of_le hj (by split <;> split <;> omega)
      have s04 := s02.trans s4
      refine ⟨_, rfl, _, rfl, a, ns, _, rfl, s04.seq hS, by omega, by omega, fun l H5 hl s5 S5 => ?_⟩
      refine ⟨_, rfl, _, rfl, l, v, pr, C, H4, rfl, S5, ca2.same s4, co, hl, s5, s4 _ _ e2, fun q tv pd d H6 s6 eq dt rt du => ?_⟩
      refine ⟨q, _, rfl, SqT.of eq, rfl, _, _, rfl, _, _, rfl, rfl, ?_⟩
      refine ⟨_, rfl, tv, d, rfl, dt, rt, fun q2 H7 s7 du7 => ?_⟩
      have s47 := s6.trans s7
      unfold Due at du du7
      cases e : readD d with
      | inr n =>
        rw [e] at du du7
        have du7 : H7 q2 = some (.tup [.str "row", .int (n : Nat)]) := du7
        have du : H7 pd = some (.tup [.str "row", .int (n : Nat)]) := s7 _ _ du
        refine ⟨_, rfl, _, _, _, _, rfl, rfl, SqT.of du7, rfl, _, rfl, _, _, _, _, rfl, rfl, SqT.of du, rfl, rfl, _, rfl, itnd (fun ne => absurd rfl ne) fun _ => ?_⟩
        refine ⟨_, rfl, _, _, _, _, rfl, rfl, SqT.of du7, rfl, _, rfl, _, _, _, _, rfl, rfl, SqT.of du, rfl, _, _, .int (n : Nat), rfl, .int _, .int _, trivial, (by show 0 < 6; decide), fun H8 s8 => ⟨_, rfl, iteF ?_⟩⟩
        exact ⟨s4.trans (s47.trans s8), _, _, _, _, rfl⟩
      | inl st =>
        rw [e] at du du7
        obtain ⟨u7, f7, d7, c7⟩ := du7
        obtain ⟨u6, f6, d6, c6⟩ := du
        have f6 := s7 _ _ f6
        have d6 := d6.same s7
        refine ⟨_, rfl, _, _, _, _, rfl, rfl, SqT.of f7, rfl, _, rfl, _, _, _, _, rfl, rfl, SqT.of f6, rfl, rfl, _, rfl, itnd (fun ne => absurd rfl ne) fun _ => ?_⟩
        refine ⟨_, rfl, _, _, _, _, rfl, rfl, SqT.of f7, rfl, _, rfl, _, _, _, _, rfl, rfl, SqT.of f6, rfl, _, _, caseD (csOf st), rfl, d7, d6, c7.sm, c7.dep6, fun H8 s8 => ⟨_, rfl, iteF ?_⟩⟩
        exact ⟨s4.trans (s47.trans s8), _, _, _, _, rfl⟩
    · rintro σ H4 ⟨s4, v3, v4, v5, v6, rfl⟩
      have e4 := s4 _ _ e2
      rw [vsT_strs] at e4
      refine ⟨⟨_, rfl⟩, _, rfl, _, pr, (rowsOfC C).map txt, rfl, rfl, .inl (SqL.of e4), join_size9 (Nat.le_trans co.rows.1 (by decide)) co.rows.2, _, .str (caseText C.ds C.fs C.zs C.i C.ws C.bk), rfl, .str _, co.rt, fun n e => (by rw [co.back] at e; cases e), fun st e _ _ q H5 s5 cn => ?_⟩
      have e : st = stOf C := by
        rw [co.back] at e
        injection e with e
        exact e.symm
      subst e
      rw [co.cs] at cn
      exact ⟨_, rfl, .ref q, v, caseD C, rfl, (cn.at co).dt co, ((ca2.same s4).same s5).dt co, co.sm, co.dep6, fun H6 s6 => k _⟩
end
end Dear

namespace Dear
open PySem PySem.Spec PyProof.Rows L2
theorem walk {l : PySem.W.OpenLaw} {q : Program} {loose : List Str} {XP : (Str → Option Value) → Heap → Prop} {YP : World → Heap → Prop} {d : DefRec} {K : Params → PySem.W.Frag} (hn : l.most = some 63) (hdf : d.params.defaults = [])
    (hY : ∀ (w : World) (h : Heap), YP w h → (K w.params).In h)
    (F : ∀ (w : World) (mg : Str → Option Value) (fa : Addr) (h : Heap), (K w.params).In h → h.Ns mainGlobals mg → mg d.name = some (.ref fa) →
      ∃ fd : FuncData, (∀ (s : Shared) (u : Value), BindsTo s fd ⟨[u], []⟩ [("_law_script", u)]) ∧ ∀ base : Heap, (K w.params).In base → base.Ns mainGlobals mg → FnOk l.prog w (K w.params) mg base CX0 20 fa fd ["_law_script"] (spLaw (K w.params))) :
    PySem.W.WalkO q loose XP YP l.row.toRowW d [] (fun f vs => PySem.call f vs) :=
  L2.walk_of (n := 63) (k := 20) (x := "_law_script") (CX := fun _ => CX0) (sp := fun w => spLaw (K w.params)) hn (by decide) hdf ⟨rfl, by decide, by decide⟩ hY F (fun _ _ a ns hl _ hS => ⟨a, ns, rfl, hS, hl, fun _ => rfl⟩) fun _ _ _ _ _ z => z
theorem fin {l : PySem.W.OpenLaw} {w : World} {K : PySem.W.Frag} {h : Heap} {mg : Str → Option Value} {fa : Addr} (X : K.In h) (G : h.Ns mainGlobals mg) (hfa : mg "law" = some (.ref fa)) (T : Txt K mg) :
    ∃ fd : FuncData, (∀ (s : Shared) (v : Value), BindsTo s fd ⟨[v], []⟩ [("_law_script", v)]) ∧ ∀ base : Heap, K.In base → base.Ns mainGlobals mg → FnOk l.prog w K mg base CX0 20 fa fd ["_law_script"] (spLaw K) := by
  obtain ⟨f, fd, hm, F, hb⟩ := id T.f_law
  have e := hfa.symm.trans hm
  cases e
  refine ⟨fd, fun s v => ?_, fun base _ _ => (ok_law T F).mono (by decide)⟩
  obtain ⟨oc, od, kV, doc, pm, an, cdv, ct, osl, rfl, lk, hcd⟩ := F.ex
  exact .of_eq rfl
end Dear

open PySem PySem.W PyProof.Rows
set_option maxRecDepth 100000 in
set_option maxHeartbeats 0 in
theorem PySem.Challenge.cw_dearsigns_k65_whole_case_rows_refused_holds : PySem.Challenge.rw_dearsigns_k65_whole_case_rows_refused.Holds := by
  w_on; o_law; k_head; (case hw => w_witness2)
  k_fill
  refine Dear.walk (l := PySem.Challenge.rw_dearsigns_k65_whole_case_rows_refused) rfl rfl (fun w h Y => PySem.W.kIn_of Y) ?F
  case F =>
    intro w mg fa h KX G hmg
    refine Dear.fin KX G hmg ?T
    case T =>
      refine' Dear.txt_mk KX G ?g_DearError ?i_DearError ?t_DearError ?g_NoNumber ?i_NoNumber ?t_NoNumber ?g_NoBook ?i_NoBook ?t_NoBook ?g_NoTree ?i_NoTree ?t_NoTree ?g_TooMany ?i_TooMany ?t_TooMany ?g_NoCount ?i_NoCount ?t_NoCount ?g_NoUndo ?i_NoUndo ?t_NoUndo ?g_NoTurn ?i_NoTurn ?t_NoTurn ?g_NoRow ?i_NoRow ?t_NoRow ?g_Unknown ?i_Unknown ?t_Unknown ?g_NoTongue ?i_NoTongue ?t_NoTongue ?g_NoWants ?i_NoWants ?t_NoWants ?g_NoThing ?i_NoThing ?t_NoThing ?g_BadSign ?i_BadSign ?t_BadSign ?g_NoText ?i_NoText ?t_NoText ?b_DearError ?x1_NoNumber ?x2_NoNumber ?x3_NoNumber ?x4_NoNumber ?x5_NoNumber ?x6_NoNumber ?x7_NoNumber ?x8_NoNumber ?x9_NoNumber ?x10_NoNumber ?x11_NoNumber ?d1 ?d2 ?d3 ?xl_NoText ?sa_NoText ?x2_NoText ?x3_NoText ?x4_NoText ?x5_NoText ?x6_NoText ?x7_NoText ?x8_NoText ?x9_NoText ?x10_NoText ?x11_NoText ?fn_NoText ?i1_NoText ?i2_NoText ?i3_NoText ?i4_NoText ?i5_NoText ?q_NoNumber_DearError ?n_NoNumber_DearError ?q_NoNumber_NoNumber ?q_NoNumber_NoBook ?n_NoNumber_NoBook ?q_NoNumber_NoTree ?n_NoNumber_NoTree ?q_NoNumber_TooMany ?n_NoNumber_TooMany ?q_NoNumber_NoCount ?n_NoNumber_NoCount ?q_NoNumber_NoUndo ?n_NoNumber_NoUndo ?q_NoNumber_NoTurn ?n_NoNumber_NoTurn ?q_NoNumber_NoRow ?n_NoNumber_NoRow ?q_NoNumber_Unknown ?n_NoNumber_Unknown ?q_NoNumber_NoTongue ?n_NoNumber_NoTongue ?q_NoNumber_NoWants ?n_NoNumber_NoWants ?q_NoNumber_NoThing ?n_NoNumber_NoThing ?q_NoNumber_BadSign ?n_NoNumber_BadSign ?q_NoNumber_NoText ?n_NoNumber_NoText ?q_NoNumber_ValueError ?q_NoText_DearError ?n_NoText_DearError ?q_NoText_NoNumber ?n_NoText_NoNumber ?q_NoText_NoBook ?n_NoText_NoBook ?q_NoText_NoTree ?n_NoText_NoTree ?q_NoText_TooMany ?n_NoText_TooMany ?q_NoText_NoCount ?n_NoText_NoCount ?q_NoText_NoUndo ?n_NoText_NoUndo ?q_NoText_NoTurn ?n_NoText_NoTurn ?q_NoText_NoRow ?n_NoText_NoRow ?q_NoText_Unknown ?n_NoText_Unknown ?q_NoText_NoTongue ?n_NoText_NoTongue ?q_NoText_NoWants ?n_NoText_NoWants ?q_NoText_NoThing ?n_NoText_NoThing ?q_NoText_BadSign ?n_NoText_BadSign ?q_NoText_NoText ?q_NoText_ValueError ?g_CaseRows ?pg_CaseRows ?hd_CaseRows ?po_CaseRows ?sa_CaseRows ?mk_CaseRows ?kc_CaseRows ?na_CaseRows_signs ?na_CaseRows_letters ?na_CaseRows_firsts ?na_CaseRows_pairs ?na_CaseRows_longest ?na_CaseRows_wants ?na_CaseRows_words ?ma_CaseRows___init__ ?mi_CaseRows___init__ ?ml_CaseRows___init__ ?mc_CaseRows___init__ ?me_CaseRows___init__ ?ma_CaseRows_takes_sign ?mi_CaseRows_takes_sign ?ml_CaseRows_takes_sign ?mc_CaseRows_takes_sign ?me_CaseRows_takes_sign ?ma_CaseRows_is_open ?mi_CaseRows_is_open ?ml_CaseRows_is_open ?mc_CaseRows_is_open ?me_CaseRows_is_open ?ma_CaseRows_takes_first ?mi_CaseRows_takes_first ?ml_CaseRows_takes_first ?mc_CaseRows_takes_first ?me_CaseRows_takes_first ?ma_CaseRows_takes_pair ?mi_CaseRows_takes_pair ?ml_CaseRows_takes_pair ?mc_CaseRows_takes_pair ?me_CaseRows_takes_pair ?ma_CaseRows_takes_longest ?mi_CaseRows_takes_longest ?ml_CaseRows_takes_longest ?mc_CaseRows_takes_longest ?me_CaseRows_takes_longest ?ma_CaseRows_takes_thing ?mi_CaseRows_takes_thing ?ml_CaseRows_takes_thing ?mc_CaseRows_takes_thing ?me_CaseRows_takes_thing ?ma_CaseRows_takes_word ?mi_CaseRows_takes_word ?ml_CaseRows_takes_word ?mc_CaseRows_takes_word ?me_CaseRows_takes_word ?ma_CaseRows_takes ?mi_CaseRows_takes ?ml_CaseRows_takes ?mc_CaseRows_takes ?me_CaseRows_takes ?ma_CaseRows_lacks ?mi_CaseRows_lacks ?ml_CaseRows_lacks ?mc_CaseRows_lacks ?me_CaseRows_lacks ?ma_CaseRows_made ?mi_CaseRows_made ?ml_CaseRows_made ?mc_CaseRows_made ?me_CaseRows_made ?a1 ?l1 ?c1 ?k1 ?a2 ?l2 ?c2 ?k2 ?a3 ?l3 ?c3 ?k3 ?a4 ?l4 ?c4 ?k4 ?a5 ?l5 ?c5 ?k5 ?d5 ?a6 ?l6 ?c6 ?k6 ?a7 ?l7 ?c7 ?k7 ?a8 ?l8 ?c8 ?k8 ?a9 ?l9 ?c9 ?k9 ?a10 ?l10 ?c10 ?k10 ?a11 ?l11 ?c11 ?k11 ?a12 ?l12 ?c12 ?k12 ?a13 ?l13 ?c13 ?k13 ?a14 ?l14 ?c14 ?k14 ?a15 ?l15 ?c15 ?k15 ?a16 ?l16 ?c16 ?k16 ?a17 ?l17 ?c17 ?k17 ?a18 ?l18 ?c18 ?k18 ?a19 ?l19 ?c19 ?k19 ?a20 ?l20 ?c20 ?k20 ?a21 ?l21 ?c21 ?k21 ?a22 ?l22 ?c22 ?k22 ?a23 ?l23 ?c23 ?k23 ?a24 ?l24 ?c24 ?k24 ?a25 ?l25 ?c25 ?k25 ?a26 ?l26 ?c26 ?k26 ?a27 ?l27 ?c27 ?k27 ?a28 ?l28 ?c28 ?k28 ?a29 ?l29 ?c29 ?k29 ?a30 ?a31 ?a32 ?a33 ?a34 ?a35 ?a36 ?a37 ?a38 ?a39 ?a40 ?a41 ?a42 ?a43 ?a44 ?a45 ?a46 ?a47 ?a48 ?a49 ?a50 ?a51 ?a52 ?a53 ?a54
      (case g_DearError => k_is); (case i_DearError => k_is); (case t_DearError => k_is); (case g_NoNumber => k_is); (case i_NoNumber => k_is); (case t_NoNumber => k_is); (case g_NoBook => k_is); (case i_NoBook => k_is)
      (case t_NoBook => k_is); (case g_NoTree => k_is); (case i_NoTree => k_is); (case t_NoTree => k_is); (case g_TooMany => k_is); (case i_TooMany => k_is); (case t_TooMany => k_is); (case g_NoCount => k_is)
      (case i_NoCount => k_is); (case t_NoCount => k_is); (case g_NoUndo => k_is); (case i_NoUndo => k_is); (case t_NoUndo => k_is); (case g_NoTurn => k_is); (case i_NoTurn => k_is); (case t_NoTurn => k_is)
      (case g_NoRow => k_is); (case i_NoRow => k_is); (case t_NoRow => k_is); (case g_Unknown => k_is); (case i_Unknown => k_is); (case t_Unknown => k_is); (case g_NoTongue => k_is); (case i_NoTongue => k_is)
      (case t_NoTongue => k_is); (case g_NoWants => k_is); (case i_NoWants => k_is); (case t_NoWants => k_is); (case g_NoThing => k_is); (case i_NoThing => k_is); (case t_NoThing => k_is); (case g_BadSign => k_is)
      (case i_BadSign => k_is); (case t_BadSign => k_is); (case g_NoText => k_is); (case i_NoText => k_is); (case t_NoText => k_is); (case b_DearError => k_is); (case x1_NoNumber => k_exc); (case x2_NoNumber => k_is)
      (case x3_NoNumber => k_is); (case x4_NoNumber => k_is); (case x5_NoNumber => k_is); (case x6_NoNumber => k_is); (case x7_NoNumber => k_is); (case x8_NoNumber => k_is); (case x9_NoNumber => k_is); (case x10_NoNumber => k_is)
      (case x11_NoNumber => k_is); (case d1 => k_is); (case d2 => k_is); (case d3 => k_is); (case xl_NoText => k_is); (case sa_NoText => k_is); (case x2_NoText => k_is); (case x3_NoText => k_is)
      (case x4_NoText => k_is); (case x5_NoText => k_is); (case x6_NoText => k_is); (case x7_NoText => k_is); (case x8_NoText => k_is); (case x9_NoText => k_is); (case x10_NoText => k_is); (case x11_NoText => k_is)
      (case fn_NoText => k_is); (case i1_NoText => k_is); (case i2_NoText => k_is); (case i3_NoText => k_is); (case i4_NoText => k_is); (case i5_NoText => k_is); (case q_NoNumber_DearError => k_is); (case n_NoNumber_DearError => rfl)
      (case q_NoNumber_NoNumber => k_is); (case q_NoNumber_NoBook => k_is); (case n_NoNumber_NoBook => rfl); (case q_NoNumber_NoTree => k_is); (case n_NoNumber_NoTree => rfl); (case q_NoNumber_TooMany => k_is); (case n_NoNumber_TooMany => rfl); (case q_NoNumber_NoCount => k_is)
      (case n_NoNumber_NoCount => rfl); (case q_NoNumber_NoUndo => k_is); (case n_NoNumber_NoUndo => rfl); (case q_NoNumber_NoTurn => k_is); (case n_NoNumber_NoTurn => rfl); (case q_NoNumber_NoRow => k_is); (case n_NoNumber_NoRow => rfl); (case q_NoNumber_Unknown => k_is)
      (case n_NoNumber_Unknown => rfl); (case q_NoNumber_NoTongue => k_is); (case n_NoNumber_NoTongue => rfl); (case q_NoNumber_NoWants => k_is); (case n_NoNumber_NoWants => rfl); (case q_NoNumber_NoThing => k_is); (case n_NoNumber_NoThing => rfl); (case q_NoNumber_BadSign => k_is)
      (case n_NoNumber_BadSign => rfl); (case q_NoNumber_NoText => k_is); (case n_NoNumber_NoText => rfl); (case q_NoNumber_ValueError => k_is); (case q_NoText_DearError => k_is); (case n_NoText_DearError => rfl); (case q_NoText_NoNumber => k_is); (case n_NoText_NoNumber => rfl)
      (case q_NoText_NoBook => k_is); (case n_NoText_NoBook => rfl); (case q_NoText_NoTree => k_is); (case n_NoText_NoTree => rfl); (case q_NoText_TooMany => k_is); (case n_NoText_TooMany => rfl); (case q_NoText_NoCount => k_is); (case n_NoText_NoCount => rfl)
      (case q_NoText_NoUndo => k_is); (case n_NoText_NoUndo => rfl); (case q_NoText_NoTurn => k_is); (case n_NoText_NoTurn => rfl); (case q_NoText_NoRow => k_is); (case n_NoText_NoRow => rfl); (case q_NoText_Unknown => k_is); (case n_NoText_Unknown => rfl)
      (case q_NoText_NoTongue => k_is); (case n_NoText_NoTongue => rfl); (case q_NoText_NoWants => k_is); (case n_NoText_NoWants => rfl); (case q_NoText_NoThing => k_is); (case n_NoText_NoThing => rfl); (case q_NoText_BadSign => k_is); (case n_NoText_BadSign => rfl)
      (case q_NoText_NoText => k_is); (case q_NoText_ValueError => k_is); (case g_CaseRows => k_is); (case pg_CaseRows => k_is); (case hd_CaseRows => k_is); (case po_CaseRows => k_is); (case sa_CaseRows => k_is); (case mk_CaseRows => k_is)
      (case kc_CaseRows => k_is); (case na_CaseRows_signs => k_is); (case na_CaseRows_letters => k_is); (case na_CaseRows_firsts => k_is); (case na_CaseRows_pairs => k_is); (case na_CaseRows_longest => k_is); (case na_CaseRows_wants => k_is); (case na_CaseRows_words => k_is)
      (case ma_CaseRows___init__ => k_is); (case mi_CaseRows___init__ => k_is); (case ml_CaseRows___init__ => k_is); (case mc_CaseRows___init__ => k_is); (case me_CaseRows___init__ => k_is); (case ma_CaseRows_takes_sign => k_is); (case mi_CaseRows_takes_sign => k_is); (case ml_CaseRows_takes_sign => k_is)
      (case mc_CaseRows_takes_sign => k_is); (case me_CaseRows_takes_sign => k_is); (case ma_CaseRows_is_open => k_is); (case mi_CaseRows_is_open => k_is); (case ml_CaseRows_is_open => k_is); (case mc_CaseRows_is_open => k_is); (case me_CaseRows_is_open => k_is); (case ma_CaseRows_takes_first => k_is)
      (case mi_CaseRows_takes_first => k_is); (case ml_CaseRows_takes_first => k_is); (case mc_CaseRows_takes_first => k_is); (case me_CaseRows_takes_first => k_is); (case ma_CaseRows_takes_pair => k_is); (case mi_CaseRows_takes_pair => k_is); (case ml_CaseRows_takes_pair => k_is); (case mc_CaseRows_takes_pair => k_is)
      (case me_CaseRows_takes_pair => k_is); (case ma_CaseRows_takes_longest => k_is); (case mi_CaseRows_takes_longest => k_is); (case ml_CaseRows_takes_longest => k_is); (case mc_CaseRows_takes_longest => k_is); (case me_CaseRows_takes_longest => k_is); (case ma_CaseRows_takes_thing => k_is); (case mi_CaseRows_takes_thing => k_is)
      (case ml_CaseRows_takes_thing => k_is); (case mc_CaseRows_takes_thing => k_is); (case me_CaseRows_takes_thing => k_is); (case ma_CaseRows_takes_word => k_is); (case mi_CaseRows_takes_word => k_is); (case ml_CaseRows_takes_word => k_is); (case mc_CaseRows_takes_word => k_is); (case me_CaseRows_takes_word => k_is)
      (case ma_CaseRows_takes => k_is); (case mi_CaseRows_takes => k_is); (case ml_CaseRows_takes => k_is); (case mc_CaseRows_takes => k_is); (case me_CaseRows_takes => k_is); (case ma_CaseRows_lacks => k_is); (case mi_CaseRows_lacks => k_is); (case ml_CaseRows_lacks => k_is)
      (case mc_CaseRows_lacks => k_is); (case me_CaseRows_lacks => k_is); (case ma_CaseRows_made => k_is); (case mi_CaseRows_made => k_is); (case ml_CaseRows_made => k_is); (case mc_CaseRows_made => k_is); (case me_CaseRows_made => k_is); (case a1 => k_is)
      (case l1 => k_is); (case c1 => k_is); (case k1 => k_is); (case a2 => k_is); (case l2 => k_is); (case c2 => k_is); (case k2 => k_is); (case a3 => k_is)
      (case l3 => k_is); (case c3 => k_is); (case k3 => k_is); (case a4 => k_is); (case l4 => k_is); (case c4 => k_is); (case k4 => k_is); (case a5 => k_is)
      (case l5 => k_is); (case c5 => k_is); (case k5 => k_is); (case d5 => k_is); (case a6 => k_is); (case l6 => k_is); (case c6 => k_is); (case k6 => k_is)
      (case a7 => k_is); (case l7 => k_is); (case c7 => k_is); (case k7 => k_is); (case a8 => k_is); (case l8 => k_is); (case c8 => k_is); (case k8 => k_is)
      (case a9 => k_is); (case l9 => k_is); (case c9 => k_is); (case k9 => k_is); (case a10 => k_is); (case l10 => k_is); (case c10 => k_is); (case k10 => k_is)
      (case a11 => k_is); (case l11 => k_is); (case c11 => k_is); (case k11 => k_is); (case a12 => k_is); (case l12 => k_is); (case c12 => k_is); (case k12 => k_is)
      (case a13 => k_is); (case l13 => k_is); (case c13 => k_is); (case k13 => k_is); (case a14 => k_is); (case l14 => k_is); (case c14 => k_is); (case k14 => k_is)
      (case a15 => k_is); (case l15 => k_is); (case c15 => k_is); (case k15 => k_is); (case a16 => k_is); (case l16 => k_is); (case c16 => k_is); (case k16 => k_is)
      (case a17 => k_is); (case l17 => k_is); (case c17 => k_is); (case k17 => k_is); (case a18 => k_is); (case l18 => k_is); (case c18 => k_is); (case k18 => k_is)
      (case a19 => k_is); (case l19 => k_is); (case c19 => k_is); (case k19 => k_is); (case a20 => k_is); (case l20 => k_is); (case c20 => k_is); (case k20 => k_is)
      (case a21 => k_is); (case l21 => k_is); (case c21 => k_is); (case k21 => k_is); (case a22 => k_is); (case l22 => k_is); (case c22 => k_is); (case k22 => k_is)
      (case a23 => k_is); (case l23 => k_is); (case c23 => k_is); (case k23 => k_is); (case a24 => k_is); (case l24 => k_is); (case c24 => k_is); (case k24 => k_is)
      (case a25 => k_is); (case l25 => k_is); (case c25 => k_is); (case k25 => k_is); (case a26 => k_is); (case l26 => k_is); (case c26 => k_is); (case k26 => k_is)
      (case a27 => k_is); (case l27 => k_is); (case c27 => k_is); (case k27 => k_is); (case a28 => k_is); (case l28 => k_is); (case c28 => k_is); (case k28 => k_is)
      (case a29 => k_is); (case l29 => k_is); (case c29 => k_is); (case k29 => k_is); (case a30 => k_is); (case a31 => k_is); (case a32 => k_is); (case a33 => k_is)
      (case a34 => k_is); (case a35 => k_is); (case a36 => k_is); (case a37 => k_is); (case a38 => k_is); (case a39 => k_is); (case a40 => k_is); (case a41 => k_is)
      (case a42 => k_is); (case a43 => k_is); (case a44 => k_is); (case a45 => k_is); (case a46 => k_is); (case a47 => k_is); (case a48 => k_is); (case a49 => k_is)
      (case a50 => k_is); (case a51 => k_is); (case a52 => k_is); (case a53 => k_is); (case a54 => k_is)
#print axioms PySem.Challenge.cw_dearsigns_k65_whole_case_rows_refused_holds

