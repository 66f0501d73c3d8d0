import PyProof.Rows.All
import Wide.All
import OpenK.AllK
import Wide.FinOn
import HandS.ForMost
import HandS.Wide
import HandS.IsInst
import HandS.Flow
import HandS.Walk
import HandS.Strs
import HandS.Style
import HandS.Exc
import HandS.Codes
import HandS.ForExc
import HandS.ExcIs
import HandS.Defaults
import HandS.ExcInit
import HandS.FStr
import HandS.ExcField
import HandS.TryOnly
import HandS.Conv
import HandS.More
import KE.KIntText
import Flt.Len
import PySem.Challenge.RW_dearsigns_k23_reader_sign_by_sign
set_option Elab.async false
set_option linter.all false
set_option maxRecDepth 100000
set_option maxHeartbeats 4000000

namespace Dear
open PySem PySem.Spec PyProof.Rows L2
/-! ### a def of the text, and a def with its promise -/
def Df (K : PySem.W.Frag) (mg : Str → Option Value) (x : Str) (st : Stmt) (ps : List Str) : Prop :=
  ∃ (f : Addr) (fd : FuncData), mg x = some (.ref f) ∧ Fun K x x st f fd ∧ Binds K fd ps []
def OkF (P : Program) (w : World) (K : PySem.W.Frag) (mg : Str → Option Value) (base : Heap) (CX : CXT) (k : Nat) (x : Str) (ps : List Str) (sp : Sp) : Prop :=
  ∃ (f : Addr) (fd : FuncData), mg x = some (.ref f) ∧ PySem.W.keepIn K (.ref f) = true ∧ Binds K fd ps [] ∧ FnOk P w K mg base CX k f fd ps sp
section
variable {P : Program} {w : World} {K : PySem.W.Frag} {mg : Str → Option Value} {base : Heap}
theorem Df.ok {x : Str} {st : Stmt} {N ps : List Str} {k : Nat} {sp : Sp} (D : Df K mg x st ps) (S : FnScope N ps (defScope st)) (len : ∀ vs H Q E, sp vs H Q E → vs.length = ps.length)
    (hbody : ∀ (f : Addr) (cdv : Value) (A : Around) (outer : List Env) (s : Shared) (H : Hp) (vs : List V) (Q : VK) (E : XK), Room k (A.deeper (envOfC x (defScope st) s.heap.objs.size f cdv)) → sp vs H Q E →
      ∃ t, PSs (cxOf CX0 P w K mg base N x (defScope st) f cdv A outer s H E).nox (defBody st) t ∧ t { nx := fun _ H' => Q .non H', rt := Q } (start N vs) H) : OkF P w K mg base CX0 (k + 1) x ps sp := by
  obtain ⟨f, fd, hm, F, hb⟩ := D
  exact ⟨f, fd, hm, F.kp, hb, F.ok S len (hbody f)⟩
end
section
variable {X : Cx}
theorem pe_c {k k' : Nat} {x : Str} {ps : List Str} {sp : Sp} {e : Expr} {es : List Expr} {t : TA} {p pos : Pos} (O : OkF X.prog X.w X.K X.mg X.base CX0 k x ps sp) (hr : Room k' X.A) (ha : PA X (e :: es) t) (hk : k ≤ k' := by decide) (hg : Gl X x := by rfl)
    (hdb : (x == ("__debug__" : Str)) = false := by decide) (he : starEach (e :: es) X.env = (false, eval e X.env) :: starEach es X.env := by rfl) (hpl : (backTo pos (starEach es X.env)).any (·.1) = false := by rfl) :
    PE X (.Call (.Name x p) (e :: es) [] pos) (tCall sp [] E0 t) := by
  obtain ⟨f, fd, hm, hkp, hb, F⟩ := O
  exact pe_call F (hr.mono hk) hg hm hkp hb .nil pass0 ha hdb he hpl
theorem pe_gi {x : Str} {i : Int} {pos : Pos} (h : ∃ t, X.mg x = some (.int i t)) (hg : Gl X x := by rfl) (hd : (x == ("__debug__" : Str)) = false := by decide) : PE X (.Name x pos) (tC (.int i)) := by
  obtain ⟨t, h⟩ := h
  exact pe_glob hg h ⟨_, rfl⟩ hd
theorem pe_gs {x : Str} {z : Str} {pos : Pos} (h : ∃ t, X.mg x = some (.str z t)) (hg : Gl X x := by rfl) (hd : (x == ("__debug__" : Str)) = false := by decide) : PE X (.Name x pos) (tC (.str z)) := by
  obtain ⟨t, h⟩ := h
  exact pe_glob hg h ⟨_, rfl⟩ hd
end
/-! ### the rules with the written part K named -/
section
variable {X : Cx} (K : PySem.W.Frag)
theorem ix_list_k (h : X.K = K := by rfl) : IxR X (rIxL K) := h ▸ ix_list
theorem ix_tup_k (h : X.K = K := by rfl) : IxR X (rIxT K) := h ▸ ix_tup
theorem sl_list_k (h : X.K = K := by rfl) : SlR X (rSlL K) := h ▸ sl_list
theorem sl_tup_k (h : X.K = K := by rfl) : SlR X (rSlT K) := h ▸ sl_tup
theorem op_in_seq_k (h : X.K = K := by rfl) : OpR X (compareOp .In) (rIn K false) := h ▸ op_in_seq
theorem op_notIn_seq_k (h : X.K = K := by rfl) : OpR X (compareOp .NotIn) (rIn K true) := h ▸ op_notIn_seq
def rLen : List V → Hp → VK → Prop := fun xs H Q => ∃ p ys, xs = [.ref p] ∧ (SqL K H p ys ∨ SqT K H p ys) ∧ Q (.int ys.length) H
theorem call_len_seq_k (h : X.K = K := by rfl) : CallR X (.builtin "len") (rLen K) := h ▸ call_len_seq
def rListOf : List V → Hp → VK → Prop := fun xs H Q => ∃ p ys, xs = [.ref p] ∧ (SqL K H p ys ∨ SqT K H p ys) ∧ ∀ l, H l = none → Q (.ref l) (upd H l (.lst ys))
theorem call_list_of_k (h : X.K = K := by rfl) : CallR X (.type "list") (rListOf K) := h ▸ call_list_of
def rTupOf : List V → Hp → VK → Prop := fun xs H Q => ∃ p ys, xs = [.ref p] ∧ ((SqL K H p ys ∧ ∀ l, H l = none → Q (.ref l) (upd H l (.tup ys))) ∨ (SqT K H p ys ∧ Q (.ref p) H))
theorem call_tuple_of_k (h : X.K = K := by rfl) : CallR X (.type "tuple") (rTupOf K) := h ▸ call_tuple_of
theorem cr_sum_k (hc : X.calm = true) (h : X.K = K := by rfl) : CallR X (.builtin "sum") (rSum K) := h ▸ cr_sum hc
theorem cr_max_k (hc : X.calm = true) (h : X.K = K := by rfl) : CallR X (.builtin "max") (rMax K) := h ▸ cr_max hc
theorem cr_min_k (hc : X.calm = true) (h : X.K = K := by rfl) : CallR X (.builtin "min") (rMin K) := h ▸ cr_min hc
theorem cr_any_k (hc : X.calm = true) (h : X.K = K := by rfl) : CallR X (.builtin "any") (rAny K) := h ▸ cr_any hc
theorem cr_all_k (hc : X.calm = true) (h : X.K = K := by rfl) : CallR X (.builtin "all") (rAll K) := h ▸ cr_all hc
theorem cr_sorted_k (h : X.K = K := by rfl) : CallR X (.builtin "sorted") (rSorted K) := h ▸ cr_sorted
theorem mt_index_k (h : X.K = K := by rfl) : MtR X "list.index" (rIndex K) := h ▸ mt_index
theorem op_eqD_k (hu : X.A.units + 64 < cLine) (h : X.K = K := by rfl) : OpR X (compareOp .Eq) (rEqD K) := h ▸ op_eqD hu
theorem op_neD_k (hu : X.A.units + 64 < cLine) (h : X.K = K := by rfl) : OpR X (compareOp .NotEq) (rNeD K) := h ▸ op_neD hu
theorem call_isi_k (h : X.K = K := by rfl) : CallR X (.builtin "isinstance") (rIsi K) := h ▸ call_isi
theorem call_isiT_k (h : X.K = K := by rfl) : CallR X (.builtin "isinstance") (rIsiT K) := h ▸ call_isiT
theorem op_catT_k (h : X.K = K := by rfl) : OpR X (binaryOp .Add) (rCatT K) := h ▸ op_catT
theorem pi_list_k {tg l : Expr} {tl : TE} (hl : PE X l tl) (h : X.K = K := by rfl) : PI X tg l (iList K tl) := h ▸ pi_list hl
theorem pi_tup_k {tg l : Expr} {tl : TE} (hl : PE X l tl) (h : X.K = K := by rfl) : PI X tg l (iTup K tl) := h ▸ pi_tup hl
theorem pe_revL_k {e : Expr} {te : TE} {k : Nat} {p1 p2 p3 pos : Pos} (he : PE X e te) (h : X.K = K := by rfl) : PE X (.Subscript e (.Slice none none (some (.UnaryOp .USub (.Constant (.int 1) k p1) p2)) p3) pos) (tRevL K te) := h ▸ pe_revL he
theorem pg_tup_k {es : List Expr} {k : Nat} {t : TGs} {n : Nat} {pos : Pos} (hc : X.calm = true) (hg : PGs X es t) (h : X.K = K := by rfl)
    (hn : (assignEach es X.env).length = n := by rfl) (hst : (assignEach es X.env).findIdx? (·.1) = none := by rfl) : PG X (.Tuple es k pos) (gTup K n t) := h ▸ pg_tup hc hg hn hst
def rDictP : List V → Hp → VK → Prop := fun xs H Q => ∃ (a : Addr) (ps : List Addr) (kvs : List (Key × V)), xs = [.ref a] ∧ SqL K H a (ps.map V.ref) ∧ Paired (fun p kv => SqT K H p [kV kv.1, kv.2]) ps kvs ∧
    ∀ p, H p = none → Q (.ref p) (upd H p (.dK (mergeK [] kvs)))
theorem call_dictP_k (hc : X.calm = true) (h : X.K = K := by rfl) : CallR X (.type "dict") (rDictP K) := h ▸ call_dictP hc
theorem u1 {n : Nat} (h : n + 64 < cLine) : n + 1 < cLine := by omega
def rJoin : V → List V → Hp → VK → Prop := fun x xs H Q => ∃ a p, ∃ ys : List Str, x = .str a ∧ xs = [.ref p] ∧ (SqL K H p (ys.map V.str) ∨ SqT K H p (ys.map V.str)) ∧ (ys.map (·.length)).sum + ys.length * a.length ≤ 16777216 ∧ Q (.str (Txt.join a ys)) H
theorem pe_join_k {o e : Expr} {to te : TE} {apos pos : Pos} (ho : PE X o to) (he : PE X e te) (h : X.K = K := by rfl) (hs : starEach [e] X.env = [(false, eval e X.env)] := by rfl) (hbase : attributeBase o "join" X.env (eval o X.env) = eval o X.env := by rfl) (hline : (apos.endLine == pos.line) = true := by rfl) :
    PE X (.Call (.Attribute o "join" apos) [e] [] pos) (tM1 (rJoin K) to te) := h ▸ pe_join ho he hs hbase hline
end
/-! ### heaps -/
/-- all that was tracked, but for what stands at l, is as it was -/
def But (l : Addr) (H H' : Hp) : Prop := ∀ b o, H b = some o → b ≠ l → H' b = some o
theorem But.refl (l : Addr) (H : Hp) : But l H H := fun _ _ h _ => h
theorem But.trans {l : Addr} {H H1 H2 : Hp} (a : But l H H1) (b : But l H1 H2) : But l H H2 := fun c o h n => b c o (a c o h n) n
theorem But.of {l : Addr} {H H1 : Hp} (a : Same H H1) : But l H H1 := fun c o h _ => a c o h
theorem But.upd {l : Addr} {H : Hp} {o : HO} : But l H (upd H l o) := fun b _ h n => by rw [upd_ne n]; exact h
theorem Same.upd {H : Hp} {l : Addr} {o : HO} (h : H l = none) : Same H (upd H l o) := fun b u e => by
  rw [upd_ne (ne_of_none e h)]
  exact e
theorem But.new {l : Addr} {H H1 : Hp} {p : Addr} {o : HO} (a : But l H H1) (h : H1 p = none) : But l H (L2.upd H1 p o) := a.trans (.of (Same.upd h))
theorem Same.new {H H1 : Hp} {p : Addr} {o : HO} (a : Same H H1) (h : H1 p = none) : Same H (L2.upd H1 p o) := a.trans (Same.upd h)
/-- the ends of an if -/
theorem itb {b : Bool} {A B : Prop} (h1 : b = true → A) (h2 : b = false → B) : if b = true then A else B := by
  cases b with
  | true => exact iteT (h1 rfl)
  | false => exact iteF (h2 rfl)
theorem itd {c : Prop} [Decidable c] {A B : Prop} (h1 : c → A) (h2 : ¬ c → B) : if decide c = true then A else B := itb (fun h => h1 (of_decide_eq_true h)) fun h => h2 (of_decide_eq_false h)
theorem itnd {c : Prop} [Decidable c] {A B : Prop} (h1 : ¬ c → A) (h2 : c → B) : if (!decide c) = true then A else B := itb (fun h => h1 (by simpa using h)) fun h => h2 (by simpa using h)
/-! ### readings, step by step -/
section
variable {σ : L2.St} {H : Hp} {D : Ends} {t1 t2 : TS} {te : TE} {i : Nat} {c : TT}
theorem s_seq (h : t1 { D with nx := t2 D } σ H) : tSeq t1 t2 D σ H := h
theorem s_set (h : te σ H fun v H' => D.nx (σ.set i (some v)) H') : tAsg te (gName i) D σ H := h
theorem s_ret (h : te σ H D.rt) : tRet te D σ H := h
theorem s_if (h : c σ H fun b H' => if b = true then t1 D σ H' else t2 D σ H') : tIfS c t1 t2 D σ H := h
theorem s_op {r : R2} {ta tb : TE} {Q : VK} (h : ta σ H fun x H1 => tb σ H1 fun y H2 => r x y H2 Q) : tOp r ta tb σ H Q := h
theorem s_nx (h : D.nx σ H) : tNext D σ H := h
end
end Dear

namespace Dear
open PySem PySem.Spec PyProof.Rows L2
/-! ### an exception that is caught, kept in a name, and asked behind the suite -/
/-- a kept exception at a: its class, its own dict -/
def ExK (cls : Value) (d : Option Addr) (a : Addr) : HO := .ext fun h => ∃ (oe : Obj) (vs : Array Value), h.get? a = some oe ∧ Zc cls d oe ∧ oe.data = .fields vs
theorem exK_ok {P : Program} {w : World} {H : Hp} {h : Heap} {a : Addr} {cls : Value} {d : Option Addr} {oe : Obj} {vs : Array Value} (e : h.get? a = some oe) (z : Zc cls d oe) (dt : oe.data = .fields vs) : ObjOk P w H h a (ExK cls d a) :=
  ⟨⟨oe, vs, e, z, dt⟩, ⟨oe, e⟩, fun _ _ ⟨o, v, q, r⟩ k => ⟨o, v, k o q, r⟩⟩
section
variable {X : Cx} {pins : List (Addr × Obj)} {σ : L2.St} {H : Hp} {s : Shared}
/-- an object that stands there untracked, new since the entry, becomes tracked -/
theorem track (I : Inv X pins σ H s) {a : Addr} {o : HO} {oe : Obj} (he : s.heap.get? a = some oe) (na : H a = none) (n0 : X.s_0.heap.get? a = none) (nL : a ≠ X.env.locals) (nC : ∀ v, oe.data ≠ .cell v)
    (nP : ∀ p ∈ X.pn ++ pins, p.1 ≠ a) (new : ObjOk X.prog X.w (upd H a o) s.heap a o) : Inv X pins σ (upd H a o) s where
  ok := I.ok
  os := I.os
  bare := I.bare
  base := {
    keep := I.base.keep
    slot := I.base.slot
    free := fun b u q n hx => by
      rw [upd_ne fun z => by rw [z, n0] at q; cases q]
      exact I.base.free b u q n hx
    there := I.base.there
    tups := fun b xs q => by
      have z := I.base.tups b xs q
      rw [upd_ne (ne_of_none z na)]
      exact z
    frzs := fun b u v q => by
      have z := I.base.frzs b u v q
      rw [upd_ne (ne_of_none z na)]
      exact z
    tbls := fun b ps q => by
      obtain ⟨m, z⟩ := I.base.tbls b ps q
      exact ⟨m, by rw [upd_ne (ne_of_none z na)]; exact z⟩ }
  loc := I.loc
  cell := I.cell
  free := by rw [upd_ne (Ne.symm nL)]; exact I.free
  freeC := fun x c e => by
    have ne : c ≠ a := fun z => by
      obtain ⟨v, ob, q, dq⟩ := I.cell x c e
      rw [z, he] at q
      cases q
      exact nC v dq
    rw [upd_ne ne]
    exact I.freeC x c e
  pin := fun p hp => by
    obtain ⟨p1, p2, p3⟩ := I.pin p hp
    exact ⟨p1, by rw [upd_ne (nP p hp)]; exact p2, p3⟩
  hok := fun b u e => by
    by_cases hb : b = a
    · subst hb
      rw [upd_same] at e
      cases e
      exact new
    · rw [upd_ne hb] at e
      exact (I.hok b u e).stay (fun _ _ _ q => q) (fun c q => by rw [upd_ne (ne_of_none q na)]; exact q) fun c xs q => by rw [upd_ne (ne_of_none q na)]; exact q
  len := I.len
end
/-- what «except x as n: y = n» wishes of an exception of the body: n's slot is i, y's is j; behind it the exception stands tracked -/
def wKept (K : PySem.W.Frag) (c : Value) (i j : Nat) (Wout : WX) (D : Ends) : WX := fun cls d σ H =>
  ∃ b, PySem.W.exmOne K cls c = some b ∧ (b = true → ∀ a, H a = none → D.nx (((σ.set i (some (.ref a))).set j (some (.ref a))).set i none) (upd H a (ExK cls d a))) ∧ (b = false → Wout cls d σ H)
section
variable {X : Cx} {x n y : Str} {c : Value} {i j : Nat} {body : List Stmt} {np pos pos2 p3 p4 p5 : Pos} {tb : WX → TS} {Wout : WX}
theorem ps_try_kept (hs : X.stack = X.env :: X.outer) (hf : X.env.frame = some X.env.locals) (hex : X.ex = []) (hN : X.N.Nodup) (hi : X.N[i]? = some n) (hj : X.N[j]? = some y) (hij : i ≠ j) (hln : X.env.kindOf n = some .local) (hly : X.env.kindOf y = some .local) (hc : Names X x c) (tk : Takes X Wout)
    (hb : ∀ (W : WX) (pn : List (Addr × Obj)) (xe : Value → Shared → Prop), Takes (X.tr pn xe) W → PassesOwn (model X.prog X.w) X.A X.env xe → PSs (X.tr pn xe) body (tb W))
    (hdn : (n == ("__debug__" : Str)) = false := by decide) (hcd : (n == ("__classdict__" : Str)) = false := by decide) :
    PS X (.Try body [.ExceptHandler (some (.Name x np)) (some n) [.Assign [.Name y p3] (.Name n p4) p5] pos2] [] [] pos) (fun D σ H => tb (wKept X.K c i j Wout D) D σ H) := by
  refine ⟨fun pins s σ H D I h => ?_⟩
  have ok := I.ok
  have frames : X.A.frames = some (X.env :: X.outer) := by rw [ok.frames, hs]
  refine wpAny_Try_except (wpAny_mono ((hb (wKept X.K c i j Wout D) (X.pn ++ pins) _ (fun u s1 air => ?_) PassesOwn.looking).run [] s σ H D (I.toTry _) h) (fun f s1 done => ?_) fun _ _ z => z)
  · obtain ⟨a, B, sI, pins', σ1, H1, cls, d, rfl, J1, nb, up, sky, na, os, ag, b, hm, yes, no⟩ := air
    have J : Inv X pins σ1 H1 sI := J1.ofTry ok
    rw [show X.stack = X.env :: X.outer from hs] at sky
    refine Sky.land Zc.steady frames hf sky fun h3 fl3 up3 => ?_
    have J3 : Inv X pins σ1 H1 { s1 with heap := h3 } := J.landed nb fl3.1 (up.trans up3) os ag
    obtain ⟨oe3, vs3, he3, hz3, hd3⟩ := fl3.there
    have nfr : a ∉ frs (X.env :: X.outer) := fun hm => by
      obtain ⟨_, o', e', hnf⟩ := fl3.2.2.1.mem hm
      rw [he3] at e'
      cases e'
      exact hnf _ hd3
    have nL : a ≠ X.env.locals := fun z => nfr (List.mem_filterMap.mpr ⟨X.env, List.mem_cons_self, by rw [hf, z]⟩)
    have nF : a ∉ X.fs := fun hm => by
      obtain ⟨e, he, q⟩ := List.mem_filterMap.mp hm
      exact nfr (List.mem_filterMap.mpr ⟨e, List.mem_cons_of_mem _ he, q⟩)
    -- it is new: neither there at the entry nor pinned
    have gone : ∀ o, sI.heap.get? a ≠ some o := fun o q => by
      have z := nb a o q (by rw [hs]; exact nfr)
      rw [fl3.2.1] at z
      cases z
    have n0 : X.s_0.heap.get? a = none := by
      cases q : X.s_0.heap.get? a with
      | none => rfl
      | some o =>
        obtain ⟨o', q'⟩ := J.base.there a o q (by rw [hex]; simp)
        exact absurd q' (gone o')
    have nP : ∀ p ∈ X.pn ++ pins, p.1 ≠ a := fun p hp z => gone p.2 (z ▸ (J.pin p hp).1)
    have S3 := J3.suite he3 hd3 na nL nF
    refine wpAny_handleBy_cons (codeAny_handlers_test ?_) (by intro q; cases q)
    have LT : PySem.W.Looks (model X.prog X.w) h3 (typeOf (.ref a)) cls := fun _ _ _ _ k q => wpAny_typeOf_ref (k _ _ he3) (by rw [hz3.1]; exact q)
    have LM := PySem.W.exm_one (M := model X.prog X.w) J3.kIn LT hm
    have named : ∀ {Q : Value → Shared → Prop} {E : Value → Shared → Prop}, Q c { s1 with heap := h3 } → wpAny (model X.prog X.w) (X.A.mark (some (.ref a))) (eval (.Name x np) X.env) Q E { s1 with heap := h3 } := fun {Q E} q => by
      obtain ⟨hg, hdbg, hm | ⟨hm, hv, hnn⟩⟩ := hc
      · exact ld_glob (X := X.suite a ((a, oe3) :: (X.pn ++ pins))) S3 hg hm q hdbg
      · exact ld_blt (X := X.suite a ((a, oe3) :: (X.pn ++ pins))) S3 hg hm hv q hnn hdbg
    refine named (LM.here ?_)
    cases b with
    | true =>
      refine codeAny_handlers_suite_as (HandSPX.lands_againZ fl3 fun h4 fl4 up4 => ?_)
      have J4 : Inv X pins σ1 H1 { s1 with heap := h4 } := J.landed nb fl4.1 ((up.trans up3).trans up4) os ag
      obtain ⟨oe4, vs4, he4, hz4, hd4⟩ := fl4.there
      refine store_ok (X := X.suite a ((a, oe4) :: (X.pn ++ pins))) (v := .ref a) (J4.suite he4 hd4 na nL nF) hN hi (.inl hln) rfl (fun s5 S5 => ?_) (.inr hln)
      have suite : PSs (X.suite a ((a, oe4) :: (X.pn ++ pins))) [.Assign [.Name y p3] (.Name n p4) p5] (tAsg (tVar i) (gName j)) := pss_one (ps_set hN hj (.inl hly) (pe_var hi (.inl hln) hdn hcd) (hf := .inr hly))
      have len1 : i < σ1.length := by
        rw [J.len]
        exact (List.getElem?_eq_some_iff.mp hi).1
      refine wpAny_mono (suite.run [] s5 _ H1 { nx := fun σ' H' => σ' = (σ1.set i (some (.ref a))).set j (some (.ref a)) ∧ H' = H1, rt := fun _ _ => False } S5 ⟨.ref a, by rw [List.getElem?_set_self len1], rfl, rfl⟩) (fun f s6 done => ?_) fun _ _ z => z.elim
      cases f with
      | next =>
        obtain ⟨σ6, H6, S6, rfl, rfl⟩ := done
        have he6 := (S6.pin (a, oe4) (List.mem_append_left _ List.mem_cons_self)).1
        refine gone_ok (track (S6.unsuite ok) (o := ExK cls d a) he6 na n0 nL (fun v q => by rw [hd4] at q; cases q) nP (exK_ok he6 hz4 hd4)) hN hi hln fun s7 J7 => ⟨_, _, J7, yes rfl a na⟩
      | brk =>
        obtain ⟨_, _, _, z⟩ := done
        exact z.elim
      | cont =>
        obtain ⟨_, _, _, z⟩ := done
        exact z.elim
      | ret u =>
        obtain ⟨_, _, _, _, _, z⟩ := done
        exact z.elim
    | false =>
      show wpAny _ X.A (handleBy (.ref a) X.env []) _ _ _
      refine wpAny_handleBy_nil ?_
      obtain ⟨_, _, _, oe, vs, T, _, _, he, _, hd, h1, _⟩ := id fl3
      unfold PySem.passOn
      refine wpAny_bind (wpAny_field he hd h1 ?_)
      rw [if_neg (show ¬ ((Value.ref T == Value.none) = true) from by simp)]
      have fin : wpAny (model X.prog X.w) X.A (setFlight (.ref a) X.env.frame) (fun _ s4 => wpAny (model X.prog X.w) X.A (throw (.ref a) : Sem Flow) (SP X pins D) X.xe s4) X.xe { s1 with heap := h3 } := by
        rw [hf]
        exact HandSPX.setFlight_upZ fl3 fun h4 hh4 up4 => wpAny_throw (tk _ _ ⟨a, B, sI, pins, σ1, H1, cls, d, rfl, J, nb, (up.trans up3).trans up4, .inr (.inr (by rw [hs]; exact hh4)), na, os, ag, no rfl⟩)
      first
        | exact wpAny_bind (wpAny_pure (wpAny_bind fin))
        | exact wpAny_bind fin
  · cases f with
    | next =>
      obtain ⟨σ', H', J', q⟩ := done
      exact wpAny_execs_nil ⟨σ', H', J'.ofTry ok, q⟩
    | brk =>
      obtain ⟨σ', H', J', q⟩ := done
      exact ⟨σ', H', J'.ofTry ok, q⟩
    | cont =>
      obtain ⟨σ', H', J', q⟩ := done
      exact ⟨σ', H', J'.ofTry ok, q⟩
    | ret u =>
      obtain ⟨v, σ', H', J', r, q⟩ := done
      exact ⟨v, σ', H', J'.ofTry ok, r, q⟩
end
/-! ### isinstance of a kept exception -/
/-- the object as the library's rules want it -/
theorem instAt_kept {h : Heap} {a D : Addr} {oe : Obj} {vs : Array Value} (e : h.get? a = some oe) (z : Zc (.ref D) none oe) (d : oe.data = .fields vs) : PySem.W.InstAt h a oe D none := by
  obtain ⟨oc, od, oda, osl⟩ := oe
  obtain ⟨h1, h2⟩ := z
  dsimp only at h1 h2 d
  subst h1 h2 d
  exact ⟨e, rfl, rfl, trivial⟩
def rIsX (K : PySem.W.Frag) : List V → Hp → VK → Prop := fun xs H Q => ∃ (a D : Addr) (c : V) (u : Value) (b : Bool), xs = [.ref a, c] ∧ H a = some (ExK (.ref D) none a) ∧ ExcC K D ∧ ClsV c u ∧ PySem.W.kitOne K (.ref D) u = some b ∧ Q (.bl b) H
def rIsXT (K : PySem.W.Frag) : List V → Hp → VK → Prop := fun xs H Q => ∃ (a D tp : Addr) (cs : List V) (us : List Value) (b : Bool), xs = [.ref a, .ref tp] ∧ H a = some (ExK (.ref D) none a) ∧ ExcC K D ∧ H tp = some (.tup cs) ∧ Paired ClsV cs us ∧ PySem.W.kitAny K (.ref D) us = some b ∧ Q (.bl b) H
section
variable {X : Cx} (K : PySem.W.Frag)
theorem call_isX_k (hk : X.K = K := by rfl) : CallR X (.builtin "isinstance") (rIsX K) := by
  subst hk
  intro pins s σ H xs us Q I r h
  obtain ⟨a, D, c, u, b, rfl, ha, C, k, e, q⟩ := h
  obtain ⟨u1, u2, rfl, r1, r2⟩ := vals2 r
  have e2 := k.eq r2
  subst e2
  cases r1
  obtain ⟨⟨oe, vs, he, hz, hd⟩, _⟩ := I.hok a _ ha
  exact PySem.W.kia_one (PySem.W.handS_kitx_exc C.hg C.hk C.hs C.hd C.ha C.hn C.ht C.hm) I.kIn (instAt_kept he hz hd) e (fun z => nomatch z) fun tk => ⟨.bl b, H, I.tok tk, rfl, q⟩
theorem call_isXT_k (hk : X.K = K := by rfl) : CallR X (.builtin "isinstance") (rIsXT K) := by
  subst hk
  intro pins s σ H xs us Q I r h
  obtain ⟨a, D, tp, cs, ws, b, rfl, ha, C, hT, k, e, q⟩ := h
  obtain ⟨u1, u2, rfl, r1, r2⟩ := vals2 r
  cases r1
  cases (show u2 = Value.ref tp from r2)
  obtain ⟨⟨oe, vs, he, hz, hd⟩, _⟩ := I.hok a _ ha
  obtain ⟨_, its, rv, o, h1, h2, n, h3⟩ := (show ObjOk X.prog X.w H s.heap tp (.tup cs) from I.hok tp _ hT)
  have e3 := ClsV.all k rv
  subst e3
  obtain ⟨oc, od, dt, sl⟩ := o
  simp only at h2 h3
  subst h2 h3
  exact PySem.W.kia_tup (PySem.W.handS_kitx_exc C.hg C.hk C.hs C.hd C.ha C.hn C.ht C.hm) I.kIn (instAt_kept he hz hd) h1 e (fun z => nomatch z) fun tk => ⟨.bl b, H, I.tok tk, rfl, q⟩
end
/-! ### facts of own exception classes, calls of defs that raise, defs with defaults -/
/-- an own exception class over ValueError, without an own __init__ -/
structure ExOwn (K : PySem.W.Frag) (mg : Str → Option Value) (x : Str) (C : Addr) : Prop where
  g : mg x = some (.ref C)
  x : PySem.W.excIn K C [.type "ValueError", .type "Exception", .type "BaseException", .type "object"] "ValueError.__new__" = true
  k : PySem.W.keepIn K (.ref C) = true
  b : PySem.W.subIn K (.ref C) (.type "BaseException") = some true
  t : PySem.W.typeIn K (.ref C) = some (.type "type")
  c : ExcC K C
theorem kit_ref {K : PySem.W.Frag} {A C : Addr} {b : Bool} (n : (Value.ref A == Value.ref C) = false) (i : PySem.W.isClsIn K C = true) (t : PySem.W.typeIn K (.ref C) = some (.type "type")) (q : PySem.W.subIn K (.ref A) (.ref C) = some b) : PySem.W.kitOne K (.ref A) (.ref C) = some b := by
  unfold PySem.W.kitOne
  rw [if_neg (by rw [n]; exact Bool.false_ne_true)]
  have i' : (PySem.W.clsIn K C).isSome = true := i
  show (if ((PySem.W.clsIn K C).isSome && PySem.W.typeIn K (.ref C) == some (.type "type")) = true then PySem.W.subIn K (.ref A) (.ref C) else none) = some b
  rw [i', t, if_pos (by simp)]
  exact q
theorem kit_self {K : PySem.W.Frag} {C : Addr} : PySem.W.kitOne K (.ref C) (.ref C) = some true := by
  unfold PySem.W.kitOne
  rw [if_pos (by simp)]
theorem kit_val {K : PySem.W.Frag} {A : Addr} (q : PySem.W.subIn K (.ref A) (.type "ValueError") = some true) : PySem.W.kitOne K (.ref A) (.type "ValueError") = some true := by
  unfold PySem.W.kitOne
  rw [if_neg (by simp)]
  have m : PySem.W.kitMeta "ValueError" = true := by decide +kernel
  show (if PySem.W.kitMeta "ValueError" = true then PySem.W.subIn K (.ref A) (.type "ValueError") else none) = some true
  rw [if_pos m]
  exact q
theorem exm_ref2 {K : PySem.W.Frag} {A C : Addr} {b : Bool} (h1 : PySem.W.subIn K (.ref C) (.type "BaseException") = some true) (i : PySem.W.isClsIn K C = true) (t : PySem.W.typeIn K (.ref C) = some (.type "type")) (q : PySem.W.subIn K (.ref A) (.ref C) = some b) : PySem.W.exmOne K (.ref A) (.ref C) = some b := by
  have i' : (PySem.W.clsIn K C).isSome = true := i
  show (if (PySem.W.subIn K (.ref C) (.type "BaseException") == some true) = true then (if ((PySem.W.clsIn K C).isSome && PySem.W.typeIn K (.ref C) == some (.type "type")) = true then PySem.W.subIn K (.ref A) (.ref C) else none) else none) = some b
  rw [h1, i', t, if_pos (by simp), if_pos (by simp)]
  exact q
/-- none of some classes -/
theorem kit_none {K : PySem.W.Frag} {t : Value} : ∀ {us : List Value}, (∀ u ∈ us, PySem.W.kitOne K t u = some false) → PySem.W.kitAny K t us = some false
  | [], _ => rfl
  | u :: us, h => kitAny_cons (h u List.mem_cons_self) (fun _ => kit_none fun x hx => h x (List.mem_cons_of_mem _ hx)) (fun z => by cases z)
theorem cls_all : ∀ {cs : List Addr}, Paired ClsV (cs.map V.ref) (cs.map Value.ref)
  | [] => .nil
  | c :: _ => .cons (.own c) cls_all
/-- a def with defaults dvs, and with its promise -/
def DfD (K : PySem.W.Frag) (mg : Str → Option Value) (x : Str) (st : Stmt) (ps : List Str) (dvs : List V) : Prop :=
  ∃ (f : Addr) (fd : FuncData), mg x = some (.ref f) ∧ FunD K x x (defArgs st) (defBody st) (defScope st) dvs [] f fd ∧ (∃ ds, Vals dvs ds ∧ Binds K fd ps ds) ∧ Binds K fd ps []
def OkD (P : Program) (w : World) (K : PySem.W.Frag) (mg : Str → Option Value) (base : Heap) (CX : CXT) (k : Nat) (x : Str) (ps : List Str) (dvs : List V) (sp : Sp) : Prop :=
  ∃ (f : Addr) (fd : FuncData), mg x = some (.ref f) ∧ PySem.W.keepIn K (.ref f) = true ∧ (∃ ds, Vals dvs ds ∧ Binds K fd ps ds) ∧ Binds K fd ps [] ∧ FnOk P w K mg base CX k f fd ps sp
theorem dfD_mk {K : PySem.W.Frag} {mg : Str → Option Value} {x : Str} {st : Stmt} {ps : List Str} {dvs : List V} {f T : Addr} {oc oC kV dc pm cd ct : Value} {od oD an : Option Addr} {sl sD : Array (Option Value)} {its : List Value} {n : Nat}
    (hm : mg x = some (.ref f)) (l : K.lookup f = some ⟨oc, od, .func (PySem.W.fnOf x x (defArgs st) (defBody st) (defScope st) (.ref T) kV dc pm an cd ct), sl⟩) (c : PySem.W.codeIn K cd x = true) (k : PySem.W.keepIn K (.ref f) = true)
    (d : K.lookup T = some ⟨oC, oD, .seq its.toArray n, sD⟩) (r : Vals dvs its) (hd : dvs ≠ []) {m : Nat} (hn : m + dvs.length = ps.length) (hz : dvs.drop dvs.length = [])
    (h1 : ∀ (T : Addr) (kV doc pm : Value) (an : Option Addr) (cdv ct : Value) (us its : List Value), us.length = m → its.length = dvs.length →
      ∃ k, bindArgs (PySem.W.fnOf x x (defArgs st) (defBody st) (defScope st) (.ref T) kV doc pm an cdv ct) ⟨us, []⟩ = seqItems? (.ref T) >>= k ∧ k (some its.toArray) = pure (ps.zip (us ++ its.drop 0)))
    (h2 : ∀ (T : Addr) (kV doc pm : Value) (an : Option Addr) (cdv ct : Value) (us its : List Value), us.length = ps.length → its.length = dvs.length →
      ∃ k, bindArgs (PySem.W.fnOf x x (defArgs st) (defBody st) (defScope st) (.ref T) kV doc pm an cdv ct) ⟨us, []⟩ = seqItems? (.ref T) >>= k ∧ k (some its.toArray) = pure (ps.zip (us ++ its.drop dvs.length))) : DfD K mg x st ps dvs := by
  have F : FunD K x x (defArgs st) (defBody st) (defScope st) dvs [] f (PySem.W.fnOf x x (defArgs st) (defBody st) (defScope st) (.ref T) kV dc pm an cd ct) :=
    ⟨⟨oc, od, .ref T, kV, dc, pm, an, cd, ct, sl, rfl, l, c, .inr ⟨hd, T, _, its, n, rfl, d, rfl, r⟩, .inl rfl⟩, k⟩
  refine ⟨f, _, hm, F, F.binds1 m 0 hd (by omega) h1, ?_⟩
  obtain ⟨ds, v, b⟩ := F.binds1 ps.length dvs.length hd (by omega) h2
  rw [hz] at v
  cases v
  exact b
section
variable {P : Program} {w : World} {K : PySem.W.Frag} {mg : Str → Option Value} {base : Heap}
theorem DfD.ok {CX : CXT} {x : Str} {st : Stmt} {N ps : List Str} {dvs : List V} {k : Nat} {sp : Sp} (D : DfD K mg x st ps dvs) (S : FnScope N ps (defScope st)) (len : ∀ vs H Q E, sp vs H Q E → vs.length = ps.length)
    (hbody : ∀ (f : Addr) (cdv : Value) (A : Around) (outer : List Env) (s : Shared) (H : Hp) (vs : List V) (Q : VK) (E : XK), Room k (A.deeper (envOfC x (defScope st) s.heap.objs.size f cdv)) → sp vs H Q E →
      ∃ t, PSs (cxOf CX P w K mg base N x (defScope st) f cdv A outer s H E) (defBody st) t ∧ t { nx := fun _ H' => Q .non H', rt := Q } (start N vs) H) : OkD P w K mg base CX (k + 1) x ps dvs sp := by
  obtain ⟨f, fd, hm, F, hb, hb0⟩ := D
  exact ⟨f, fd, hm, F.kp, hb, hb0, F.ok S len (hbody f)⟩
/-- a def that may raise -/
theorem Df.okX {x : Str} {st : Stmt} {N ps : List Str} {k : Nat} {sp : Sp} (D : Df K mg x st ps) (S : FnScope N ps (defScope st)) (len : ∀ vs H Q E, sp vs H Q E → vs.length = ps.length)
    (hbody : ∀ (f : Addr) (cdv : Value) (A : Around) (outer : List Env) (s : Shared) (H : Hp) (vs : List V) (Q : VK) (E : XK), Room k (A.deeper (envOfC x (defScope st) s.heap.objs.size f cdv)) → sp vs H Q E →
      ∃ t, PSs (cxOf (L2.CX P w) P w K mg base N x (defScope st) f cdv A outer s H E) (defBody st) t ∧ t { nx := fun _ H' => Q .non H', rt := Q } (start N vs) H) : OkF P w K mg base (L2.CX P w) (k + 1) x ps sp := by
  obtain ⟨f, fd, hm, F, hb⟩ := D
  exact ⟨f, fd, hm, F.kp, hb, F.okX S len (hbody f)⟩
end
section
variable {X : Cx} {k k' : Nat} {x : Str} {ps : List Str} {sp : Sp} {e : Expr} {es : List Expr} {t : TA} {p pos : Pos} {W : WX} {dvs : List V}
/-- f(e, ..) where f may raise -/
theorem pe_cx (O : OkF X.prog X.w X.K X.mg X.base (L2.CX X.prog X.w) k x ps sp) (hr : Room k' X.A) (tk : Takes X W) (ha : PA X (e :: es) t) (hk : k ≤ k' := by decide) (hg : Gl X x := by rfl)
    (hdb : (x == ("__debug__" : Str)) = false := by decide) (he : starEach (e :: es) X.env = (false, eval e X.env) :: starEach es X.env := by rfl) (hpl : (backTo pos (starEach es X.env)).any (·.1) = false := by rfl) :
    PE X (.Call (.Name x p) (e :: es) [] pos) (tCallS sp (WE W) t) := by
  obtain ⟨f, fd, hm, hkp, hb, F⟩ := O
  exact pe_callS F (hr.mono hk) hg hm hkp hb (fun σ => passAt tk σ) ha hdb he hpl
/-- the same, f with defaults, all arguments written -/
theorem pe_cxn (O : OkD X.prog X.w X.K X.mg X.base (L2.CX X.prog X.w) k x ps dvs sp) (hr : Room k' X.A) (tk : Takes X W) (ha : PA X (e :: es) t) (hk : k ≤ k' := by decide) (hg : Gl X x := by rfl)
    (hdb : (x == ("__debug__" : Str)) = false := by decide) (he : starEach (e :: es) X.env = (false, eval e X.env) :: starEach es X.env := by rfl) (hpl : (backTo pos (starEach es X.env)).any (·.1) = false := by rfl) :
    PE X (.Call (.Name x p) (e :: es) [] pos) (tCallS sp (WE W) t) := by
  obtain ⟨f, fd, hm, hkp, _, hb, F⟩ := O
  exact pe_callS F (hr.mono hk) hg hm hkp hb (fun σ => passAt tk σ) ha hdb he hpl
/-- the same, the defaults fill up -/
def tCallD (sp : Sp) (dvs : List V) (E : L2.St → XK) (t : TA) : TE := fun σ H Q => t σ H fun vs H1 => sp (vs ++ dvs) H1 Q (E σ)
theorem pe_cxd (O : OkD X.prog X.w X.K X.mg X.base (L2.CX X.prog X.w) k x ps dvs sp) (hr : Room k' X.A) (tk : Takes X W) (ha : PA X (e :: es) t) (hk : k ≤ k' := by decide) (hg : Gl X x := by rfl)
    (hdb : (x == ("__debug__" : Str)) = false := by decide) (he : starEach (e :: es) X.env = (false, eval e X.env) :: starEach es X.env := by rfl) (hpl : (backTo pos (starEach es X.env)).any (·.1) = false := by rfl) :
    PE X (.Call (.Name x p) (e :: es) [] pos) (tCallD sp dvs (WE W) t) := by
  obtain ⟨f, fd, hm, hkp, ⟨ds, hv, hb⟩, _, F⟩ := O
  refine ⟨fun pins s σ H Q I h => ?_⟩
  refine wpAny_Call_Name_kw (ld_glob I hg hm ?_ hdb)
  refine PySem.W.callWith_K (h₀ := X.base) I.ok.mod.kin hkp (thn (ha.run pos pins s σ H _ I h) fun us s1 ⟨vs, H1, I1, r, q⟩ => ⟨I1.kIn, ?_⟩) he hpl
  have hl : (vs ++ dvs).length = ps.length := F.len _ _ _ _ q
  have b := hb s1 us I1.kIn (by rw [← hl, List.length_append, List.length_append, r.length, hv.length])
  refine wpAny_call (codeAny_mono (F.run X.A X.stack s1 H1 ⟨us, []⟩ (us ++ ds) (vs ++ dvs) Q (WE W σ) (hr.mono hk) I1.env0 b (r.append hv) q) fun rr s2 hq => ?_)
  cases rr with
  | error e => exact passAt tk σ pins H1 s1 e s2 I1 hq
  | ok fl =>
    cases fl with
    | ret u => exact I1.after hq
    | next => exact False.elim hq
    | brk => exact False.elim hq
    | cont => exact False.elim hq
end
end Dear

namespace Dear
open PySem PySem.Spec PyProof.Rows L2
/-! ### own exceptions with an own __init__: X(DearError), DearError.__init__(self, f'..{f}'), self.f = f -/
/-- what may stand in such a field -/
def FmtV (v : V) : Prop := v = .non ∨ (∃ y : Str, v = .str y ∧ y.length ≤ 900) ∨ ∃ i : Int, v = .int i ∧ i.natAbs < 2 ^ 64
theorem int_len {i : Int} (h : i.natAbs < 2 ^ 64) : (Str.ofString (toString i)).length ≤ 900 ∧ i.natAbs.log2 < 1920 := by
  constructor
  · have e := int_text_length_le10 (k := 30) (a := i) (by decide) (Nat.lt_of_lt_of_le h (by decide))
    rw [PySem.ofString_length]
    omega
  · have e : i.natAbs.log2 < 64 := PySem.Flt.log2_lt_of (by decide) h
    omega
section
variable {X : Cx}
/-- {x} of None, a text, a number: some short text -/
def tFmtN (te : TE) : TE := fun σ H Q => te σ H fun x H1 => FmtV x ∧ ∀ z : Str, z.length ≤ 900 → Q (.str z) H1
theorem pe_fmtN {e : Expr} {te : TE} {pos : Pos} (he : PE X e te) : PE X (.FormattedValue e (-1) none pos) (tFmtN te) := by
  refine ⟨fun pins s σ H Q I h => wpAny_FormattedValue_plain (thn (he.run pins s σ H _ I h) fun v s1 hv => ?_)⟩
  obtain ⟨x, H1, J, r, hx, q⟩ := hv
  rcases hx with e | ⟨y, e, hy⟩ | ⟨i, e, hi⟩
  · subst e
    cases (show v = Value.none from r)
    exact wpAny_formatField_none ⟨.str "None", H1, (J.tok _), ⟨_, rfl⟩, q _ (by decide +kernel)⟩
  · subst e
    obtain ⟨t, e⟩ := r
    subst e
    have q' := q y hy
    exact wpAny_formatField_str ⟨.str y, H1, J, ⟨t, rfl⟩, q'⟩ ⟨.str y, H1, J.tok _, ⟨_, rfl⟩, q'⟩ (Nat.le_trans hy (by decide))
  · subst e
    obtain ⟨t, e⟩ := r
    subst e
    exact wpAny_formatField_int (int_len hi).2 ⟨.str (Str.ofString (toString i)), H1, J.tok _, ⟨_, rfl⟩, q _ (int_len hi).1⟩
end
/-- C.__init__ of an own exception class without an own one is ValueError's -/
structure DrI (K : PySem.W.Frag) (mg : Str → Option Value) (x : Str) (C : Addr) : Prop where
  g : mg x = some (.ref C)
  s : PySem.W.specialIn K (.ref C) "__getattribute__" = some (some (.builtin "type.__getattribute__"))
  r : PySem.W.readsIn K C (.type "type") = true
  v : PySem.W.findCls K (.ref C) (.type "type") "__init__" = some (.val (.builtin "ValueError.__init__"))
section
variable {X : Cx}
theorem pe_drinit {e : Expr} {es : List Expr} {ta : TA} {x : Str} {C0 : Addr} {pl : Sem Bool} {p1 p2 pos : Pos} (T : DrI X.K X.mg x C0) (ha : PA X (e :: es) ta) (hg : Gl X x := by rfl) (hdb : (x == ("__debug__" : Str)) = false := by decide)
    (hc : eval (.Call (.Attribute (.Name x p1) "__init__" p2) (e :: es) [] pos) X.env = (do
      let o9 ← eval (.Name x p1) X.env
      standAt p2.atName
      let (f9, r9) ← holding [o9] (getMethod o9 "__init__" pl)
      callWith pos f9 r9 (backTo pos (starEach (e :: es) X.env)) (backToKw pos (keywordEach [] X.env))) := by rfl)
    (he : starEach (e :: es) X.env = (false, eval e X.env) :: starEach es X.env := by rfl) (hpl : (backTo pos (starEach es X.env)).any (·.1) = false := by rfl) :
    PE X (.Call (.Attribute (.Name x p1) "__init__" p2) (e :: es) [] pos) (tVeI X.K ta) := by
  refine ⟨fun pins s σ H Q I h => PySem.W.methodCall_KW (ld_glob I hg T.g ?_ hdb) hc⟩
  refine PySem.W.method_cls I.kIn T.s (PySem.W.cls_value I.kIn T.r T.v (by decide +kernel) ?_)
  show wpAny (model X.prog X.w) X.A (callWith pos (Value.builtin "ValueError.__init__") [] (backTo pos (starEach (e :: es) X.env)) []) _ _ _
  refine PyProof.Rows.callWith_method1 (thn (ha.run pos pins _ σ H _ (I.tok _) h) fun us s1 hh => ?_) he hpl
  obtain ⟨vs, H1, J, r, a, C, ws, ev, hl, O, ea, q⟩ := hh
  subst ev
  cases r with
  | @cons _ u0 _ ur ra rr =>
    cases (show u0 = Value.ref a from ra)
    exact oinit_ok O J ea (by rw [← Paired.length rr]; exact Nat.le_trans hl (by decide)) fun s' J' => ⟨.non, H1, J', rfl, q⟩
end
/-- the promise of such an __init__ -/
def spExI (f : Str) (K : PySem.W.Frag) : Sp := fun vs H Q _ => ∃ (a C : Addr) (v : V), vs = [.ref a, v] ∧ OexC K C ∧ PySem.W.findIn K (.ref C) f = some none ∧ H a = some (exo a C none) ∧ FmtV v ∧
  ∀ dx, H dx = none → dx ≠ a → Q .non (upd (upd H dx (exd dx [(f, v)])) a (exo a C (some dx)))
/-- what the written part says of the class at C -/
structure ExInit (K : PySem.W.Frag) (mg : Str → Option Value) (x f : Str) (C : Addr) : Prop where
  g : mg x = some (.ref C)
  o : OexC K C
  n : PySem.W.findIn K (.ref C) f = some none
  c : ExcC K C
def OkI (P : Program) (w : World) (K : PySem.W.Frag) (mg : Str → Option Value) (base : Heap) (x f : Str) (C : Addr) : Prop :=
  ∃ (fI : Addr) (fd : FuncData), PySem.W.findIn K (.ref C) "__init__" = some (some (.ref fI)) ∧ PySem.W.typeIn K (.ref fI) = some (.type "function") ∧ FnOk P w K mg base CX0 1 fI fd ["self", f] (spExI f K) ∧ Binds K fd ["self", f] [] ∧ ExInit K mg x f C
/-- the def __init__ of the class at C -/
def DfI (K : PySem.W.Frag) (C : Addr) (q : Str) (st : Stmt) (f : Str) : Prop := ∃ (fI : Addr) (fd : FuncData), PySem.W.findIn K (.ref C) "__init__" = some (some (.ref fI)) ∧ PySem.W.typeIn K (.ref fI) = some (.type "function") ∧ Fun K "__init__" q st fI fd ∧ Binds K fd ["self", f] []
section
variable {X : Cx}
theorem pmk_i {k' : Nat} {x f : Str} {C : Addr} {e : Expr} {ta : TA} {p pos : Pos} (O : OkI X.prog X.w X.K X.mg X.base x f C) (hr : Room k' X.A) (ha : PA X [e] ta) (hk : 2 ≤ k' := by decide) (hg : Gl X x := by rfl) (hdb : (x == ("__debug__" : Str)) = false := by decide)
    (he : starEach [e] X.env = (false, eval e X.env) :: starEach [] X.env := by rfl) (hpl : (backTo pos (starEach [] X.env)).any (·.1) = false := by rfl) : PMk X (.Call (.Name x p) [e] [] pos) (tMkO C (spExI f X.K) [] ta) := by
  obtain ⟨fI, fd, h1, h2, F, b, T⟩ := O
  exact pmk_oex T.o h1 h2 F (hr.mono hk) b .nil pass0 hg T.g ha hdb he hpl
end
/-- making it, at its reading -/
theorem mkx {K : PySem.W.Frag} {mg : Str → Option Value} {x f : Str} {C : Addr} {H : Hp} {v : V} {Q : XK} (T : ExInit K mg x f C) (fv : FmtV v) (q : ∀ d, H d = none → Q (.ref C) (some d) (upd H d (.xd [(f, v)]))) :
    [v].length ≤ 1000 ∧ ∀ a, H a = none → spExI f K (.ref a :: ([v] ++ [])) (upd H a (exo a C none)) (fun u H2 => u = .non ∧ ∃ (d : Addr) (fs : List (Str × V)), H2 a = some (exo a C (some d)) ∧ H2 d = some (exd d fs) ∧ H d = none ∧ Q (.ref C) (some d) (upd (del H2 a) d (.xd fs))) (fun _ _ _ => False) := by
  refine ⟨(by decide : 1 ≤ 1000), fun a ha => ⟨a, C, v, rfl, T.o, T.n, upd_same, fv, fun dx hd ne => ⟨rfl, dx, [(f, v)], upd_same, ?_, ?_, ?_⟩⟩⟩
  · rw [upd_ne ne, upd_same]
  · rw [upd_ne ne] at hd
    exact hd
  · rw [upd_ne ne] at hd
    have e : upd (del (upd (upd (upd H a (exo a C none)) dx (exd dx [(f, v)])) a (exo a C (some dx))) a) dx (.xd [(f, v)]) = upd H dx (.xd [(f, v)]) := by
      funext b
      by_cases h1 : b = dx
      · subst h1
        rw [upd_same, upd_same]
      · rw [upd_ne h1, upd_ne h1]
        by_cases h2 : b = a
        · subst h2
          rw [del_same, ha]
        · rw [del_ne h2, upd_ne h2, upd_ne h1, upd_ne h2]
    rw [e]
    exact q dx hd
/-! ### a kept exception with a dict: isinstance, its field -/
/-- the exception of the class D at a, with its dict or without -/
def ExAt (H : Hp) (D a : Addr) : Prop := H a = some (ExK (.ref D) none a) ∨ ∃ (dd : Addr) (fs : List (Str × V)), H a = some (ExK (.ref D) (some dd) a) ∧ H dd = some (.xd fs)
section
variable {prog : Program} {w : World} {A : Around} {E : Value → Shared → Prop} {s : Shared} {K : PySem.W.Frag} {x D : Addr} {ox : Obj} {od : Option Obj}
open PySem.W in
theorem class_of_exc {Q : Option Value → Shared → Prop} (C : ExcC K D) (X : K.In s.heap) (I : InstAt s.heap x ox D od) (h : Q (some (.ref D)) { s with toks := s.toks + 1 }) : wpAny (model prog w) A (getAttr? (.ref x) "__class__") Q E s := by
  obtain ⟨cd, hc, _⟩ := any_some C.hd
  have found : findObj K D od "__class__" = some (.bind (.builtin "getset_descriptor.__get__") (.builtin "object.__class__")) := by
    unfold findObj
    rw [hc, Option.bind_some, C.ha, Option.bind_some]
    simp [C.hn, C.ht]
  obtain ⟨hp, g, d, t, os⟩ := s
  have M0 := I.type (M := model prog w)
  have no : (Value.builtin "BaseException.__getattribute__" == Value.builtin "object.__getattribute__") = false := by decide +kernel
  have isE : Looks (model prog w) hp (isInstance (.ref x) (.type "BaseException")) true := M0.andThen (looks_subIn X C.hs)
  unfold getAttr? getAttrBy? getAttrBy
  refine wpAny_bind (wpAny_mkText (wpAny_bind (wpAny_attempt (wpAny_holding (wpAny_bind (M0.at (wpAny_bind ((looks_findIn (M := model prog w) X C.hg).at ?_))))))))
  show wpAny (model prog w) _ (if (true && Value.builtin "BaseException.__getattribute__" == Value.builtin "object.__getattribute__") = true then _ else _) _ _ _
  rw [no, if_neg (by decide)]
  unfold getAttrByItsOwn hookBefore
  refine wpAny_bind ?_
  rw [if_pos (show onTheHeap (.ref D) = true from rfl)]
  refine (looks_findIn (M := model prog w) X C.hk).at (wpAny_bind (wpAny_attempt (wpAny_holding ?_)))
  unfold callGetattribute
  rw [if_neg (by decide)]
  unfold boundAndCalled
  rw [F.excAttr_ValueError.ga.bind (.ref x)]
  refine wpAny_bind (wpAny_pure ?_)
  show wpAny (model prog w) _ (call (.builtin "BaseException.__getattribute__") [.ref x, .str "__class__" t]) _ _ _
  refine wpAny_call (codeAny_call_builtin F.excAttr_ValueError.ga.plain F.entry_bexc_ga (@check_slot (model prog w) _ _ ⟨hp, g, d, t + 1, os⟩ "BaseException.__getattribute__" "BaseException" "__getattribute__" (.ref x) [.str "__class__" t] [] _ (by decide +kernel) (by decide +kernel) isE (F.args_bexc_ga (.ref x) (.str "__class__" t)) ?_))
  unfold Builtin.«object.__getattribute__»
  refine wpAny_bind (wpAny_of_eq (a := ((Value.ref x : Value), [Value.str "__class__" t])) (by first | (simp only [slotArgs]; rfl) | rfl) (wpAny_bind (wpAny_pure (wpAny_bind (M0.at (wpAny_bind ((looks_find (M := model prog w) X I found).at ?_)))))))
  show wpAny (model prog w) _ (holding [Value.builtin "object.__class__"] (call (.builtin "getset_descriptor.__get__") [.builtin "object.__class__", .ref x, .ref D]) >>= ret) _ _ _
  refine wpAny_bind (wpAny_holding (wpAny_call (class_get (s := ⟨hp, g, d, t + 1, os⟩) (ox := ox) (od := od) X I C.hm (wpAny_pure ?_))))
  show wpAny (model prog w) _ (handedOut (.ref D)) _ _ _
  rw [handedOut_of (v := .ref D) rfl]
  first
    | exact wpAny_pure (wpAny_pure h)
    | exact wpAny_pure h
    | exact wpAny_pure (wpAny_bind (wpAny_pure (wpAny_pure h)))
open PySem.W in
theorem kitx_own (C : ExcC K D) : KitX K (.ref x) (.ref D) (fun h => InstAt h x ox D od) := by
  have Z := handS_kitx_exc (x := x) (ox := ox) C.hg C.hk C.hs C.hd C.ha C.hn C.ht C.hm
  refine ⟨fun _ _ _ I => I.type, fun M h X _ => ?_, Z.ne, fun X I k => class_of_exc C X I k⟩
  obtain ⟨cd, hc, _⟩ := any_some C.hd
  unfold clsIn at hc
  split at hc
  · rename_i ho
    intro A' Q' E' s' k q
    unfold isType loadHead
    exact wpAny_bind (wpAny_loadPart (k _ _ (X _ _ ho)) (wpAny_pure q))
  · cases hc
end
def rIsY (K : PySem.W.Frag) : List V → Hp → VK → Prop := fun xs H Q => ∃ (a D : Addr) (c : V) (u : Value) (b : Bool), xs = [.ref a, c] ∧ ExAt H D a ∧ ExcC K D ∧ ClsV c u ∧ PySem.W.kitOne K (.ref D) u = some b ∧ Q (.bl b) H
def rIsYT (K : PySem.W.Frag) : List V → Hp → VK → Prop := fun xs H Q => ∃ (a D tp : Addr) (cs : List V) (us : List Value) (b : Bool), xs = [.ref a, .ref tp] ∧ ExAt H D a ∧ ExcC K D ∧ H tp = some (.tup cs) ∧ Paired ClsV cs us ∧ PySem.W.kitAny K (.ref D) us = some b ∧ Q (.bl b) H
section
variable {X : Cx} {pins : List (Addr × Obj)} {σ : L2.St} {H : Hp} {s : Shared}
theorem inst_of (I : Inv X pins σ H s) {D a : Addr} (h : ExAt H D a) : ∃ oe od, PySem.W.InstAt s.heap a oe D od := by
  rcases h with h | ⟨dd, fs, h, hd⟩
  · obtain ⟨⟨oe, vs, he, hz, hv⟩, _⟩ := I.hok a _ h
    exact ⟨oe, none, instAt_kept he hz hv⟩
  · obtain ⟨⟨oe, vs, he, hz, hv⟩, _⟩ := I.hok a _ h
    have hx : ObjOk X.prog X.w H s.heap dd (.xd fs) := I.hok dd _ hd
    obtain ⟨mA, hns, _⟩ := hx
    obtain ⟨od, ho, _⟩ := lookIn_ns hns
    exact ⟨oe, some od, he, hz.1, by unfold PySem.W.notCls; rw [hv] <;> rfl, by rw [hz.2]; exact ho⟩
end
section
variable {X : Cx} (K : PySem.W.Frag)
theorem call_isY_k (hk : X.K = K := by rfl) : CallR X (.builtin "isinstance") (rIsY K) := by
  subst hk
  intro pins s σ H xs us Q I r h
  obtain ⟨a, D, c, u, b, rfl, ha, C, k, e, q⟩ := h
  obtain ⟨u1, u2, rfl, r1, r2⟩ := vals2 r
  have e2 := k.eq r2
  subst e2
  cases r1
  obtain ⟨oe, od, J⟩ := inst_of I ha
  exact PySem.W.kia_one (kitx_own C) I.kIn J e (fun z => nomatch z) fun tk => ⟨.bl b, H, I.tok tk, rfl, q⟩
theorem call_isYT_k (hk : X.K = K := by rfl) : CallR X (.builtin "isinstance") (rIsYT K) := by
  subst hk
  intro pins s σ H xs us Q I r h
  obtain ⟨a, D, tp, cs, ws, b, rfl, ha, C, hT, k, e, q⟩ := h
  obtain ⟨u1, u2, rfl, r1, r2⟩ := vals2 r
  cases r1
  cases (show u2 = Value.ref tp from r2)
  obtain ⟨oe, od9, J⟩ := inst_of I ha
  obtain ⟨_, its, rv, o, h1, h2, n, h3⟩ := (show ObjOk X.prog X.w H s.heap tp (.tup cs) from I.hok tp _ hT)
  have e3 := ClsV.all k rv
  subst e3
  obtain ⟨oc, od, dt, sl⟩ := o
  simp only at h2 h3
  subst h2 h3
  exact PySem.W.kia_tup (kitx_own C) I.kIn J h1 e (fun z => nomatch z) fun tk => ⟨.bl b, H, I.tok tk, rfl, q⟩
/-- e.f, e a kept exception -/
def tXfK (K : PySem.W.Frag) (f : Str) (te : TE) : TE := fun σ H Q => te σ H fun x H1 => ∃ (a C dd : Addr) (fs : List (Str × V)) (v : V), x = .ref a ∧ H1 a = some (ExK (.ref C) (some dd) a) ∧ H1 dd = some (.xd fs) ∧ ExcC K C ∧ PySem.W.findIn K (.ref C) f = some none ∧ fs.lookup f = some v ∧ Q v H1
theorem pe_xfK {e : Expr} {te : TE} {pos : Pos} {f : Str} (he : PE X e te) (hk : X.K = K := by rfl) (hb : attributeBase e f X.env (eval e X.env) = eval e X.env := by rfl) : PE X (.Attribute e f pos) (tXfK K f te) := by
  subst hk
  refine ⟨fun pins s σ H Q I h => attr_of hb (thn (he.run pins s σ H _ I h) fun u s1 hh => ?_)⟩
  obtain ⟨x, H1, J, rx, a, C, dd, fs, v, ex, ea, ed, T, hno, l, q⟩ := hh
  subst ex
  cases (show u = Value.ref a from rx)
  obtain ⟨⟨oe, vs, hoe, hz, hv⟩, _⟩ := J.hok a _ ea
  have hx : ObjOk X.prog X.w H1 s1.heap dd (.xd fs) := J.hok dd _ ed
  obtain ⟨mA, hns, hr⟩ := hx
  obtain ⟨od, ho, hl⟩ := lookIn_ns hns
  obtain ⟨u, hu, ru⟩ := RelO.some_of (v := v) (o := mA f) (by rw [← l]; exact hr f)
  have Z : PySem.W.InstAt s1.heap a oe C (some od) := ⟨hoe, hz.1, by unfold PySem.W.notCls; rw [hv] <;> rfl, by rw [hz.2]; exact ho⟩
  exact HandSPX.exc_get J.kIn Z T.hg T.hk T.hs (PySem.W.findObj_own T.hd hno rfl (by rw [hl, hu])) (handed_of ru) ⟨v, H1, J.tok _, ru, q⟩
end
end Dear

namespace Dear
open PySem PySem.Spec PyProof.Rows L2
/-! ### own classes: making an object, its methods; both may raise -/
def DfM (K : PySem.W.Frag) (C : Addr) (m q : Str) (st : Stmt) (ps : List Str) : Prop := ∃ (f : Addr) (fd : FuncData), Meth K C m f ∧ Fun K m q st f fd ∧ Binds K fd ps []
def DfC (K : PySem.W.Frag) (mg : Str → Option Value) (x : Str) (C : Addr) (q : Str) (st : Stmt) (ps : List Str) : Prop := mg x = some (.ref C) ∧ ∃ (f : Addr) (fd : FuncData), L2.Mk K C f ∧ Fun K "__init__" q st f fd ∧ Binds K fd ps []
def OkM (P : Program) (w : World) (K : PySem.W.Frag) (mg : Str → Option Value) (base : Heap) (CX : CXT) (k : Nat) (C : Addr) (m : Str) (ps : List Str) (sp : Sp) : Prop :=
  ∃ (f : Addr) (fd : FuncData), Meth K C m f ∧ Binds K fd ps [] ∧ FnOk P w K mg base CX k f fd ps sp
def OkC (P : Program) (w : World) (K : PySem.W.Frag) (mg : Str → Option Value) (base : Heap) (CX : CXT) (k : Nat) (x : Str) (C : Addr) (ps : List Str) (sp : Sp) : Prop :=
  mg x = some (.ref C) ∧ ∃ (f : Addr) (fd : FuncData), L2.Mk K C f ∧ Binds K fd ps [] ∧ FnOk P w K mg base CX k f fd ps sp
section
variable {P : Program} {w : World} {K : PySem.W.Frag} {mg : Str → Option Value} {base : Heap} {C : Addr} {x m q : Str} {st : Stmt} {N ps : List Str} {k : Nat} {sp : Sp}
theorem DfM.ok (D : DfM K C m q st ps) (S : FnScope N ps (defScope st)) (len : ∀ vs H Q E, sp vs H Q E → vs.length = ps.length)
    (body : ∀ (f : Addr) (cdv : Value) (A : Around) (outer : List Env) (s : Shared) (H : Hp) (vs : List V) (Q : VK) (E : XK), Room k (A.deeper (envOfC q (defScope st) s.heap.objs.size f cdv)) → sp vs H Q E →
      ∃ t, PSs (cxOf CX0 P w K mg base N q (defScope st) f cdv A outer s H E).nox (defBody st) t ∧ t { nx := fun _ H' => Q .non H', rt := Q } (start N vs) H) : OkM P w K mg base CX0 (k + 1) C m ps sp := by
  obtain ⟨f, fd, hm, F, hb⟩ := D
  exact ⟨f, fd, hm, hb, F.ok S len (body f)⟩
theorem DfM.okX (D : DfM K C m q st ps) (S : FnScope N ps (defScope st)) (len : ∀ vs H Q E, sp vs H Q E → vs.length = ps.length)
    (body : ∀ (f : Addr) (cdv : Value) (A : Around) (outer : List Env) (s : Shared) (H : Hp) (vs : List V) (Q : VK) (E : XK), Room k (A.deeper (envOfC q (defScope st) s.heap.objs.size f cdv)) → sp vs H Q E →
      ∃ t, PSs (cxOf (L2.CX P w) P w K mg base N q (defScope st) f cdv A outer s H E) (defBody st) t ∧ t { nx := fun _ H' => Q .non H', rt := Q } (start N vs) H) : OkM P w K mg base (L2.CX P w) (k + 1) C m ps sp := by
  obtain ⟨f, fd, hm, F, hb⟩ := D
  exact ⟨f, fd, hm, hb, F.okX S len (body f)⟩
theorem DfC.okX (D : DfC K mg x C q st ps) (S : FnScope N ps (defScope st)) (len : ∀ vs H Q E, sp vs H Q E → vs.length = ps.length)
    (body : ∀ (f : Addr) (cdv : Value) (A : Around) (outer : List Env) (s : Shared) (H : Hp) (vs : List V) (Q : VK) (E : XK), Room k (A.deeper (envOfC q (defScope st) s.heap.objs.size f cdv)) → sp vs H Q E →
      ∃ t, PSs (cxOf (L2.CX P w) P w K mg base N q (defScope st) f cdv A outer s H E) (defBody st) t ∧ t { nx := fun _ H' => Q .non H', rt := Q } (start N vs) H) : OkC P w K mg base (L2.CX P w) (k + 1) x C ps sp := by
  obtain ⟨g, f, fd, hm, F, hb⟩ := D
  exact ⟨g, f, fd, hm, hb, F.okX S len (body f)⟩
theorem DfC.ok (D : DfC K mg x C q st ps) (S : FnScope N ps (defScope st)) (len : ∀ vs H Q E, sp vs H Q E → vs.length = ps.length)
    (body : ∀ (f : Addr) (cdv : Value) (A : Around) (outer : List Env) (s : Shared) (H : Hp) (vs : List V) (Q : VK) (E : XK), Room k (A.deeper (envOfC q (defScope st) s.heap.objs.size f cdv)) → sp vs H Q E →
      ∃ t, PSs (cxOf CX0 P w K mg base N q (defScope st) f cdv A outer s H E).nox (defBody st) t ∧ t { nx := fun _ H' => Q .non H', rt := Q } (start N vs) H) : OkC P w K mg base CX0 (k + 1) x C ps sp := by
  obtain ⟨g, f, fd, hm, F, hb⟩ := D
  exact ⟨g, f, fd, hm, hb, F.ok S len (body f)⟩
end
/-- o.m(..), the way out for a raise told at the names' values -/
def tMethX (C : Addr) (m : Str) (sp : Sp) (E : L2.St → XK) (ta : TE) (t : TA) : TE := fun σ H Q => ta σ H fun x H1 => ∃ a dx fs, x = .ref a ∧ H1 a = some (.ins C dx fs) ∧ fs.lookup m = none ∧ t σ H1 fun vs H2 => sp (x :: vs) H2 Q (E σ)
def tMakeX (C : Addr) (sp : Sp) (E : L2.St → XK) (t : TA) : TE := fun σ H Q => t σ H fun vs H1 => ∀ x dx, H1 x = none → H1 dx = none → dx ≠ x → sp (.ref x :: vs) (upd (upd H1 dx (.own x)) x (.ins C dx [])) (fun v H2 => v = .non ∧ Q (.ref x) H2) (E σ)
section
variable {X : Cx} {k k' : Nat} {C : Addr} {x m : Str} {ps : List Str} {sp : Sp} {o e : Expr} {es : List Expr} {ta : TE} {t : TA} {p pos apos : Pos} {W : WX}
/-- o.m(e, ..) -/
theorem pe_m {pl : Sem Bool} (O : OkM X.prog X.w X.K X.mg X.base CX0 k C m ps sp) (c : Cls X.K C) (hr : Room k' X.A) (he : PE X o ta) (ha : PA X (e :: es) t) (hk : k ≤ k' := by decide)
    (hst : starEach (e :: es) X.env = (false, eval e X.env) :: starEach es X.env := by rfl) (hpl : (backTo pos (starEach es X.env)).any (·.1) = false := by rfl)
    (ht : eval (.Call (.Attribute o m apos) (e :: es) [] pos) X.env = (do
      let u ← eval o X.env
      standAt apos.atName
      let (g, fst) ← holding [u] (getMethod u m pl)
      callWith pos g fst (backTo pos (starEach (e :: es) X.env)) (backToKw pos (keywordEach [] X.env))) := by rfl) : PE X (.Call (.Attribute o m apos) (e :: es) [] pos) (tMeth C m sp [] E0 ta t) := by
  obtain ⟨f, fd, hm, hb, F⟩ := O
  exact pe_meth he c hm F (hr.mono hk) hb .nil pass0 ha hst hpl ht
theorem pe_mz {pl : Sem Bool} (O : OkM X.prog X.w X.K X.mg X.base CX0 k C m ps sp) (c : Cls X.K C) (hr : Room k' X.A) (he : PE X o ta) (hk : k ≤ k' := by decide)
    (ht : eval (.Call (.Attribute o m apos) [] [] pos) X.env = (do
      let u ← eval o X.env
      standAt apos.atName
      let (g, fst) ← holding [u] (getMethod u m pl)
      callWith pos g fst (backTo pos (starEach [] X.env)) (backToKw pos (keywordEach [] X.env))) := by rfl) : PE X (.Call (.Attribute o m apos) [] [] pos) (tMeth C m sp [] E0 ta tNil) := by
  obtain ⟨f, fd, hm, hb, F⟩ := O
  exact pe_meth0 he c hm F (hr.mono hk) hb .nil pass0 ht
/-- o.m(e, ..) that may raise -/
theorem pe_mx {pl : Sem Bool} (O : OkM X.prog X.w X.K X.mg X.base (L2.CX X.prog X.w) k C m ps sp) (c : Cls X.K C) (hr : Room k' X.A) (tk : Takes X W) (he : PE X o ta) (ha : PA X (e :: es) t) (hk : k ≤ k' := by decide)
    (hst : starEach (e :: es) X.env = (false, eval e X.env) :: starEach es X.env := by rfl) (hpl : (backTo pos (starEach es X.env)).any (·.1) = false := by rfl)
    (ht : eval (.Call (.Attribute o m apos) (e :: es) [] pos) X.env = (do
      let u ← eval o X.env
      standAt apos.atName
      let (g, fst) ← holding [u] (getMethod u m pl)
      callWith pos g fst (backTo pos (starEach (e :: es) X.env)) (backToKw pos (keywordEach [] X.env))) := by rfl) : PE X (.Call (.Attribute o m apos) (e :: es) [] pos) (tMethX C m sp (WE W) ta t) := by
  obtain ⟨f, fd, hm, hb, F⟩ := O
  refine ⟨fun pins s σ H Q I h => ?_⟩
  refine PySem.W.methodCall_KW (pl := pl) (thn (he.run pins s σ H _ I h) fun u s1 ⟨y, H1, I1, ry, b, dx, fs, ey, eb, lk, q⟩ => ?_) ht
  subst ey
  obtain rfl : u = Value.ref b := ry
  refine getmeth_ok I1 eb c hm lk ?_
  refine PySem.W.callWith_K (first := [.ref b]) (h₀ := X.base) I.ok.mod.kin hm.kp (thn (ha.run pos pins s1 σ H1 _ I1 q) fun us s2 ⟨vs, H2, I2, r, q2⟩ => ⟨I2.kIn, ?_⟩) hst hpl
  exact run_fnS (us := .ref b :: us) (vs := .ref b :: vs) F (hr.mono hk) hb (E := WE W) (passAt tk σ) I2 (.cons rfl r) q2
/-- C(e, ..) whose __init__ may raise -/
theorem pe_mkx (O : OkC X.prog X.w X.K X.mg X.base (L2.CX X.prog X.w) k x C ps sp) (hr : Room k' X.A) (tk : Takes X W) (ha : PA X (e :: es) t) (hk : k + 1 ≤ k' := by decide) (hg : Gl X x := by rfl)
    (hdb : (x == ("__debug__" : Str)) = false := by decide) (he : starEach (e :: es) X.env = (false, eval e X.env) :: starEach es X.env := by rfl) (hpl : (backTo pos (starEach es X.env)).any (·.1) = false := by rfl) :
    PE X (.Call (.Name x p) (e :: es) [] pos) (tMakeX C sp (WE W) t) := by
  obtain ⟨hm, f, fd, M, hb, F⟩ := O
  refine ⟨fun pins s σ H Q I h => ?_⟩
  refine wpAny_Call_Name_kw (ld_glob I hg hm ?_ hdb)
  refine PySem.W.callWith_K (h₀ := X.base) I.ok.mod.kin M.kp (thn (ha.run pos pins s σ H _ I h) fun us s1 ⟨vs, H1, I1, r, q⟩ => ⟨I1.kIn, ?_⟩) he hpl
  have q1 := q (s1.heap.objs.size + 1) s1.heap.objs.size (I1.hok.fresh (Nat.le_succ _)) (I1.hok.fresh (Nat.le_refl _)) (Nat.ne_of_lt (Nat.lt_succ_self _))
  have J := Inv.made (C := C) I1
  have r1 : Vals (V.ref (s1.heap.objs.size + 1) :: vs) (Value.ref (s1.heap.objs.size + 1) :: us) := .cons rfl r
  have ln : (Value.ref (s1.heap.objs.size + 1) :: us ++ []).length = ps.length := by
    rw [List.append_nil, ← r1.length]
    exact F.len _ _ _ _ q1
  have b := hb _ (Value.ref (s1.heap.objs.size + 1) :: us) J.kIn ln
  rw [List.append_nil] at b
  refine wpAny_call (make_map (f := f) I1.kIn M.makes M.init (beq_iff_eq.mp M.fn) (codeAny_mono (F.run _ X.stack _ _ ⟨Value.ref (s1.heap.objs.size + 1) :: us, []⟩ _ _ _ (WE W σ) ((hr.mono hk).make C us [])
    (J.env0.make C us []) b r1 q1) fun rr s2 hq => ?_))
  cases rr with
  | error er => exact passAt tk σ pins _ _ er s2 J hq
  | ok fl =>
    cases fl with
    | ret u =>
      obtain ⟨v, H3, I3, rv, ev, q3⟩ := J.after hq
      subst ev
      exact ⟨rv, ⟨V.ref (s1.heap.objs.size + 1), H3, I3, rfl, q3⟩⟩
    | next => exact False.elim hq
    | brk => exact False.elim hq
    | cont => exact False.elim hq
end
/-- text += text, on an attribute -/
def rAddT : V → V → Hp → VK → Prop := fun x y H Q => ∃ i j, x = .str i ∧ y = .str j ∧ i.length + j.length ≤ sizeLine ∧ Q (.str (i ++ j)) H
theorem in_addT {X : Cx} : InOp X .Add rAddT := fun pins s σ H x y u v Q I rx ry h => iop_add_str pins s σ H x y u v Q I rx ry h
theorem pe_fld_k {X : Cx} (K : PySem.W.Frag) {e : Expr} {f : Str} {pos : Pos} {ta : TE} (he : PE X e ta) (hb : attributeBase e f X.env (eval e X.env) = eval e X.env) (hk : X.K = K := by rfl) : PE X (.Attribute e f pos) (tFld K ta f) := hk ▸ pe_fld he hb
end Dear

namespace Dear
open PySem PySem.Spec PyProof.Rows L2
/-! ### the set of a list of texts (any number), and how many it has -/
def dd1 (m : List Str) (v : Str) : List Str := if v ∈ m then m else m ++ [v]
def dd (xs : List Str) : List Str := xs.foldl dd1 []
theorem dd1_any (m : List Str) (v k : Str) : (m.any (· == k) || decide (k = v)) = (dd1 m v).any (· == k) := by
  unfold dd1
  by_cases h : v ∈ m
  · rw [if_pos h]
    by_cases e : k = v
    · subst e
      have : m.any (· == k) = true := List.any_eq_true.mpr ⟨k, h, by simp⟩
      rw [this]
      rfl
    · rw [decide_eq_false e, Bool.or_false]
  · rw [if_neg h, List.any_append]
    congr 1
    by_cases e : k = v
    · subst e; simp
    · have : ¬ v = k := fun z => e z.symm
      simp [e, this]
theorem dd1_len (m : List Str) (v : Str) : (if m.any (· == v) = true then m.length else m.length + 1) = (dd1 m v).length := by
  unfold dd1
  by_cases h : v ∈ m
  · have : m.any (· == v) = true := List.any_eq_true.mpr ⟨v, h, by simp⟩
    rw [if_pos h, if_pos this]
  · have : ¬ m.any (· == v) = true := fun z => by
      obtain ⟨x, hx, e⟩ := List.any_eq_true.mp z
      have e' : x = v := by simpa using e
      subst e'
      exact h hx
    rw [if_neg h, if_neg this, List.length_append]
    rfl
theorem dd_le : ∀ (xs m : List Str), (xs.foldl dd1 m).length ≤ m.length + xs.length
  | [], m => by simp
  | v :: r, m => by
    rw [List.foldl_cons]
    have h1 := dd_le r (dd1 m v)
    have h2 : (dd1 m v).length ≤ m.length + 1 := by
      unfold dd1
      split
      · omega
      · simp
    rw [List.length_cons]
    omega
theorem dd_more {xs : List Str} {i : Nat} {v : Str} (h : xs[i]? = some v) : dd (xs.take (i + 1)) = dd1 (dd (xs.take i)) v := by
  unfold dd
  rw [List.take_succ, h, List.foldl_append]
  rfl
/-- unlike ones: as many as there are -/
theorem dd_nodup : ∀ {xs : List Str} (m : List Str), (m ++ xs).Nodup → xs.foldl dd1 m = m ++ xs
  | [], m, _ => by simp
  | v :: r, m, h => by
    have hv : ¬ v ∈ m := fun z => by
      have := List.nodup_append.mp h
      exact this.2.2 v z v List.mem_cons_self rfl
    rw [List.foldl_cons]
    have e : dd1 m v = m ++ [v] := if_neg hv
    rw [e, dd_nodup (m ++ [v]) (by rw [List.append_assoc]; exact h), List.append_assoc]
    rfl
theorem dd_mem : ∀ (xs m : List Str) (k : Str), k ∈ xs.foldl dd1 m ↔ k ∈ m ∨ k ∈ xs
  | [], m, k => by simp
  | v :: r, m, k => by
    rw [List.foldl_cons, dd_mem r (dd1 m v) k]
    unfold dd1
    split
    · rename_i h
      constructor
      · rintro (h1 | h1)
        · exact .inl h1
        · exact .inr (List.mem_cons_of_mem _ h1)
      · rintro (h1 | h1)
        · exact .inl h1
        · rcases List.mem_cons.mp h1 with rfl | h1
          · exact .inl h
          · exact .inr h1
    · simp [or_assoc]
theorem dd_uniq : ∀ (xs m : List Str), m.Nodup → (xs.foldl dd1 m).Nodup
  | [], m, h => h
  | v :: r, m, h => by
    rw [List.foldl_cons]
    refine dd_uniq r _ ?_
    unfold dd1
    split
    · exact h
    · rename_i hv
      rw [List.nodup_append]
      exact ⟨h, by simp, fun a ha b hb e => by
        have : b = v := by simpa using hb
        subst this; subst e; exact hv ha⟩
/-- just unlike ones come to as many -/
theorem dd_full {xs : List Str} (h : (dd xs).length = xs.length) : xs.Nodup := by
  have key : ∀ (ys m : List Str), m.Nodup → (ys.foldl dd1 m).length = m.length + ys.length → (m ++ ys).Nodup := by
    intro ys
    induction ys with
    | nil => intro m hm _; simpa using hm
    | cons v r ih =>
      intro m hm e
      rw [List.foldl_cons] at e
      have hv : ¬ v ∈ m := fun z => by
        have e1 : dd1 m v = m := if_pos z
        rw [e1] at e
        have := dd_le r m
        rw [List.length_cons] at e
        omega
      have e1 : dd1 m v = m ++ [v] := if_neg hv
      rw [e1] at e
      have hm2 : (m ++ [v]).Nodup := by
        rw [List.nodup_append]
        exact ⟨hm, by simp, fun a ha b hb e2 => by
          have : b = v := by simpa using hb
          exact hv (this ▸ e2 ▸ ha)⟩
      have := ih (m ++ [v]) hm2 (by rw [e, List.length_append, List.length_cons]; simp; omega)
      rw [List.append_assoc] at this
      exact this
  have := key xs [] List.nodup_nil (by rw [List.length_nil, Nat.zero_add]; exact h)
  simpa using this
/-! ### a set of texts that can be walked -/
def signE (e : Int × Value) : Str := match e.2 with | .str z _ => z | _ => Str.empty
def TextE (P : Program) (w : World) (e : Int × Value) : Prop := ∃ z tk, e.2 = Value.str z tk ∧ e.1 = (PySem.strKind P w).hash z
/-- at a lies the set of the texts m -/
def SetW (P : Program) (w : World) (h : Heap) (a : Addr) (m : List Str) : Prop :=
  ∃ ob ms n tb, h.get? a = some ob ∧ ob.ExactSet ∧ ob.data = .set ms n tb ∧ (∀ e ∈ ms.toList, TextE P w e) ∧ (ms.toList.map signE).Perm m ∧
    ms.size < scanBound ∧ tb.fits ms.size = true ∧ Ris tb.place.toList ∧ (w.params.followText "set-order" = true ∨ tb.led = true)
section
variable {P : Program} {w : World} {A : Around} {E : Value → Shared → Prop} {s : Shared} {a : Addr} {m : List Str}
theorem text_elems {l : List (Int × Value)} (g : ∀ e ∈ l, TextE P w e) : ElemsOf (PySem.strKind P w) l := fun e he => by
  obtain ⟨z, tk, e1, e2⟩ := g e he
  exact ⟨⟨z, by rw [e1]; exact strKind_is P w z tk, e2⟩, by rw [e1]; rfl⟩
theorem text_is {e : Int × Value} (g : TextE P w e) (z : Str) : (PySem.strKind P w).is z e.2 = true ↔ signE e = z := by
  obtain ⟨y, tk, e1, _⟩ := g
  unfold signE
  rw [e1]
  show ((y == z) = true) ↔ y = z
  exact beq_iff_eq
/-- behind the laying: the table may be laid anew -/
theorem add_rest {gave : Bool → Sem Unit} (hg : ∀ (b : Bool) (s1 : Shared) (Q1 : Unit → Shared → Prop), Q1 () s1 → wpAny (model P w) A (gave b) Q1 E s1)
    {ob : Obj} {ms : Array (Int × Value)} {n : Nat} {tb : SetTable} (at0 : s.heap.get? a = some ob) (ex : ob.ExactSet) (da : ob.data = .set ms n tb)
    {ms1 : Array (Int × Value)} {tb1 : SetTable} (te : ∀ e ∈ ms1.toList, TextE P w e) (pm1 : (ms1.toList.map signE).Perm m)
    (few : ms1.size < scanBound) (fit : tb1.fits ms1.size = true) (ris : Ris tb1.place.toList) (led : w.params.followText "set-order" = true ∨ tb1.led = true) {dum : Bool} {R : Option Bool → Shared → Prop}
    (hR : ∀ h1, Heap.SameBut a s.heap h1 → SetW P w h1 a m → R (some true) { s with heap := h1 }) :
    wpAny (model P w) A (do
        storeSet a ms1 tb1
        if (!dum && tb1.tooFull) = true then do
            gave (relayAll tb1 ms1 (SetTable.grown ms1.size)).2.2
            storeSet a (relayAll tb1 ms1 (SetTable.grown ms1.size)).1 (relayAll tb1 ms1 (SetTable.grown ms1.size)).2.1
            pure (some true)
          else pure (some true)) R E s := by
  refine wpAny_bind (wpAny_storeSet_of at0 da ?_ (fits_of_scanBound few))
  have at1 := store_at (es' := ms1) (t' := tb1) at0 da
  have same1 := Heap.SameBut.update s.heap a (Obj.putSet ms1 tb1)
  split
  · have q1 := relayAll_perm tb1 ms1 (SetTable.grown ms1.size)
    have q2 := relayAll_fits tb1 ms1 (SetTable.grown ms1.size)
    have q3 := relayAll_ris tb1 ms1 (SetTable.grown ms1.size)
    have q4 := relayAll_led tb1 ms1 (SetTable.grown ms1.size)
    generalize relayAll tb1 ms1 (SetTable.grown ms1.size) = Z at q1 q2 q3 q4 ⊢
    obtain ⟨ms2, tb2, gv⟩ := Z
    dsimp only at q1 q2 q3 q4 ⊢
    have sz : ms2.size = ms1.size := by rw [← Array.length_toList, q1.length_eq, Array.length_toList]
    have few2 : ms2.size < scanBound := by rw [sz]; exact few
    refine wpAny_bind (hg _ _ _ ?_)
    refine wpAny_bind (wpAny_storeSet_of at1 rfl ?_ (fits_of_scanBound few2))
    have at2 := store_at (es' := ms2) (t' := tb2) at1 rfl
    refine wpAny_pure (hR _ (same1.trans (Heap.SameBut.update _ a _)) ?_)
    exact ⟨_, ms2, _, tb2, at2, ex, rfl, fun e he => te e (q1.mem_iff.mp he), (q1.map signE).trans pm1, few2, q2, q3, led.imp id fun z => by rw [q4]; exact z⟩
  · exact wpAny_pure (hR _ same1 ⟨_, ms1, _, tb1, at1, ex, rfl, te, pm1, few, fit, ris, led⟩)
theorem setW_add {k : Str} {tk : Tok} {Q : Bool → Shared → Prop} (W : SetW P w s.heap a m) (room : m.length + 1 < scanBound)
    (hQ : ∀ h1 b, Heap.SameBut a s.heap h1 → SetW P w h1 a (dd1 m k) → Q b { s with heap := h1 }) :
    wpAny (model P w) A (setAddHashed a (.str k tk) ((PySem.strKind P w).hash k)) Q E s := by
  obtain ⟨ob, ms, n, tb, at0, ex, da, te, pm, few, fit, ris, led⟩ := W
  have isk : (PySem.strKind P w).is k (.str k tk) = true := strKind_is P w k tk
  have sc : (Value.str k tk).scannable = true := rfl
  have el : ElemsOf (PySem.strKind P w) ms.toList := text_elems te
  unfold setAddHashed setAddHashedIn
  refine wpAny_holding (wpAny_bind (wpAny_setState_of at0 da fit ?_))
  dsimp only
  rw [byScan_of sc few el]
  simp only [↓reduceIte]
  unfold setAddByScan
  refine wpAny_bind (wpAny_bind (wpAny_rule (wpAny_bind (wpAny_setScan_of isk at0 da fit el ?_))))
  cases found : List.findIdx? (fun e => (PySem.strKind P w).is k e.2) ms.toList with
  | some j =>
    dsimp only
    obtain ⟨lt, ej, _⟩ := List.findIdx?_eq_some_iff_getElem.mp found
    have km : k ∈ m := pm.mem_iff.mp (List.mem_map.mpr ⟨_, List.getElem_mem lt, (text_is (te _ (List.getElem_mem lt)) k).mp ej⟩)
    refine wpAny_pure (wpAny_pure ?_)
    refine hQ s.heap _ (Heap.SameBut.refl a s.heap) ⟨ob, ms, n, tb, at0, ex, da, te, ?_, few, fit, ris, led⟩
    unfold dd1
    rw [if_pos km]
    exact pm
  | none =>
    dsimp only
    have km : k ∉ m := fun z => by
      obtain ⟨e, he, q⟩ := List.mem_map.mp (pm.mem_iff.mpr z)
      have c := List.findIdx?_eq_none_iff.mp found e he
      rw [(text_is (te e he) k).mpr q] at c
      cases c
    have q1 := layNew_perm tb ms ((PySem.strKind P w).hash k) (.str k tk)
    have q2 := layNew_fits tb ms ((PySem.strKind P w).hash k) (.str k tk)
    have q3 := layNew_ris tb ms ((PySem.strKind P w).hash k) (.str k tk) ris
    have q4 := layNew_led tb ms ((PySem.strKind P w).hash k) (.str k tk)
    generalize layNew tb ms ((PySem.strKind P w).hash k) (.str k tk) = Z at q1 q2 q3 q4 ⊢
    obtain ⟨ms1, tb1, dum, gv⟩ := Z
    dsimp only at q1 q2 q3 q4 ⊢
    rw [Array.toList_push] at q1
    have te1 : ∀ e ∈ ms1.toList, TextE P w e := fun e he => by
      rcases List.mem_append.mp (q1.mem_iff.mp he) with z | z
      · exact te e z
      · rw [List.mem_singleton.mp z]
        exact ⟨k, tk, rfl, rfl⟩
    have pm1 : (ms1.toList.map signE).Perm (dd1 m k) := by
      have q := q1.map signE
      rw [List.map_append] at q
      unfold dd1
      rw [if_neg km]
      exact q.trans (pm.append_right _)
    have sz : ms1.size = m.length + 1 := by
      rw [← Array.length_toList, q1.length_eq, List.length_append, ← pm.length_eq, List.length_map]
      rfl
    have few1 : ms1.size < scanBound := by rw [sz]; exact room
    have led1 : w.params.followText "set-order" = true ∨ tb1.led = true := led.imp id fun z => by rw [q4]; exact z
    refine wpAny_bind (?_ : wpAny _ _ (match gv with | true => rule "set.scan.the-table-gave-way" | false => pure ()) _ _ _)
    have hgv : ∀ (b : Bool) {s1 : Shared} {Q1 : Unit → Shared → Prop}, Q1 () s1 → wpAny (model P w) A (match b with | true => rule "set.scan.the-table-gave-way" | false => pure ()) Q1 E s1 := fun b s1 Q1 q => by
      cases b
      · exact wpAny_pure q
      · exact wpAny_rule q
    refine hgv _ ?_
    split
    · refine wpAny_bind ?_
      rw [hashByValue_scannable 8 sc]
      refine wpAny_pure ?_
      refine add_rest ?_ at0 ex da te1 pm1 few1 ?_ ?_ ?_ ?_
      · intro b s1 Q1 q; cases b <;> first | exact wpAny_pure q | exact wpAny_rule q
      · first | (split <;> first | exact q2 | exact SetTable.fits_plain_off q2) | exact q2
      · first | (split <;> exact q3) | exact q3
      · first | (split <;> exact led1) | exact led1
      · intro h1 sb r; dsimp only; exact wpAny_pure (hQ h1 _ sb r)
    · refine wpAny_bind (wpAny_pure ?_)
      simp only [↓reduceIte]
      refine add_rest ?_ at0 ex da te1 pm1 few1 q2 q3 led1 ?_
      · intro b s1 Q1 q; cases b <;> first | exact wpAny_pure q | exact wpAny_rule q
      · intro h1 sb r; dsimp only; exact wpAny_pure (hQ h1 _ sb r)
/-- a new set -/
theorem new_set (x : Value) {Q1 : Value → Shared → Prop}
    (q : ∀ tb : SetTable, tb = .fresh 0 0 (!w.params.followText "set-order") → Q1 (.ref s.heap.objs.size) { s with heap := s.heap.push { cls := .type "set", dict := none, data := .set #[] 0 tb } }) :
    codeAny (model P w) A (.call (.builtin "set.__new__") ⟨[.type "set", x], []⟩) (wants Q1 E) s := by
  refine codeAny_of_tree (?_ : wpAny _ A.in1 (do checkBuiltinCall "set.__new__" ⟨[.type "set", x], []⟩; again (.builtin "set.__new__" ⟨[.type "set", x], []⟩)) _ _ s)
  refine wpAny_bind (wpAny_of_eq (PySem.F.newCall_set_1 x) (wpAny_pure ⟨plainId_quiet PySem.F.plain_set_new _, codeAny_builtin PySem.F.entry_set_new (?_ : wpAny _ _ _ _ _ s)⟩))
  rw [Around.under_plainId PySem.F.plain_set_new _]
  have below := sub_set_self
  unfold Builtin.«set.__new__» Builtin.Frozenset.newClass
  obtain ⟨h0, g0, d0, t0, o0⟩ := s
  dsimp only
  wp_walk
  refine wpAny_askSetting (wpAny_pure ?_)
  dsimp only
  simp only [newObj]
  exact wpAny_bind (wpAny_alloc (wpAny_pure (wpAny_pure (q _ rfl))))
theorem setW_fresh {h : Heap} (g : h.get? a = some { cls := .type "set", dict := none, data := .set #[] 0 (.fresh 0 0 (!w.params.followText "set-order")) }) : SetW P w h a [] := by
  refine ⟨_, #[], 0, _, g, ⟨rfl, rfl, rfl⟩, rfl, (fun e he => by simp at he), (by simp), (by decide), (by rfl), List.Pairwise.nil, ?_⟩
  show _ ∨ (!w.params.followText "set-order") = true
  cases w.params.followText "set-order"
  · exact .inr rfl
  · exact .inl rfl
end
section
variable {prog : Program} {w : World} {A : Around} {R : Result → Shared → Prop} {I : Addr} {fp wr : List Addr} {G : Array GenState → Array GenState → Prop} {n : Nat} {Pn : Nat → Value → Prop} {St : Nat → Shared → Prop}
/-- S holds the unlike ones of the first i -/
def SetAtS (prog : Program) (w : World) (h : Heap) (S : Addr) (xs : List Str) : Prop := SetW prog w h S (dd xs)
theorem set_loop (W : WalksS prog w A.in1 I fp wr G n Pn St) (S : Addr) (out : S ∉ fp) (xs : List Str) (size : xs.length = n) (room : n + 1 < scanBound)
    (vals : ∀ i v, Pn i v → ∃ t, v = .str (xs.getD i Str.empty) t) :
    ∀ (m i : Nat) (s : Shared), i + m = n → St i s → SetAtS prog w s.heap S (xs.take i) →
      (∀ s', Moved (S :: wr) G s s' → SetAtS prog w s'.heap S xs → R (.ok (.ret .none)) s') →
      codeAny (model prog w) A (.builtin "set.update.loop" ⟨[.ref S, .ref I], []⟩) R s := by
  have outw : S ∉ wr := fun z => out (W.sub _ z)
  have more : ∀ b ∈ wr, b ∈ S :: wr := fun b z => List.mem_cons_of_mem _ z
  have stay : ∀ {s s' : Shared} {ys : List Str}, Moved wr G s s' → SetAtS prog w s.heap S ys → SetAtS prog w s'.heap S ys := fun mv hS => by
    obtain ⟨o, es, ep, tb, ho, rest⟩ := hS
    exact ⟨o, es, ep, tb, mv.heap S _ outw ho, rest⟩
  intro m
  induction m with
  | zero =>
    intro i s im hst hS hR
    have ei : i = n := by omega
    subst ei
    rw [← size, List.take_length] at hS
    refine codeAny_builtin PyProof.Rows.F.entry_set_update_loop (?_ : wpAny _ _ _ _ _ s)
    rw [Around.under_plainId PyProof.Rows.F.plain_set_update_loop _]
    show wpAny _ A.in1 (pyNext (.ref I) >>= _) _ _ s
    exact wpAny_bind (W.done s _ _ hst fun s' mv => wpAny_pure (hR s' (mv.mono more) (stay mv hS)))
  | succ m ih =>
    intro i s im hst hS hR
    have lt : i < n := by omega
    refine codeAny_builtin PyProof.Rows.F.entry_set_update_loop (?_ : wpAny _ _ _ _ _ s)
    rw [Around.under_plainId PyProof.Rows.F.plain_set_update_loop _]
    show wpAny _ A.in1 (pyNext (.ref I) >>= _) _ _ s
    refine wpAny_bind (W.item i s _ _ lt hst fun v s1 pv st1 mv => ?_)
    obtain ⟨t, rfl⟩ := vals i v pv
    have e : xs[i]? = some (xs.getD i Str.empty) := by
      rw [List.getD_eq_getElem?_getD, List.getElem?_eq_getElem (by omega)]
      rfl
    generalize xs.getD i Str.empty = x at e
    have hS1 := stay mv hS
    show wpAny _ A.in1 (holding [Value.str x t] (setAdd S (.str x t)) >>= _) _ _ s1
    refine wpAny_bind (wpAny_holding ?_)
    unfold setAdd
    refine wpAny_holding (wpAny_bind ((PySem.strKind prog w).pyHash (k := x) (strKind_is _ _ _ _) ?_))
    have few : (dd (xs.take i)).length + 1 < scanBound := by
      have := dd_le (xs.take i) []
      have h2 : (xs.take i).length ≤ n := by rw [List.length_take]; omega
      have h3 : (dd (xs.take i)).length ≤ (xs.take i).length := by simpa [dd] using this
      omega
    refine setW_add (s := { s1 with toks := s1.toks + 1 }) hS1 few fun h2 _ same hS2 => ?_
    have next : SetAtS prog w h2 S (xs.take (i + 1)) := by
      unfold SetAtS
      rw [dd_more e]
      exact hS2
    refine wpAny_pure ⟨plainId_quiet PyProof.Rows.F.plain_set_update_loop _, ih (i + 1) _ (by omega) (W.frame _ s1 _ _ st1 (Nat.le_succ _) fun b hb o z => ?_) next fun s3 mv3 hS3 => hR s3 (Moved.trans W.gtrans ((mv.mono more).then_heap (Nat.le_succ _) fun b o hb z => ?_) mv3) hS3⟩
    · rw [same.2 b fun q => out (q ▸ hb)]
      exact z
    · rw [same.2 b fun q => hb (q ▸ List.mem_cons_self)]
      exact z
end
section
variable {prog : Program} {w : World} {A : Around} {E : Value → Shared → Prop} {s : Shared}
/-- an empty set, new -/
abbrev set0 (led : Bool) : Obj := { cls := .type "set", dict := none, data := .set #[] 0 (.fresh 0 0 led) }
set_option maxHeartbeats 3200000 in
/-- set(xs), xs a list of texts -/
theorem set_of_list {l : Addr} {its : Array Value} {xs : List Str} {Q : Value → Shared → Prop} (calm : A.handled = none) (hl : s.heap.IsList l its) (hi : StrsAre its.toList xs) (room : xs.length + 1 < scanBound)
    (q : ∀ (h2 : Heap) (tk : Nat), SetAtS prog w h2 s.heap.objs.size xs → (∀ b o, b < s.heap.objs.size → s.heap.get? b = some o → h2.get? b = some o) → Q (.ref s.heap.objs.size) { s with heap := h2, toks := tk }) :
    wpAny (model prog w) A (call (.type "set") [.ref l]) Q E s := by
  obtain ⟨_, _, way⟩ := PySem.F.called_set.mro
  have f1 := PySem.F.called_set.made
  have f2 := PySem.F.called_set.sub
  have f3 := PySem.F.called_set.notType
  have f4 := PySem.F.called_set.canCreate
  have f5 := PySem.F.typeCall_set_1 (.ref l)
  refine wpAny_call (codeAny_of_tree (?_ : wpAny _ _ (callAny (.type "set") _) _ _ _))
  refine wpAny_pure ⟨Code.quiet_builtin _ (by decide +kernel), codeAny_builtin PySem.F.entry_type_call (?_ : wpAny _ _ _ _ _ _)⟩
  rw [Around.under_plain (weight_type_call_type "set" [.ref l] []) rfl]
  repeat (any_goals (first | assumption | wp_step))
  refine codeAny_mono (new_set (.ref l) (E := E) (Q1 := fun u s1 => ∃ led : Bool, u = .ref s.heap.objs.size ∧ s1 = { s with heap := s.heap.push (set0 led) } ∧ led = !w.params.followText "set-order") fun tb e => ⟨_, rfl, by rw [e], rfl⟩) fun r s1 hr => ?_
  cases r with
  | error e => exact hr
  | ok fl =>
    cases fl with
    | next => exact hr.elim
    | brk => exact hr.elim
    | cont => exact hr.elim
    | ret u =>
      obtain ⟨led, rfl, rfl, eled⟩ := hr
      have g0 : (s.heap.push (set0 led)).get? s.heap.objs.size = some (set0 led) := Heap.get?_push_size _ rfl
      have ty : Shared.TypeIs { s with heap := s.heap.push (set0 led) } (.ref s.heap.objs.size) "set" := ⟨_, g0, rfl⟩
      have f6 := PySem.F.called_set.init.lookup
      have f7 := PySem.F.called_set.init.bind (.ref s.heap.objs.size)
      repeat (any_goals (first | assumption | wp_step))
      refine codeAny_mono (codeAny_call_builtin (R := wants (fun r s2 => r = .none ∧ ∃ h2 tk, s2 = { s with heap := h2, toks := tk } ∧ SetAtS prog w h2 s.heap.objs.size xs ∧ (∀ b o, b < s.heap.objs.size → s.heap.get? b = some o → h2.get? b = some o)) E)
        PySem.F.called_set.init.plain PySem.F.entry_set_init (check_set_init_1 ty ?_)) fun r2 s2 hr2 => ?_
      · obtain ⟨⟨c, d, da, sl⟩, ol, cl, nl, dl⟩ := hl
        simp only at cl dl
        subst cl dl
        have ol1 : (s.heap.push (set0 led)).get? l = some { cls := .type "list", dict := d, data := .seq its nl, slots := sl } := Heap.get?_push_of_some _ ol
        have f8 := PySem.F.sub_list_set
        have f9 := PySem.F.sub_list_frozenset
        have f10 : (Value.type "list" == Value.type "dict") = false := by decide
        have hl1 : (s.heap.push (set0 led)).IsList l its := ⟨_, ol1, rfl, nl, rfl⟩
        unfold Builtin.«set.__init__» noKeywords Builtin.Frozenset.updateFrom
        generalize hPI : pyIter = PI
        wp_walk
        subst hPI
        refine wpAny_pyIter_list hl1 (wpAny_bind (wpAny_runValue ?_))
        have below : l < s.heap.objs.size := Heap.lt_size ol
        have sz1 : (s.heap.push (set0 led)).objs.size = s.heap.objs.size + 1 := Heap.size_push _ _
        have n1 : l ≠ (s.heap.push (set0 led)).objs.size := by
          rw [sz1]
          exact Nat.ne_of_lt (Nat.lt_succ_of_lt below)
        have out : s.heap.objs.size ∉ [(s.heap.push (set0 led)).objs.size, l] := by
          rw [sz1]
          simp only [List.mem_cons, List.not_mem_nil, or_false, not_or]
          exact ⟨Nat.ne_of_lt (Nat.lt_succ_self _), Nat.ne_of_gt below⟩
        have size : xs.length = its.size := by rw [← StrsAre.len_eq hi, Array.length_toList]
        have vals : ∀ (i : Nat) (v : Value), its[i]? = some v → ∃ t, v = .str (xs.getD i Str.empty) t := fun i v z => SS.strs_at hi i v (by rw [Array.getElem?_toList]; exact z)
        refine set_loop ((Walks.list (show A.in1.in1.in1.handled = none by simp [calm]) _ l n1 its).toS) s.heap.objs.size out xs size (by rw [← size]; exact room) vals its.size 0 _ (by omega) ⟨⟨_, Heap.get?_push_size _ rfl, rfl, rfl⟩, (hl1.push _)⟩ ?start ?stop
        case start =>
          have g1 : ((s.heap.push (set0 led)).push { cls := .type "list_iterator", data := .fields #[.ref l, .int 0 0] }).get? s.heap.objs.size = some (set0 led) := Heap.get?_push_of_some _ g0
          exact setW_fresh (g1.trans (by rw [eled]))
        case stop =>
          rintro ⟨h2, g2, d2, tk2, os2⟩ mv hS
          obtain rfl : g2 = s.gens := mv.gens
          obtain rfl : d2 = s.drawn := mv.drawn
          obtain rfl : os2 = s.os := mv.os
          refine wpAny_pure (?_ : wpAny _ _ (ret Value.none) _ _ _)
          refine wpAny_pure ⟨rfl, h2, tk2, rfl, hS, fun b o hb z => mv.heap b o ?_ (Heap.get?_push_of_some _ (Heap.get?_push_of_some _ z))⟩
          simp only [List.mem_cons, List.not_mem_nil, or_false, not_or]
          exact ⟨Nat.ne_of_lt hb, by rw [sz1]; exact Nat.ne_of_lt (Nat.lt_succ_of_lt hb)⟩
      · cases r2 with
        | error e => exact hr2
        | ok fl2 =>
          cases fl2 with
          | next => exact hr2.elim
          | brk => exact hr2.elim
          | cont => exact hr2.elim
          | ret r =>
            obtain ⟨rfl, h2, tk, rfl, hS, keep⟩ := hr2
            repeat (any_goals (first | assumption | wp_step))
            exact q _ _ hS keep
end
/-- len(set(xs)) -/
def tLenSetS (K : PySem.W.Frag) (ta : TE) : TE := fun σ H Q => ta σ H fun x H1 => ∃ (l : Addr) (xs : List Str), x = .ref l ∧ SqL K H1 l (xs.map V.str) ∧ xs.length ≤ 1000 ∧ Q (.int ((dd xs).length : Nat)) H1
theorem pe_lenSetS {X : Cx} (K : PySem.W.Frag) {a : Expr} {ta : TE} {p p2 q pos : Pos} (hc : X.calm = true) (hm : X.mg "len" = none) (hm2 : X.mg "set" = none) (ha : PE X a ta) (hk : X.K = K := by rfl) (hg : Gl X "len" := by rfl) (hg2 : Gl X "set" := by rfl)
    (na : starEach [a] X.env = (false, eval a X.env) :: starEach [] X.env := by rfl) : PE X (.Call (.Name "len" p) [.Call (.Name "set" p2) [a] [] q] [] pos) (tLenSetS K ta) := by
  subst hk
  refine ⟨fun pins s σ H Q I h => ?_⟩
  refine Call_ (ld_blt I hg hm boot_len (PyProof.Rows.callWith_builtin1 (PyProof.Rows.args_cons ?_ rfl) rfl rfl))
  refine Call_ (ld_blt I hg2 hm2 boot_set ?_)
  refine PyProof.Rows.callWith_type1 (PyProof.Rows.args_cons (thn (ha.run pins s σ H _ I h) fun v s1 ⟨x, H1, I1, r1, q1⟩ => PyProof.Rows.args_nil ?_) na) na rfl
  obtain ⟨l, xs, rfl, hq, small, q1⟩ := q1
  cases r1
  obtain ⟨its, r, pl, hz⟩ := I1.list hq
  refine set_of_list (I1.ok.hd hc) pl.isList (by simpa using strsAre_of r) (by unfold scanBound; omega) fun h2 tk hS keep => PyProof.Rows.args_nil ?_
  obtain ⟨o, es, ep, t, ho, hex, hd, _, pm, _, hf, _⟩ := hS
  have hn : es.size = (dd xs).length := by rw [← pm.length_eq, List.length_map, Array.length_toList]
  have I2 : Inv X pins σ H1 { s1 with heap := h2, toks := tk } := I1.kept fun b o e => keep b o (Heap.lt_size e) e
  have few := dd_le xs []
  have few2 : (dd xs).length ≤ xs.length := by simpa [dd] using few
  exact call_len_set ho hex hd hf (by rw [hn]; omega) ⟨.int ((dd xs).length : Nat), H1, I2.tok _, ⟨_, by rw [hn]⟩, q1⟩
/-- sorted(set(xs)) -/
def tSortSetS (K : PySem.W.Frag) (ta : TE) : TE := fun σ H Q => ta σ H fun x H1 => ∃ (l : Addr) (xs : List Str), x = .ref l ∧ SqL K H1 l (xs.map V.str) ∧ xs.length < 64 ∧
  ∀ (ys : List Str) (p : Addr), ys.Perm (dd xs) → sortedS ys = true → H1 p = none → Q (.ref p) (upd H1 p (.lst (ys.map V.str)))
theorem texts_are {P : Program} {w : World} : ∀ {es : List (Int × Value)}, (∀ e ∈ es, TextE P w e) → StrsAre (es.map (·.2)) (es.map signE)
  | [], _ => .nil
  | e :: es, h => by
    obtain ⟨z, tk, e1, _⟩ := h e List.mem_cons_self
    have e2 : signE e = z := by
      unfold signE
      rw [e1]
    rw [List.map_cons, List.map_cons, e1, e2]
    exact .cons _ _ (texts_are fun x hx => h x (List.mem_cons_of_mem _ hx))
theorem strs_perm {us vs : List Value} (p : us.Perm vs) : ∀ {xs : List Str}, StrsAre vs xs → ∃ ys, StrsAre us ys ∧ ys.Perm xs := by
  induction p with
  | nil => exact fun h => ⟨_, h, .refl _⟩
  | cons x _ ih =>
    intro xs h
    cases h with
    | cons z tk h =>
      obtain ⟨ys, h1, h2⟩ := ih h
      exact ⟨_, .cons z tk h1, h2.cons z⟩
  | swap x y l =>
    intro xs h
    cases h with
    | cons z tk h =>
      cases h with
      | cons z2 tk2 h => exact ⟨_, .cons z2 tk2 (.cons z tk h), .swap z z2 _⟩
  | trans _ _ ih1 ih2 =>
    intro xs h
    obtain ⟨ys, h1, h2⟩ := ih2 h
    obtain ⟨zs, h3, h4⟩ := ih1 h1
    exact ⟨zs, h3, h4.trans h2⟩
theorem pe_sortSetS {X : Cx} (K : PySem.W.Frag) {a : Expr} {ta : TE} {p p2 q pos : Pos} (hc : X.calm = true) (hm : X.mg "sorted" = none) (hm2 : X.mg "set" = none) (ha : PE X a ta) (hk : X.K = K := by rfl) (hg : Gl X "sorted" := by rfl) (hg2 : Gl X "set" := by rfl)
    (na : starEach [a] X.env = (false, eval a X.env) :: starEach [] X.env := by rfl) : PE X (.Call (.Name "sorted" p) [.Call (.Name "set" p2) [a] [] q] [] pos) (tSortSetS K ta) := by
  subst hk
  refine ⟨fun pins s σ H Q I h => ?_⟩
  refine Call_ (ld_blt I hg hm boot_sorted (PyProof.Rows.callWith_builtin1 (PyProof.Rows.args_cons ?_ rfl) rfl rfl))
  refine Call_ (ld_blt I hg2 hm2 boot_set ?_)
  refine PyProof.Rows.callWith_type1 (PyProof.Rows.args_cons (thn (ha.run pins s σ H _ I h) fun v s1 ⟨x, H1, I1, r1, q1⟩ => PyProof.Rows.args_nil ?_) na) na rfl
  obtain ⟨l, xs, rfl, hq, small, q1⟩ := q1
  cases r1
  obtain ⟨its, r, pl, hz⟩ := I1.list hq
  refine set_of_list (I1.ok.hd hc) pl.isList (by simpa using strsAre_of r) (by unfold scanBound; omega) fun h2 tk hS keep => PyProof.Rows.args_nil ?_
  obtain ⟨o, ms, n, tb, ho, hex, hd, te, pm, few, fit, ris, led⟩ := hS
  have I2 : Inv X pins σ H1 { s1 with heap := h2, toks := tk } := I1.kept fun b o e => keep b o (Heap.lt_size e) e
  have few2 : (dd xs).length ≤ xs.length := by
    have := dd_le xs []
    simpa [dd] using this
  refine Calls.call_function_entry PyProof.Rows.kind_sorted PyProof.Rows.plain_sorted PyProof.Rows.entry_sorted (PyProof.Rows.args_sorted1 _) ?_
  unfold Builtin.«sorted»
  refine wpAny_bind (m := checkCount "sorted" 1 1 _) (wpAny_pure ?_)
  refine wpAny_bind (collect_set (A := X.A.in1) (I1.ok.hd hc) ⟨o, ho, hex.1, hd⟩ fit few ris led fun s3 vs k3 z3 g3 o3 p3 => ?_)
  obtain ⟨zs, sA, pz⟩ := strs_perm p3 (texts_are te)
  have vl : vs.length < 64 := by
    have e1 := StrsAre.len_eq sA
    have e2 := pz.length_eq
    have e3 := pm.length_eq
    omega
  refine wpAny_bind (wpAny_newList ?_ (small64 vl))
  have at4 : (s3.heap.push (seqObj "list" vs.toArray 0)).get? s3.heap.objs.size = some (seqObj "list" vs.toArray 0) := Heap.get?_push_size _ rfl
  refine wpAny_bind (wpAny_holding (wpAny_call_entry PyProof.Rows.slot_list_sort ⟨_, at4, rfl⟩ PyProof.Rows.entry_list_sort
    (list_sort_treeK strKind_oneLt (s := { s3 with heap := s3.heap.push (seqObj "list" vs.toArray 0) }) at4 sA.keysOf (fun v1 v2 rest e => keyKind_strs (by rw [← e]; exact sA)) vl fun st2 hp hs => ⟨_, rfl, ?_⟩)
    (PyProof.Rows.args_list_sort _)))
  obtain ⟨ys, y1, y2, y3⟩ := sorted_out_str sA hp hs
  obtain ⟨n5, at5⟩ := PyProof.Rows.sortedHeap_at (vs := vs) (out := (arrOf st2).map (·.2)) at4
  have yl : (ys.map V.str).length ≤ sizeLine := by
    rw [List.length_map, y2.length_eq, ← StrsAre.len_eq sA]
    exact small64 vl
  have k4 : ∀ b u, s1.heap.get? b = some u → (PyProof.Rows.sortedHeap (s3.heap.push (seqObj "list" vs.toArray 0)) s3.heap.objs.size vs ((arrOf st2).map (·.2))).get? b = some u := fun b u e => by
    have e3 := k3 b u (keep b u (Heap.lt_size e) e)
    have lt3 : b < s3.heap.objs.size := Heap.lt_size e3
    rw [PyProof.Rows.sortedHeap_old (Nat.ne_of_lt lt3) (by rw [size_push']; exact Nat.lt_succ_of_lt lt3)]
    exact Heap.get?_push_of_some _ e3
  have up : s1.heap.objs.size ≤ s3.heap.objs.size := Nat.le_trans (Nat.le_of_lt (Heap.lt_size ho)) z3
  have fr : H1 s3.heap.objs.size = none := I1.hok.fresh up
  have J : Inv X pins σ (upd H1 s3.heap.objs.size (.lst (ys.map V.str))) { s1 with heap := PyProof.Rows.sortedHeap (s3.heap.push (seqObj "list" vs.toArray 0)) s3.heap.objs.size vs ((arrOf st2).map (·.2)), gens := s3.gens, drawn := s3.drawn, toks := s3.toks } :=
    I1.call (ch := []) (Un.laid k4 up fr) (I1.hok.laid k4 up ⟨yl, ((arrOf st2).map (·.2)).toList, n5, vals_of_strs y1, by rw [Array.toArray_toList]; exact at5⟩) (by rw [g3]; exact I1.bare) (fun _ z => nomatch z)
  have es : ({ s3 with heap := PyProof.Rows.sortedHeap (s3.heap.push (seqObj "list" vs.toArray 0)) s3.heap.objs.size vs ((arrOf st2).map (·.2)) } : Shared) = { s1 with heap := PyProof.Rows.sortedHeap (s3.heap.push (seqObj "list" vs.toArray 0)) s3.heap.objs.size vs ((arrOf st2).map (·.2)), gens := s3.gens, drawn := s3.drawn, toks := s3.toks } := by
    cases s3
    cases s1
    cases o3
    rfl
  refine wpAny_pure ⟨_, rfl, ?_⟩
  show EP X pins σ Q (.ref s3.heap.objs.size) { s3 with heap := PyProof.Rows.sortedHeap (s3.heap.push (seqObj "list" vs.toArray 0)) s3.heap.objs.size vs ((arrOf st2).map (·.2)) }
  rw [es]
  exact ⟨.ref _, _, J, rfl, q1 ys _ (y2.trans (pz.trans pm)) y3 fr⟩
end Dear

namespace Dear
open PySem PySem.Spec PyProof.Rows L2
/-! ### data, and how the heap bears them -/
inductive D where
  | non | bl (b : Bool) | int (i : Int) | str (z : Str) | lst (ds : List D) | tup (ds : List D) | dct
def kind : D → String
  | .non => "NoneType" | .bl _ => "bool" | .int _ => "int" | .str _ => "str" | .lst _ => "list" | .tup _ => "tuple" | .dct => "dict"
mutual
inductive Dt (H : Hp) : V → D → Prop
  | non : Dt H .non .non
  | bl (b : Bool) : Dt H (.bl b) (.bl b)
  | int (i : Int) : Dt H (.int i) (.int i)
  | str (z : Str) : Dt H (.str z) (.str z)
  | lst {a : Addr} {xs : List V} {ds : List D} : H a = some (.lst xs) → DtAll H xs ds → Dt H (.ref a) (.lst ds)
  | tup {a : Addr} {xs : List V} {ds : List D} : H a = some (.tup xs) → DtAll H xs ds → Dt H (.ref a) (.tup ds)
  | dct {a : Addr} {kvs : List (Key × V)} : H a = some (.dK kvs) → Dt H (.ref a) .dct
inductive DtAll (H : Hp) : List V → List D → Prop
  | nil : DtAll H [] []
  | cons {v : V} {vs : List V} {d : D} {ds : List D} : Dt H v d → DtAll H vs ds → DtAll H (v :: vs) (d :: ds)
end
mutual
theorem Dt.same {H H' : Hp} (s : Same H H') : ∀ {v : V} {d : D}, Dt H v d → Dt H' v d
  | _, _, .non => .non
  | _, _, .bl b => .bl b
  | _, _, .int i => .int i
  | _, _, .str z => .str z
  | _, _, .lst h a => .lst (s _ _ h) (DtAll.same s a)
  | _, _, .tup h a => .tup (s _ _ h) (DtAll.same s a)
  | _, _, .dct h => .dct (s _ _ h)
theorem DtAll.same {H H' : Hp} (s : Same H H') : ∀ {vs : List V} {ds : List D}, DtAll H vs ds → DtAll H' vs ds
  | _, _, .nil => .nil
  | _, _, .cons a b => .cons (Dt.same s a) (DtAll.same s b)
end
theorem DtAll.length {H : Hp} : ∀ {vs : List V} {ds : List D}, DtAll H vs ds → vs.length = ds.length
  | _, _, .nil => rfl
  | _, _, .cons _ b => by rw [List.length_cons, List.length_cons, DtAll.length b]
theorem DtAll.get {H : Hp} : ∀ {vs : List V} {ds : List D} {i : Nat} {v : V}, DtAll H vs ds → vs[i]? = some v → ∃ d, ds[i]? = some d ∧ Dt H v d
  | _, _, _, _, .nil, e => by simp at e
  | _, _, 0, _, .cons a _, e => by
    simp at e
    subst e
    exact ⟨_, rfl, a⟩
  | _, _, i + 1, v, .cons _ b, e => by
    obtain ⟨d, h1, h2⟩ := DtAll.get (i := i) (v := v) b (by simpa using e)
    exact ⟨d, by simpa using h1, h2⟩
theorem DtAll.app {H : Hp} : ∀ {vs us : List V} {ds es : List D}, DtAll H vs ds → DtAll H us es → DtAll H (vs ++ us) (ds ++ es)
  | _, _, _, _, .nil, s => s
  | _, _, _, _, .cons a b, s => .cons a (DtAll.app b s)
theorem DtAll.map {α : Type} {H : Hp} {f : α → V} {g : α → D} (h : ∀ a, Dt H (f a) (g a)) : ∀ l : List α, DtAll H (l.map f) (l.map g)
  | [] => .nil
  | a :: l => .cons (h a) (DtAll.map h l)
theorem Dt.ty {K : PySem.W.Frag} {H : Hp} {v : V} {d : D} (h : Dt H v d) : TyX K H v (.type (kind d)) := by
  cases h with
  | non => exact .base .non
  | bl b => exact .base (.bl b)
  | int i => exact .base (.int i)
  | str z => exact .base (.str z)
  | lst h _ => exact .base (.lst h)
  | tup h _ => exact .base (.tup h)
  | dct h => exact .base (.dK h)
/-! ### a heap without one object -/
def Off (l : Addr) (H : Hp) : Hp := fun b => if b = l then none else H b
theorem Off.sub (l : Addr) (H : Hp) : Same (Off l H) H := fun b o e => by
  unfold Off at e
  by_cases h : b = l
  · rw [if_pos h] at e
    cases e
  · rw [if_neg h] at e
    exact e
theorem off_ne {l b : Addr} {H : Hp} (h : b ≠ l) : Off l H b = H b := if_neg h
theorem But.off {l : Addr} {H H' : Hp} (a : But l H H') : Same (Off l H) (Off l H') := fun b o e => by
  by_cases h : b = l
  · have z := (if_pos h).symm.trans e
    cases z
  · rw [off_ne h] at e ⊢
    exact a b o e h
theorem sOff {l : Addr} {H H' : Hp} (a : Same H H') : Same (Off l H) (Off l H') := (But.of a).off
theorem Dt.on {l : Addr} {H : Hp} {v : V} {d : D} (h : Dt (Off l H) v d) : Dt H v d := h.same (Off.sub l H)
/-! ### what a display makes -/
def Mk (l : Addr) (σ : L2.St) (t : TE) (H : Hp) (d : D) : Prop := ∀ H1, Same H H1 → ∀ Q : VK, (∀ v H2, Same H1 H2 → Dt (Off l H2) v d → Q v H2) → t σ H1 Q
def MkA (l : Addr) (σ : L2.St) (t : TA) (H : Hp) (ds : List D) : Prop := ∀ H1, Same H H1 → ∀ Q : List V → Hp → Prop, (∀ vs H2, Same H1 H2 → DtAll (Off l H2) vs ds → Q vs H2) → t σ H1 Q
section
variable {l : Addr} {σ : L2.St} {H : Hp}
theorem mk_c {v : V} {d : D} (h : Dt (Off l H) v d) : Mk l σ (tC v) H d := fun H1 s _ q => q v H1 (Same.refl _) (h.same (sOff s))
theorem mk_var {i : Nat} {v : V} {d : D} (e : σ[i]? = some (some v)) (h : Dt (Off l H) v d) : Mk l σ (tVar i) H d := fun H1 s _ q => ⟨v, e, q v H1 (Same.refl _) (h.same (sOff s))⟩
theorem mka_nil : MkA l σ tNil H [] := fun H1 _ _ q => q [] H1 (Same.refl _) .nil
theorem mka_cons {t : TE} {u : TA} {d : D} {ds : List D} (h1 : Mk l σ t H d) (h2 : MkA l σ u H ds) : MkA l σ (tCons t u) H (d :: ds) := fun H1 s Q q => by
  refine h1 H1 s _ fun v H2 s2 d2 => ?_
  refine h2 H2 (s.trans s2) _ fun vs H3 s3 d3 => ?_
  exact q (v :: vs) H3 (s2.trans s3) (.cons (d2.same (sOff s3)) d3)
theorem sz_lit {n : Nat} (h : n ≤ 1000) : n ≤ sizeLine := Nat.le_of_lt (small1000 h)
theorem mk_tup {u : TA} {ds : List D} (h : MkA l σ u H ds) {o : HO} (hl : H l = some o) (hz : Nat.ble ds.length 1000 = true := by rfl) : Mk l σ (tTup u) H (.tup ds) := fun H1 s Q q => by
  refine h H1 s _ fun vs H2 s2 d2 => ?_
  refine ⟨sz_lit (by rw [d2.length]; exact Nat.le_of_ble_eq_true hz), fun p hp => ?_⟩
  have ne : p ≠ l := fun e => by
    subst e
    rw [s2 _ _ (s _ _ hl)] at hp
    cases hp
  exact q (.ref p) _ (s2.trans (Same.upd hp)) (.tup (by rw [off_ne ne]; exact upd_same) (d2.same (sOff (Same.upd hp))))
theorem mk_lst {u : TA} {ds : List D} (h : MkA l σ u H ds) {o : HO} (hl : H l = some o) (hz : Nat.ble ds.length 1000 = true := by rfl) : Mk l σ (tLst u) H (.lst ds) := fun H1 s Q q => by
  refine h H1 s _ fun vs H2 s2 d2 => ?_
  refine ⟨sz_lit (by rw [d2.length]; exact Nat.le_of_ble_eq_true hz), fun p hp => ?_⟩
  have ne : p ≠ l := fun e => by
    subst e
    rw [s2 _ _ (s _ _ hl)] at hp
    cases hp
  exact q (.ref p) _ (s2.trans (Same.upd hp)) (.lst (by rw [off_ne ne]; exact upd_same) (d2.same (sOff (Same.upd hp))))
theorem mk_dnew {o : HO} (hl : H l = some o) : Mk l σ tDNewK H .dct := fun H1 s Q q p hp => by
  have ne : p ≠ l := fun e => by
    subst e
    rw [s _ _ hl] at hp
    cases hp
  exact q (.ref p) _ (Same.upd hp) (.dct (by rw [off_ne ne]; exact upd_same))
theorem mk_neg {i : Int} : Mk l σ (tUn (rU fun i => .int (-i)) (tC (.int i))) H (.int (-i)) := fun H1 _ _ q => ⟨i, rfl, q _ H1 (Same.refl _) (.int _)⟩
/-- {k: v} -/
theorem mk_disp1 {o : HO} {k : Int} {v : V} (hl : H l = some o) : Mk l σ (tDisp [(tC (.int k), tC v)]) H .dct := fun H1 s Q q p hp => by
  have ne : p ≠ l := fun e => by
    subst e
    rw [s _ _ hl] at hp
    cases hp
  refine ⟨upd_same, [(.inl k, v)], rfl, (by show 1 ≤ 15; decide), ?_⟩
  rw [upd_upd]
  exact q (.ref p) _ (Same.upd hp) (.dct (by rw [off_ne ne]; exact upd_same))
theorem Mk.go {t : TE} {d : D} (h : Mk l σ t H d) {Q : VK} (q : ∀ v H2, Same H H2 → Dt (Off l H2) v d → Q v H2) : t σ H Q := h H (Same.refl H) Q q
/-- xs + [..] -/
theorem mk_cat {t u : TE} {ds es : List D} (h1 : Mk l σ t H (.lst ds)) (h2 : Mk l σ u H (.lst es)) {o : HO} (hl : H l = some o) (hz : Nat.ble (ds.length + es.length) 1000 = true := by rfl) : Mk l σ (tOp rCat t u) H (.lst (ds ++ es)) := fun H1 s Q q => by
  refine h1 H1 s _ fun v H2 s2 d2 => ?_
  refine h2 H2 (s.trans s2) _ fun v3 H3 s3 d3 => ?_
  cases d2 with
  | lst ha2 hall2 =>
    cases d3 with
    | lst ha3 hall3 =>
      have ha2' := s3 _ _ (Off.sub _ _ _ _ ha2)
      have ha3' := Off.sub _ _ _ _ ha3
      refine ⟨_, _, _, _, rfl, rfl, ha2', ha3', sz_lit (by rw [hall2.length, hall3.length]; exact Nat.le_of_ble_eq_true hz), fun p hp => ?_⟩
      have ne : p ≠ l := fun e => by
        subst e
        rw [s3 _ _ (s2 _ _ (s _ _ hl))] at hp
        cases hp
      exact q (.ref p) _ ((s2.trans s3).trans (Same.upd hp)) (.lst (by rw [off_ne ne]; exact upd_same) (((hall2.same (sOff s3)).app hall3).same (sOff (Same.upd hp))))
end
/-! ### sizes of data -/
abbrev Asc (z : Str) : Prop := ∀ c ∈ z.cps.toList, c < 128
mutual
def Ok : D → Prop
  | .int i => i.natAbs < 2 ^ 300
  | .str z => z.length ≤ 3000 ∧ Asc z
  | .lst ds => OkAll ds
  | .tup ds => OkAll ds
  | _ => True
def OkAll : List D → Prop
  | [] => True
  | d :: ds => Ok d ∧ OkAll ds
end
theorem OkAll.mem : ∀ {ds : List D} {d : D}, OkAll ds → d ∈ ds → Ok d
  | [], _, _, m => by simp at m
  | e :: r, d, h, m => by
    rcases List.mem_cons.mp m with rfl | m
    · exact h.1
    · exact OkAll.mem h.2 m
/-- places of a list -/
theorem at_lt {α : Type} {xs : List α} {r : Int} (h0 : 0 ≤ r) (h1 : r < xs.length) : ∃ v, atI xs r = some v ∧ v ∈ xs ∧ xs[r.toNat]? = some v := by
  obtain ⟨n, rfl⟩ := Int.eq_ofNat_of_zero_le h0
  have hn : n < xs.length := by omega
  exact ⟨xs[n], atI_nat (by simp [hn]), List.getElem_mem hn, by simp [hn]⟩
/-! ### the law's draws -/
def Src (H : Hp) (l : Addr) : Prop := ∃ n s : Int, H l = some (.lst [.int n, .int s]) ∧ 0 ≤ n ∧ 0 ≤ s ∧ s < 2147483647
theorem Src.same {H H' : Hp} {l : Addr} (h : Src H l) (s : Same H H') : Src H' l := by
  obtain ⟨n, z, e, r⟩ := h
  exact ⟨n, z, s _ _ e, r⟩
theorem Src.some {H : Hp} {l : Addr} (h : Src H l) : ∃ o, H l = Option.some o := by
  obtain ⟨n, z, e, r⟩ := h
  exact ⟨_, e⟩
theorem Src.ne {H : Hp} {l p : Addr} (h : Src H l) (hp : H p = none) : p ≠ l := fun e => by
  obtain ⟨o, ho⟩ := h.some
  rw [e, ho] at hp
  cases hp
theorem bit_lt (k : Bool) : -(2 ^ 64) < (if k = true then 1 else 0 : Int) ∧ (if k = true then 1 else 0 : Int) < 2 ^ 64 := by
  cases k <;> decide
theorem bit_ge (k : Bool) : 0 ≤ (if k = true then 1 else 0 : Int) := by
  cases k <;> decide
def spSource : Sp := fun vs H Q _ => ∃ (c k : Int), vs = [.int c, .int k] ∧ ∀ (l : Addr) (H' : Hp), H l = none → Same H H' → Src H' l → Q (.ref l) H'
def spDraw : Sp := fun vs H Q _ => ∃ (l : Addr) (m : Int), vs = [.ref l, .int m] ∧ Src H l ∧ 0 < m ∧ m.natAbs.log2 < 9000 ∧ ∀ (r : Int) (H' : Hp), 0 ≤ r → r < m → But l H H' → Src H' l → Q (.int r) H'
theorem log_small {m : Int} {n : Nat} (h0 : 0 < n) (h : m.natAbs < 2 ^ n) (hn : n ≤ 9000) : m.natAbs.log2 < 9000 := Nat.lt_of_lt_of_le (PySem.Flt.log2_lt_of h0 h) hn
end Dear

namespace Dear
open PySem PySem.Spec PyProof.Rows L2
/-! ### kinds of things -/
def isInt : D → Bool
  | .int _ => true
  | _ => false
def isBl : D → Bool
  | .bl _ => true
  | _ => false
def isStr : D → Bool
  | .str _ => true
  | _ => false
def isLst : D → Bool
  | .lst _ => true
  | _ => false
def isTup : D → Bool
  | .tup _ => true
  | _ => false
def isDct : D → Bool
  | .dct => true
  | _ => false
theorem kd_int : ∀ d : D, kitB (kind d) "int" = some (isInt d || isBl d)
  | .non => (by decide +kernel : kitB "NoneType" "int" = some false)
  | .bl _ => (by decide +kernel : kitB "bool" "int" = some true)
  | .int _ => (by decide +kernel : kitB "int" "int" = some true)
  | .str _ => (by decide +kernel : kitB "str" "int" = some false)
  | .lst _ => (by decide +kernel : kitB "list" "int" = some false)
  | .tup _ => (by decide +kernel : kitB "tuple" "int" = some false)
  | .dct => (by decide +kernel : kitB "dict" "int" = some false)
theorem kd_bool : ∀ d : D, kitB (kind d) "bool" = some (isBl d)
  | .non => (by decide +kernel : kitB "NoneType" "bool" = some false)
  | .bl _ => (by decide +kernel : kitB "bool" "bool" = some true)
  | .int _ => (by decide +kernel : kitB "int" "bool" = some false)
  | .str _ => (by decide +kernel : kitB "str" "bool" = some false)
  | .lst _ => (by decide +kernel : kitB "list" "bool" = some false)
  | .tup _ => (by decide +kernel : kitB "tuple" "bool" = some false)
  | .dct => (by decide +kernel : kitB "dict" "bool" = some false)
theorem kd_str : ∀ d : D, kitB (kind d) "str" = some (isStr d)
  | .non => (by decide +kernel : kitB "NoneType" "str" = some false)
  | .bl _ => (by decide +kernel : kitB "bool" "str" = some false)
  | .int _ => (by decide +kernel : kitB "int" "str" = some false)
  | .str _ => (by decide +kernel : kitB "str" "str" = some true)
  | .lst _ => (by decide +kernel : kitB "list" "str" = some false)
  | .tup _ => (by decide +kernel : kitB "tuple" "str" = some false)
  | .dct => (by decide +kernel : kitB "dict" "str" = some false)
theorem kd_list : ∀ d : D, kitB (kind d) "list" = some (isLst d)
  | .non => (by decide +kernel : kitB "NoneType" "list" = some false)
  | .bl _ => (by decide +kernel : kitB "bool" "list" = some false)
  | .int _ => (by decide +kernel : kitB "int" "list" = some false)
  | .str _ => (by decide +kernel : kitB "str" "list" = some false)
  | .lst _ => (by decide +kernel : kitB "list" "list" = some true)
  | .tup _ => (by decide +kernel : kitB "tuple" "list" = some false)
  | .dct => (by decide +kernel : kitB "dict" "list" = some false)
theorem kd_tuple : ∀ d : D, kitB (kind d) "tuple" = some (isTup d)
  | .non => (by decide +kernel : kitB "NoneType" "tuple" = some false)
  | .bl _ => (by decide +kernel : kitB "bool" "tuple" = some false)
  | .int _ => (by decide +kernel : kitB "int" "tuple" = some false)
  | .str _ => (by decide +kernel : kitB "str" "tuple" = some false)
  | .lst _ => (by decide +kernel : kitB "list" "tuple" = some false)
  | .tup _ => (by decide +kernel : kitB "tuple" "tuple" = some true)
  | .dct => (by decide +kernel : kitB "dict" "tuple" = some false)
theorem kd_dict : ∀ d : D, kitB (kind d) "dict" = some (isDct d)
  | .non => (by decide +kernel : kitB "NoneType" "dict" = some false)
  | .bl _ => (by decide +kernel : kitB "bool" "dict" = some false)
  | .int _ => (by decide +kernel : kitB "int" "dict" = some false)
  | .str _ => (by decide +kernel : kitB "str" "dict" = some false)
  | .lst _ => (by decide +kernel : kitB "list" "dict" = some false)
  | .tup _ => (by decide +kernel : kitB "tuple" "dict" = some false)
  | .dct => (by decide +kernel : kitB "dict" "dict" = some true)
/-! ### is_whole, divisor, lowest, is_fraction, is_name -/
def spWhole : Sp := fun vs H Q _ => ∃ (v : V) (d : D), vs = [v] ∧ Dt H v d ∧ Q (.bl (isInt d)) H
def spDivisor : Sp := fun vs H Q _ => ∃ (a b : Int), vs = [.int a, .int b] ∧ 0 ≤ a ∧ 0 ≤ b ∧ Q (.int (Int.gcd a b)) H
/-- in lowest terms -/
def lowT (t b : Int) : Int := t / (Int.gcd b t : Int)
def lowB (t b : Int) : Int := b / (Int.gcd b t : Int)
def spLowest : Sp := fun vs H Q _ => ∃ (t b : Int), vs = [.int t, .int b] ∧ 0 < b ∧ b.natAbs.log2 < 9000 ∧ ∀ (p : Addr) (H' : Hp), H p = none → Same H H' → H' p = some (.tup [.int (lowT t b), .int (lowB t b)]) → Q (.ref p) H'
def isFr : D → Bool
  | .tup [.int t, .int b] => decide (0 < b) && (Int.gcd b t == 1)
  | _ => false
theorem isFr_len : ∀ {ds : List D}, ds.length ≠ 2 → isFr (.tup ds) = false
  | [], _ => rfl
  | [d], _ => by cases d <;> rfl
  | [_, _], h => absurd rfl h
  | d :: e :: _ :: _, _ => by cases d <;> cases e <;> rfl
def spFr : Sp := fun vs H Q _ => ∃ (v : V) (d : D), vs = [v] ∧ Dt H v d ∧ Ok d ∧ ∀ H', Same H H' → Q (.bl (isFr d)) H'
def letters : Str := "abcdefghijklmnopqrstuvwxyz"
def isNm : D → Bool
  | .str z => decide (1 ≤ z.length ∧ z.length ≤ 8) && z.cps.toList.all fun c => decide (c ∈ letters.cps.toList)
  | _ => false
def spNm : Sp := fun vs H Q _ => ∃ (v : V) (d : D), vs = [v] ∧ Dt H v d ∧ Ok d ∧ ∀ H', Same H H' → Q (.bl (isNm d)) H'
theorem gcd_step {a b : Int} (h0 : 0 ≤ a) (h : 0 < b) : Int.gcd b (a % b) = Int.gcd a b := by
  obtain ⟨m, rfl⟩ := Int.eq_ofNat_of_zero_le h0
  obtain ⟨n, rfl⟩ := Int.eq_ofNat_of_zero_le (Int.le_of_lt h)
  show Nat.gcd n (((m : Int) % (n : Int)).natAbs) = Nat.gcd m n
  rw [← Int.natCast_emod, Int.natAbs_natCast, Nat.gcd_comm n, ← Nat.gcd_rec, Nat.gcd_comm]
theorem abs_if (t : Int) : (if t < 0 then -t else t) = (t.natAbs : Int) := by
  split <;> omega
theorem gcd_abs (b t : Int) : Int.gcd b (t.natAbs : Int) = Int.gcd b t := by
  show Nat.gcd b.natAbs ((t.natAbs : Int).natAbs) = Nat.gcd b.natAbs t.natAbs
  rw [Int.natAbs_natCast]
theorem gcd_pos {b : Int} (t : Int) (h : 0 < b) : 0 < (Int.gcd b t : Int) := by
  have h1 : 0 < Int.gcd b t := Nat.gcd_pos_of_pos_left _ (by omega)
  omega
theorem gcd_le {b : Int} (t : Int) (h : 0 < b) : (Int.gcd b t : Int) ≤ b := by
  have h1 : Int.gcd b t ≤ b.natAbs := Nat.le_of_dvd (by omega) (Nat.gcd_dvd_left _ _)
  omega
theorem gcd_log {b : Int} (t : Int) (h : 0 < b) (hl : b.natAbs.log2 < 9000) : ((Int.gcd b t : Nat) : Int).natAbs.log2 < 9000 := by
  have h1 := gcd_le t h
  have h2 : b.natAbs < 2 ^ 9000 := Nat.lt_of_lt_of_le Nat.lt_log2_self (Nat.pow_le_pow_right (by decide) hl)
  have h3 : ((Int.gcd b t : Nat) : Int).natAbs < 2 ^ 9000 := Nat.lt_of_le_of_lt (by omega) h2
  exact PySem.Flt.log2_lt_of (by decide) h3
/-- a fraction is in lowest terms just where it is what lowest makes of it -/
theorem low_eq {t b : Int} (h : 0 < b) : ((lowT t b == t) && (lowB t b == b)) = (Int.gcd b t == 1) := by
  have g0 := gcd_pos t h
  by_cases e : Int.gcd b t = 1
  · have e1 : lowT t b = t := by unfold lowT; rw [e]; exact Int.ediv_one t
    have e2 : lowB t b = b := by unfold lowB; rw [e]; exact Int.ediv_one b
    rw [e1, e2, e]
    simp
  · have e3 : lowB t b ≠ b := by
      unfold lowB
      have g2 : (Int.gcd b t : Int) ≠ 1 := by omega
      have := Int.ediv_lt_self_of_pos_of_ne_one h g2
      omega
    have e4 : (lowB t b == b) = false := by simpa using e3
    have e5 : (Int.gcd b t == 1) = false := by simpa using e
    rw [e4, e5, Bool.and_false]
/-! ### texts -/
theorem in_letters_asc {c : Nat} (h : c ∈ letters.cps.toList) : c < 128 := by
  have : ∀ c ∈ letters.cps.toList, c < 128 := by decide +kernel
  exact this c h
end Dear

namespace Dear
open PySem PySem.Spec PyProof.Rows L2
/-! ### texts and lists of texts -/
theorem join_tl (ys : List Str) : (Txt.join "" ys).cps.toList = (ys.map fun y => y.cps.toList).flatten := by
  rw [TL.join_eq]
  have e := TL.tl_join ("" : Str) ys
  have e0 : TL.tl ("" : Str) = [] := by decide +kernel
  rw [e0] at e
  have g : ∀ l : List (List Nat), TL.joinL [] l = l.flatten := by
    intro l
    induction l with
    | nil => rfl
    | cons a r ih =>
      cases r with
      | nil => simp [TL.joinL]
      | cons b r =>
        rw [List.flatten_cons, ← ih]
        simp [TL.joinL]
  rw [g] at e
  exact e
/-- texts of one sign each -/
def Ones (ys : List Str) : Prop := ∀ y ∈ ys, y.length = 1 ∧ Asc y
theorem ones_join {ys : List Str} (h : Ones ys) : (Txt.join "" ys).length = ys.length ∧ Asc (Txt.join "" ys) := by
  constructor
  · rw [TL.len_tl, TL.tl, join_tl]
    induction ys with
    | nil => rfl
    | cons a r ih =>
      rw [List.map_cons, List.flatten_cons, List.length_append, ih fun y hy => h y (List.mem_cons_of_mem _ hy), List.length_cons]
      have h1 := (h a List.mem_cons_self).1
      rw [TL.len_tl] at h1
      have h2 : a.cps.toList.length = 1 := h1
      show a.cps.toList.length + r.length = r.length + 1
      omega
  · intro c hc
    rw [join_tl] at hc
    obtain ⟨l, hl, hc⟩ := List.mem_flatten.mp hc
    obtain ⟨y, hy, rfl⟩ := List.mem_map.mp hl
    exact (h y hy).2 c hc
theorem ones_size {ys : List Str} (h : Ones ys) (hl : ys.length ≤ 1000) : (ys.map (·.length)).sum + ys.length * ("" : Str).length ≤ 16777216 := by
  have e : (ys.map (·.length)).sum = ys.length := by
    clear hl
    induction ys with
    | nil => rfl
    | cons a r ih =>
      rw [List.map_cons, List.sum_cons, ih fun y hy => h y (List.mem_cons_of_mem _ hy), (h a List.mem_cons_self).1, List.length_cons]
      omega
  have e0 : ("" : Str).length = 0 := by decide +kernel
  rw [e, e0]
  omega
theorem dp_strs {K : PySem.W.Frag} {H : Hp} : ∀ ys : List Str, DpAll K H (ys.map V.str) (ys.map PyData.str)
  | [] => .nil
  | y :: ys => .cons (.str y) (dp_strs ys)
theorem strOk_asc {z : Str} (h : Asc z) : PyData.strOk z = true := by
  unfold PyData.strOk
  rw [Array.all_eq_true']
  intro c hc
  have := h c (by simpa using hc)
  simp
  omega
theorem depth_strs : ∀ ys : List Str, PyData.depthAll (ys.map PyData.str) = 0
  | [] => rfl
  | y :: ys => by
    rw [List.map_cons]
    show max (PyData.depth (.str y)) (PyData.depthAll (ys.map PyData.str)) = 0
    rw [depth_strs ys]
    rfl
theorem lay_strs : ∀ {ys : List Str}, (∀ y ∈ ys, Asc y) → PyData.canLayAll0 (ys.map PyData.str) = true
  | [], _ => rfl
  | y :: ys, h => by
    rw [List.map_cons]
    show (PyData.canLay0 (.str y) && PyData.canLayAll0 (ys.map PyData.str)) = true
    rw [lay_strs fun z hz => h z (List.mem_cons_of_mem _ hz), Bool.and_true]
    exact strOk_asc (h y List.mem_cons_self)
theorem shaped_strs {ys : List Str} (h : ∀ y ∈ ys, Asc y) : SeqAt.shaped (.list (ys.map PyData.str)) = true := by
  show (PyData.canLayAll0 (ys.map PyData.str) && decide (PyData.depthAll (ys.map PyData.str) + 1 ≤ 64)) = true
  rw [lay_strs h, depth_strs]
  rfl
theorem shaped_nil : SeqAt.shaped (.list []) = true := by decide +kernel
theorem eqv_nil : ∀ ds : List PyData, PyData.eqv (.list ds) (.list []) = ds.isEmpty
  | [] => by simp [PyData.eqv, PyData.eqvAll]
  | _ :: _ => by simp [PyData.eqv, PyData.eqvAll]
theorem all_empty {α β : Type} (l : List α) (p : α → Bool) (f : α → β) : l.all p = ((l.filter fun c => !p c).map f).isEmpty := by
  induction l with
  | nil => rfl
  | cons a r ih =>
    rw [List.all_cons, ih, List.filter_cons]
    cases p a <;> simp
theorem asc_one {c : Nat} (h : c < 128) : Asc ⟨#[c]⟩ := fun x hx => by
  have : x = c := by simpa using hx
  omega
theorem ixN_lt {n : Nat} {r : Int} (h0 : 0 ≤ r) (h1 : r < n) : ixN n r = some r.toNat := by
  unfold ixN
  rw [if_pos h0, if_pos h1]
theorem off_some {l p : Addr} {H : Hp} {o : HO} (h : Off l H p = some o) : p ≠ l ∧ H p = some o := by
  have ne : p ≠ l := fun e => by
    have z := (if_pos e).symm.trans h
    cases z
  rw [off_ne ne] at h
  exact ⟨ne, h⟩
theorem mem_cut {xs : List V} {lo hi : Option Int} {v : V} (h : v ∈ cutV xs lo hi) : v ∈ xs := List.mem_of_mem_drop (List.mem_of_mem_take h)
theorem get_ints {ns : List Int} {xs : List V} (h : ∀ v ∈ xs, v ∈ ns.map V.int) {i : Nat} {v : V} (e : xs[i]? = some v) : ∃ z, v = .int z ∧ z ∈ ns := by
  have := h v (List.mem_of_getElem? e)
  obtain ⟨z, hz, rfl⟩ := List.mem_map.mp this
  exact ⟨z, rfl, hz⟩
/-- one of a list that was made -/
theorem pick {l : Addr} {H H1 : Hp} {p : Addr} {ds : List D} (h : Dt (Off l H) (.ref p) (.lst ds)) (ok : OkAll ds) (B : But l H H1) {r : Int} (r0 : 0 ≤ r) (r1 : r < ds.length) :
    ∃ (xs : List V) (v : V) (d : D), H1 p = some (.lst xs) ∧ atI xs r = some v ∧ Dt (Off l H1) v d ∧ Ok d ∧ d ∈ ds := by
  cases h with
  | lst ha hall =>
    rename_i xs
    obtain ⟨ne, hp⟩ := off_some ha
    obtain ⟨v, hv, _, hr⟩ := at_lt (xs := xs) r0 (by rw [hall.length]; exact r1)
    obtain ⟨d, hd, h⟩ := hall.get hr
    have hm := List.mem_of_getElem? hd
    exact ⟨xs, v, d, B _ _ hp ne, hv, h.same B.off, ok.mem hm, hm⟩
theorem But.same0 {l : Addr} {H H1 H2 : Hp} (s : Same H H1) (h : H l = none) (B : But l H1 H2) : Same H H2 := fun c o e => B c o (s c o e) (ne_of_none e h)
theorem log_le {m : Int} (n : Nat) (h : m.natAbs ≤ n) (hn : n < 2 ^ 40 := by decide) : m.natAbs.log2 < 9000 := log_small (n := 40) (by decide) (Nat.lt_of_le_of_lt h hn) (by decide)
end Dear

namespace Dear
open PySem PySem.Spec PyProof.Rows L2
/-! ### list(text), tuple(text) -/
def sgnsV (z : Str) : List V := z.cps.toList.map fun c => V.str ⟨#[c]⟩
theorem valsAt : ∀ {xs : List V} {us : List Value}, xs.length = us.length → (∀ (j : Nat) (x : V) (u : Value), xs[j]? = some x → us[j]? = some u → RelV x u) → Vals xs us
  | [], [], _, _ => .nil
  | [], _ :: _, h, _ => by simp at h
  | _ :: _, [], h, _ => by simp at h
  | x :: xs, u :: us, h, f => .cons (f 0 x u rfl rfl) (valsAt (by simpa using h) fun j y w h1 h2 => f (j + 1) y w (by simpa using h1) (by simpa using h2))
theorem vals_signs {z : Str} {acc : Array Value} (h : ItemsOf (SignAt z) acc z.cps.size) : Vals (sgnsV z) acc.toList := by
  have el : acc.toList.length = z.cps.size := by rw [Array.length_toList]; exact h.1
  refine valsAt (by unfold sgnsV; rw [List.length_map, el, Array.length_toList]) fun j x u h1 h2 => ?_
  obtain ⟨c, t, e1, e2⟩ := h.2 j u (by rw [← h2, Array.getElem?_toList])
  unfold sgnsV at h1
  rw [List.getElem?_map, Array.getElem?_toList, e1] at h1
  cases h1
  exact ⟨t, e2⟩
section
variable {X : Cx}
def rListTx : List V → Hp → VK → Prop := fun xs H Q => ∃ z, xs = [.str z] ∧ z.length ≤ 1000 ∧ ∀ l, H l = none → Q (.ref l) (upd H l (.lst (sgnsV z)))
def rTupTx : List V → Hp → VK → Prop := fun xs H Q => ∃ z, xs = [.str z] ∧ z.length ≤ 1000 ∧ ∀ l, H l = none → Q (.ref l) (upd H l (.tup (sgnsV z)))
theorem call_list_tx (hc : X.calm = true) : CallR X (.type "list") rListTx := by
  intro pins s σ H xs us Q I r h
  obtain ⟨z, e, hz, q⟩ := h
  subst e
  obtain ⟨u, eu, t, rfl⟩ := vals1 r
  subst eu
  have hz' : z.cps.size ≤ sizeLine := sz_lit hz
  refine call_list_str (hn := hz') (I.ok.hd hc) z t fun h' tk acc c' hk e' hi => ?_
  refine ⟨.ref s.heap.objs.size, upd H s.heap.objs.size (.lst (sgnsV z)), I.laid hk (Nat.le_refl _) (show ObjOk X.prog X.w _ _ _ (.lst (sgnsV z)) from ⟨?_, acc.toList, c', vals_signs hi, ?_⟩), rfl, q _ (I.hok.fresh (Nat.le_refl _))⟩
  · unfold sgnsV
    rw [List.length_map, Array.length_toList]
    exact hz'
  · rw [Array.toArray_toList]; exact e'
theorem call_tuple_tx (hc : X.calm = true) : CallR X (.type "tuple") rTupTx := by
  intro pins s σ H xs us Q I r h
  obtain ⟨z, e, hz, q⟩ := h
  subst e
  obtain ⟨u, eu, t, rfl⟩ := vals1 r
  subst eu
  have hz' : z.cps.size ≤ sizeLine := sz_lit hz
  refine call_tuple_str (hsz := hz') (I.ok.hd hc) z t fun h' tk acc hk hi => ?_
  have I2 : Inv X pins σ H { s with heap := h', toks := tk } := I.kept hk
  refine ⟨.ref h'.objs.size, upd H h'.objs.size (.tup (sgnsV z)), I2.laid (t' := tk) (fun c o e => Heap.get?_push_of_some _ e) (Nat.le_refl _) (show ObjOk X.prog X.w _ _ _ (.tup (sgnsV z)) from ⟨?_, acc.toList, vals_signs hi, ?_⟩), rfl, q _ (I2.hok.fresh (Nat.le_refl _))⟩
  · unfold sgnsV
    rw [List.length_map, Array.length_toList]
    exact hz'
  · rw [Array.toArray_toList]; exact IsTup.new _ _
end
section
variable {l : Addr} {σ : L2.St} {H : Hp}
theorem dt_signs {H : Hp} : ∀ cs : List Nat, DtAll H (cs.map fun c => V.str ⟨#[c]⟩) (cs.map fun c => D.str ⟨#[c]⟩)
  | [] => .nil
  | c :: cs => .cons (.str _) (dt_signs cs)
theorem mk_ltx {i : Nat} {z : Str} {o : HO} (e : σ[i]? = some (some (.str z))) (hz : z.length ≤ 1000) (hl : H l = some o) : Mk l σ (tCB rListTx (tCons (tVar i) tNil)) H (.lst (z.cps.toList.map fun c => D.str ⟨#[c]⟩)) := fun H1 s Q q => by
  refine ⟨_, e, z, rfl, hz, fun p hp => ?_⟩
  have ne : p ≠ l := fun e => by
    subst e
    rw [s _ _ hl] at hp
    cases hp
  exact q (.ref p) _ (Same.upd hp) (.lst (by rw [off_ne ne]; exact upd_same) (dt_signs _))
theorem mk_ttx {i : Nat} {z : Str} {o : HO} (e : σ[i]? = some (some (.str z))) (hz : z.length ≤ 1000) (hl : H l = some o) : Mk l σ (tCB rTupTx (tCons (tVar i) tNil)) H (.tup (z.cps.toList.map fun c => D.str ⟨#[c]⟩)) := fun H1 s Q q => by
  refine ⟨_, e, z, rfl, hz, fun p hp => ?_⟩
  have ne : p ≠ l := fun e => by
    subst e
    rw [s _ _ hl] at hp
    cases hp
  exact q (.ref p) _ (Same.upd hp) (.tup (by rw [off_ne ne]; exact upd_same) (dt_signs _))
end
end Dear

namespace Dear
open PySem PySem.Spec PyProof.Rows L2
/-- law's: a list of at most 63 ints is handed in, True comes out -/
def spLaw (K : PySem.W.Frag) : Sp := fun vs H Q _ => ∃ (a : Addr) (ns : List Int), vs = [.ref a] ∧ SqL K H a (ns.map V.int) ∧ ns.length ≤ 63 ∧ ∀ H', Q (.bl true) H'
end Dear

namespace Dear
open PySem PySem.Spec PyProof.Rows L2
/-! ### slices of texts -/
def sgn (c : Nat) : Str := ⟨#[c]⟩
theorem str_one {z : Str} (h : z.length = 1) : ∃ c, z = ⟨#[c]⟩ := by
  obtain ⟨⟨l⟩⟩ := z
  match l, h with
  | [c], _ => exact ⟨c, rfl⟩
theorem inV_strs (z : Str) : ∀ ys : List Str, inV (.str z) (ys.map V.str) = decide (z ∈ ys)
  | [] => by simp [inV]
  | y :: ys => by
    have ih := inV_strs z ys
    unfold inV at ih ⊢
    rw [List.map_cons, List.any_cons, ih]
    by_cases e : y = z
    · subst e
      simp [eqV]
    · have e' : ¬ z = y := fun q => e q.symm
      have h1 : eqV (.str y) (.str z) = false := by simp [eqV, e]
      simp [h1, e']
theorem flat_str (ys : List Str) : (ys.map V.str).all flatV = true := by
  rw [List.all_eq_true]
  intro x hx
  obtain ⟨y, _, rfl⟩ := List.mem_map.mp hx
  rfl
theorem sgn_inj {a b : Nat} (h : sgn a = sgn b) : a = b := by
  have := congrArg (fun z : Str => z.cps.toList) h
  simpa [sgn] using this
/-- the text of these code points -/
def txt (l : List Nat) : Str := ⟨l.toArray⟩
theorem txt_list (l : List Nat) : (txt l).cps.toList = l := List.toList_toArray ..
theorem txt_length (l : List Nat) : (txt l).length = l.length := List.size_toArray ..
theorem txt_of (z : Str) : z = txt z.cps.toList := by
  cases z
  rfl
theorem str_len (a b : Str) : (a ++ b).length = a.length + b.length := by
  show (a.cps ++ b.cps).size = _
  exact Array.size_append
theorem txt_inj {a b : List Nat} (h : txt a = txt b) : a = b := by
  have := congrArg (fun z : Str => z.cps.toList) h
  simpa [txt_list] using this
theorem txt_app (a b : List Nat) : txt a ++ txt b = txt (a ++ b) := by
  show (⟨a.toArray ++ b.toArray⟩ : Str) = ⟨(a ++ b).toArray⟩
  simp
theorem cut_txt (l : List Nat) (lo hi : Option Int) : cutS (txt l) lo hi = txt ((l.drop (HT.sIx l.length 0 lo)).take (HT.sIx l.length l.length hi - HT.sIx l.length 0 lo)) := by
  unfold cutS
  rw [txt_list, txt_length]
  rfl
theorem cut_pre (l : List Nat) (j : Nat) : cutS (txt l) none (some (j : Int)) = txt (l.take j) := by
  rw [cut_txt, HT.sIx_none, HT.sIx_nat, List.drop_zero, Nat.sub_zero]
  congr 1
  by_cases h : j ≤ l.length
  · rw [Nat.min_eq_left h]
  · rw [Nat.min_eq_right (by omega), List.take_length, List.take_of_length_le (by omega)]
theorem cut_from (l : List Nat) (j : Nat) : cutS (txt l) (some (j : Int)) none = txt (l.drop j) := by
  rw [cut_txt, HT.sIx_none, HT.sIx_nat]
  congr 1
  by_cases h : j ≤ l.length
  · rw [Nat.min_eq_left h, List.take_of_length_le (by rw [List.length_drop]; exact Nat.le_refl _)]
  · rw [Nat.min_eq_right (by omega), List.drop_length, List.drop_of_length_le (by omega), List.take_nil]
theorem cut_last0 : cutS (txt []) (some (-1)) none = "" := by decide +kernel
theorem cut_last (l : List Nat) (c : Nat) : cutS (txt (l ++ [c])) (some (-1)) none = txt [c] := by
  rw [cut_txt, HT.sIx_none]
  have e1 : HT.sIx (l ++ [c]).length 0 (some (-1)) = l.length := by
    show (if (-1 : Int) < 0 then (-1 + ((l ++ [c]).length : Int)).toNat else min (-1 : Int).toNat (l ++ [c]).length) = l.length
    rw [if_pos (by decide), List.length_append]
    show (-1 + ((l.length + 1 : Nat) : Int)).toNat = _
    omega
  rw [e1, List.drop_left, List.take_of_length_le]
  rw [List.length_append]
  show 1 ≤ l.length + 1 - l.length
  omega
theorem cut_init {l : List Nat} {e : Nat} : cutS (txt (l ++ [e])) none (some (-1)) = txt l := by
  have e1 : HT.sIx (l ++ [e]).length (l ++ [e]).length (some (-1)) = l.length := by
    show (if (-1 : Int) < 0 then (-1 + ((l ++ [e]).length : Int)).toNat else min (-1 : Int).toNat (l ++ [e]).length) = l.length
    rw [if_pos (by decide), List.length_append]
    show (-1 + ((l.length + 1 : Nat) : Int)).toNat = _
    omega
  rw [cut_txt, HT.sIx_none, e1, List.drop_zero, Nat.sub_zero, List.take_left]
theorem at_last {l : List Nat} {e : Nat} : atI (txt (l ++ [e])).cps.toList (-1) = some e := by
  rw [txt_list]
  unfold atI ixN
  rw [if_neg (by decide), if_pos (by rw [List.length_append]; show -((l.length + 1 : Nat) : Int) ≤ -1; omega)]
  have e1 : (-1 + ((l ++ [e]).length : Int)).toNat = l.length := by
    rw [List.length_append]
    show (-1 + ((l.length + 1 : Nat) : Int)).toNat = _
    omega
  rw [e1]
  show (l ++ [e])[l.length]? = some e
  rw [List.getElem?_append_right (Nat.le_refl _), Nat.sub_self]
  rfl
theorem sgn_txt (c : Nat) : sgn c = txt [c] := rfl
theorem txt_snoc (l : List Nat) (c : Nat) : txt l ++ sgn c = txt (l ++ [c]) := by
  show (⟨l.toArray ++ #[c]⟩ : Str) = ⟨(l ++ [c]).toArray⟩
  simp
/-- the sign ahead of the j-th one -/
def aheadOf (l : List Nat) (j : Nat) : Str := cutS (cutS (txt l) none (some (j : Int))) (some (-1)) none
theorem ahead_zero (l : List Nat) : aheadOf l 0 = "" := by
  unfold aheadOf
  rw [cut_pre, List.take_zero]
  exact cut_last0
theorem ahead_succ {l : List Nat} {j : Nat} {c : Nat} (h : l[j]? = some c) : aheadOf l (j + 1) = txt [c] := by
  unfold aheadOf
  rw [cut_pre, List.take_add_one, h, Option.toList_some, cut_last]
end Dear

namespace Dear
open PySem PySem.Spec PyProof.Rows L2
/-! ### data of tuples alone: they stay whatever lists are changed -/
mutual
def Pu : D → Prop
  | .lst _ => False
  | .dct => False
  | .tup ds => PuAll ds
  | _ => True
def PuAll : List D → Prop
  | [] => True
  | d :: ds => Pu d ∧ PuAll ds
end
def TP (H H' : Hp) : Prop := ∀ b xs, H b = some (.tup xs) → H' b = some (.tup xs)
theorem TP.refl (H : Hp) : TP H H := fun _ _ h => h
theorem TP.trans {H H1 H2 : Hp} (a : TP H H1) (b : TP H1 H2) : TP H H2 := fun c xs h => b c xs (a c xs h)
theorem TP.same {H H' : Hp} (s : Same H H') : TP H H' := fun b xs h => s b _ h
theorem TP.but {l : Addr} {H H' : Hp} (s : But l H H') {xs : List V} (hl : H l = some (.lst xs)) : TP H H' := fun b ys h => s b _ h (ne_of h hl (by intro z; cases z))
theorem TP.src {l : Addr} {H H' : Hp} (s : But l H H') (hl : Src H l) : TP H H' := by
  obtain ⟨n, z, e, _⟩ := hl
  exact TP.but s e
theorem TP.upd {H : Hp} {p : Addr} {xs : List V} {o : HO} (h : H p = some (.lst xs)) : TP H (L2.upd H p o) := fun b ys e => by
  rw [upd_ne (ne_of e h (by intro z; cases z))]
  exact e
mutual
theorem Dt.tp {H H' : Hp} (t : TP H H') : ∀ {v : V} {d : D}, Pu d → Dt H v d → Dt H' v d
  | _, _, _, .non => .non
  | _, _, _, .bl b => .bl b
  | _, _, _, .int i => .int i
  | _, _, _, .str z => .str z
  | _, _, p, .lst _ _ => p.elim
  | _, _, p, .tup h a => .tup (t _ _ h) (DtAll.tp t p a)
  | _, _, p, .dct _ => p.elim
theorem DtAll.tp {H H' : Hp} (t : TP H H') : ∀ {vs : List V} {ds : List D}, PuAll ds → DtAll H vs ds → DtAll H' vs ds
  | _, _, _, .nil => .nil
  | _, _, p, .cons a b => .cons (Dt.tp t p.1 a) (DtAll.tp t p.2 b)
end
theorem PuAll.app : ∀ {ds es : List D}, PuAll ds → PuAll es → PuAll (ds ++ es)
  | [], _, _, h => h
  | _ :: _, _, a, h => ⟨a.1, PuAll.app a.2 h⟩
theorem OkAll.app : ∀ {ds es : List D}, OkAll ds → OkAll es → OkAll (ds ++ es)
  | [], _, _, h => h
  | _ :: _, _, a, h => ⟨a.1, OkAll.app a.2 h⟩
theorem DtAll.strs {H : Hp} : ∀ {xs : List V} {pre : List Str}, DtAll H xs (pre.map D.str) → xs = pre.map V.str
  | _, [], .nil => rfl
  | _, _ :: _, .cons (.str z) t => by
    rw [DtAll.strs t]
    rfl
theorem DtAll.take {H : Hp} : ∀ {xs : List V} {ds : List D} (n : Nat), DtAll H xs ds → DtAll H (xs.take n) (ds.take n)
  | _, _, 0, _ => .nil
  | _, _, _ + 1, .nil => .nil
  | _, _, n + 1, .cons a b => .cons a (DtAll.take n b)
theorem drop_get {α : Type} {l : List α} {i : Nat} {x : α} (h : l[i]? = some x) : l.drop i = x :: l.drop (i + 1) := by
  obtain ⟨h1, h2⟩ := List.getElem?_eq_some_iff.mp h
  rw [List.drop_eq_getElem_cons h1, h2]
theorem take_more {α : Type} {l : List α} {i : Nat} {x : α} (h : l[i]? = some x) : l.take (i + 1) = l.take i ++ [x] := by
  rw [List.take_succ, h]
  rfl
end Dear

namespace Dear
open PySem PySem.Spec PyProof.Rows L2
/-! ### data as the library's, for == -/
mutual
def py : D → PyData
  | .non => .none
  | .bl b => .bool b
  | .int i => .int i
  | .str z => .str z
  | .lst ds => .list (pyAll ds)
  | .tup ds => .tuple (pyAll ds)
  | .dct => .none
def pyAll : List D → List PyData
  | [] => []
  | d :: ds => py d :: pyAll ds
end
mutual
def NoD : D → Prop
  | .dct => False
  | .lst ds => NoDAll ds
  | .tup ds => NoDAll ds
  | _ => True
def NoDAll : List D → Prop
  | [] => True
  | d :: ds => NoD d ∧ NoDAll ds
end
mutual
theorem Dt.dp {K : PySem.W.Frag} {H : Hp} : ∀ {v : V} {d : D}, NoD d → Dt H v d → Dp K H v (py d)
  | _, _, _, .non => .non
  | _, _, _, .bl b => .bl b
  | _, _, _, .int i => .int i
  | _, _, _, .str z => .str z
  | _, _, n, .lst h a => .lst (SqL.of h) (DtAll.dp n a)
  | _, _, n, .tup h a => .tup (SqT.of h) (DtAll.dp n a)
  | _, _, n, .dct _ => n.elim
theorem DtAll.dp {K : PySem.W.Frag} {H : Hp} : ∀ {vs : List V} {ds : List D}, NoDAll ds → DtAll H vs ds → DpAll K H vs (pyAll ds)
  | _, _, _, .nil => .nil
  | _, _, n, .cons a b => .cons (Dt.dp n.1 a) (DtAll.dp n.2 b)
end
mutual
theorem lay_py : ∀ {d : D}, Ok d → NoD d → PyData.canLay0 (py d) = true
  | .non, _, _ => rfl
  | .bl _, _, _ => rfl
  | .int _, _, _ => rfl
  | .str _, o, _ => strOk_asc o.2
  | .lst _, o, n => layAll_py o n
  | .tup _, o, n => layAll_py o n
  | .dct, _, n => n.elim
theorem layAll_py : ∀ {ds : List D}, OkAll ds → NoDAll ds → PyData.canLayAll0 (pyAll ds) = true
  | [], _, _ => rfl
  | d :: ds, o, n => by
    show (PyData.canLay0 (py d) && PyData.canLayAll0 (pyAll ds)) = true
    rw [lay_py o.1 n.1, layAll_py o.2 n.2]
    rfl
end
/-! how deep -/
mutual
def dep : D → Nat
  | .lst ds => depAll ds + 1
  | .tup ds => depAll ds + 1
  | _ => 0
def depAll : List D → Nat
  | [] => 0
  | d :: ds => max (dep d) (depAll ds)
end
mutual
theorem dep_py : ∀ d : D, PyData.depth (py d) = dep d
  | .non => rfl
  | .bl _ => rfl
  | .int _ => rfl
  | .str _ => rfl
  | .lst ds => congrArg (· + 1) (depAll_py ds)
  | .tup ds => congrArg (· + 1) (depAll_py ds)
  | .dct => rfl
theorem depAll_py : ∀ ds : List D, PyData.depthAll (pyAll ds) = depAll ds
  | [] => rfl
  | d :: ds => by
    show max (PyData.depth (py d)) (PyData.depthAll (pyAll ds)) = max (dep d) (depAll ds)
    rw [dep_py d, depAll_py ds]
end
theorem shaped_py {d : D} (o : Ok d) (n : NoD d) (h : dep d ≤ 64) : SeqAt.shaped (py d) = true := by
  show (PyData.canLay0 (py d) && decide (PyData.depth (py d) ≤ 64)) = true
  rw [lay_py o n, dep_py, decide_eq_true h]
  rfl
theorem depAll_le : ∀ {ds : List D} {n : Nat}, (∀ d ∈ ds, dep d ≤ n) → depAll ds ≤ n
  | [], _, _ => Nat.zero_le _
  | d :: ds, n, h => Nat.max_le.mpr ⟨h d List.mem_cons_self, depAll_le fun x hx => h x (List.mem_cons_of_mem _ hx)⟩
theorem noAll_of : ∀ {ds : List D}, (∀ d ∈ ds, NoD d) → NoDAll ds
  | [], _ => trivial
  | d :: ds, h => ⟨h d List.mem_cons_self, noAll_of fun x hx => h x (List.mem_cons_of_mem _ hx)⟩
theorem strs_flat (zs : List Str) : (∀ d ∈ zs.map D.str, dep d ≤ 0) ∧ ∀ d ∈ zs.map D.str, NoD d := by
  constructor <;> intro d hd <;> obtain ⟨z, _, rfl⟩ := List.mem_map.mp hd
  · exact Nat.le_refl _
  · trivial
theorem eqv_same {d : PyData} (h : SeqAt.shaped d = true) : PyData.eqv d d = true := SeqAt.eqv_refl _ (SeqAt.canLay_of_shaped h)
end Dear

namespace Dear
open PySem PySem.Spec PyProof.Rows L2
/-! ### text * number -/
theorem fold_rep (a : Array Nat) : ∀ (k : Nat) (acc : Array Nat), ((List.replicate k a).foldl (· ++ ·) acc).toList = acc.toList ++ (List.replicate k a.toList).flatten
  | 0, acc => by simp
  | k + 1, acc => by
    rw [List.replicate_succ, List.replicate_succ, List.foldl_cons, fold_rep a k, List.flatten_cons, Array.toList_append, List.append_assoc]
def repT (l : List Nat) (k : Nat) : List Nat := (List.replicate k l).flatten
theorem repT_len (l : List Nat) (k : Nat) : (repT l k).length = k * l.length := by
  unfold repT
  simp
def rRepS : R2 := fun x y H Q => ∃ (l : List Nat) (n : Int), x = .str (txt l) ∧ y = .int n ∧ 0 ≤ n ∧ n ≤ 1000 ∧ l.length ≤ 1000 ∧ Q (.str (txt (repT l n.toNat))) H
theorem op_repS {X : Cx} : OpR X (binaryOp .Mult) rRepS := by
  intro pins s σ H x y v u Q I rx ry h
  obtain ⟨l, n, rfl, rfl, h0, h1, hl, q⟩ := h
  obtain ⟨t, rfl⟩ := rx
  obtain ⟨t', rfl⟩ := ry
  have ln := txt_length l
  have big : l.length * n.toNat ≤ 1000 * 1000 := Nat.mul_le_mul hl (by omega)
  refine PySem.P.mul_str (x := txt l) (by rw [decide_eq_false (by omega), decide_eq_false (by omega)]; rfl) (fun h2 _ => ?_) (fun _ _ => ?_) ?_
  · have h3 : 0 < n := by omega
    have h4 : ((txt l).length : Int) ≤ (2 ^ 63 - 1) / n := by
      rw [Int.le_ediv_iff_mul_le h3, ln]
      have e : ((l.length * n.toNat : Nat) : Int) = (l.length : Int) * n := by
        rw [Int.natCast_mul, Int.toNat_of_nonneg h0]
      rw [← e]
      omega
    omega
  · unfold Builtin.Str.tooLong
    rw [ln]
    refine decide_eq_false ?_
    have := sz_lit (n := 0) (by decide)
    rw [sizeLine_eq]
    omega
  · by_cases e1 : n < 1
    · rw [if_pos e1]
      have e2 : n = 0 := by omega
      subst e2
      exact ⟨by decide, .str (txt (repT l 0)), H, I.tok _, ⟨_, rfl⟩, q⟩
    · rw [if_neg e1]
      by_cases e2 : (n == 1 || (txt l).length == 0) = true
      · rw [if_pos e2]
        have e3 : repT l n.toNat = l := by
          rw [ln] at e2
          simp only [Bool.or_eq_true, beq_iff_eq] at e2
          rcases e2 with e2 | e2
          · subst e2
            simp [repT]
          · have e3 : l = [] := List.length_eq_zero_iff.mp e2
            subst e3
            simp [repT]
        rw [e3] at q
        exact ⟨.str (txt l), H, I, ⟨_, rfl⟩, q⟩
      · rw [if_neg e2]
        have e3 : (⟨(List.replicate n.toNat (txt l).cps).foldl (· ++ ·) #[]⟩ : Str) = txt (repT l n.toNat) := by
          rw [txt_of ⟨(List.replicate n.toNat (txt l).cps).foldl (· ++ ·) #[]⟩]
          congr 1
          show ((List.replicate n.toNat (txt l).cps).foldl (· ++ ·) #[]).toList = _
          rw [fold_rep, txt_list]
          rfl
        rw [e3]
        refine ⟨?_, .str (txt (repT l n.toNat)), H, I.tok _, ⟨_, rfl⟩, q⟩
        rw [txt_length, repT_len, Nat.mul_comm, sizeLine_eq]
        omega
end Dear

namespace Dear
open PySem PySem.Spec PyProof.Rows L2
/-! ### names and wants as author B's laws draw them -/
def letN (i : Nat) : Nat := letters.cps.toList.getD i 0
def sufL (a : Nat) : List Nat := if a / 26 = 0 then [] else if a / 26 = 1 then [97] else [122, 122]
def tellL (a : Nat) : List Nat := letN (a % 26) :: sufL a
def moreL (s : Nat) : List Nat := repT [letN (s % 26)] (s / 26 % 6)
def nameL (k s : Nat) : List Nat := if s % 2 = 0 then moreL s ++ tellL ((37 * k + s) % 61) else tellL ((37 * k + s) % 61) ++ moreL s
theorem letN_at {i : Nat} (h : i < 26) : letters.cps.toList[i]? = some (letN i) := by
  have hl : i < letters.cps.toList.length := by
    rw [show letters.cps.toList.length = 26 from by decide +kernel]
    exact h
  unfold letN
  rw [List.getD_eq_getElem?_getD, List.getElem?_eq_getElem hl]
  rfl
theorem letN_mem {i : Nat} (h : i < 26) : letN i ∈ letters.cps.toList := List.mem_of_getElem? (letN_at h)
theorem letN_atI {i : Nat} (h : i < 26) : atI letters.cps.toList (i : Int) = some (letN i) := atI_nat (letN_at h)
theorem suf_mem (a : Nat) : ∀ c ∈ sufL a, c ∈ letters.cps.toList := by
  unfold sufL
  split
  · exact fun _ h => nomatch h
  · split
    · decide +kernel
    · decide +kernel
theorem suf_len (a : Nat) : (sufL a).length ≤ 2 := by
  unfold sufL
  split
  · decide
  · split <;> decide
theorem tell_inj : ∀ a < 61, ∀ b < 61, tellL a = tellL b → a = b := by decide +kernel
theorem name_of (k s : Nat) : (∀ c ∈ nameL k s, c ∈ letters.cps.toList) ∧ 1 ≤ (nameL k s).length ∧ (nameL k s).length ≤ 8 := by
  have m1 : ∀ c ∈ moreL s, c ∈ letters.cps.toList := fun c hc => by
    unfold moreL repT at hc
    obtain ⟨l, hl, hc⟩ := List.mem_flatten.mp hc
    have := List.eq_of_mem_replicate hl
    subst this
    have : c = letN (s % 26) := by simpa using hc
    subst this
    exact letN_mem (Nat.mod_lt _ (by decide))
  have m2 : (moreL s).length ≤ 5 := by
    unfold moreL
    rw [repT_len]
    show s / 26 % 6 * 1 ≤ 5
    omega
  have t1 : ∀ a, ∀ c ∈ tellL a, c ∈ letters.cps.toList := fun a c hc => by
    rcases List.mem_cons.mp hc with rfl | hc
    · exact letN_mem (Nat.mod_lt _ (by decide))
    · exact suf_mem a c hc
  have t2 : ∀ a, (tellL a).length = (sufL a).length + 1 := fun _ => rfl
  have t3 := suf_len ((37 * k + s) % 61)
  have t4 := t2 ((37 * k + s) % 61)
  unfold nameL
  split
  · refine ⟨fun c hc => ?_, ?_, ?_⟩
    · rcases List.mem_append.mp hc with hc | hc
      · exact m1 c hc
      · exact t1 _ c hc
    · rw [List.length_append]; omega
    · rw [List.length_append]; omega
  · refine ⟨fun c hc => ?_, ?_, ?_⟩
    · rcases List.mem_append.mp hc with hc | hc
      · exact t1 _ c hc
      · exact m1 c hc
    · rw [List.length_append]; omega
    · rw [List.length_append]; omega
theorem name_inj {s i j : Nat} (hi : i < 61) (hj : j < 61) (h : nameL i s = nameL j s) : i = j := by
  have e : tellL ((37 * i + s) % 61) = tellL ((37 * j + s) % 61) := by
    unfold nameL at h
    split at h
    · exact List.append_cancel_left h
    · exact List.append_cancel_right h
  have := tell_inj _ (Nat.mod_lt _ (by decide)) _ (Nat.mod_lt _ (by decide)) e
  omega
/-! ### wants -/
def wantD (w : List Nat × Int) : D := .tup [.str (txt w.1), .int w.2]
structure WOk (w : List Nat × Int) : Prop where
  l : ∀ c ∈ w.1, c ∈ letters.cps.toList
  n1 : 1 ≤ w.1.length
  n8 : w.1.length ≤ 8
  c0 : 0 ≤ w.2
  c9 : w.2 ≤ 1000000000
structure WsOk (ws : List (List Nat × Int)) : Prop where
  all : ∀ w ∈ ws, WOk w
  nd : (ws.map Prod.fst).Nodup
theorem names_nodup (s n : Nat) (h : n ≤ 61) : ((List.range n).map fun k => nameL k s).Nodup := by
  rw [List.nodup_iff_pairwise_ne, List.pairwise_map]
  refine List.Pairwise.imp_of_mem ?_ (List.nodup_iff_pairwise_ne.mp List.nodup_range)
  intro a b ha hb hne e
  exact hne (name_inj (by have := List.mem_range.mp ha; omega) (by have := List.mem_range.mp hb; omega) e)
def isWant : D → Bool
  | .tup [a, .int c] => isNm a && decide (0 ≤ c ∧ c ≤ 1000000000)
  | _ => false
def nameD : D → Str
  | .tup (.str z :: _) => z
  | _ => ""
/-- the first that can't stand -/
def badAt (i : Nat) : List Str → List D → Option V
  | _, [] => none
  | seen, d :: r => if isWant d && !decide (nameD d ∈ seen) then badAt (i + 1) (seen ++ [nameD d]) r else some (.int (i : Nat))
def wantsBad : D → Option V
  | .lst ds => if 1 ≤ ds.length ∧ ds.length ≤ 20 then badAt 0 [] ds else some .non
  | _ => some .non
theorem nm_txt {l : List Nat} (h : ∀ c ∈ l, c ∈ letters.cps.toList) (h1 : 1 ≤ l.length) (h8 : l.length ≤ 8) : isNm (.str (txt l)) = true := by
  show (decide (1 ≤ (txt l).length ∧ (txt l).length ≤ 8) && (txt l).cps.toList.all fun c => decide (c ∈ letters.cps.toList)) = true
  rw [txt_length, txt_list, decide_eq_true ⟨h1, h8⟩, Bool.true_and, List.all_eq_true]
  exact fun c hc => decide_eq_true (h c hc)
theorem WOk.is {w : List Nat × Int} (h : WOk w) : isWant (wantD w) = true := by
  show (isNm (.str (txt w.1)) && decide (0 ≤ w.2 ∧ w.2 ≤ 1000000000)) = true
  rw [nm_txt h.l h.n1 h.n8, decide_eq_true ⟨h.c0, h.c9⟩]
  rfl
theorem bad_none : ∀ {ws : List (List Nat × Int)} {seen : List (List Nat)} {i : Nat}, (∀ w ∈ ws, WOk w) → (seen ++ ws.map Prod.fst).Nodup → badAt i (seen.map txt) (ws.map wantD) = none
  | [], _, _, _, _ => rfl
  | w :: ws, seen, i, h, nd => by
    have h1 := (h w List.mem_cons_self).is
    have h2 : ¬ txt w.1 ∈ seen.map txt := fun q => by
      obtain ⟨l, hl, e⟩ := List.mem_map.mp q
      have e := txt_inj e
      subst e
      exact (List.nodup_append.mp nd).2.2 _ hl _ (List.mem_cons_self ..) rfl
    show (if isWant (wantD w) && !decide (txt w.1 ∈ seen.map txt) then badAt (i + 1) (seen.map txt ++ [txt w.1]) (ws.map wantD) else _) = none
    rw [h1, decide_eq_false h2, if_pos (by rfl)]
    have := bad_none (ws := ws) (seen := seen ++ [w.1]) (i := i + 1) (fun x hx => h x (List.mem_cons_of_mem _ hx)) (by rw [List.append_assoc]; exact nd)
    rw [List.map_append] at this
    exact this
theorem wants_good {ws : List (List Nat × Int)} (h : WsOk ws) (h1 : 1 ≤ ws.length) (h2 : ws.length ≤ 20) : wantsBad (.lst (ws.map wantD)) = none := by
  show (if 1 ≤ (ws.map wantD).length ∧ (ws.map wantD).length ≤ 20 then badAt 0 [] (ws.map wantD) else some .non) = none
  rw [List.length_map, if_pos ⟨h1, h2⟩]
  exact bad_none (seen := []) h.all h.nd
theorem WOk.facts {w : List Nat × Int} (h : WOk w) : Ok (wantD w) ∧ NoD (wantD w) ∧ dep (wantD w) ≤ 1 := by
  refine ⟨⟨⟨?_, fun c hc => ?_⟩, ?_, trivial⟩, ⟨trivial, trivial, trivial⟩, Nat.le_refl _⟩
  · rw [txt_length]
    have := h.n8
    omega
  · rw [txt_list] at hc
    exact in_letters_asc (h.l c hc)
  · have h1 := h.c0
    have h2 := h.c9
    exact Nat.lt_of_lt_of_le (show w.2.natAbs < 2 ^ 40 by omega) (Nat.pow_le_pow_right (by decide) (by decide))
theorem wants_facts {ws : List (List Nat × Int)} (h : ∀ w ∈ ws, WOk w) : Ok (.lst (ws.map wantD)) ∧ NoD (.lst (ws.map wantD)) ∧ dep (.lst (ws.map wantD)) ≤ 64 := by
  refine ⟨?_, ?_, ?_⟩
  · show OkAll (ws.map wantD)
    induction ws with
    | nil => trivial
    | cons w r ih => exact ⟨(h w List.mem_cons_self).facts.1, ih fun x hx => h x (List.mem_cons_of_mem _ hx)⟩
  · refine noAll_of fun d hd => ?_
    obtain ⟨w, hw, rfl⟩ := List.mem_map.mp hd
    exact (h w hw).facts.2.1
  · have := depAll_le (ds := ws.map wantD) (n := 1) fun d hd => by
      obtain ⟨w, hw, rfl⟩ := List.mem_map.mp hd
      exact (h w hw).facts.2.2
    show depAll (ws.map wantD) + 1 ≤ 64
    omega
end Dear

namespace Dear
open PySem PySem.Spec PyProof.Rows L2
/-! ### what a display makes, of new objects alone -/
def New (H0 H : Hp) : Hp := fun b => if (H0 b).isSome then none else H b
theorem new_at {H0 H : Hp} {b : Addr} (h : H0 b = none) : New H0 H b = H b := by
  unfold New
  rw [h]
  rfl
theorem new_some {H0 H : Hp} {b : Addr} {o : HO} (h : New H0 H b = some o) : H0 b = none ∧ H b = some o := by
  unfold New at h
  cases e : H0 b with
  | none =>
    rw [e] at h
    exact ⟨rfl, h⟩
  | some u =>
    rw [e] at h
    cases h
theorem New.sub (H0 H : Hp) : Same (New H0 H) H := fun _ _ e => (new_some e).2
theorem New.mono {H0 H H' : Hp} (s : Same H H') : Same (New H0 H) (New H0 H') := fun b o e => by
  obtain ⟨h1, h2⟩ := new_some e
  rw [new_at h1]
  exact s _ _ h2
theorem New.but {H0 H H' : Hp} {l : Addr} {o : HO} (hl : H0 l = some o) (s : But l H H') : Same (New H0 H) (New H0 H') := fun b o e => by
  obtain ⟨h1, h2⟩ := new_some e
  rw [new_at h1]
  exact s _ _ h2 fun z => by
    rw [z, hl] at h1
    cases h1
theorem New.off {H0 H : Hp} {l : Addr} {o : HO} (hl : H0 l = some o) : Same (New H0 H) (Off l H) := fun b o e => by
  obtain ⟨h1, h2⟩ := new_some e
  rw [off_ne fun z => by
    rw [z, hl] at h1
    cases h1]
  exact h2
/-- one base heap in the other's place -/
theorem New.base {H0 H1 H : Hp} (s : Same H0 H1) : Same (New H1 H) (New H0 H) := fun b o e => by
  obtain ⟨h1, h2⟩ := new_some e
  rw [new_at]
  · exact h2
  · cases q : H0 b with
    | none => rfl
    | some u =>
      rw [s _ _ q] at h1
      cases h1
theorem same_none {H0 H1 : Hp} {p : Addr} (s : Same H0 H1) (h : H1 p = none) : H0 p = none := by
  cases q : H0 p with
  | none => rfl
  | some u =>
    rw [s _ _ q] at h
    cases h
def MkN (σ : L2.St) (t : TE) (H : Hp) (d : D) : Prop := ∀ H1, Same H H1 → ∀ Q : VK, (∀ v H2, Same H1 H2 → Dt (New H H2) v d → Q v H2) → t σ H1 Q
def MkNA (σ : L2.St) (t : TA) (H : Hp) (ds : List D) : Prop := ∀ H1, Same H H1 → ∀ Q : List V → Hp → Prop, (∀ vs H2, Same H1 H2 → DtAll (New H H2) vs ds → Q vs H2) → t σ H1 Q
section
variable {σ : L2.St} {H : Hp}
theorem mkn_c {v : V} {d : D} (h : ∀ H', Dt H' v d) : MkN σ (tC v) H d := fun H1 _ _ q => q v H1 (Same.refl _) (h _)
theorem mkn_var {i : Nat} {v : V} {d : D} (e : σ[i]? = some (some v)) (h : ∀ H', Dt H' v d) : MkN σ (tVar i) H d := fun H1 _ _ q => ⟨v, e, q v H1 (Same.refl _) (h _)⟩
/-- a number, reckoned -/
theorem mkn_i {t : TE} {i : Int} (h : ∀ (H1 : Hp) (Q : VK), Q (.int i) H1 → t σ H1 Q) : MkN σ t H (.int i) := fun H1 _ Q q => h H1 Q (q _ H1 (Same.refl _) (.int i))
theorem mkna_nil : MkNA σ tNil H [] := fun H1 _ _ q => q [] H1 (Same.refl _) .nil
theorem mkna_cons {t : TE} {u : TA} {d : D} {ds : List D} (h1 : MkN σ t H d) (h2 : MkNA σ u H ds) : MkNA σ (tCons t u) H (d :: ds) := fun H1 s Q q => by
  refine h1 H1 s _ fun v H2 s2 d2 => ?_
  refine h2 H2 (s.trans s2) _ fun vs H3 s3 d3 => ?_
  exact q (v :: vs) H3 (s2.trans s3) (.cons (d2.same (New.mono s3)) d3)
theorem mkn_tup {u : TA} {ds : List D} (h : MkNA σ u H ds) (hz : Nat.ble ds.length 1000 = true := by rfl) : MkN σ (tTup u) H (.tup ds) := fun H1 s Q q => by
  refine h H1 s _ fun vs H2 s2 d2 => ?_
  refine ⟨sz_lit (by rw [d2.length]; exact Nat.le_of_ble_eq_true hz), fun p hp => ?_⟩
  exact q (.ref p) _ (s2.trans (Same.upd hp)) (.tup (by rw [new_at (same_none (s.trans s2) hp)]; exact upd_same) (d2.same (New.mono (Same.upd hp))))
theorem mkn_lst {u : TA} {ds : List D} (h : MkNA σ u H ds) (hz : Nat.ble ds.length 1000 = true := by rfl) : MkN σ (tLst u) H (.lst ds) := fun H1 s Q q => by
  refine h H1 s _ fun vs H2 s2 d2 => ?_
  refine ⟨sz_lit (by rw [d2.length]; exact Nat.le_of_ble_eq_true hz), fun p hp => ?_⟩
  exact q (.ref p) _ (s2.trans (Same.upd hp)) (.lst (by rw [new_at (same_none (s.trans s2) hp)]; exact upd_same) (d2.same (New.mono (Same.upd hp))))
theorem mkn_dnew : MkN σ tDNewK H .dct := fun H1 s Q q p hp => q (.ref p) _ (Same.upd hp) (.dct (by rw [new_at (same_none s hp)]; exact upd_same))
theorem mkn_neg {i : Int} : MkN σ (tUn (rU fun i => .int (-i)) (tC (.int i))) H (.int (-i)) := fun H1 _ _ q => ⟨i, rfl, q _ H1 (Same.refl _) (.int _)⟩
theorem MkN.go {t : TE} {d : D} (h : MkN σ t H d) {Q : VK} (q : ∀ v H2, Same H H2 → Dt (New H H2) v d → Q v H2) : t σ H Q := h H (Same.refl H) Q q
theorem MkNA.go {t : TA} {ds : List D} (h : MkNA σ t H ds) {Q : List V → Hp → Prop} (q : ∀ vs H2, Same H H2 → DtAll (New H H2) vs ds → Q vs H2) : t σ H Q := h H (Same.refl H) Q q
end
section
variable {σ : L2.St} {H : Hp}
theorem s_tup {u : TA} {Q : VK} (h : u σ H fun vs H' => vs.length ≤ sizeLine ∧ ∀ p, H' p = none → Q (.ref p) (upd H' p (.tup vs))) : tTup u σ H Q := h
theorem s_lst {u : TA} {Q : VK} (h : u σ H fun vs H' => vs.length ≤ sizeLine ∧ ∀ p, H' p = none → Q (.ref p) (upd H' p (.lst vs))) : tLst u σ H Q := h
theorem s_cons {t : TE} {u : TA} {Q : List V → Hp → Prop} (h : t σ H fun v H1 => u σ H1 fun vs H2 => Q (v :: vs) H2) : tCons t u σ H Q := h
end
/-! data that avoid l and avoid q avoid both -/
mutual
theorem Dt.off2 {H : Hp} {l q : Addr} : ∀ {v : V} {d : D}, Dt (Off l H) v d → Dt (Off q H) v d → Dt (Off q (Off l H)) v d
  | _, _, .non, _ => .non
  | _, _, .bl b, _ => .bl b
  | _, _, .int i, _ => .int i
  | _, _, .str z, _ => .str z
  | _, _, .lst h1 a1, .lst h2 a2 => by
    obtain ⟨n1, e1⟩ := off_some h1
    obtain ⟨n2, e2⟩ := off_some h2
    rw [e1] at e2
    cases e2
    exact .lst (by rw [off_ne n2, off_ne n1]; exact e1) (DtAll.off2 a1 a2)
  | _, _, .tup h1 a1, .tup h2 a2 => by
    obtain ⟨n1, e1⟩ := off_some h1
    obtain ⟨n2, e2⟩ := off_some h2
    rw [e1] at e2
    cases e2
    exact .tup (by rw [off_ne n2, off_ne n1]; exact e1) (DtAll.off2 a1 a2)
  | _, _, .dct h1, .dct h2 => by
    obtain ⟨n1, e1⟩ := off_some h1
    obtain ⟨n2, e2⟩ := off_some h2
    exact .dct (by rw [off_ne n2, off_ne n1]; exact e1)
theorem DtAll.off2 {H : Hp} {l q : Addr} : ∀ {vs : List V} {ds : List D}, DtAll (Off l H) vs ds → DtAll (Off q H) vs ds → DtAll (Off q (Off l H)) vs ds
  | _, _, .nil, _ => .nil
  | _, _, .cons a b, .cons c d => .cons (Dt.off2 a c) (DtAll.off2 b d)
end
theorem TP.off {H : Hp} {l : Addr} {xs : List V} (h : H l = some (.lst xs)) : TP H (Off l H) := fun b ys e => by
  rw [off_ne (ne_of e h (by intro z; cases z))]
  exact e
theorem lt300 {n : Nat} (h : n < 2 ^ 200) : n < 2 ^ 300 := Nat.lt_of_lt_of_le h (Nat.pow_le_pow_right (by decide) (by decide))
theorem cutV_pre (l : List V) (j : Nat) : cutV l none (some (j : Int)) = l.take j := by
  unfold cutV
  rw [HT.sIx_none, HT.sIx_nat, List.drop_zero, Nat.sub_zero]
  by_cases h : j ≤ l.length
  · rw [Nat.min_eq_left h]
  · rw [Nat.min_eq_right (by omega), List.take_length, List.take_of_length_le (by omega)]
theorem cutV_from (l : List V) (j : Nat) : cutV l (some (j : Int)) none = l.drop j := by
  unfold cutV
  rw [HT.sIx_none, HT.sIx_nat]
  by_cases h : j ≤ l.length
  · rw [Nat.min_eq_left h, List.take_of_length_le (by rw [List.length_drop]; exact Nat.le_refl _)]
  · rw [Nat.min_eq_right (by omega), List.drop_length, List.drop_of_length_le (by omega), List.take_nil]
theorem DtAll.drop {H : Hp} : ∀ {vs : List V} {ds : List D} (n : Nat), DtAll H vs ds → DtAll H (vs.drop n) (ds.drop n)
  | _, _, 0, h => h
  | _, _, _ + 1, .nil => .nil
  | _, _, n + 1, .cons _ b => DtAll.drop n b
theorem DtAll.set {H : Hp} {v : V} {d : D} (h : Dt H v d) : ∀ {vs : List V} {ds : List D} (n : Nat), DtAll H vs ds → DtAll H (vs.set n v) (ds.set n d)
  | _, _, _, .nil => .nil
  | _, _, 0, .cons _ b => .cons h b
  | _, _, n + 1, .cons a b => .cons a (DtAll.set h n b)
theorem OkAll.take : ∀ {ds : List D} (n : Nat), OkAll ds → OkAll (ds.take n)
  | _, 0, _ => trivial
  | [], _ + 1, _ => trivial
  | _ :: _, n + 1, h => ⟨h.1, OkAll.take n h.2⟩
theorem OkAll.drop : ∀ {ds : List D} (n : Nat), OkAll ds → OkAll (ds.drop n)
  | _, 0, h => h
  | [], _ + 1, _ => trivial
  | _ :: _, n + 1, h => OkAll.drop n h.2
theorem OkAll.set {d : D} (h : Ok d) : ∀ {ds : List D} (n : Nat), OkAll ds → OkAll (ds.set n d)
  | [], _, _ => trivial
  | _ :: _, 0, g => ⟨h, g.2⟩
  | _ :: _, n + 1, g => ⟨g.1, OkAll.set h n g.2⟩
/-- a list's item at a drawn place -/
theorem pickN {H0 H : Hp} {xs : List V} {ds : List D} (hall : DtAll (New H0 H) xs ds) (ok : OkAll ds) {r : Int} (r0 : 0 ≤ r) (r1 : r < ds.length) : ∃ (v : V) (d : D), atI xs r = some v ∧ Dt (New H0 H) v d ∧ Ok d := by
  obtain ⟨v, hv, _, hr⟩ := at_lt (xs := xs) r0 (by rw [hall.length]; exact r1)
  obtain ⟨d, hd, h⟩ := hall.get hr
  exact ⟨v, d, hv, h, ok.mem (List.mem_of_getElem? hd)⟩
theorem okS {z : Str} (h : z.length ≤ 3000 := by decide +kernel) (a : Asc z := by decide +kernel) : Ok (.str z) := ⟨h, a⟩
theorem okI {i : Int} (h : i.natAbs < 2 ^ 200 := by decide) : Ok (.int i) := lt300 h
theorem But.none {l p : Addr} {H H' : Hp} (B : But l H H') (h : H' p = none) (ne : p ≠ l) : H p = none := by
  cases e : H p with
  | none => rfl
  | some o =>
    rw [B _ _ e ne] at h
    cases h
theorem new_back {H H1 H2 : Hp} {l : Addr} (B : But l H H1) (S1 : Src H1 l) : Same (New H1 H2) (New H H2) := fun b o e => by
  obtain ⟨h1, h2⟩ := new_some e
  rw [new_at (B.none h1 (S1.ne h1))]
  exact h2
section
variable {l : Addr} {σ : L2.St} {H : Hp} {K : PySem.W.Frag}
theorem mk_tupof {i : Nat} {p : Addr} {xs : List V} {ds : List D} {o : HO} (e : σ[i]? = some (some (.ref p))) (hp : H p = some (.lst xs)) (hd : DtAll (Off l H) xs ds) (hl : H l = some o) : Mk l σ (tCB (rTupOf K) (tCons (tVar i) tNil)) H (.tup ds) := fun H1 s Q q => by
  refine ⟨_, e, p, xs, rfl, .inl ⟨SqL.of (s _ _ hp), fun r hr => ?_⟩⟩
  have ne : r ≠ l := fun z => by
    subst z
    rw [s _ _ hl] at hr
    cases hr
  exact q (.ref r) _ (Same.upd hr) (.tup (by rw [off_ne ne]; exact upd_same) (hd.same (sOff (s.trans (Same.upd hr)))))
end
theorem dt_rep {H : Hp} {v : V} {d : D} (h : Dt H v d) : ∀ n : Nat, DtAll H (List.replicate n [v]).flatten (List.replicate n d)
  | 0 => .nil
  | n + 1 => by
    rw [List.replicate_succ, List.replicate_succ, List.flatten_cons]
    exact .cons h (dt_rep h n)
theorem ok_rep {d : D} (h : Ok d) : ∀ n : Nat, OkAll (List.replicate n d)
  | 0 => trivial
  | n + 1 => ⟨h, ok_rep h n⟩
theorem Src.lst {H : Hp} {l : Addr} (S : Src H l) : ∃ xs, H l = Option.some (.lst xs) := by
  obtain ⟨n, z, e, _⟩ := S
  exact ⟨_, e⟩
end Dear

namespace Dear
open PySem PySem.Spec PyProof.Rows L2
/-! ### plain books: texts of which none begins another -/
theorem starts_txt (a b : List Nat) : Txt.startswith (txt a) (txt b) = decide (b <+: a) := by
  unfold Txt.startswith
  rw [PySem.StrLaws.subAt_eq, txt_list, txt_list, txt_length, txt_length, List.drop_zero, Nat.zero_add]
  by_cases h : b <+: a
  · have h1 := List.prefix_iff_eq_take.mp h
    have h2 := h.length_le
    rw [decide_eq_true h, decide_eq_true h2, ← h1]
    simp
  · rw [decide_eq_false h]
    have h1 : ¬ b = a.take b.length := fun e => h (List.prefix_iff_eq_take.mpr e)
    have h2 : (a.take b.length == b) = false := by
      simp only [beq_eq_false_iff_ne, ne_eq]
      exact fun e => h1 e.symm
    rw [h2, Bool.and_false]
def Apart (a b : List Nat) : Prop := ¬ a <+: b ∧ ¬ b <+: a
theorem Apart.symm {a b : List Nat} (h : Apart a b) : Apart b a := ⟨h.2, h.1⟩
abbrev PF (bs : List (List Nat)) : Prop := bs.Pairwise Apart
structure WdOk (n : Nat) (w : List Nat) : Prop where
  l : ∀ c ∈ w, c ∈ letters.cps.toList
  lo : n ≤ w.length
  hi : w.length ≤ 8
/-- a plain book -/
structure BkOk (bs : List (List Nat)) : Prop where
  pf : PF bs
  all : ∀ w ∈ bs, WdOk 1 w
  l1 : 1 ≤ bs.length
  l20 : bs.length ≤ 20
/-- the ends of a tree -/
structure EnOk (bs : List (List Nat)) : Prop where
  pf : PF bs
  all : ∀ w ∈ bs, WdOk 0 w
  l1 : 1 ≤ bs.length
  l20 : bs.length ≤ 20
theorem EnOk.start : EnOk [[]] := ⟨List.pairwise_singleton _ _, fun w h => by
  have : w = [] := by simpa using h
  subst this
  exact ⟨fun _ h => (nomatch h), Nat.zero_le _, Nat.zero_le _⟩, Nat.le_refl _, by decide⟩
theorem apart_ext {b w : List Nat} {c : Nat} (h : Apart b w) : Apart (b ++ [c]) w := by
  constructor
  · exact fun e => h.1 ((List.prefix_append b [c]).trans e)
  · intro e
    rcases List.prefix_concat_iff.mp e with e | e
    · exact h.1 (by rw [e]; exact List.prefix_append b [c])
    · exact h.2 e
theorem apart_new {b : List Nat} {c d : Nat} (h : c ≠ d) : Apart (b ++ [c]) (b ++ [d]) := by
  have key : ∀ {x y : Nat}, x ≠ y → ¬ (b ++ [x]) <+: (b ++ [y]) := fun {x y} hn e => by
    have := e.eq_of_length (by rw [List.length_append, List.length_append]; rfl)
    have := List.append_cancel_left this
    exact hn (by simpa using this)
  exact ⟨key h, key (Ne.symm h)⟩
theorem EnOk.step {pre post : List (List Nat)} {b : List Nat} {cs : List Nat} (h : EnOk (pre ++ [b] ++ post)) (hb : b.length < 8) (nd : cs.Nodup) (hc : ∀ c ∈ cs, c ∈ letters.cps.toList) (c1 : 1 ≤ cs.length) (hl : pre.length + 1 + post.length + cs.length < 22) :
    EnOk (pre ++ cs.map (fun c => b ++ [c]) ++ post) := by
  obtain ⟨pf, all, l1, l20⟩ := h
  have hp := List.pairwise_append.mp pf
  have hp1 := List.pairwise_append.mp hp.1
  have wb := all b (by simp)
  refine ⟨?_, ?_, ?_, ?_⟩
  · refine List.pairwise_append.mpr ⟨List.pairwise_append.mpr ⟨hp1.1, ?_, ?_⟩, hp.2.1, ?_⟩
    · rw [List.pairwise_map]
      exact (List.nodup_iff_pairwise_ne.mp nd).imp fun e => apart_new e
    · intro x hx y hy
      obtain ⟨c, _, rfl⟩ := List.mem_map.mp hy
      exact (apart_ext (hp1.2.2 x hx b List.mem_cons_self).symm).symm
    · intro x hx y hy
      rcases List.mem_append.mp hx with hx | hx
      · exact hp.2.2 x (List.mem_append_left _ hx) y hy
      · obtain ⟨c, _, rfl⟩ := List.mem_map.mp hx
        exact apart_ext (hp.2.2 b (by simp) y hy)
  · intro w hw
    rcases List.mem_append.mp hw with hw | hw
    · rcases List.mem_append.mp hw with hw | hw
      · exact all w (by simp [hw])
      · obtain ⟨c, hcc, rfl⟩ := List.mem_map.mp hw
        refine ⟨fun x hx => ?_, Nat.zero_le _, ?_⟩
        · rcases List.mem_append.mp hx with hx | hx
          · exact wb.l x hx
          · have : x = c := by simpa using hx
            subst this
            exact hc _ hcc
        · rw [List.length_append]
          show _ + 1 ≤ 8
          omega
    · exact all w (by simp [hw])
  · rw [List.length_append, List.length_append, List.length_map]
    omega
  · rw [List.length_append, List.length_append, List.length_map]
    omega
/-- none is without signs, but where there is no other -/
theorem EnOk.book {bs : List (List Nat)} (h : EnOk bs) (hn : bs ≠ [[]]) : BkOk bs := by
  refine ⟨h.pf, fun w hw => ?_, h.l1, h.l20⟩
  have hw0 := h.all w hw
  refine ⟨hw0.l, ?_, hw0.hi⟩
  cases w with
  | cons c w => exact Nat.succ_le_succ (Nat.zero_le _)
  | nil =>
    exfalso
    obtain ⟨pre, post, e⟩ := List.append_of_mem hw
    have pf := h.pf
    rw [e] at pf
    have h2 := List.pairwise_append.mp pf
    cases post with
    | cons x r =>
      have := (List.pairwise_cons.mp h2.2.1).1 x List.mem_cons_self
      exact this.1 List.nil_prefix
    | nil =>
      cases pre with
      | nil => exact hn e
      | cons x r =>
        have := h2.2.2 x List.mem_cons_self [] List.mem_cons_self
        exact this.2 List.nil_prefix
theorem BkOk.perm {bs cs : List (List Nat)} (h : BkOk bs) (p : bs.Perm cs) : BkOk cs :=
  ⟨(p.pairwise_iff (fun h => h.symm)).mp h.pf, fun w hw => h.all w (p.mem_iff.mpr hw), by rw [← p.length_eq]; exact h.l1, by rw [← p.length_eq]; exact h.l20⟩
/-- letters by shift and step -/
def lettB (s st j : Nat) : Nat := letN ((s + st * j) % 26)
theorem lettB_nodup {s st n : Nat} (hst : st = 1 ∨ st = 3 ∨ st = 5 ∨ st = 7) (hn : n ≤ 8) : ((List.range n).map (lettB s st)).Nodup := by
  have inj : ∀ a < 26, ∀ b < 26, letN a = letN b → a = b := by decide +kernel
  rw [List.nodup_iff_pairwise_ne, List.pairwise_map]
  refine List.Pairwise.imp_of_mem ?_ (List.nodup_iff_pairwise_ne.mp List.nodup_range)
  intro a b ha hb hne e
  have ha := List.mem_range.mp ha
  have hb := List.mem_range.mp hb
  have := inj _ (Nat.mod_lt _ (by decide)) _ (Nat.mod_lt _ (by decide)) e
  rcases hst with rfl | rfl | rfl | rfl <;> omega
theorem lettB_mem {s st j : Nat} : lettB s st j ∈ letters.cps.toList := letN_mem (Nat.mod_lt _ (by decide))
/-! ### what look_at_plain asks -/
def bkD (bs : List (List Nat)) : D := .lst (bs.map fun w => .str (txt w))
def strOf : D → Str
  | .str z => z
  | _ => ""
/-- some text begins another one -/
def pfB (zs : List Str) : Bool := (List.range zs.length).all fun i => (List.range zs.length).all fun j => decide (i = j) || !Txt.startswith (zs.getD j "") (zs.getD i "")
def plainOk : D → Bool
  | .lst ds => decide (1 ≤ ds.length ∧ ds.length ≤ 20) && ds.all isNm && pfB (ds.map strOf)
  | _ => false
theorem PF.not_prefix {bs : List (List Nat)} (h : PF bs) {i j : Nat} {a b : List Nat} (ha : bs[i]? = some a) (hb : bs[j]? = some b) (hn : i ≠ j) : ¬ a <+: b := by
  have key : ∀ {i j : Nat} {a b : List Nat}, bs[i]? = some a → bs[j]? = some b → i < j → Apart a b := fun {i j a b} ha hb hlt => by
    obtain ⟨h1, e1⟩ := List.getElem?_eq_some_iff.mp ha
    obtain ⟨h2, e2⟩ := List.getElem?_eq_some_iff.mp hb
    have := List.pairwise_iff_getElem.mp h i j h1 h2 hlt
    rw [e1, e2] at this
    exact this
  by_cases hlt : i < j
  · exact (key ha hb hlt).1
  · exact (key hb ha (by omega)).2
theorem BkOk.plain {bs : List (List Nat)} (h : BkOk bs) : plainOk (bkD bs) = true := by
  have e : (bs.map fun w => D.str (txt w)).map strOf = bs.map txt := by
    rw [List.map_map]
    rfl
  show (decide (1 ≤ (bs.map fun w => D.str (txt w)).length ∧ (bs.map fun w => D.str (txt w)).length ≤ 20) && (bs.map fun w => D.str (txt w)).all isNm && pfB ((bs.map fun w => D.str (txt w)).map strOf)) = true
  rw [e, List.length_map, decide_eq_true ⟨h.l1, h.l20⟩, Bool.true_and, Bool.and_eq_true]
  constructor
  · rw [List.all_eq_true]
    intro d hd
    obtain ⟨w, hw, rfl⟩ := List.mem_map.mp hd
    have := h.all w hw
    exact nm_txt this.l this.lo this.hi
  · unfold pfB
    rw [List.all_eq_true]
    intro i hi
    rw [List.all_eq_true]
    intro j hj
    have hi := List.mem_range.mp hi
    have hj := List.mem_range.mp hj
    rw [List.length_map] at hi hj
    by_cases e : i = j
    · rw [decide_eq_true e]
      rfl
    · have ei : (bs.map txt).getD i "" = txt bs[i] := by
        rw [List.getD_eq_getElem?_getD, List.getElem?_map, List.getElem?_eq_getElem hi]
        rfl
      have ej : (bs.map txt).getD j "" = txt bs[j] := by
        rw [List.getD_eq_getElem?_getD, List.getElem?_map, List.getElem?_eq_getElem hj]
        rfl
      rw [ei, ej, starts_txt, decide_eq_false (h.pf.not_prefix (List.getElem?_eq_getElem hi) (List.getElem?_eq_getElem hj) e)]
      simp
theorem BkOk.ok {bs : List (List Nat)} (h : BkOk bs) : Ok (bkD bs) ∧ NoD (bkD bs) ∧ dep (bkD bs) ≤ 64 := by
  have all := h.all
  clear h
  refine ⟨?_, ?_, ?_⟩
  · show OkAll (bs.map fun w => .str (txt w))
    induction bs with
    | nil => trivial
    | cons w r ih =>
      have hw := all w List.mem_cons_self
      refine ⟨⟨by rw [txt_length]; have := hw.hi; omega, fun c hc => by rw [txt_list] at hc; exact in_letters_asc (hw.l c hc)⟩, ih fun x hx => all x (List.mem_cons_of_mem _ hx)⟩
  · refine noAll_of fun d hd => ?_
    obtain ⟨w, hw, rfl⟩ := List.mem_map.mp hd
    trivial
  · have := depAll_le (ds := bs.map fun w => D.str (txt w)) (n := 0) fun d hd => by
      obtain ⟨w, hw, rfl⟩ := List.mem_map.mp hd
      exact Nat.le_refl _
    show depAll (bs.map fun w => D.str (txt w)) + 1 ≤ 64
    omega
/-- texts of a list of code points, as values -/
def vsT (bs : List (List Nat)) : List V := bs.map fun w => V.str (txt w)
theorem dt_vsT {H : Hp} : ∀ bs : List (List Nat), DtAll H (vsT bs) (bs.map fun w => D.str (txt w))
  | [] => .nil
  | _ :: bs => .cons (.str _) (dt_vsT bs)
theorem vsT_get {bs : List (List Nat)} {i : Nat} {v : V} (h : (vsT bs)[i]? = some v) : ∃ w, bs[i]? = some w ∧ v = .str (txt w) := by
  unfold vsT at h
  rw [List.getElem?_map] at h
  cases e : bs[i]? with
  | none =>
    rw [e] at h
    cases h
  | some w =>
    rw [e] at h
    exact ⟨w, rfl, (Option.some.inj h).symm⟩
end Dear

namespace Dear
open PySem PySem.Spec PyProof.Rows L2
def top (i : Nat) : Stmt := PySem.Challenge.pw_dearsigns_k23_reader_sign_by_sign.main.body.getD i (.Pass ⟨0, 0, 0, 0⟩)
abbrev s_BadSign___init__ : Stmt := inClass (top 3) 0
abbrev s_is_name : Stmt := top 7
abbrev s_look_at_plain : Stmt := top 10
abbrev s_Reader___init__ : Stmt := inClass (top 12) 0
abbrev s_Reader_next_signs : Stmt := inClass (top 12) 1
abbrev s_Reader_put_sign : Stmt := inClass (top 12) 2
abbrev s_Reader_amid : Stmt := inClass (top 12) 3
abbrev s__law_pool : Stmt := top 14
abbrev s__law_take : Stmt := top 15
abbrev s__law_plain : Stmt := top 16
abbrev s__law_next : Stmt := top 17
abbrev s__law_look : Stmt := top 18
abbrev s__law_put : Stmt := top 19
abbrev s__law_sign : Stmt := top 20
abbrev s__law_steps : Stmt := top 21
abbrev s_law : Stmt := top 22
abbrev n_BadSign___init__ : List Str := ["self", "place"]
theorem c_BadSign___init__ : FnScope n_BadSign___init__ ["self", "place"] (defScope s_BadSign___init__) := ⟨rfl, rfl, rfl, by decide +kernel, rfl, by decide +kernel, by decide +kernel⟩
abbrev n_is_name : List Str := ["thing", "sign"]
theorem c_is_name : FnScope n_is_name ["thing"] (defScope s_is_name) := ⟨rfl, rfl, rfl, by decide +kernel, rfl, by decide +kernel, by decide +kernel⟩
abbrev n_look_at_plain : List Str := ["thing", "number", "text", "other", "longer"]
theorem c_look_at_plain : FnScope n_look_at_plain ["thing"] (defScope s_look_at_plain) := ⟨rfl, rfl, rfl, by decide +kernel, rfl, by decide +kernel, by decide +kernel⟩
abbrev n_Reader___init__ : List Str := ["self", "book"]
theorem c_Reader___init__ : FnScope n_Reader___init__ ["self", "book"] (defScope s_Reader___init__) := ⟨rfl, rfl, rfl, by decide +kernel, rfl, by decide +kernel, by decide +kernel⟩
abbrev n_Reader_next_signs : List Str := ["self", "at", "word"]
theorem c_Reader_next_signs : FnScope n_Reader_next_signs ["self"] (defScope s_Reader_next_signs) := ⟨rfl, rfl, rfl, by decide +kernel, rfl, by decide +kernel, by decide +kernel⟩
abbrev n_Reader_put_sign : List Str := ["self", "sign", "number"]
theorem c_Reader_put_sign : FnScope n_Reader_put_sign ["self", "sign"] (defScope s_Reader_put_sign) := ⟨rfl, rfl, rfl, by decide +kernel, rfl, by decide +kernel, by decide +kernel⟩
abbrev n_Reader_amid : List Str := ["self"]
theorem c_Reader_amid : FnScope n_Reader_amid ["self"] (defScope s_Reader_amid) := ⟨rfl, rfl, rfl, by decide +kernel, rfl, by decide +kernel, by decide +kernel⟩
abbrev n__law_pool : List Str := ["_law_script", "_law_k", "_law_cell", "_law_seed"]
theorem c__law_pool : FnScope n__law_pool ["_law_script", "_law_k"] (defScope s__law_pool) := ⟨rfl, rfl, rfl, by decide +kernel, rfl, by decide +kernel, by decide +kernel⟩
abbrev n__law_take : List Str := ["_law_pool_here", "_law_many", "_law_found"]
theorem c__law_take : FnScope n__law_take ["_law_pool_here", "_law_many"] (defScope s__law_take) := ⟨rfl, rfl, rfl, by decide +kernel, rfl, by decide +kernel, by decide +kernel⟩
abbrev n__law_plain : List Str := ["_law_pool_here", "_law_ends", "_law_k", "_law_at", "_law_many", "_law_shift", "_law_step", "_law_begin", "_law_letters", "_law_found", "_law_j", "_law_letter"]
theorem c__law_plain : FnScope n__law_plain ["_law_pool_here"] (defScope s__law_plain) := ⟨rfl, rfl, rfl, by decide +kernel, rfl, by decide +kernel, by decide +kernel⟩
abbrev n__law_next : List Str := ["_law_book", "_law_since", "_law_coming", "_law_word"]
theorem c__law_next : FnScope n__law_next ["_law_book", "_law_since"] (defScope s__law_next) := ⟨rfl, rfl, rfl, by decide +kernel, rfl, by decide +kernel, by decide +kernel⟩
abbrev n__law_look : List Str := ["_law_pool_here", "_law_reader", "_law_state", "_law_book", "_law_since", "_law_taken", "_law_turn", "_law_told"]
theorem c__law_look : FnScope n__law_look ["_law_pool_here", "_law_reader", "_law_state"] (defScope s__law_look) := ⟨rfl, rfl, rfl, by decide +kernel, rfl, by decide +kernel, by decide +kernel⟩
abbrev n__law_put : List Str := ["_law_reader", "_law_sign_here", "e"]
theorem c__law_put : FnScope n__law_put ["_law_reader", "_law_sign_here"] (defScope s__law_put) := ⟨rfl, rfl, rfl, by decide +kernel, rfl, by decide +kernel, by decide +kernel⟩
abbrev n__law_sign : List Str := ["_law_pool_here", "_law_state", "_law_coming", "_law_some"]
theorem c__law_sign : FnScope n__law_sign ["_law_pool_here", "_law_state"] (defScope s__law_sign) := ⟨rfl, rfl, rfl, by decide +kernel, rfl, by decide +kernel, by decide +kernel⟩
abbrev n__law_steps : List Str := ["_law_pool_here", "_law_reader", "_law_state", "_law_turn", "_law_book", "_law_since", "_law_taken", "_law_sign_here", "_law_told", "_law_due"]
theorem c__law_steps : FnScope n__law_steps ["_law_pool_here", "_law_reader", "_law_state"] (defScope s__law_steps) := ⟨rfl, rfl, rfl, by decide +kernel, rfl, by decide +kernel, by decide +kernel⟩
abbrev n_law : List Str := ["_law_script", "_law_books", "_law_states", "_law_readers", "_law_k", "_law_pool_here", "_law_which", "_law_state"]
theorem c_law : FnScope n_law ["_law_script"] (defScope s_law) := ⟨rfl, rfl, rfl, by decide +kernel, rfl, by decide +kernel, by decide +kernel⟩
structure Ads where
  DearError : Addr
  NoBook : Addr
  BadSign : Addr
  Reader : Addr
/-- what the top has left -/
structure Txt (K : PySem.W.Frag) (mg : Str → Option Value) where
  A : Ads
  C_DearError : mg "DearError" = some (.ref A.DearError)
  C_NoBook : mg "NoBook" = some (.ref A.NoBook)
  C_BadSign : mg "BadSign" = some (.ref A.BadSign)
  X_NoBook : ExOwn K mg "NoBook" A.NoBook
  D_DearError : DrI K mg "DearError" A.DearError
  X_BadSign : ExInit K mg "BadSign" "place" A.BadSign
  F_BadSign : DfI K A.BadSign "BadSign.__init__" s_BadSign___init__ "place"
  q_NoBook_DearError : PySem.W.kitOne K (.ref A.NoBook) (.ref A.DearError) = some true
  q_NoBook_NoBook : PySem.W.kitOne K (.ref A.NoBook) (.ref A.NoBook) = some true
  q_NoBook_BadSign : PySem.W.kitOne K (.ref A.NoBook) (.ref A.BadSign) = some false
  q_NoBook_ValueError : PySem.W.kitOne K (.ref A.NoBook) (.type "ValueError") = some true
  m_NoBook : PySem.W.exmOne K (.ref A.NoBook) (.ref A.DearError) = some true
  q_BadSign_DearError : PySem.W.kitOne K (.ref A.BadSign) (.ref A.DearError) = some true
  q_BadSign_NoBook : PySem.W.kitOne K (.ref A.BadSign) (.ref A.NoBook) = some false
  q_BadSign_BadSign : PySem.W.kitOne K (.ref A.BadSign) (.ref A.BadSign) = some true
  q_BadSign_ValueError : PySem.W.kitOne K (.ref A.BadSign) (.type "ValueError") = some true
  m_BadSign : PySem.W.exmOne K (.ref A.BadSign) (.ref A.DearError) = some true
  e_BadSign : PySem.W.exmOne K (.ref A.BadSign) (.ref A.BadSign) = some true
  K_Reader : Cls K A.Reader
  N_Reader_words : NoAttr K A.Reader "words"
  N_Reader_since : NoAttr K A.Reader "since"
  N_Reader_taken : NoAttr K A.Reader "taken"
  I_Reader : DfC K mg "Reader" A.Reader "Reader.__init__" s_Reader___init__ ["self", "book"]
  M_Reader_next_signs : DfM K A.Reader "next_signs" "Reader.next_signs" s_Reader_next_signs ["self"]
  M_Reader_put_sign : DfM K A.Reader "put_sign" "Reader.put_sign" s_Reader_put_sign ["self", "sign"]
  M_Reader_amid : DfM K A.Reader "amid" "Reader.amid" s_Reader_amid ["self"]
  f_is_name : Df K mg "is_name" s_is_name ["thing"]
  f_look_at_plain : Df K mg "look_at_plain" s_look_at_plain ["thing"]
  f__law_pool : Df K mg "_law_pool" s__law_pool ["_law_script", "_law_k"]
  f__law_take : Df K mg "_law_take" s__law_take ["_law_pool_here", "_law_many"]
  f__law_plain : Df K mg "_law_plain" s__law_plain ["_law_pool_here"]
  f__law_next : Df K mg "_law_next" s__law_next ["_law_book", "_law_since"]
  f__law_look : Df K mg "_law_look" s__law_look ["_law_pool_here", "_law_reader", "_law_state"]
  f__law_put : Df K mg "_law_put" s__law_put ["_law_reader", "_law_sign_here"]
  f__law_sign : Df K mg "_law_sign" s__law_sign ["_law_pool_here", "_law_state"]
  f__law_steps : Df K mg "_law_steps" s__law_steps ["_law_pool_here", "_law_reader", "_law_state"]
  f_law : Df K mg "law" s_law ["_law_script"]
  g_LETTERS : ∃ t, mg "LETTERS" = some (.str "abcdefghijklmnopqrstuvwxyz" t)
  g_LONGEST : ∃ t, mg "LONGEST" = some (.int 8 t)
  g_MOST_WORDS : ∃ t, mg "MOST_WORDS" = some (.int 20 t)
  b_all : mg "all" = none
  b_bool : mg "bool" = none
  b_enumerate : mg "enumerate" = none
  b_isinstance : mg "isinstance" = none
  b_len : mg "len" = none
  b_list : mg "list" = none
  b_max : mg "max" = none
  b_min : mg "min" = none
  b_range : mg "range" = none
  b_set : mg "set" = none
  b_sorted : mg "sorted" = none
  b_str : mg "str" = none
def txt_mk {K : PySem.W.Frag} {h : Heap} {mg : Str → Option Value} (X : K.In h) (G : h.Ns mainGlobals mg)
    {C_DearError : Addr} {C_NoBook : Addr} {C_BadSign : Addr} {C_Reader : Addr} 
    {nm_BadSign qn_BadSign : Str} {N_BadSign I_BadSign : Addr} {bs_BadSign sb_BadSign : List Value} {sn_BadSign : List Str} {ab_BadSign : Bool} {col_BadSign : Option Bool} {dd_BadSign odI_BadSign anI_BadSign : Option Addr} {m0_BadSign m1_BadSign m2_BadSign m3_BadSign m5_BadSign : Option Value} {slI_BadSign : Array (Option Value)} {ocI_BadSign kVI_BadSign dcI_BadSign pmI_BadSign cdI_BadSign ctI_BadSign : Value}
    {F_Reader___init__ : Addr} {od_Reader___init__ an_Reader___init__ : Option Addr} {sl_Reader___init__ : Array (Option Value)} {oc_Reader___init__ kV_Reader___init__ dc_Reader___init__ pm_Reader___init__ cd_Reader___init__ ct_Reader___init__ : Value}
    {F_Reader_next_signs : Addr} {od_Reader_next_signs an_Reader_next_signs : Option Addr} {sl_Reader_next_signs : Array (Option Value)} {oc_Reader_next_signs kV_Reader_next_signs dc_Reader_next_signs pm_Reader_next_signs cd_Reader_next_signs ct_Reader_next_signs : Value}
    {F_Reader_put_sign : Addr} {od_Reader_put_sign an_Reader_put_sign : Option Addr} {sl_Reader_put_sign : Array (Option Value)} {oc_Reader_put_sign kV_Reader_put_sign dc_Reader_put_sign pm_Reader_put_sign cd_Reader_put_sign ct_Reader_put_sign : Value}
    {F_Reader_amid : Addr} {od_Reader_amid an_Reader_amid : Option Addr} {sl_Reader_amid : Array (Option Value)} {oc_Reader_amid kV_Reader_amid dc_Reader_amid pm_Reader_amid cd_Reader_amid ct_Reader_amid : Value}
    {f1 : Addr} {od1 an1 : Option Addr} {sl1 : Array (Option Value)} {oc1 kV1 dc1 pm1 cd1 ct1 : Value}
    {f2 : Addr} {od2 an2 : Option Addr} {sl2 : Array (Option Value)} {oc2 kV2 dc2 pm2 cd2 ct2 : Value}
    {f3 : Addr} {od3 an3 : Option Addr} {sl3 : Array (Option Value)} {oc3 kV3 dc3 pm3 cd3 ct3 : Value}
    {f4 : Addr} {od4 an4 : Option Addr} {sl4 : Array (Option Value)} {oc4 kV4 dc4 pm4 cd4 ct4 : Value}
    {f5 : Addr} {od5 an5 : Option Addr} {sl5 : Array (Option Value)} {oc5 kV5 dc5 pm5 cd5 ct5 : Value}
    {f6 : Addr} {od6 an6 : Option Addr} {sl6 : Array (Option Value)} {oc6 kV6 dc6 pm6 cd6 ct6 : Value}
    {f7 : Addr} {od7 an7 : Option Addr} {sl7 : Array (Option Value)} {oc7 kV7 dc7 pm7 cd7 ct7 : Value}
    {f8 : Addr} {od8 an8 : Option Addr} {sl8 : Array (Option Value)} {oc8 kV8 dc8 pm8 cd8 ct8 : Value}
    {f9 : Addr} {od9 an9 : Option Addr} {sl9 : Array (Option Value)} {oc9 kV9 dc9 pm9 cd9 ct9 : Value}
    {f10 : Addr} {od10 an10 : Option Addr} {sl10 : Array (Option Value)} {oc10 kV10 dc10 pm10 cd10 ct10 : Value}
    {f11 : Addr} {od11 an11 : Option Addr} {sl11 : Array (Option Value)} {oc11 kV11 dc11 pm11 cd11 ct11 : Value}
    {t12 : Tok}
    {t13 : Tok}
    {t14 : Tok}
    (g_DearError : PySem.W.nsIn K mainGlobals "DearError" = some (some (.ref C_DearError)))
    (i_DearError : PySem.W.isClsIn K C_DearError = true) (t_DearError : PySem.W.typeIn K (.ref C_DearError) = some (.type "type"))
    (g_NoBook : PySem.W.nsIn K mainGlobals "NoBook" = some (some (.ref C_NoBook)))
    (i_NoBook : PySem.W.isClsIn K C_NoBook = true) (t_NoBook : PySem.W.typeIn K (.ref C_NoBook) = some (.type "type"))
    (g_BadSign : PySem.W.nsIn K mainGlobals "BadSign" = some (some (.ref C_BadSign)))
    (i_BadSign : PySem.W.isClsIn K C_BadSign = true) (t_BadSign : PySem.W.typeIn K (.ref C_BadSign) = some (.type "type"))
    (b_DearError : PySem.W.subIn K (.ref C_DearError) (.type "BaseException") = some true)
    (x1_NoBook : PySem.W.excIn K C_NoBook [.type "ValueError", .type "Exception", .type "BaseException", .type "object"] "ValueError.__new__" = true)
    (x2_NoBook : PySem.W.keepIn K (.ref C_NoBook) = true)
    (x3_NoBook : PySem.W.subIn K (.ref C_NoBook) (.type "BaseException") = some true)
    (x4_NoBook : PySem.W.typeIn K (.ref C_NoBook) = some (.type "type"))
    (x5_NoBook : PySem.W.findIn K (.ref C_NoBook) "__getattribute__" = some (some (.builtin "BaseException.__getattribute__")))
    (x6_NoBook : PySem.W.findIn K (.ref C_NoBook) "__getattr__" = some none)
    (x7_NoBook : PySem.W.hasDictIn K C_NoBook = true)
    (x8_NoBook : PySem.W.findIn K (.ref C_NoBook) "__class__" = some (some (.builtin "object.__class__")))
    (x9_NoBook : PySem.W.specialIn K (.builtin "object.__class__") "__get__" = some (some (.builtin "getset_descriptor.__get__")))
    (x10_NoBook : PySem.W.takesIn K (.builtin "object.__class__") = some true)
    (x11_NoBook : PySem.W.mroIn K C_NoBook (.type "object") = some true)
    (d1 : PySem.W.specialIn K (.ref C_DearError) "__getattribute__" = some (some (.builtin "type.__getattribute__")))
    (d2 : PySem.W.readsIn K C_DearError (.type "type") = true)
    (d3 : PySem.W.findCls K (.ref C_DearError) (.type "type") "__init__" = some (.val (.builtin "ValueError.__init__")))
    (xl_BadSign : K.lookup C_BadSign = some (excClassObj nm_BadSign qn_BadSign C_BadSign N_BadSign bs_BadSign [.ref C_DearError, .type "ValueError", .type "Exception", .type "BaseException", .type "object"] true sn_BadSign sb_BadSign ab_BadSign col_BadSign dd_BadSign m0_BadSign m1_BadSign m2_BadSign m3_BadSign m5_BadSign "ValueError.__new__"))
    (sa_BadSign : PySem.W.findIn K (.ref C_BadSign) "__setattr__" = some (some (.builtin "object.__setattr__")))
    (x2_BadSign : PySem.W.keepIn K (.ref C_BadSign) = true)
    (x3_BadSign : PySem.W.subIn K (.ref C_BadSign) (.type "BaseException") = some true)
    (x4_BadSign : PySem.W.typeIn K (.ref C_BadSign) = some (.type "type"))
    (x5_BadSign : PySem.W.findIn K (.ref C_BadSign) "__getattribute__" = some (some (.builtin "BaseException.__getattribute__")))
    (x6_BadSign : PySem.W.findIn K (.ref C_BadSign) "__getattr__" = some none)
    (x7_BadSign : PySem.W.hasDictIn K C_BadSign = true)
    (x8_BadSign : PySem.W.findIn K (.ref C_BadSign) "__class__" = some (some (.builtin "object.__class__")))
    (x9_BadSign : PySem.W.specialIn K (.builtin "object.__class__") "__get__" = some (some (.builtin "getset_descriptor.__get__")))
    (x10_BadSign : PySem.W.takesIn K (.builtin "object.__class__") = some true)
    (x11_BadSign : PySem.W.mroIn K C_BadSign (.type "object") = some true)
    (fn_BadSign : PySem.W.findIn K (.ref C_BadSign) "place" = some none)
    (i1_BadSign : PySem.W.findIn K (.ref C_BadSign) "__init__" = some (some (.ref I_BadSign)))
    (i2_BadSign : PySem.W.typeIn K (.ref I_BadSign) = some (.type "function"))
    (i3_BadSign : K.lookup I_BadSign = some ⟨ocI_BadSign, odI_BadSign, .func (PySem.W.fnOf "__init__" "BadSign.__init__" (defArgs s_BadSign___init__) (defBody s_BadSign___init__) (defScope s_BadSign___init__) .none kVI_BadSign dcI_BadSign pmI_BadSign anI_BadSign cdI_BadSign ctI_BadSign), slI_BadSign⟩)
    (i4_BadSign : PySem.W.codeIn K cdI_BadSign "BadSign.__init__" = true)
    (i5_BadSign : PySem.W.keepIn K (.ref I_BadSign) = true)
    (q_NoBook_DearError : PySem.W.subIn K (.ref C_NoBook) (.ref C_DearError) = some true)
    (n_NoBook_DearError : (Value.ref C_NoBook == Value.ref C_DearError) = false)
    (q_NoBook_NoBook : PySem.W.subIn K (.ref C_NoBook) (.ref C_NoBook) = some true)
    (q_NoBook_BadSign : PySem.W.subIn K (.ref C_NoBook) (.ref C_BadSign) = some false)
    (n_NoBook_BadSign : (Value.ref C_NoBook == Value.ref C_BadSign) = false)
    (q_NoBook_ValueError : PySem.W.subIn K (.ref C_NoBook) (.type "ValueError") = some true)
    (q_BadSign_DearError : PySem.W.subIn K (.ref C_BadSign) (.ref C_DearError) = some true)
    (n_BadSign_DearError : (Value.ref C_BadSign == Value.ref C_DearError) = false)
    (q_BadSign_NoBook : PySem.W.subIn K (.ref C_BadSign) (.ref C_NoBook) = some false)
    (n_BadSign_NoBook : (Value.ref C_BadSign == Value.ref C_NoBook) = false)
    (q_BadSign_BadSign : PySem.W.subIn K (.ref C_BadSign) (.ref C_BadSign) = some true)
    (q_BadSign_ValueError : PySem.W.subIn K (.ref C_BadSign) (.type "ValueError") = some true)
    (b_BadSign : PySem.W.subIn K (.ref C_BadSign) (.type "BaseException") = some true)
    (g_Reader : PySem.W.nsIn K mainGlobals "Reader" = some (some (.ref C_Reader)))
    (pg_Reader : PySem.W.plainGet K C_Reader Str.empty = true)
    (hd_Reader : PySem.W.hasDictIn K C_Reader = true)
    (po_Reader : PySem.W.plainOver K C_Reader = true)
    (sa_Reader : PySem.W.findIn K (.ref C_Reader) "__setattr__" = some (some (.builtin "object.__setattr__")))
    (mk_Reader : PySem.W.makesIn K C_Reader = true)
    (kc_Reader : PySem.W.keepIn K (.ref C_Reader) = true)
    (na_Reader_words : PySem.W.findIn K (.ref C_Reader) "words" = some none)
    (na_Reader_since : PySem.W.findIn K (.ref C_Reader) "since" = some none)
    (na_Reader_taken : PySem.W.findIn K (.ref C_Reader) "taken" = some none)
    (ma_Reader___init__ : PySem.W.findIn K (.ref C_Reader) "__init__" = some (some (.ref F_Reader___init__)))
    (mi_Reader___init__ : PySem.W.isFn K (.ref F_Reader___init__) = true)
    (ml_Reader___init__ : K.lookup F_Reader___init__ = some ⟨oc_Reader___init__, od_Reader___init__, .func (PySem.W.fnOf "__init__" "Reader.__init__" (defArgs s_Reader___init__) (defBody s_Reader___init__) (defScope s_Reader___init__) .none kV_Reader___init__ dc_Reader___init__ pm_Reader___init__ an_Reader___init__ cd_Reader___init__ ct_Reader___init__), sl_Reader___init__⟩)
    (mc_Reader___init__ : PySem.W.codeIn K cd_Reader___init__ "Reader.__init__" = true)
    (me_Reader___init__ : PySem.W.keepIn K (.ref F_Reader___init__) = true)
    (ma_Reader_next_signs : PySem.W.findIn K (.ref C_Reader) "next_signs" = some (some (.ref F_Reader_next_signs)))
    (mi_Reader_next_signs : PySem.W.isFn K (.ref F_Reader_next_signs) = true)
    (ml_Reader_next_signs : K.lookup F_Reader_next_signs = some ⟨oc_Reader_next_signs, od_Reader_next_signs, .func (PySem.W.fnOf "next_signs" "Reader.next_signs" (defArgs s_Reader_next_signs) (defBody s_Reader_next_signs) (defScope s_Reader_next_signs) .none kV_Reader_next_signs dc_Reader_next_signs pm_Reader_next_signs an_Reader_next_signs cd_Reader_next_signs ct_Reader_next_signs), sl_Reader_next_signs⟩)
    (mc_Reader_next_signs : PySem.W.codeIn K cd_Reader_next_signs "Reader.next_signs" = true)
    (me_Reader_next_signs : PySem.W.keepIn K (.ref F_Reader_next_signs) = true)
    (ma_Reader_put_sign : PySem.W.findIn K (.ref C_Reader) "put_sign" = some (some (.ref F_Reader_put_sign)))
    (mi_Reader_put_sign : PySem.W.isFn K (.ref F_Reader_put_sign) = true)
    (ml_Reader_put_sign : K.lookup F_Reader_put_sign = some ⟨oc_Reader_put_sign, od_Reader_put_sign, .func (PySem.W.fnOf "put_sign" "Reader.put_sign" (defArgs s_Reader_put_sign) (defBody s_Reader_put_sign) (defScope s_Reader_put_sign) .none kV_Reader_put_sign dc_Reader_put_sign pm_Reader_put_sign an_Reader_put_sign cd_Reader_put_sign ct_Reader_put_sign), sl_Reader_put_sign⟩)
    (mc_Reader_put_sign : PySem.W.codeIn K cd_Reader_put_sign "Reader.put_sign" = true)
    (me_Reader_put_sign : PySem.W.keepIn K (.ref F_Reader_put_sign) = true)
    (ma_Reader_amid : PySem.W.findIn K (.ref C_Reader) "amid" = some (some (.ref F_Reader_amid)))
    (mi_Reader_amid : PySem.W.isFn K (.ref F_Reader_amid) = true)
    (ml_Reader_amid : K.lookup F_Reader_amid = some ⟨oc_Reader_amid, od_Reader_amid, .func (PySem.W.fnOf "amid" "Reader.amid" (defArgs s_Reader_amid) (defBody s_Reader_amid) (defScope s_Reader_amid) .none kV_Reader_amid dc_Reader_amid pm_Reader_amid an_Reader_amid cd_Reader_amid ct_Reader_amid), sl_Reader_amid⟩)
    (mc_Reader_amid : PySem.W.codeIn K cd_Reader_amid "Reader.amid" = true)
    (me_Reader_amid : PySem.W.keepIn K (.ref F_Reader_amid) = true)
    (a1 : PySem.W.nsIn K mainGlobals "is_name" = some (some (.ref f1))) (l1 : K.lookup f1 = some ⟨oc1, od1, .func (PySem.W.fnOf "is_name" "is_name" (defArgs s_is_name) (defBody s_is_name) (defScope s_is_name) .none kV1 dc1 pm1 an1 cd1 ct1), sl1⟩) (c1 : PySem.W.codeIn K cd1 "is_name" = true) (k1 : PySem.W.keepIn K (.ref f1) = true)
    (a2 : PySem.W.nsIn K mainGlobals "look_at_plain" = some (some (.ref f2))) (l2 : K.lookup f2 = some ⟨oc2, od2, .func (PySem.W.fnOf "look_at_plain" "look_at_plain" (defArgs s_look_at_plain) (defBody s_look_at_plain) (defScope s_look_at_plain) .none kV2 dc2 pm2 an2 cd2 ct2), sl2⟩) (c2 : PySem.W.codeIn K cd2 "look_at_plain" = true) (k2 : PySem.W.keepIn K (.ref f2) = true)
    (a3 : PySem.W.nsIn K mainGlobals "_law_pool" = some (some (.ref f3))) (l3 : K.lookup f3 = some ⟨oc3, od3, .func (PySem.W.fnOf "_law_pool" "_law_pool" (defArgs s__law_pool) (defBody s__law_pool) (defScope s__law_pool) .none kV3 dc3 pm3 an3 cd3 ct3), sl3⟩) (c3 : PySem.W.codeIn K cd3 "_law_pool" = true) (k3 : PySem.W.keepIn K (.ref f3) = true)
    (a4 : PySem.W.nsIn K mainGlobals "_law_take" = some (some (.ref f4))) (l4 : K.lookup f4 = some ⟨oc4, od4, .func (PySem.W.fnOf "_law_take" "_law_take" (defArgs s__law_take) (defBody s__law_take) (defScope s__law_take) .none kV4 dc4 pm4 an4 cd4 ct4), sl4⟩) (c4 : PySem.W.codeIn K cd4 "_law_take" = true) (k4 : PySem.W.keepIn K (.ref f4) = true)
    (a5 : PySem.W.nsIn K mainGlobals "_law_plain" = some (some (.ref f5))) (l5 : K.lookup f5 = some ⟨oc5, od5, .func (PySem.W.fnOf "_law_plain" "_law_plain" (defArgs s__law_plain) (defBody s__law_plain) (defScope s__law_plain) .none kV5 dc5 pm5 an5 cd5 ct5), sl5⟩) (c5 : PySem.W.codeIn K cd5 "_law_plain" = true) (k5 : PySem.W.keepIn K (.ref f5) = true)
    (a6 : PySem.W.nsIn K mainGlobals "_law_next" = some (some (.ref f6))) (l6 : K.lookup f6 = some ⟨oc6, od6, .func (PySem.W.fnOf "_law_next" "_law_next" (defArgs s__law_next) (defBody s__law_next) (defScope s__law_next) .none kV6 dc6 pm6 an6 cd6 ct6), sl6⟩) (c6 : PySem.W.codeIn K cd6 "_law_next" = true) (k6 : PySem.W.keepIn K (.ref f6) = true)
    (a7 : PySem.W.nsIn K mainGlobals "_law_look" = some (some (.ref f7))) (l7 : K.lookup f7 = some ⟨oc7, od7, .func (PySem.W.fnOf "_law_look" "_law_look" (defArgs s__law_look) (defBody s__law_look) (defScope s__law_look) .none kV7 dc7 pm7 an7 cd7 ct7), sl7⟩) (c7 : PySem.W.codeIn K cd7 "_law_look" = true) (k7 : PySem.W.keepIn K (.ref f7) = true)
    (a8 : PySem.W.nsIn K mainGlobals "_law_put" = some (some (.ref f8))) (l8 : K.lookup f8 = some ⟨oc8, od8, .func (PySem.W.fnOf "_law_put" "_law_put" (defArgs s__law_put) (defBody s__law_put) (defScope s__law_put) .none kV8 dc8 pm8 an8 cd8 ct8), sl8⟩) (c8 : PySem.W.codeIn K cd8 "_law_put" = true) (k8 : PySem.W.keepIn K (.ref f8) = true)
    (a9 : PySem.W.nsIn K mainGlobals "_law_sign" = some (some (.ref f9))) (l9 : K.lookup f9 = some ⟨oc9, od9, .func (PySem.W.fnOf "_law_sign" "_law_sign" (defArgs s__law_sign) (defBody s__law_sign) (defScope s__law_sign) .none kV9 dc9 pm9 an9 cd9 ct9), sl9⟩) (c9 : PySem.W.codeIn K cd9 "_law_sign" = true) (k9 : PySem.W.keepIn K (.ref f9) = true)
    (a10 : PySem.W.nsIn K mainGlobals "_law_steps" = some (some (.ref f10))) (l10 : K.lookup f10 = some ⟨oc10, od10, .func (PySem.W.fnOf "_law_steps" "_law_steps" (defArgs s__law_steps) (defBody s__law_steps) (defScope s__law_steps) .none kV10 dc10 pm10 an10 cd10 ct10), sl10⟩) (c10 : PySem.W.codeIn K cd10 "_law_steps" = true) (k10 : PySem.W.keepIn K (.ref f10) = true)
    (a11 : PySem.W.nsIn K mainGlobals "law" = some (some (.ref f11))) (l11 : K.lookup f11 = some ⟨oc11, od11, .func (PySem.W.fnOf "law" "law" (defArgs s_law) (defBody s_law) (defScope s_law) .none kV11 dc11 pm11 an11 cd11 ct11), sl11⟩) (c11 : PySem.W.codeIn K cd11 "law" = true) (k11 : PySem.W.keepIn K (.ref f11) = true)
    (a12 : PySem.W.nsIn K mainGlobals "LETTERS" = some (some (.str "abcdefghijklmnopqrstuvwxyz" t12)))
    (a13 : PySem.W.nsIn K mainGlobals "LONGEST" = some (some (.int 8 t13)))
    (a14 : PySem.W.nsIn K mainGlobals "MOST_WORDS" = some (some (.int 20 t14)))
    (a15 : PySem.W.nsIn K mainGlobals "all" = some none)
    (a16 : PySem.W.nsIn K mainGlobals "bool" = some none)
    (a17 : PySem.W.nsIn K mainGlobals "enumerate" = some none)
    (a18 : PySem.W.nsIn K mainGlobals "isinstance" = some none)
    (a19 : PySem.W.nsIn K mainGlobals "len" = some none)
    (a20 : PySem.W.nsIn K mainGlobals "list" = some none)
    (a21 : PySem.W.nsIn K mainGlobals "max" = some none)
    (a22 : PySem.W.nsIn K mainGlobals "min" = some none)
    (a23 : PySem.W.nsIn K mainGlobals "range" = some none)
    (a24 : PySem.W.nsIn K mainGlobals "set" = some none)
    (a25 : PySem.W.nsIn K mainGlobals "sorted" = some none)
    (a26 : PySem.W.nsIn K mainGlobals "str" = some none)
    : Txt K mg :=
  ⟨⟨C_DearError, C_NoBook, C_BadSign, C_Reader⟩,
   PySem.W.mg_of X G g_DearError,
   PySem.W.mg_of X G g_NoBook,
   PySem.W.mg_of X G g_BadSign,
   ⟨PySem.W.mg_of X G g_NoBook, x1_NoBook, x2_NoBook, x3_NoBook, x4_NoBook, ⟨x5_NoBook, x6_NoBook, x3_NoBook, x7_NoBook, x8_NoBook, x9_NoBook, x10_NoBook, x11_NoBook⟩⟩,
   ⟨PySem.W.mg_of X G g_DearError, d1, d2, d3⟩,
   ⟨PySem.W.mg_of X G g_BadSign, ⟨⟨nm_BadSign, qn_BadSign, N_BadSign, bs_BadSign, _, sn_BadSign, sb_BadSign, ab_BadSign, col_BadSign, dd_BadSign, m0_BadSign, m1_BadSign, m2_BadSign, m3_BadSign, m5_BadSign, xl_BadSign, rfl⟩, sa_BadSign, x3_BadSign, x4_BadSign, x2_BadSign⟩, fn_BadSign, ⟨x5_BadSign, x6_BadSign, x3_BadSign, x7_BadSign, x8_BadSign, x9_BadSign, x10_BadSign, x11_BadSign⟩⟩,
   ⟨I_BadSign, _, i1_BadSign, i2_BadSign, fun_mk (st := s_BadSign___init__) i3_BadSign i4_BadSign i5_BadSign, (fun_mk (st := s_BadSign___init__) i3_BadSign i4_BadSign i5_BadSign).binds (ps := ["self", "place"]) fun _ _ _ _ _ _ us hl => match us, hl with | [_, _], _ => rfl⟩,
   kit_ref n_NoBook_DearError i_DearError t_DearError q_NoBook_DearError,
   kit_self,
   kit_ref n_NoBook_BadSign i_BadSign t_BadSign q_NoBook_BadSign,
   kit_val q_NoBook_ValueError,
   exm_ref2 b_DearError i_DearError t_DearError q_NoBook_DearError,
   kit_ref n_BadSign_DearError i_DearError t_DearError q_BadSign_DearError,
   kit_ref n_BadSign_NoBook i_NoBook t_NoBook q_BadSign_NoBook,
   kit_self,
   kit_val q_BadSign_ValueError,
   exm_ref2 b_DearError i_DearError t_DearError q_BadSign_DearError,
   exm_ref2 b_BadSign i_BadSign t_BadSign q_BadSign_BadSign,
   ⟨pg_Reader, hd_Reader, po_Reader, sa_Reader⟩,
   na_Reader_words,
   na_Reader_since,
   na_Reader_taken,
   ⟨PySem.W.mg_of X G g_Reader, F_Reader___init__, _, ⟨mk_Reader, ma_Reader___init__, mi_Reader___init__, kc_Reader⟩, fun_mk (st := s_Reader___init__) ml_Reader___init__ mc_Reader___init__ me_Reader___init__, (fun_mk (st := s_Reader___init__) ml_Reader___init__ mc_Reader___init__ me_Reader___init__).binds (ps := ["self", "book"]) fun _ _ _ _ _ _ us hl => match us, hl with | [_, _], _ => rfl⟩,
   ⟨F_Reader_next_signs, _, ⟨ma_Reader_next_signs, mi_Reader_next_signs, me_Reader_next_signs⟩, fun_mk (st := s_Reader_next_signs) ml_Reader_next_signs mc_Reader_next_signs me_Reader_next_signs, (fun_mk (st := s_Reader_next_signs) ml_Reader_next_signs mc_Reader_next_signs me_Reader_next_signs).binds (ps := ["self"]) fun _ _ _ _ _ _ us hl => match us, hl with | [_], _ => rfl⟩,
   ⟨F_Reader_put_sign, _, ⟨ma_Reader_put_sign, mi_Reader_put_sign, me_Reader_put_sign⟩, fun_mk (st := s_Reader_put_sign) ml_Reader_put_sign mc_Reader_put_sign me_Reader_put_sign, (fun_mk (st := s_Reader_put_sign) ml_Reader_put_sign mc_Reader_put_sign me_Reader_put_sign).binds (ps := ["self", "sign"]) fun _ _ _ _ _ _ us hl => match us, hl with | [_, _], _ => rfl⟩,
   ⟨F_Reader_amid, _, ⟨ma_Reader_amid, mi_Reader_amid, me_Reader_amid⟩, fun_mk (st := s_Reader_amid) ml_Reader_amid mc_Reader_amid me_Reader_amid, (fun_mk (st := s_Reader_amid) ml_Reader_amid mc_Reader_amid me_Reader_amid).binds (ps := ["self"]) fun _ _ _ _ _ _ us hl => match us, hl with | [_], _ => rfl⟩,
   ⟨f1, _, PySem.W.mg_of X G a1, fun_mk (st := s_is_name) l1 c1 k1, (fun_mk (st := s_is_name) l1 c1 k1).binds (ps := ["thing"]) fun _ _ _ _ _ _ us hl => match us, hl with | [_], _ => rfl⟩,
   ⟨f2, _, PySem.W.mg_of X G a2, fun_mk (st := s_look_at_plain) l2 c2 k2, (fun_mk (st := s_look_at_plain) l2 c2 k2).binds (ps := ["thing"]) fun _ _ _ _ _ _ us hl => match us, hl with | [_], _ => rfl⟩,
   ⟨f3, _, PySem.W.mg_of X G a3, fun_mk (st := s__law_pool) l3 c3 k3, (fun_mk (st := s__law_pool) l3 c3 k3).binds (ps := ["_law_script", "_law_k"]) fun _ _ _ _ _ _ us hl => match us, hl with | [_, _], _ => rfl⟩,
   ⟨f4, _, PySem.W.mg_of X G a4, fun_mk (st := s__law_take) l4 c4 k4, (fun_mk (st := s__law_take) l4 c4 k4).binds (ps := ["_law_pool_here", "_law_many"]) fun _ _ _ _ _ _ us hl => match us, hl with | [_, _], _ => rfl⟩,
   ⟨f5, _, PySem.W.mg_of X G a5, fun_mk (st := s__law_plain) l5 c5 k5, (fun_mk (st := s__law_plain) l5 c5 k5).binds (ps := ["_law_pool_here"]) fun _ _ _ _ _ _ us hl => match us, hl with | [_], _ => rfl⟩,
   ⟨f6, _, PySem.W.mg_of X G a6, fun_mk (st := s__law_next) l6 c6 k6, (fun_mk (st := s__law_next) l6 c6 k6).binds (ps := ["_law_book", "_law_since"]) fun _ _ _ _ _ _ us hl => match us, hl with | [_, _], _ => rfl⟩,
   ⟨f7, _, PySem.W.mg_of X G a7, fun_mk (st := s__law_look) l7 c7 k7, (fun_mk (st := s__law_look) l7 c7 k7).binds (ps := ["_law_pool_here", "_law_reader", "_law_state"]) fun _ _ _ _ _ _ us hl => match us, hl with | [_, _, _], _ => rfl⟩,
   ⟨f8, _, PySem.W.mg_of X G a8, fun_mk (st := s__law_put) l8 c8 k8, (fun_mk (st := s__law_put) l8 c8 k8).binds (ps := ["_law_reader", "_law_sign_here"]) fun _ _ _ _ _ _ us hl => match us, hl with | [_, _], _ => rfl⟩,
   ⟨f9, _, PySem.W.mg_of X G a9, fun_mk (st := s__law_sign) l9 c9 k9, (fun_mk (st := s__law_sign) l9 c9 k9).binds (ps := ["_law_pool_here", "_law_state"]) fun _ _ _ _ _ _ us hl => match us, hl with | [_, _], _ => rfl⟩,
   ⟨f10, _, PySem.W.mg_of X G a10, fun_mk (st := s__law_steps) l10 c10 k10, (fun_mk (st := s__law_steps) l10 c10 k10).binds (ps := ["_law_pool_here", "_law_reader", "_law_state"]) fun _ _ _ _ _ _ us hl => match us, hl with | [_, _, _], _ => rfl⟩,
   ⟨f11, _, PySem.W.mg_of X G a11, fun_mk (st := s_law) l11 c11 k11, (fun_mk (st := s_law) l11 c11 k11).binds (ps := ["_law_script"]) fun _ _ _ _ _ _ us hl => match us, hl with | [_], _ => rfl⟩,
   ⟨_, PySem.W.mg_of X G a12⟩,
   ⟨_, PySem.W.mg_of X G a13⟩,
   ⟨_, PySem.W.mg_of X G a14⟩,
   PySem.W.mg_none_of X G a15,
   PySem.W.mg_none_of X G a16,
   PySem.W.mg_none_of X G a17,
   PySem.W.mg_none_of X G a18,
   PySem.W.mg_none_of X G a19,
   PySem.W.mg_none_of X G a20,
   PySem.W.mg_none_of X G a21,
   PySem.W.mg_none_of X G a22,
   PySem.W.mg_none_of X G a23,
   PySem.W.mg_none_of X G a24,
   PySem.W.mg_none_of X G a25,
   PySem.W.mg_none_of X G a26⟩
theorem oi_BadSign {P : Program} {w : World} {K : PySem.W.Frag} {mg : Str → Option Value} {base : Heap} (T : Txt K mg) : OkI P w K mg base "BadSign" "place" T.A.BadSign := by
  obtain ⟨fI, fd, h1, h2, F, b⟩ := T.F_BadSign
  refine ⟨fI, fd, h1, h2, F.ok c_BadSign___init__ (fun vs H Q E h => ?_) (fun cdv A outer s H vs Q E hr h => ?_), b, T.X_BadSign⟩
  · obtain ⟨a, C, v, rfl, _⟩ := h
    rfl
  · obtain ⟨a, C, v, rfl, o, n, ha, fv, k⟩ := h
    refine ⟨_, (pss_cons (ps_expr (pe_drinit T.D_DearError (pa_cons (pv 0) (pa_cons (pe_joined (.cons pe_str (.cons (pe_fmtN (pv 1)) .nil))) pa_nil)))) (pss_one (ps_ost (pv 0) (pv 1)))), ?_⟩
    refine ⟨_, rfl, _, rfl, (by decide +kernel), _, rfl, fv, fun z hz => ⟨z, rfl, ?_, ?_⟩⟩
    · rw [str_len]
      exact Nat.le_trans (Nat.add_le_add_right (show _ ≤ 100 by decide +kernel) _) (sz_lit (by omega))
    · exact ⟨a, C, _, rfl, (by decide : 1 ≤ 1000), o, ha, _, rfl, _, rfl, a, C, rfl, o, n, .inl ⟨ha, fun dx hd ne => k dx hd ne⟩⟩

end Dear


namespace Dear
open PySem PySem.Spec PyProof.Rows L2
/-! ### what a reader of a plain book does -/
/-- some word begins so -/
def goes (bs : List (List Nat)) (s : List Nat) : Bool := bs.any fun w => decide (s <+: w)
theorem goes_iff {bs : List (List Nat)} {s : List Nat} : goes bs s = true ↔ ∃ w ∈ bs, s <+: w := by
  unfold goes
  rw [List.any_eq_true]
  exact ⟨fun ⟨w, h1, h2⟩ => ⟨w, h1, of_decide_eq_true h2⟩, fun ⟨w, h1, h2⟩ => ⟨w, h1, decide_eq_true h2⟩⟩
/-- what stands between two signs -/
structure Mid (bs : List (List Nat)) (s : List Nat) : Prop where
  go : ∃ w ∈ bs, s <+: w
  no : s ∉ bs
theorem Mid.nil {bs : List (List Nat)} (h : BkOk bs) : Mid bs [] := by
  refine ⟨?_, fun z => ?_⟩
  · have l1 := h.l1
    cases bs with
    | nil => exact absurd l1 (by decide)
    | cons w r => exact ⟨w, List.mem_cons_self, List.nil_prefix⟩
  · have := (h.all [] z).lo
    exact absurd this (by decide)
/-- one sign more: what stands then, and the number of the word that ends; or refused -/
def stepR (bs : List (List Nat)) (s : List Nat) (c : Nat) : Option (List Nat × Option Nat) :=
  if goes bs (s ++ [c]) then some (if s ++ [c] ∈ bs then ([], some (bs.idxOf (s ++ [c]))) else (s ++ [c], none)) else none
theorem Mid.step {bs : List (List Nat)} (h : BkOk bs) {s : List Nat} {c : Nat} {x : List Nat × Option Nat} (e : stepR bs s c = some x) : Mid bs x.1 := by
  unfold stepR at e
  split at e
  · rename_i g
    injection e with e
    subst e
    split
    · exact Mid.nil h
    · rename_i n
      exact ⟨goes_iff.mp g, n⟩
  · cases e
/-- the row that a text spells, or the place of the first wrong sign -/
def runR (bs : List (List Nat)) : List Nat → List Nat → Nat → List Nat → Sum Nat (List Nat)
  | s, [], i, row => if s = [] then .inr row else .inl i
  | s, c :: r, i, row => match stepR bs s c with
    | none => .inl i
    | some x => runR bs x.1 r (i + 1) (row ++ x.2.toList)
def readL (bs : List (List Nat)) (l : List Nat) : Sum Nat (List Nat) := runR bs [] l 0 []
theorem Mid.len {bs : List (List Nat)} (h : BkOk bs) {s : List Nat} (m : Mid bs s) : s.length ≤ 7 := by
  obtain ⟨w, hw, hp⟩ := m.go
  have h1 := hp.length_le
  have h2 := (h.all w hw).hi
  have h3 : s.length ≠ w.length := fun e => m.no (by rw [hp.eq_of_length e]; exact hw)
  omega
/-- of a word's signs all but the last one leave it unended -/
theorem word_mid {bs : List (List Nat)} (h : BkOk bs) {w a b : List Nat} (hw : w ∈ bs) (e : w = a ++ b) (hb : b ≠ []) : a ∉ bs := fun ha => by
  obtain ⟨i, hi⟩ := List.getElem?_of_mem ha
  obtain ⟨j, hj⟩ := List.getElem?_of_mem hw
  have hp : a <+: w := ⟨b, e.symm⟩
  by_cases q : i = j
  · subst q
    rw [hi] at hj
    have : a = w := Option.some.inj hj
    rw [e] at this
    have := congrArg List.length this
    rw [List.length_append] at this
    have := List.length_pos_iff.mpr hb
    omega
  · exact h.pf.not_prefix hi hj q hp
/-- a word read from its midst on -/
theorem run_word {bs : List (List Nat)} (h : BkOk bs) {w : List Nat} (hw : w ∈ bs) : ∀ (b a r : List Nat) (i : Nat) (row : List Nat), w = a ++ b → b ≠ [] → runR bs a (b ++ r) i row = runR bs [] r (i + b.length) (row ++ [bs.idxOf w])
  | [], _, _, _, _, _, hb => absurd rfl hb
  | [c], a, r, i, row, e, _ => by
    have g : goes bs (a ++ [c]) = true := goes_iff.mpr ⟨w, hw, by rw [e]; exact List.prefix_refl _⟩
    have m : a ++ [c] ∈ bs := by rw [← e]; exact hw
    show (match stepR bs a c with | none => Sum.inl i | some x => runR bs x.1 r (i + 1) (row ++ x.2.toList)) = _
    unfold stepR
    rw [if_pos g, if_pos m, ← e]
    rfl
  | c :: d :: b, a, r, i, row, e, _ => by
    have e2 : w = (a ++ [c]) ++ (d :: b) := by rw [e, List.append_assoc]; rfl
    have g : goes bs (a ++ [c]) = true := goes_iff.mpr ⟨w, hw, ⟨d :: b, e2.symm⟩⟩
    have m : a ++ [c] ∉ bs := word_mid h hw e2 (List.cons_ne_nil _ _)
    have ih := run_word h hw (d :: b) (a ++ [c]) r (i + 1) row e2 (List.cons_ne_nil _ _)
    show (match stepR bs a c with | none => Sum.inl i | some x => runR bs x.1 (d :: b ++ r) (i + 1) (row ++ x.2.toList)) = _
    unfold stepR
    rw [if_pos g, if_neg m]
    show runR bs (a ++ [c]) (d :: b ++ r) (i + 1) (row ++ []) = _
    have el : i + 1 + (d :: b).length = i + (c :: d :: b).length := by
      rw [List.length_cons, List.length_cons, List.length_cons]
      omega
    rw [List.append_nil, ih, el]
theorem idx_word {bs : List (List Nat)} (h : BkOk bs) {k : Nat} {w : List Nat} (e : bs[k]? = some w) : bs.idxOf w = k := by
  have nd : bs.Nodup := h.pf.imp fun z q => z.1 (by rw [q]; exact List.prefix_refl _)
  obtain ⟨lt, e2⟩ := List.getElem?_eq_some_iff.mp e
  rw [← e2]
  exact nd.idxOf_getElem k lt
/-- the words of a row, one behind the other -/
def spell (bs : List (List Nat)) (ks : List Nat) : List Nat := (ks.map fun k => bs.getD k []).flatten
theorem run_spell {bs : List (List Nat)} (h : BkOk bs) : ∀ (ks r : List Nat) (i : Nat) (row : List Nat), (∀ k ∈ ks, k < bs.length) → runR bs [] (spell bs ks ++ r) i row = runR bs [] r (i + (spell bs ks).length) (row ++ ks)
  | [], r, i, row, _ => by
    rw [List.append_nil]
    rfl
  | k :: ks, r, i, row, hk => by
    have lt := hk k List.mem_cons_self
    have e := List.getElem?_eq_getElem lt
    have hw : bs[k] ∈ bs := List.getElem_mem lt
    have eg : bs.getD k [] = bs[k] := by
      rw [List.getD_eq_getElem?_getD, e]
      rfl
    have es : spell bs (k :: ks) = bs[k] ++ spell bs ks := by
      unfold spell
      rw [List.map_cons, List.flatten_cons, eg]
    have ne : bs[k] ≠ [] := fun z => by
      have := (h.all _ hw).lo
      rw [z] at this
      exact absurd this (by decide)
    rw [es, List.append_assoc, run_word h hw bs[k] [] (spell bs ks ++ r) i row rfl ne, idx_word h e, run_spell h ks r _ _ fun x hx => hk x (List.mem_cons_of_mem _ hx), List.length_append, List.append_assoc, Nat.add_assoc]
    rfl
theorem read_spell {bs : List (List Nat)} (h : BkOk bs) {ks : List Nat} (hk : ∀ k ∈ ks, k < bs.length) : readL bs (spell bs ks) = .inr ks := by
  have := run_spell h ks [] 0 [] hk
  rw [List.append_nil, List.nil_append] at this
  unfold readL
  rw [this]
  exact if_pos rfl
end Dear
namespace Dear
open PySem PySem.Spec PyProof.Rows L2
theorem vsT_of {H : Hp} : ∀ {bs : List (List Nat)} {xs : List V}, DtAll H xs (bs.map fun w => D.str (txt w)) → xs = vsT bs
  | [], _, .nil => rfl
  | _ :: _, _, .cons (.str _) h => by
    rw [vsT_of h]
    rfl
theorem nm_back {z : Str} (h : isNm (.str z) = true) : WdOk 1 z.cps.toList := by
  have h : (decide (1 ≤ z.length ∧ z.length ≤ 8) && z.cps.toList.all fun c => decide (c ∈ letters.cps.toList)) = true := h
  rw [Bool.and_eq_true, decide_eq_true_eq, List.all_eq_true] at h
  have e : z.cps.toList.length = z.length := Array.length_toList
  exact ⟨fun c hc => of_decide_eq_true (h.2 c hc), by omega, by omega⟩
theorem bkD_inj {a b : List (List Nat)} (h : bkD a = bkD b) : a = b := by
  unfold bkD at h
  injection h with h
  exact (List.map_inj_right fun x y e => txt_inj (D.str.inj e)).mp h
/-- what is told: places up to the end, numbers of words -/
theorem run_row {bs : List (List Nat)} : ∀ (t s : List Nat) (i : Nat) (row : List Nat), (∀ k ∈ row, k < bs.length) → (∀ j, runR bs s t i row = .inl j → j ≤ i + t.length) ∧ ∀ r, runR bs s t i row = .inr r → ∀ k ∈ r, k < bs.length
  | [], s, i, row, h => by
    have e : runR bs s [] i row = if s = [] then .inr row else .inl i := rfl
    rw [e]
    split
    · exact ⟨fun j q => (nomatch q), fun r q => by injection q with q; subst q; exact h⟩
    · exact ⟨fun j q => by injection q with q; subst q; exact Nat.le_refl _, fun r q => nomatch q⟩
  | c :: t, s, i, row, h => by
    have e : runR bs s (c :: t) i row = match stepR bs s c with | none => Sum.inl i | some x => runR bs x.1 t (i + 1) (row ++ x.2.toList) := rfl
    rw [e]
    cases q : stepR bs s c with
    | none => exact ⟨fun j q => by injection q with q; subst q; exact Nat.le_add_right _ _, fun r q => nomatch q⟩
    | some x =>
      have hx : ∀ k ∈ x.2.toList, k < bs.length := fun k hk => by
        unfold stepR at q
        split at q
        · injection q with q
          subst q
          split at hk
          · rename_i hm
            have : k = bs.idxOf (s ++ [c]) := by simpa using hk
            rw [this]
            exact List.idxOf_lt_length_iff.mpr hm
          · exact nomatch hk
        · cases q
      obtain ⟨h1, h2⟩ := run_row t x.1 (i + 1) (row ++ x.2.toList) fun k hk => (List.mem_append.mp hk).elim (h k) (hx k)
      exact ⟨fun j q => by have := h1 j q; rw [List.length_cons]; omega, h2⟩
theorem read_row_lt {bs : List (List Nat)} {l r : List Nat} (h : readL bs l = .inr r) : ∀ k ∈ r, k < bs.length := (run_row l [] 0 [] fun _ h => nomatch h).2 r h
theorem read_place_le {bs : List (List Nat)} {l : List Nat} {i : Nat} (h : readL bs l = .inl i) : i ≤ l.length := by
  have := (run_row l [] 0 [] fun _ h => nomatch h).1 i h
  omega
end Dear

namespace Dear
open PySem PySem.Spec PyProof.Rows L2
/-! ### author B's draws -/
def spPool (K : PySem.W.Frag) : Sp := fun vs H Q _ => ∃ (a : Addr) (ns : List Int) (k : Int), vs = [.ref a, .int k] ∧ SqL K H a (ns.map V.int) ∧ 0 ≤ k ∧ k ≤ 1000000 ∧ ∀ (l : Addr) (H' : Hp), H l = none → Same H H' → Src H' l → Q (.ref l) H'
def spName : Sp := fun vs H Q _ => ∃ (k s : Nat), vs = [.int k, .int s] ∧ k ≤ 1000 ∧ s ≤ 100000 ∧ ∀ H', Same H H' → Q (.str (txt (nameL k s))) H'
def spWants : Sp := fun vs H Q _ => ∃ (l : Addr) (m : Int), vs = [.ref l, .int m] ∧ Src H l ∧ 1 ≤ m ∧ m ≤ 20 ∧
  ∀ (p : Addr) (xs : List V) (ws : List (List Nat × Int)) (H' : Hp), H p = none → p ≠ l → But l H H' → Src H' l → H' p = some (.lst xs) → DtAll H' xs (ws.map wantD) → WsOk ws → (ws.length : Int) = m → Q (.ref p) H'
section
variable {P : Program} {w : World} {K : PySem.W.Frag} {mg : Str → Option Value} {base : Heap}
theorem o__law_pool (T : Txt K mg) : OkF P w K mg base CX0 1 "_law_pool" ["_law_script", "_law_k"] (spPool K) := by
  refine T.f__law_pool.ok c__law_pool (fun vs H Q E h => ?_) (fun f cdv A outer s H vs Q E hr h => ?_)
  · obtain ⟨a, ns, k, rfl, _⟩ := h
    rfl
  · obtain ⟨a, ns, k, rfl, hS, k0, k9, q⟩ := h
    refine ⟨_, (pss_cons (ps_set (i := 2) c__law_pool.nd rfl (Or.inl rfl) pe_int)
(C8.pss_cut (ps_if (pt_cmpR op_lt (pv 1) (pe_callB (call_len_seq_k K) (by rfl) T.b_len PySem.boot_len (pa_cons (pv 0) pa_nil)) (nomark _))
(pss_one (ps_set (i := 2) c__law_pool.nd rfl (Or.inl rfl) (pe_ix (ix_list_k K) (pv 0) (pv 1) (fun _ _ => rfl))))
pss_nil)
(pss_cons (ps_set (i := 3) c__law_pool.nd rfl (Or.inl rfl) (pe_op op_mod (pe_op op_mul (pe_op op_add (pe_op op_add (pe_op op_mod (pv 2) pe_int) (pe_op op_mul (pe_op op_mul pe_int (pv 1)) (pv 1))) pe_int) pe_int) pe_int))
(C8.pss_cut (ps_if (pt_cmpR op_lt (pv 2) (pe_op op_pow pe_int pe_int) (nomark _))
(pss_one (ps_set (i := 2) c__law_pool.nd rfl (Or.inl rfl) pe_int))
pss_nil)
(pss_one (ps_ret (pe_lst (pa_cons (pv 2) (pa_cons (pv 3) pa_nil))))))))), ?_⟩
    refine ⟨fun σ' H' => H' = H ∧ ∃ c : Int, σ' = [some (.ref a), some (.int k), some (.int c), none], ?_, ?_⟩
    · refine ⟨_, rfl, _, rfl, _, _, rfl, .inl hS, _, _, rfl, rfl, _, rfl, itd (fun c => ?_) fun _ => ⟨rfl, 0, rfl⟩⟩
      obtain ⟨x, hx, hm, _⟩ := at_lt k0 c
      obtain ⟨z, _, rfl⟩ := List.mem_map.mp hm
      exact ⟨_, rfl, _, rfl, _, _, _, _, rfl, rfl, hS, hx, rfl, z, rfl⟩
    rintro σ' H' ⟨rfl, c, rfl⟩
    refine ⟨_, rfl, _, _, rfl, rfl, (by show (0 : Int) < 1000000007; decide), _, rfl, _, _, rfl, rfl, .inl ⟨by decide, by decide⟩, _, rfl, _, _, rfl, rfl, .inr ⟨by omega, by omega⟩, _, _, rfl, rfl, _, _, rfl, rfl, _, _, rfl, rfl, .inr ⟨by decide, by decide⟩, _, _, rfl, rfl, (by show (0 : Int) < 2147483647; decide), ?_⟩
    have b0 : 0 ≤ ((c % 1000000007 + 15485863 * k * k + 3) * 39373) % 2147483647 := Int.emod_nonneg _ (by decide)
    have b1 : ((c % 1000000007 + 15485863 * k * k + 3) * 39373) % 2147483647 < 2147483647 := Int.emod_lt_of_pos _ (by decide)
    refine ⟨fun σ' H'' => H'' = H' ∧ ∃ c' : Int, 0 ≤ c' ∧ σ' = [some (.ref a), some (.int k), some (.int c'), some (.int (((c % 1000000007 + 15485863 * k * k + 3) * 39373) % 2147483647))], ?_, ?_⟩
    · refine ⟨_, rfl, _, _, rfl, rfl, ⟨by decide, by decide, by decide⟩, _, _, rfl, rfl, _, rfl, itd (fun _ => ⟨rfl, 0, by decide, rfl⟩) fun h => ⟨rfl, c, ?_, rfl⟩⟩
      have h : ¬ c < (10 : Int) ^ (18 : Nat) := h
      omega
    rintro σ' H'' ⟨rfl, c', hc', rfl⟩
    exact ⟨_, rfl, _, rfl, (by show 2 ≤ sizeLine; decide), fun l hl => q l _ hl (Same.upd hl) ⟨_, _, upd_same, hc', b0, b1⟩⟩
theorem o__law_take (T : Txt K mg) : OkF P w K mg base CX0 1 "_law_take" ["_law_pool_here", "_law_many"] spDraw := by
  refine T.f__law_take.ok c__law_take (fun vs H Q E h => ?_) (fun f cdv A outer s H vs Q E hr h => ?_)
  · obtain ⟨l, m, rfl, _⟩ := h
    rfl
  · obtain ⟨l, m, rfl, ⟨n, z, h1, hn, hz, hz2⟩, hm, hm9, q⟩ := h
    refine ⟨_, (pss_cons (ps_if (pt_cmpR op_gt (pe_ix (ix_list_k K) (pv 0) pe_int (fun _ _ => rfl)) pe_int (nomark _))
(pss_cons (ps_set (i := 2) c__law_take.nd rfl (Or.inl rfl) (pe_op op_mod (pe_ix (ix_list_k K) (pv 0) pe_int (fun _ _ => rfl)) (pv 1)))
(pss_cons (ps_asg (pe_op op_fdivW (pe_ix (ix_list_k K) (pv 0) pe_int (fun _ _ => rfl)) (pv 1)) (pg_sub (pv 0) pe_int set_list))
(pss_one (ps_ret (pv 2)))))
pss_nil)
(pss_cons (ps_asg (pe_op op_mod (pe_op op_add (pe_op op_mul (pe_ix (ix_list_k K) (pv 0) pe_int (fun _ _ => rfl)) pe_int) pe_int) pe_int) (pg_sub (pv 0) pe_int set_list))
(pss_one (ps_ret (pe_op op_mod (pe_op op_fdivW (pe_op op_mod (pe_op op_mul (pe_ix (ix_list_k K) (pv 0) pe_int (fun _ _ => rfl)) (pe_ix (ix_list_k K) (pv 0) pe_int (fun _ _ => rfl))) pe_int) pe_int) (pv 1)))))), ?_⟩
    refine ⟨_, rfl, _, _, _, _, rfl, rfl, SqL.of h1, rfl, _, _, rfl, rfl, _, rfl, itd (fun c => ?_) fun c => ?_⟩
    · refine ⟨_, rfl, _, _, _, _, rfl, rfl, SqL.of h1, rfl, _, rfl, _, _, rfl, rfl, hm, ?_⟩
      refine ⟨_, rfl, _, _, _, _, rfl, rfl, SqL.of h1, rfl, _, rfl, _, _, rfl, rfl, ⟨hm, hm9⟩, _, rfl, _, _, _, _, rfl, rfl, h1, rfl, ?_⟩
      refine ⟨_, rfl, ?_⟩
      exact q _ _ (Int.emod_nonneg _ (by omega)) (Int.emod_lt_of_pos _ hm) But.upd ⟨_, _, upd_same, Int.ediv_nonneg (by omega) (by omega), hz, hz2⟩
    · refine ⟨_, rfl, _, _, _, _, rfl, rfl, SqL.of h1, rfl, _, _, rfl, rfl, .inr ⟨by decide, by decide⟩, _, _, rfl, rfl, _, _, rfl, rfl, (by show (0 : Int) < 2147483647; decide), _, rfl, _, _, _, _, rfl, rfl, h1, rfl, ?_⟩
      have b0 : 0 ≤ (z * 48271 + 11) % 2147483647 := Int.emod_nonneg _ (by decide)
      have b1 : (z * 48271 + 11) % 2147483647 < 2147483647 := Int.emod_lt_of_pos _ (by decide)
      refine ⟨_, rfl, _, _, _, _, rfl, rfl, SqL.of upd_same, rfl, _, rfl, _, _, _, _, rfl, rfl, SqL.of upd_same, rfl, _, _, rfl, rfl, .inl ⟨by omega, by omega⟩, _, _, rfl, rfl, (by show (0 : Int) < 2147483629; decide), _, _, rfl, rfl, ⟨by decide, by decide⟩, _, rfl, _, _, rfl, rfl, hm, ?_⟩
      exact q _ _ (Int.emod_nonneg _ (by omega)) (Int.emod_lt_of_pos _ hm) But.upd ⟨_, _, upd_same, hn, b0, b1⟩
end
end Dear

namespace Dear
open PySem PySem.Spec PyProof.Rows L2
def spPlainB : Sp := fun vs H Q _ => ∃ l : Addr, vs = [.ref l] ∧ Src H l ∧ ∀ (p : Addr) (bs : List (List Nat)) (H' : Hp), H p = none → p ≠ l → But l H H' → Src H' l → H' p = some (.lst (vsT bs)) → BkOk bs → Q (.ref p) H'
theorem step4 {v : V} (h : v ∈ [V.int 1, V.int 3, V.int 5, V.int 7]) : ∃ m : Nat, v = .int (m : Nat) ∧ (m = 1 ∨ m = 3 ∨ m = 5 ∨ m = 7) := by
  simp only [List.mem_cons, List.not_mem_nil, or_false] at h
  rcases h with rfl | rfl | rfl | rfl
  · exact ⟨1, rfl, by decide⟩
  · exact ⟨3, rfl, by decide⟩
  · exact ⟨5, rfl, by decide⟩
  · exact ⟨7, rfl, by decide⟩
theorem vsT_len (bs : List (List Nat)) : (vsT bs).length = bs.length := List.length_map ..
theorem dp_vsT {K : PySem.W.Frag} {H : Hp} : ∀ bs : List (List Nat), DpAll K H (vsT bs) (bs.map fun w => PyData.str (txt w))
  | [] => .nil
  | _ :: bs => .cons (.str _) (dp_vsT bs)
theorem EnOk.shaped {bs : List (List Nat)} (h : ∀ w ∈ bs, WdOk 0 w) : SeqAt.shaped (.list (bs.map fun w => PyData.str (txt w))) = true := by
  have e : (bs.map fun w => PyData.str (txt w)) = (bs.map txt).map PyData.str := by
    rw [List.map_map]
    rfl
  rw [e]
  refine shaped_strs fun y hy => ?_
  obtain ⟨w, hw, rfl⟩ := List.mem_map.mp hy
  intro c hc
  rw [txt_list] at hc
  exact in_letters_asc ((h w hw).l c hc)
theorem WdOk.z {n : Nat} {w : List Nat} (h : WdOk n w) : WdOk 0 w := ⟨h.l, Nat.zero_le _, h.hi⟩
theorem erase_map {α β : Type} (f : α → β) : ∀ (l : List α) (i : Nat), (l.map f).eraseIdx i = (l.eraseIdx i).map f
  | [], _ => rfl
  | _ :: _, 0 => rfl
  | a :: l, i + 1 => congrArg (f a :: ·) (erase_map f l i)
theorem perm_erase {α : Type} : ∀ {l : List α} {i : Nat} {x : α}, l[i]? = some x → l.Perm (x :: l.eraseIdx i)
  | [], _, _, h => by simp at h
  | a :: l, 0, x, h => by
    have : a = x := by simpa using h
    subst this
    exact List.Perm.refl _
  | a :: l, i + 1, x, h => by
    have ih := perm_erase (l := l) (i := i) (x := x) (by simpa using h)
    exact (ih.cons a).trans (List.Perm.swap x a _)
theorem perm_pop {α : Type} {l : List α} {i : Nat} {x : α} (h : l[i]? = some x) (acc : List α) : (acc ++ l).Perm ((acc ++ [x]) ++ l.eraseIdx i) := by
  rw [List.append_assoc]
  exact (perm_erase h).append_left acc
section
variable {P : Program} {w : World} {K : PySem.W.Frag} {mg : Str → Option Value} {base : Heap}
theorem o__law_plain (T : Txt K mg) : OkF P w K mg base CX0 2 "_law_plain" ["_law_pool_here"] spPlainB := by
  have o__law_take := o__law_take (P := P) (w := w) (base := base) T
  refine T.f__law_plain.ok c__law_plain (fun vs H Q E h => ?_) (fun f cdv A outer s H vs Q E hr h => ?_)
  · obtain ⟨l, rfl, _⟩ := h
    rfl
  · obtain ⟨l, rfl, S, k⟩ := h
    refine ⟨_, (pss_cons (ps_set (i := 1) c__law_plain.nd rfl (Or.inl rfl) (pe_lst (pa_cons pe_str pa_nil)))
(pss_cons (ps_for PassesOwn.never rfl (pi_range1 (by rfl) T.b_range (pa_cons (pe_c o__law_take hr (pa_cons (pv 0) (pa_cons pe_int pa_nil))) pa_nil)) (pg_name (i := 2) c__law_plain.nd rfl (Or.inl rfl))
(pss_cons (ps_set (i := 3) c__law_plain.nd rfl (Or.inl rfl) (pe_c o__law_take hr (pa_cons (pv 0) (pa_cons (pe_callB (call_len_seq_k K) (by rfl) T.b_len PySem.boot_len (pa_cons (pv 1) pa_nil)) pa_nil))))
(pss_cons (ps_set (i := 4) c__law_plain.nd rfl (Or.inl rfl) (pe_op op_add pe_int (pe_c o__law_take hr (pa_cons (pv 0) (pa_cons pe_int pa_nil)))))
(pss_cons (ps_set (i := 5) c__law_plain.nd rfl (Or.inr rfl) (pe_c o__law_take hr (pa_cons (pv 0) (pa_cons pe_int pa_nil))))
(pss_cons (ps_set (i := 6) c__law_plain.nd rfl (Or.inr rfl) (pe_ix (ix_list_k K) (pe_lst (pa_cons pe_int (pa_cons pe_int (pa_cons pe_int (pa_cons pe_int pa_nil))))) (pe_c o__law_take hr (pa_cons (pv 0) (pa_cons pe_int pa_nil))) (fun _ _ => rfl)))
(pss_cons (ps_set (i := 7) c__law_plain.nd rfl (Or.inr rfl) (pe_ix (ix_list_k K) (pv 1) (pv 3) (fun _ _ => rfl)))
(pss_one (ps_if (PW.pt (pw_and (pt_cmpR op_lt (pe_callB call_len_str (by rfl) T.b_len PySem.boot_len (pa_cons (pv 7) pa_nil)) pe_int (nomark _)) (pw_and1 (pt_cmpR op_lt (pe_op op_add (pe_callB (call_len_seq_k K) (by rfl) T.b_len PySem.boot_len (pa_cons (pv 1) pa_nil)) (pv 4)) pe_int (nomark _)))))
(pss_cons (ps_setLc (i := 8) (own := [("_law_j", 10)]) (g := gName 10) (tt := tYes) (by rfl) c__law_plain.nd rfl rfl (sw_true rfl rfl rfl (by decide +kernel)) (pi_range1 (by rfl) T.b_range (pa_cons (pv 4) pa_nil)) (blkOk_by (own := [("_law_j", 10)]) (N := n__law_plain) (sc := defScope s__law_plain) (by decide +kernel)) (fun _ _ _ _ _ => (pg_name (i := 10) c__law_plain.nd rfl (Or.inl rfl))) (fun _ _ _ _ _ => pts_nil) (fun _ _ _ _ _ => (pe_ix ix_str pe_str (pe_op op_mod (pe_op op_add (pv 5) (pe_op op_mul (pv 6) (pv 10))) pe_int) (fun _ _ => rfl))))
(pss_one (ps_set (i := 1) c__law_plain.nd rfl (Or.inl rfl) (pe_op op_cat (pe_op op_cat (pe_slice (sl_list_k K) (pv 1) po_none (po_some (pv 3))) (pe_lc (own := [("_law_letter", 11)]) (g := gName 11) (tt := tYes) (by rfl) c__law_plain.nd (pi_list_k K (pv 8)) (blkOk_by (own := [("_law_letter", 11)]) (N := n__law_plain) (sc := defScope s__law_plain) (by decide +kernel)) (fun _ _ _ _ _ => (pg_name (i := 11) c__law_plain.nd rfl (Or.inl rfl))) (fun _ _ _ _ _ => pts_nil) (fun _ _ _ _ _ => (pe_op op_add_str (pv 7) (pv 11))))) (pe_slice (sl_list_k K) (pv 1) (po_some (pe_op op_add (pv 3) pe_int)) po_none)))))
pss_nil))))))))
(C8.pss_cut (ps_if (pt_cmpR (op_eqD_k K hr.units) (pv 1) (pe_lst (pa_cons pe_str pa_nil)) (nomark _))
(pss_one (ps_set (i := 1) c__law_plain.nd rfl (Or.inl rfl) (pe_lst (pa_cons (pe_op op_repS (pe_ix ix_str pe_str (pe_c o__law_take hr (pa_cons (pv 0) (pa_cons pe_int pa_nil))) (fun _ _ => rfl)) (pe_op op_add pe_int (pe_c o__law_take hr (pa_cons (pv 0) (pa_cons pe_int pa_nil))))) pa_nil))))
pss_nil)
(pss_cons (ps_set (i := 3) c__law_plain.nd rfl (Or.inl rfl) (pe_c o__law_take hr (pa_cons (pv 0) (pa_cons (pe_callB (call_len_seq_k K) (by rfl) T.b_len PySem.boot_len (pa_cons (pv 1) pa_nil)) pa_nil))))
(pss_cons (ps_set (i := 6) c__law_plain.nd rfl (Or.inr rfl) (pe_c o__law_take hr (pa_cons (pv 0) (pa_cons pe_int pa_nil))))
(pss_cons (ps_set (i := 9) c__law_plain.nd rfl (Or.inl rfl) (pe_lst pa_nil))
(pss_cons (ps_while PassesOwn.never (pt_cmpR (op_neD_k K hr.units) (pv 1) (pe_lst pa_nil) (nomark _))
(pss_one (ps_expr (pe_bm PySem.F.plainAttrs_list PySem.F.slot_list_append PySem.F.type_list_append mt_append (pv 9) (pa_cons (pe_bm PySem.F.plainAttrs_list PySem.F.slot_list_pop PySem.F.type_list_pop mt_popAt (pv 1) (pa_cons (pe_op op_mod (pe_op op_add (pv 3) (pe_op op_mul (pv 6) (pe_callB (call_len_seq_k K) (by rfl) T.b_len PySem.boot_len (pa_cons (pv 9) pa_nil)))) (pe_callB (call_len_seq_k K) (by rfl) T.b_len PySem.boot_len (pa_cons (pv 1) pa_nil))) pa_nil)) pa_nil)))))
(pss_one (ps_ret (pv 9)))))))))), ?_⟩
    refine ⟨(by show 1 ≤ sizeLine; decide), fun q0 hq0 => ?_⟩
    have u0 := Same.upd (o := .lst [.str ""]) hq0
    have S0 := S.same u0
    have z26 : letters.length ≤ sizeLine := by decide +kernel
    refine ⟨_, rfl, l, 13, rfl, S0, by decide, log_le 13 (by decide), fun m H1 m0 m1 B1 S1 => ?_⟩
    refine ⟨m, rfl, by omega, by omega, for_range (lo := 0) (n := m.toNat) (fun j σ H' => But l H H' ∧ Src H' l ∧ ∃ (q : Addr) (bs : List (List Nat)) (v2 v3 v4 v5 v6 v7 v8 v9 v10 v11 : Option V), σ = [some (.ref l), some (.ref q), v2, v3, v4, v5, v6, v7, v8, v9, v10, v11] ∧ H q = none ∧ q ≠ l ∧ H' q = some (.lst (vsT bs)) ∧ EnOk bs)
      ⟨(But.of u0).trans B1, S1, q0, [[]], _, _, _, _, _, _, _, _, _, _, rfl, hq0, S.ne hq0, B1 _ _ upd_same (S.ne hq0), EnOk.start⟩ ?_ ?_⟩
    · rintro j σ H2 hj ⟨B2, S2, q, bs, v2, v3, v4, v5, v6, v7, v8, v9, v10, v11, rfl, hq, nq, hq2, en⟩
      have bl := vsT_len bs
      have l1 := en.l1
      have l20 := en.l20
      refine ⟨_, rfl, _, rfl, _, _, rfl, .inl (SqL.of hq2), l, _, rfl, S2, by omega, log_le 20 (by omega), fun at_ H3 a0 a1 B3 S3 => ?_⟩
      obtain ⟨an, rfl⟩ := Int.eq_ofNat_of_zero_le a0
      refine ⟨_, rfl, l, 8, rfl, S3, by decide, log_le 8 (by decide), fun my H4 my0 my1 B4 S4 => ⟨_, _, rfl, rfl, ?_⟩⟩
      refine ⟨_, rfl, l, 26, rfl, S4, by decide, log_le 26 (by decide), fun sh H5 sh0 sh1 B5 S5 => ?_⟩
      obtain ⟨sn, rfl⟩ := Int.eq_ofNat_of_zero_le sh0
      refine ⟨(by show 4 ≤ sizeLine; decide), fun p4 hp4 => ?_⟩
      have u5 := Same.upd (o := .lst [.int 1, .int 3, .int 5, .int 7]) hp4
      have n4 : p4 ≠ l := S5.ne hp4
      refine ⟨_, rfl, l, 4, rfl, S5.same u5, by decide, log_le 4 (by decide), fun r6 H6 r60 r61 B6 S6 => ?_⟩
      obtain ⟨x, hx, hm, _⟩ := at_lt (xs := [V.int 1, V.int 3, V.int 5, V.int 7]) r60 r61
      obtain ⟨st, rfl, hst⟩ := step4 hm
      refine ⟨_, _, _, _, rfl, rfl, SqL.of (B6 _ _ upd_same n4), hx, ?_⟩
      have B26 : But l H2 H6 := (((B3.trans B4).trans B5).trans (.of u5)).trans B6
      have hq6 := B26 _ _ hq2 nq
      have B06 := B2.trans B26
      obtain ⟨b, hb⟩ : ∃ b, bs[an]? = some b := ⟨bs[an]'(by omega), List.getElem?_eq_getElem _⟩
      have wb := en.all b (List.mem_of_getElem? hb)
      have hbv : (vsT bs)[an]? = some (.str (txt b)) := by
        unfold vsT
        rw [List.getElem?_map, hb]
        rfl
      have bz : (txt b).length ≤ sizeLine := sz_lit (by rw [txt_length]; have := wb.hi; omega)
      refine ⟨_, rfl, _, rfl, _, _, _, _, rfl, rfl, SqL.of hq6, atI_nat hbv, ?_⟩
      refine ⟨_, rfl, _, rfl, bz, _, _, rfl, rfl, _, rfl, itd (fun c1 => ?_) fun c1 => ?_⟩
      · refine ⟨_, rfl, _, _, rfl, .inl (SqL.of hq6), _, rfl, _, _, rfl, rfl, _, _, rfl, rfl, _, rfl, itd (fun c2 => ?_) fun c2 => ?_⟩
        · have c1 : ((txt b).length : Int) < 8 := c1
          have c2 : ((vsT bs).length : Int) + (1 + my) < 22 := c2
          rw [txt_length] at c1
          obtain ⟨mn, rfl⟩ := Int.eq_ofNat_of_zero_le my0
          refine ⟨_, rfl, _, rfl, by omega, by omega, fun pD hD => lc_range (lo := 0) (n := (1 + (mn : Int)).toNat) (fun i H' => Same H6 H' ∧ H' pD = some (.lst (((List.range i).map (lettB sn st)).map fun c => V.str (txt [c])))) ⟨Same.upd hD, upd_same⟩ ?_ ?_⟩
          · rintro i H' hi ⟨s7, e7⟩
            rw [Int.zero_add]
            have i8 : i < 8 := by omega
            have ei : ((sn : Int) + (st : Int) * (i : Int)) % 26 = (((sn + st * i) % 26 : Nat) : Int) := by
              rw [Int.natCast_emod, Int.natCast_add, Int.natCast_mul]
              rfl
            refine ⟨rfl, _, rfl, _, rfl, _, rfl, _, _, rfl, rfl, .inl ⟨by omega, by omega⟩, _, _, rfl, rfl, _, _, rfl, rfl, (by show (0 : Int) < 26; decide), letters, (((sn + st * i) % 26 : Nat) : Int), lettB sn st i, rfl, (by show V.int _ = V.int _; rw [ei]), z26, letN_atI (Nat.mod_lt _ (by decide)), ?_⟩
            refine ⟨_, e7, ?_, ?_, ?_⟩
            · rw [List.length_map, List.length_map, List.length_range]
              exact small1000 (by omega)
            · intro b9 o9 hb9
              rw [upd_ne (ne_of_none hb9 hD)]
              exact s7 _ _ hb9
            · rw [upd_same, List.range_succ, List.map_append, List.map_append]
              rfl
          rintro H7 ⟨s7, e7⟩
          rw [show (1 + (mn : Int)).toNat = mn + 1 by omega] at e7
          have hq7 := s7 _ _ hq6
          refine ⟨_, rfl, _, rfl, _, rfl, _, _, rfl, SqL.of hq7, fun t1 ht1 => ?_⟩
          rw [cutV_pre]
          have u1 := Same.upd (o := .lst ((vsT bs).take an)) ht1
          have e1 : (upd H7 t1 (.lst ((vsT bs).take an))) t1 = some (.lst ((vsT bs).take an)) := upd_same
          generalize upd H7 t1 (.lst ((vsT bs).take an)) = H8 at u1 e1 ⊢
          have e8 := u1 _ _ e7
          refine ⟨_, rfl, pD, rfl, ⟨_, SqL.of e8⟩, fun pW hW => lc_list (K := K) (a := pD) (xs := ((List.range (mn + 1)).map (lettB sn st)).map fun c => V.str (txt [c])) (fun i H' => Same H8 H' ∧ H' pW = some (.lst (vsT ((((List.range (mn + 1)).map (lettB sn st)).take i).map fun c => b ++ [c])))) ⟨Same.upd hW, upd_same⟩ (fun i H' _ e => SqL.of (e.1 _ _ e8)) ?_ ?_⟩
          · rintro i x H' hx ⟨s9, e9⟩
            obtain ⟨c, hc, rfl⟩ : ∃ c, ((List.range (mn + 1)).map (lettB sn st))[i]? = some c ∧ x = .str (txt [c]) := by
              rw [List.getElem?_map] at hx
              cases q9 : ((List.range (mn + 1)).map (lettB sn st))[i]? with
              | none => rw [q9] at hx; cases hx
              | some c => rw [q9] at hx; exact ⟨c, rfl, (Option.some.inj hx).symm⟩
            have il : i < mn + 1 := by
              have := (List.getElem?_eq_some_iff.mp hc).1
              rw [List.length_map, List.length_range] at this
              exact this
            refine ⟨rfl, _, rfl, _, rfl, _, _, rfl, rfl, sz_lit (by rw [txt_length, txt_length]; show _ + 1 ≤ 1000; omega), ?_⟩
            rw [txt_app]
            refine ⟨_, e9, ?_, ?_, ?_⟩
            · rw [vsT_len, List.length_map, List.length_take]
              exact small1000 (by omega)
            · intro b9 o9 hb9
              rw [upd_ne (ne_of_none hb9 hW)]
              exact s9 _ _ hb9
            · rw [upd_same, take_more hc, List.map_append]
              unfold vsT
              rw [List.map_append]
              rfl
          rintro H9 ⟨s9, e9⟩
          rw [List.take_of_length_le (by simp)] at e9
          have e1' := s9 _ _ e1
          have lm : ((List.range (mn + 1)).map (lettB sn st)).length = mn + 1 := by rw [List.length_map, List.length_range]
          refine ⟨t1, pW, _, _, rfl, rfl, e1', e9, sz_lit ?_, fun t2 ht2 => ?_⟩
          · rw [vsT_len, List.length_map, lm, List.length_take]
            omega
          have u2 := Same.upd (o := .lst ((vsT bs).take an ++ vsT (((List.range (mn + 1)).map (lettB sn st)).map fun c => b ++ [c]))) ht2
          have hq9 := s9 _ _ (u1 _ _ hq7)
          refine ⟨_, rfl, _, rfl, _, _, rfl, rfl, _, rfl, _, _, rfl, SqL.of (u2 _ _ hq9), fun t3 ht3 => ?_⟩
          rw [show ((an : Int) + 1) = ((an + 1 : Nat) : Int) by omega, cutV_from]
          have u3 := Same.upd (o := .lst ((vsT bs).drop (an + 1))) ht3
          refine ⟨t2, t3, _, _, rfl, rfl, u3 _ _ upd_same, upd_same, sz_lit ?_, fun t4 ht4 => ?_⟩
          · rw [List.length_append, vsT_len, List.length_map, lm, List.length_take, List.length_drop]
            omega
          have u4 := Same.upd (o := .lst ((vsT bs).take an ++ vsT (((List.range (mn + 1)).map (lettB sn st)).map fun c => b ++ [c]) ++ (vsT bs).drop (an + 1))) ht4
          have s69 := (s7.trans u1).trans s9
          have s6x := s69.trans ((u2.trans u3).trans u4)
          have n4t : H6 t4 = none := same_none (s69.trans (u2.trans u3)) ht4
          have n4l : t4 ≠ l := S6.ne n4t
          refine ⟨B06.trans (.of s6x), S6.same s6x, t4, bs.take an ++ ((List.range (mn + 1)).map (lettB sn st)).map (fun c => b ++ [c]) ++ bs.drop (an + 1), _, _, _, _, _, _, _, _, _, _, rfl, B06.none n4t n4l, n4l, ?_, ?_⟩
          · rw [upd_same]
            unfold vsT
            rw [List.map_append, List.map_append, List.map_take, List.map_drop]
          · have split : bs = bs.take an ++ [b] ++ bs.drop (an + 1) := by
              rw [← take_more hb, List.take_append_drop]
            rw [split] at en
            refine en.step (by omega) (lettB_nodup hst (by omega)) (fun c hc => ?_) (by rw [lm]; omega) ?_
            · obtain ⟨j9, _, rfl⟩ := List.mem_map.mp hc
              exact lettB_mem
            · rw [lm, List.length_take, List.length_drop]
              omega
        · exact ⟨B06, S6, q, bs, _, _, _, _, _, _, _, _, _, _, rfl, hq, nq, hq6, en⟩
      · exact ⟨B06, S6, q, bs, _, _, _, _, _, _, _, _, _, _, rfl, hq, nq, hq6, en⟩
    · rintro σ H2 ⟨B2, S2, q, bs, v2, v3, v4, v5, v6, v7, v8, v9, v10, v11, rfl, hq, nq, hq2, en⟩
      refine ⟨fun σ' H' => But l H H' ∧ Src H' l ∧ ∃ (q : Addr) (bs : List (List Nat)) (v2 v3 v4 v5 v6 v7 v8 v9 v10 v11 : Option V), σ' = [some (.ref l), some (.ref q), v2, v3, v4, v5, v6, v7, v8, v9, v10, v11] ∧ H q = none ∧ q ≠ l ∧ H' q = some (.lst (vsT bs)) ∧ BkOk bs, ?_, ?_⟩
      · refine ⟨_, rfl, (by show 1 ≤ sizeLine; decide), fun pE hE => ?_⟩
        have u3 := Same.upd (o := .lst [.str ""]) hE
        have S3 := S2.same u3
        have B3 : But l H (upd H2 pE (.lst [.str ""])) := B2.trans (.of u3)
        refine ⟨_, _, .lst (SqL.of (u3 _ _ hq2)) (dp_vsT bs), .lst (SqL.of upd_same) (dp_vsT [[]]), EnOk.shaped en.all, EnOk.shaped EnOk.start.all, _, rfl, itb (fun e => ?_) fun e => ?_⟩
        · refine ⟨_, rfl, l, 26, rfl, S3, by decide, log_le 26 (by decide), fun r H4 r0 r1 B4 S4 => ?_⟩
          obtain ⟨rn, rfl⟩ := Int.eq_ofNat_of_zero_le r0
          refine ⟨letters, _, letN rn, rfl, rfl, z26, letN_atI (by omega), _, rfl, l, 8, rfl, S4, by decide, log_le 8 (by decide), fun y H5 y0 y1 B5 S5 => ⟨_, _, rfl, rfl, ?_⟩⟩
          refine ⟨[letN rn], _, rfl, rfl, by omega, by omega, (by show 1 ≤ 1000; decide), (by show 1 ≤ sizeLine; decide), fun t ht => ?_⟩
          have u6 := Same.upd (o := .lst [.str (txt (repT [letN rn] (1 + y).toNat))]) ht
          have B6 := ((B3.trans B4).trans B5)
          have ntl : t ≠ l := S5.ne ht
          refine ⟨B6.trans (.of u6), S5.same u6, t, [repT [letN rn] (1 + y).toNat], _, _, _, _, _, _, _, _, _, _, rfl, B6.none ht ntl, ntl, upd_same, List.pairwise_singleton _ _, fun w hw => ?_, Nat.le_refl _, (by decide : 1 ≤ 20)⟩
          have : w = repT [letN rn] (1 + y).toNat := by simpa using hw
          subst this
          refine ⟨fun c hc => ?_, ?_, ?_⟩
          · obtain ⟨l9, hl9, hc9⟩ := List.mem_flatten.mp hc
            have := List.eq_of_mem_replicate hl9
            subst this
            have : c = letN rn := by simpa using hc9
            subst this
            exact letN_mem (by omega)
          · rw [repT_len]
            show 1 ≤ (1 + y).toNat * 1
            omega
          · rw [repT_len]
            show (1 + y).toNat * 1 ≤ 8
            omega
        · refine ⟨B3, S3, q, bs, _, _, _, _, _, _, _, _, _, _, rfl, hq, nq, u3 _ _ hq2, en.book fun z => ?_⟩
          subst z
          rw [eqv_same (EnOk.shaped EnOk.start.all)] at e
          cases e
      rintro σ' H3 ⟨B3, S3, q, bs, v2, v3, v4, v5, v6, v7, v8, v9, v10, v11, rfl, hq, nq, hq3, bk⟩
      have bl := vsT_len bs
      have l1 := bk.l1
      have l20 := bk.l20
      refine ⟨_, rfl, _, rfl, _, _, rfl, .inl (SqL.of hq3), l, _, rfl, S3, by omega, log_le 20 (by omega), fun at_ H4 a0 a1 B4 S4 => ?_⟩
      refine ⟨_, rfl, l, 9, rfl, S4, by decide, log_le 9 (by decide), fun st H5 st0 st1 B5 S5 => ?_⟩
      refine ⟨(by show 0 ≤ sizeLine; decide), fun pF hF => ?_⟩
      have B35 := B4.trans B5
      have hq5 := B35 _ _ hq3 nq
      have u6 := Same.upd (o := .lst []) hF
      have nF : pF ≠ l := S5.ne hF
      have hqF : H pF = none := (B3.trans B35).none hF nF
      have nqF : q ≠ pF := fun z => by
        subst z
        rw [hq5] at hF
        cases hF
      refine while_by (fun σ H' => But l H H' ∧ Src H' l ∧ ∃ (acc es : List (List Nat)) (v2 v4 v5 v7 v8 v10 v11 : Option V), σ = [some (.ref l), some (.ref q), v2, some (.int at_), v4, v5, some (.int st), v7, v8, some (.ref pF), v10, v11] ∧ H' q = some (.lst (vsT es)) ∧ H' pF = some (.lst (vsT acc)) ∧ bs.Perm (acc ++ es))
        (fun _ H' => match H' q with | some (.lst xs) => xs.length | _ => 0)
        ⟨(B3.trans B35).trans (.of u6), S5.same u6, [], bs, _, _, _, _, _, _, _, rfl, u6 _ _ hq5, upd_same, List.Perm.refl _⟩ ?_ ?_
      · rintro σ H6 ⟨B6, S6, acc, es, v2, v4, v5, v7, v8, v10, v11, rfl, hq6, hF6, pm⟩
        have pl := pm.length_eq
        rw [List.length_append] at pl
        have esl := vsT_len es
        have acl := vsT_len acc
        refine ⟨_, rfl, (by show 0 ≤ sizeLine; decide), fun pE hE => ?_⟩
        have u7 := Same.upd (o := .lst []) hE
        have esOk : ∀ w ∈ es, WdOk 0 w := fun w hw => (bk.all w (pm.mem_iff.mpr (List.mem_append_right _ hw))).z
        refine ⟨_, _, .lst (SqL.of (u7 _ _ hq6)) (dp_vsT es), .lst (SqL.of upd_same) .nil, EnOk.shaped esOk, shaped_nil, ?_⟩
        rw [eqv_nil]
        cases es with
        | nil =>
          refine ⟨_, rfl, iteF ⟨_, rfl, ?_⟩⟩
          have B7 := B6.trans (.of u7)
          refine k pF acc _ hqF nF B7 (S6.same u7) (u7 _ _ hF6) (bk.perm ?_)
          rw [List.append_nil] at pm
          exact pm
        | cons e0 es =>
          refine ⟨_, rfl, iteT ?_⟩
          have hq7 := u7 _ _ hq6
          have hF7 := u7 _ _ hF6
          have S7 := S6.same u7
          have B7 := B6.trans (.of u7)
          generalize upd H6 pE (.lst []) = H7 at hq7 hF7 S7 B7 ⊢
          have pos : 0 < ((vsT (e0 :: es)).length : Int) := by
            rw [esl]
            show (0 : Int) < ((es.length + 1 : Nat) : Int)
            omega
          have i0 : 0 ≤ (at_ + st * ((vsT acc).length : Int)) % ((vsT (e0 :: es)).length : Int) := Int.emod_nonneg _ (by omega)
          have i1 : (at_ + st * ((vsT acc).length : Int)) % ((vsT (e0 :: es)).length : Int) < ((vsT (e0 :: es)).length : Int) := Int.emod_lt_of_pos _ pos
          generalize hix : (at_ + st * ((vsT acc).length : Int)) % ((vsT (e0 :: es)).length : Int) = ix at i0 i1
          obtain ⟨n9, rfl⟩ := Int.eq_ofNat_of_zero_le i0
          have n9l : n9 < (e0 :: es).length := by omega
          have n9v : n9 < (vsT (e0 :: es)).length := by omega
          obtain ⟨y, hy⟩ : ∃ y, (vsT (e0 :: es))[n9]? = some y := ⟨_, List.getElem?_eq_getElem n9v⟩
          obtain ⟨wy, hwy, rfl⟩ := vsT_get hy
          have sq : seqIndex? (n9 : Int) (vsT (e0 :: es)).length = some n9 := seqIndex_of i0 i1
          refine ⟨_, rfl, .inl ⟨rfl, _, SqL.of hF7⟩, _, rfl, .inl ⟨rfl, _, SqL.of hq7⟩, _, rfl, _, rfl, _, rfl, _, _, rfl, .inl (SqL.of hF7), _, _, rfl, rfl, .inl ⟨by omega, by omega⟩, _, _, rfl, rfl, _, rfl, _, _, rfl, .inl (SqL.of hq7), _, _, rfl, rfl, pos, ?_⟩
          dsimp only
          rw [hix]
          refine ⟨q, _, _, n9, _, rfl, rfl, hq7, by omega, by omega, sq, hy, pF, _, _, rfl, rfl, (by rw [upd_ne (Ne.symm nqF)]; exact hF7), small1000 (by rw [List.length_cons] at pl; omega), ⟨?_, ?_, acc ++ [wy], (e0 :: es).eraseIdx n9, _, _, _, _, _, _, _, rfl, ?_, ?_, pm.trans (perm_pop hwy acc)⟩, ?_⟩
          · intro b o hb hbl
            rw [upd_ne (ne_of_none hb hqF), upd_ne (ne_of_none hb hq)]
            exact B7 _ _ hb hbl
          · obtain ⟨n8, z8, e8, r8⟩ := S7
            exact ⟨n8, z8, by rw [upd_ne (Ne.symm nF), upd_ne (Ne.symm nq)]; exact e8, r8⟩
          · rw [upd_ne nqF, upd_same]
            unfold vsT
            rw [erase_map]
          · rw [upd_same]
            unfold vsT
            rw [List.map_append]
            rfl
          · have em : (upd (upd H7 q (.lst ((vsT (e0 :: es)).eraseIdx n9))) pF (.lst (vsT acc ++ [V.str (txt wy)]))) q = some (.lst ((vsT (e0 :: es)).eraseIdx n9)) := by
              rw [upd_ne nqF, upd_same]
            show (match (upd (upd H7 q (.lst ((vsT (e0 :: es)).eraseIdx n9))) pF (.lst (vsT acc ++ [V.str (txt wy)]))) q with | some (.lst xs) => xs.length | _ => 0) < (match H6 q with | some (.lst xs) => xs.length | _ => 0)
            rw [em, hq6]
            show ((vsT (e0 :: es)).eraseIdx n9).length < (vsT (e0 :: es)).length
            rw [List.length_eraseIdx, if_pos n9v]
            omega
      · rintro σ H9 Q9 Q9' hq9 ⟨v, e1, z, f⟩
        exact ⟨v, e1, z, fun p hp => by
          obtain ⟨d, e, h1, h2, h3, h4, x, h5, q9⟩ := f p hp
          exact ⟨d, e, h1, h2, h3, h4, x, h5, hq9 _ _ q9⟩⟩
end
end Dear

namespace Dear
open PySem PySem.Spec PyProof.Rows L2
section
variable {P : Program} {w : World} {K : PySem.W.Frag} {mg : Str → Option Value} {base : Heap}
theorem o_is_name (T : Txt K mg) : OkF P w K mg base CX0 1 "is_name" ["thing"] spNm := by
  refine T.f_is_name.ok c_is_name (fun vs H Q E h => ?_) (fun f cdv A outer s H vs Q E hr h => ?_)
  · obtain ⟨v, n, rfl, _⟩ := h
    rfl
  · obtain ⟨v, d, rfl, hI, ok, k⟩ := h
    refine ⟨_, (pss_cons (ps_if (PW.pt (pw_or (pt_not (pt_val (pe_callB (call_isi_k K) (by rfl) T.b_isinstance (by decide +kernel) (pa_cons (pv 0) (pa_cons (pe_bltn (v := .ty "str") (by rfl) T.b_str (by decide +kernel) rfl) pa_nil))))) (pw_or1 (pt_not (pt_chain op_le op_le pe_int (pe_callB call_len_str (by rfl) T.b_len PySem.boot_len (pa_cons (pv 0) pa_nil)) (pe_gi T.g_LONGEST))))))
(pss_one (ps_ret pe_bl))
pss_nil)
(pss_one (ps_ret (pe_callB (cr_all_k K rfl) (by rfl) T.b_all (by decide +kernel) (pa_cons (pe_lc (own := [("sign", 1)]) (g := gName 1) (tt := tYes) (by rfl) c_is_name.nd (pi_str (pv 0)) (blkOk_by (own := [("sign", 1)]) (N := n_is_name) (sc := defScope s_is_name) (by decide +kernel)) (fun _ _ _ _ _ => (pg_name (i := 1) c_is_name.nd rfl (Or.inl rfl))) (fun _ _ _ _ _ => pts_nil) (fun _ _ _ _ _ => (pe_cmpR op_in_sign (pv 1) (pe_gs T.g_LETTERS) rfl))) pa_nil))))), ?_⟩
    refine ⟨_, rfl, _, _, _, _, _, rfl, .ty _, hI.ty, kit_ty (kd_str d), _, rfl, ?_⟩
    cases hI with
    | str z =>
      have hz : z.length ≤ sizeLine := Nat.le_trans ok.1 (by decide)
      refine iteF ⟨_, rfl, _, rfl, hz, _, _, rfl, rfl, _, rfl, itd (fun c1 => ?_) fun c1 => ?_⟩
      · refine ⟨_, _, rfl, rfl, _, rfl, itnd (fun c2 => ?_) fun c2 => ?_⟩
        · have e3 : isNm (.str z) = false := by
            show (decide (1 ≤ z.length ∧ z.length ≤ 8) && _) = false
            rw [decide_eq_false (by omega), Bool.false_and]
          rw [e3] at k
          exact k H (Same.refl H)
        · refine ⟨_, rfl, z, rfl, fun D hD => lc_it walk_str (fun i H' => ∃ bs : List Bool, bs = (z.cps.toList.take i).map (fun c => decide (c ∈ letters.cps.toList)) ∧ H' = upd H D (.lst (bs.map V.bl))) ⟨[], rfl, rfl⟩ (fun _ _ _ _ => trivial) ?_ ?_⟩
          · rintro i x H' H'' hi ⟨bs, eb, rfl⟩ ⟨rfl, c, hc, rfl⟩
            refine ⟨rfl, _, rfl, _, _, rfl, rfl, _, upd_same, ?_, ?_⟩
            · rw [List.length_map, eb, List.length_map, List.length_take]
              exact Nat.lt_of_le_of_lt (Nat.min_le_left _ _) (Nat.lt_of_lt_of_le hi (by show z.length ≤ _; exact hz))
            · refine ⟨bs ++ [decide (c ∈ letters.cps.toList)], ?_, ?_⟩
              · have hc' : z.cps.toList[i]? = some c := by rw [Array.getElem?_toList]; exact hc
                rw [eb, List.take_succ, hc']
                simp
              · rw [upd_upd, List.map_append]
                rfl
          · rintro H' ⟨bs, eb, rfl⟩
            refine ⟨D, bs, rfl, SqL.of upd_same, ?_⟩
            have e3 : isNm (.str z) = bs.all id := by
              show (decide (1 ≤ z.length ∧ z.length ≤ 8) && _) = _
              rw [decide_eq_true (by omega), Bool.true_and, eb]
              have e4 : z.cps.toList.take z.cps.size = z.cps.toList := by rw [← Array.length_toList, List.take_length]
              rw [e4, List.all_map]
              rfl
            rw [e3] at k
            exact k _ (Same.upd hD)
      · have e3 : isNm (.str z) = false := by
          show (decide (1 ≤ z.length ∧ z.length ≤ 8) && _) = false
          rw [decide_eq_false (by omega), Bool.false_and]
        rw [e3] at k
        exact ⟨_, rfl, iteT (k H (Same.refl H))⟩
    | non => exact iteT (k H (Same.refl H))
    | bl _ => exact iteT (k H (Same.refl H))
    | int _ => exact iteT (k H (Same.refl H))
    | lst _ _ => exact iteT (k H (Same.refl H))
    | tup _ _ => exact iteT (k H (Same.refl H))
    | dct _ => exact iteT (k H (Same.refl H))
end
end Dear

namespace Dear
open PySem PySem.Spec PyProof.Rows L2
/-- None of a plain book, else refused -/
def spLookP (C : Addr) : Sp := fun vs H Q E => ∃ (v : V) (d : D), vs = [v] ∧ Dt H v d ∧ Ok d ∧ (plainOk d = true → ∀ H', Same H H' → Q .non H') ∧ (plainOk d = false → ∀ H', Same H H' → E (.ref C) none H')
theorem pfB_true {zs : List Str} (h : ∀ i j, i < zs.length → j < zs.length → i = j ∨ Txt.startswith (zs.getD j "") (zs.getD i "") = false) : pfB zs = true := by
  unfold pfB
  rw [List.all_eq_true]
  intro i hi
  rw [List.all_eq_true]
  intro j hj
  rcases h i j (List.mem_range.mp hi) (List.mem_range.mp hj) with e | e
  · rw [decide_eq_true e]
    rfl
  · rw [e]
    simp
theorem pfB_false {zs : List Str} {i j : Nat} (hi : i < zs.length) (hj : j < zs.length) (hn : i ≠ j) (h : Txt.startswith (zs.getD j "") (zs.getD i "") = true) : pfB zs = false := by
  cases e : pfB zs with
  | false => rfl
  | true =>
    unfold pfB at e
    have e1 := List.all_eq_true.mp e i (List.mem_range.mpr hi)
    have e2 := List.all_eq_true.mp e1 j (List.mem_range.mpr hj)
    rw [decide_eq_false hn, h] at e2
    cases e2
theorem nm_strs : ∀ {ds : List D}, ds.all isNm = true → ∃ zs : List Str, ds = zs.map D.str ∧ ∀ z ∈ zs, isNm (.str z) = true
  | [], _ => ⟨[], rfl, fun _ h => nomatch h⟩
  | d :: ds, h => by
    rw [List.all_cons, Bool.and_eq_true] at h
    obtain ⟨zs, rfl, hz⟩ := nm_strs h.2
    cases d with
    | str z =>
      refine ⟨z :: zs, rfl, fun y hy => ?_⟩
      rcases List.mem_cons.mp hy with rfl | hy
      · exact h.1
      · exact hz y hy
    | _ => cases h.1
theorem strOf_map (zs : List Str) : (zs.map D.str).map strOf = zs := by
  rw [List.map_map]
  show zs.map (fun z => z) = zs
  exact List.map_id' zs
theorem getD_of {zs : List Str} {i : Nat} {z : Str} (h : zs[i]? = some z) : zs.getD i "" = z := by
  rw [List.getD_eq_getElem?_getD, h]
  rfl
theorem strV_get {zs : List Str} {i : Nat} {x : V} (h : (zs.map V.str)[i]? = some x) : ∃ z, zs[i]? = some z ∧ x = .str z := by
  rw [List.getElem?_map] at h
  cases e : zs[i]? with
  | none => rw [e] at h; cases h
  | some z => rw [e] at h; exact ⟨z, rfl, (Option.some.inj h).symm⟩
theorem small2000 {n : Nat} (h : n ≤ 2000) : n < sizeLine := by
  rw [sizeLine_eq]
  omega
section
variable {P : Program} {w : World} {K : PySem.W.Frag} {mg : Str → Option Value} {base : Heap}
theorem o_look_at_plain (T : Txt K mg) : OkF P w K mg base (L2.CX P w) 2 "look_at_plain" ["thing"] (spLookP T.A.NoBook) := by
  have o_is_name := o_is_name (P := P) (w := w) (base := base) T
  refine T.f_look_at_plain.okX c_look_at_plain (fun vs H Q E h => ?_) (fun f cdv A outer s H vs Q E hr h => ?_)
  · obtain ⟨v, d, rfl, _⟩ := h
    rfl
  · obtain ⟨v, d, rfl, hI, ok, k, kE⟩ := h
    refine ⟨_, (pss_cons (ps_if (PW.pt (pw_or (pt_not (pt_val (pe_callB (call_isi_k K) (by rfl) T.b_isinstance (by decide +kernel) (pa_cons (pv 0) (pa_cons (pe_bltn (v := .ty "list") (by rfl) T.b_list (by decide +kernel) rfl) pa_nil))))) (pw_or1 (pt_not (pt_chain op_le op_le pe_int (pe_callB (call_len_seq_k K) (by rfl) T.b_len PySem.boot_len (pa_cons (pv 0) pa_nil)) (pe_gi T.g_MOST_WORDS))))))
(pss_one (ps_raise rfl (takes_of rfl rfl rfl rfl) (pmk_own PySem.F.excBase_ValueError T.X_NoBook.x T.X_NoBook.g T.X_NoBook.k (raises_own T.X_NoBook.b T.X_NoBook.t) rfl)))
pss_nil)
(pss_cons (ps_if (pt_not (pt_val (pe_callB (cr_all_k K rfl) (by rfl) T.b_all (by decide +kernel) (pa_cons (pe_lc (own := [("text", 2)]) (g := gName 2) (tt := tYes) (by rfl) c_look_at_plain.nd (pi_list_k K (pv 0)) (blkOk_by (own := [("text", 2)]) (N := n_look_at_plain) (sc := defScope s_look_at_plain) (by decide +kernel)) (fun _ _ _ _ _ => (pg_name (i := 2) c_look_at_plain.nd rfl (Or.inl rfl))) (fun _ _ _ _ _ => pts_nil) (fun _ _ _ _ _ => (pe_c o_is_name hr (pa_cons (pv 2) pa_nil)))) pa_nil))))
(pss_one (ps_raise rfl (takes_of rfl rfl rfl rfl) (pmk_own PySem.F.excBase_ValueError T.X_NoBook.x T.X_NoBook.g T.X_NoBook.k (raises_own T.X_NoBook.b T.X_NoBook.t) rfl)))
pss_nil)
(pss_one (ps_for (passes_of rfl) rfl (pi_enum (by rfl) T.b_enumerate (pa_cons (pv 0) pa_nil)) (pg_tup_k K (n := 2) rfl (pgs_cons (pg_name (i := 1) c_look_at_plain.nd rfl (Or.inl rfl)) (pgs_cons (pg_name (i := 2) c_look_at_plain.nd rfl (Or.inl rfl)) pgs_nil)))
(pss_one (ps_for (passes_of rfl) rfl (pi_enum (by rfl) T.b_enumerate (pa_cons (pv 0) pa_nil)) (pg_tup_k K (n := 2) rfl (pgs_cons (pg_name (i := 3) c_look_at_plain.nd rfl (Or.inl rfl)) (pgs_cons (pg_name (i := 4) c_look_at_plain.nd rfl (Or.inl rfl)) pgs_nil)))
(pss_one (ps_if (PW.pt (pw_and (pt_cmpR op_ne (pv 1) (pv 3) (nomark _)) (pw_and1 (pt_val (pe_m1 PySem.F.slot_str_startswith PySem.F.type_str_startswith mt_startswith (pv 4) (pv 2))))))
(pss_one (ps_raise rfl (takes_of rfl rfl rfl rfl) (pmk_own PySem.F.excBase_ValueError T.X_NoBook.x T.X_NoBook.g T.X_NoBook.k (raises_own T.X_NoBook.b T.X_NoBook.t) rfl)))
pss_nil)))))))), ?_⟩
    refine ⟨_, rfl, _, _, _, _, _, rfl, .ty _, hI.ty, kit_ty (kd_list d), _, rfl, ?_⟩
    cases hI with
    | lst ha hall =>
      rename_i a xs ds
      have hl := hall.length
      have e0 : plainOk (.lst ds) = (decide (1 ≤ ds.length ∧ ds.length ≤ 20) && ds.all isNm && pfB (ds.map strOf)) := rfl
      rw [e0] at k kE
      have no : ¬ (1 ≤ ds.length ∧ ds.length ≤ 20) → E (.ref T.A.NoBook) none H := fun e => kE (by rw [decide_eq_false e]; rfl) H (Same.refl H)
      refine iteF ⟨_, rfl, _, _, rfl, .inl (SqL.of ha), _, _, rfl, rfl, _, rfl, itd (fun c1 => ?_) fun c1 => ?_⟩
      · refine ⟨_, _, rfl, rfl, _, rfl, itnd (fun c2 => no (by omega)) fun c2 => ?_⟩
        rw [decide_eq_true (show 1 ≤ ds.length ∧ ds.length ≤ 20 by omega), Bool.true_and] at k kE
        refine ⟨_, rfl, a, rfl, ⟨_, SqL.of ha⟩, fun pD hD => lc_list (K := K) (a := a) (xs := xs) (fun i H' => Same H H' ∧ H' pD = some (.lst (((ds.take i).map isNm).map V.bl))) ⟨Same.upd hD, upd_same⟩ (fun i H' _ e => SqL.of (e.1 _ _ ha)) ?_ ?_⟩
        · rintro i x H' hx ⟨s1, e1⟩
          obtain ⟨d1, hd1, hD1⟩ := hall.get hx
          refine ⟨rfl, _, rfl, x, d1, rfl, hD1.same s1, OkAll.mem ok (List.mem_of_getElem? hd1), fun H2 s2 => ⟨_, s2 _ _ e1, ?_, ?_, ?_⟩⟩
          · rw [List.length_map, List.length_map, List.length_take]
            exact small1000 (by omega)
          · intro b o hb
            rw [upd_ne (ne_of_none hb hD)]
            exact s2 _ _ (s1 _ _ hb)
          · rw [upd_same, take_more hd1, List.map_append, List.map_append]
            rfl
        rintro H1 ⟨s1, e1⟩
        rw [hl, List.take_length] at e1
        refine ⟨pD, ds.map isNm, rfl, SqL.of e1, ?_⟩
        have ea : (ds.map isNm).all id = ds.all isNm := by
          rw [List.all_map]
          rfl
        rw [ea]
        cases en : ds.all isNm with
        | false => exact ⟨_, rfl, iteT (kE (by rw [en]; rfl) H1 s1)⟩
        | true =>
          rw [en, Bool.true_and] at k kE
          refine ⟨_, rfl, iteF ?_⟩
          obtain ⟨zs, rfl, hz⟩ := nm_strs en
          rw [strOf_map] at k kE
          have ex := DtAll.strs hall
          subst ex
          rw [List.length_map] at c1 c2
          refine ⟨_, rfl, a, _, rfl, SqL.of (s1 _ _ ha), for_it (walk_enum (xs := zs.map V.str)) (fun i σ H' => Same H H' ∧ (∀ i' j, i' < i → j < zs.length → i' = j ∨ Txt.startswith (zs.getD j "") (zs.getD i' "") = false) ∧ ∃ v1 v2 v3 v4, σ = [some (.ref a), v1, v2, v3, v4])
            ⟨s1, (fun _ _ h => absurd h (Nat.not_lt_zero _)), _, _, _, _, rfl⟩ (fun i σ H' _ h => SqL.of (h.1 _ _ ha)) ?_ ?_⟩
          · rintro i x σ H' H'' hi ⟨s2, hp, v1, v2, v3, v4, rfl⟩ ⟨tp, y1, y2, rfl, htp, rfl, hy1, hy2⟩
            injection hy1 with hy1
            subst hy1
            obtain ⟨zi, hzi, rfl⟩ := strV_get hy2
            rw [List.length_map] at hi
            have s3 := s2.trans (Same.upd (o := .tup [V.int (i : Nat), .str zi]) htp)
            refine ⟨tp, _, rfl, SqT.of upd_same, rfl, _, _, rfl, _, _, rfl, rfl, ?_⟩
            generalize upd H' tp (.tup [V.int (i : Nat), .str zi]) = H3 at s3 ⊢
            refine ⟨_, rfl, a, _, rfl, SqL.of (s3 _ _ ha), for_it (walk_enum (xs := zs.map V.str)) (fun j σ H' => Same H H' ∧ (∀ j', j' < j → i = j' ∨ Txt.startswith (zs.getD j' "") (zs.getD i "") = false) ∧ ∃ v3 v4, σ = [some (.ref a), some (.int (i : Nat)), some (.str zi), v3, v4])
              ⟨s3, (fun _ h => absurd h (Nat.not_lt_zero _)), _, _, rfl⟩ (fun i σ H' _ h => SqL.of (h.1 _ _ ha)) ?_ ?_⟩
            · rintro j x σ H4 H5 hj ⟨s4, hq, v3, v4, rfl⟩ ⟨tp2, y1, y2, rfl, htp2, rfl, hy1, hy2⟩
              injection hy1 with hy1
              subst hy1
              obtain ⟨zj, hzj, rfl⟩ := strV_get hy2
              rw [List.length_map] at hj
              have s5 := s4.trans (Same.upd (o := .tup [V.int (j : Nat), .str zj]) htp2)
              refine ⟨tp2, _, rfl, SqT.of upd_same, rfl, _, _, rfl, _, _, rfl, rfl, ?_⟩
              refine ⟨_, rfl, _, rfl, rfl, _, rfl, itnd (fun cn => ?_) fun cn => ?_⟩
              · have nij : i ≠ j := fun z => cn (by rw [z])
                refine ⟨_, rfl, ⟨_, rfl⟩, _, rfl, zj, zi, rfl, rfl, _, rfl, itb (fun e => ?_) fun e => ?_⟩
                · exact kE (pfB_false hi hj nij (by rw [getD_of hzj, getD_of hzi]; exact e)) _ s5
                · refine ⟨s5, fun j' hj' => ?_, _, _, rfl⟩
                  by_cases e9 : j' = j
                  · subst e9
                    exact .inr (by rw [getD_of hzj, getD_of hzi]; exact e)
                  · exact hq j' (by omega)
              · have cn : i = j := by
                  injection cn with cn
                  omega
                refine ⟨s5, fun j' hj' => ?_, _, _, rfl⟩
                by_cases e9 : j' = j
                · exact .inl (by rw [e9, cn])
                · exact hq j' (by omega)
            · rintro σ H4 ⟨s4, hq, v3, v4, rfl⟩
              rw [List.length_map] at hq
              refine ⟨s4, fun i' j hi' hj => ?_, _, _, _, _, rfl⟩
              by_cases e9 : i' = i
              · subst e9
                exact hq j hj
              · exact hp i' j (by omega) hj
          · rintro σ H' ⟨s2, hp, v1, v2, v3, v4, rfl⟩
            rw [List.length_map] at hp
            exact k (pfB_true fun i j hi hj => hp i j hi hj) H' s2
      · exact ⟨_, rfl, iteT (no (by omega))⟩
    | _ => exact iteT (kE rfl H (Same.refl H))
end
/-! ### rows and what they write -/
def badIx (n : Nat) (i : Nat) : List D → Option V
  | [] => none
  | .int k :: r => if 0 ≤ k ∧ k < n then badIx n (i + 1) r else some (.int (i : Nat))
  | _ :: _ => some (.int (i : Nat))
def rowBad (n : Nat) : D → Option V
  | .lst ds => badIx n 0 ds
  | _ => some .non
def idxD : D → Nat
  | .int k => k.toNat
  | _ => 0
def zsOf : D → List Str
  | .lst ds => ds.map strOf
  | _ => []
def rowT (zs : List Str) : D → Str
  | .lst ds => Txt.join "" (ds.map fun d => zs.getD (idxD d) "")
  | _ => ""
def lenD : D → Nat
  | .lst ds => ds.length
  | _ => 0
def spWrite (CB CT : Addr) : Sp := fun vs H Q E => ∃ (vb v : V) (db d : D), vs = [vb, v] ∧ Dt H vb db ∧ Ok db ∧ Dt H v d ∧ Ok d ∧ lenD d ≤ 2000 ∧ (plainOk db = false → ∀ H', Same H H' → E (.ref CB) none H') ∧
  (plainOk db = true → (rowBad (zsOf db).length d = none → ∀ H', Same H H' → Q (.str (rowT (zsOf db) d)) H') ∧ ∀ u, rowBad (zsOf db).length d = some u → ∀ (dd : Addr) (H' : Hp), Same H H' → H dd = none → H' dd = some (.xd [("place", u)]) → E (.ref CT) (some dd) H')
theorem plain_shape {d : D} (h : plainOk d = true) : ∃ zs : List Str, d = .lst (zs.map D.str) ∧ zsOf d = zs ∧ 1 ≤ zs.length ∧ zs.length ≤ 20 ∧ ∀ z ∈ zs, z.length ≤ 8 := by
  cases d with
  | lst ds =>
    have h : (decide (1 ≤ ds.length ∧ ds.length ≤ 20) && ds.all isNm && pfB (ds.map strOf)) = true := h
    rw [Bool.and_eq_true, Bool.and_eq_true, decide_eq_true_eq] at h
    obtain ⟨zs, rfl, hz⟩ := nm_strs h.1.2
    rw [List.length_map] at h
    refine ⟨zs, rfl, strOf_map zs, h.1.1.1, h.1.1.2, fun z hz' => ?_⟩
    have hn : (decide (1 ≤ z.length ∧ z.length ≤ 8) && z.cps.toList.all fun c => decide (c ∈ letters.cps.toList)) = true := hz z hz'
    rw [Bool.and_eq_true, decide_eq_true_eq] at hn
    exact hn.1.2
  | _ => cases h
theorem sum_le {ys : List Str} {n : Nat} (h : ∀ y ∈ ys, y.length ≤ n) : (ys.map (·.length)).sum ≤ ys.length * n := by
  induction ys with
  | nil => simp
  | cons a r ih =>
    rw [List.map_cons, List.sum_cons, List.length_cons, Nat.succ_mul]
    have h1 := h a List.mem_cons_self
    have h2 := ih fun y hy => h y (List.mem_cons_of_mem _ hy)
    omega
theorem mem_getD {zs : List Str} {i n : Nat} (h : ∀ z ∈ zs, z.length ≤ n) : (zs.getD i "").length ≤ n := by
  rw [List.getD_eq_getElem?_getD]
  cases e : zs[i]? with
  | none => exact Nat.zero_le _
  | some z => exact h z (List.mem_of_getElem? e)
/-- all of a row are numbers below n -/
theorem badIx_none {n : Nat} : ∀ {ds : List D} {i : Nat}, badIx n i ds = none → ∀ d ∈ ds, ∃ k : Nat, d = .int (k : Nat) ∧ k < n
  | [], _, _ => fun _ h => nomatch h
  | .int k :: r, i, h => by
    have h : (if 0 ≤ k ∧ k < n then badIx n (i + 1) r else some (.int (i : Nat))) = none := h
    intro d hd
    split at h
    · rename_i hk
      rcases List.mem_cons.mp hd with rfl | hd
      · obtain ⟨m, rfl⟩ := Int.eq_ofNat_of_zero_le hk.1
        exact ⟨m, rfl, by omega⟩
      · exact badIx_none h d hd
    · cases h
  | .non :: _, _, h => by cases h
  | .bl _ :: _, _, h => by cases h
  | .str _ :: _, _, h => by cases h
  | .lst _ :: _, _, h => by cases h
  | .tup _ :: _, _, h => by cases h
  | .dct :: _, _, h => by cases h
section
variable {P : Program} {w : World} {K : PySem.W.Frag} {mg : Str → Option Value} {base : Heap}
end
end Dear

namespace Dear
open PySem PySem.Spec PyProof.Rows L2
/-! ### rows of numbers -/
def rowV (ns : List Nat) : List V := ns.map fun k => V.int (k : Nat)
def rowD (ns : List Nat) : D := .lst (ns.map fun k => D.int (k : Nat))
theorem dt_row {H : Hp} : ∀ ns : List Nat, DtAll H (rowV ns) (ns.map fun k => D.int (k : Nat))
  | [] => .nil
  | _ :: ns => .cons (.int _) (dt_row ns)
theorem ok_row {ns : List Nat} (h : ∀ k ∈ ns, k < 20) : OkAll (ns.map fun k => D.int (k : Nat)) := by
  induction ns with
  | nil => trivial
  | cons k r ih => exact ⟨lt300 (Nat.lt_of_lt_of_le (show ((k : Nat) : Int).natAbs < 2 ^ 20 by have := h k List.mem_cons_self; omega) (by decide)), ih fun x hx => h x (List.mem_cons_of_mem _ hx)⟩
theorem pu_row : ∀ ns : List Nat, PuAll (ns.map fun k => D.int (k : Nat))
  | [] => trivial
  | _ :: ns => ⟨trivial, pu_row ns⟩
theorem rowV_len (ns : List Nat) : (rowV ns).length = ns.length := List.length_map ..
/-- the text that a row writes -/
def wrote (bs : List (List Nat)) (ns : List Nat) : Str := Txt.join "" (ns.map fun k => (bs.map txt).getD k "")
theorem wrote_is (bs : List (List Nat)) (ns : List Nat) : rowT (zsOf (bkD bs)) (rowD ns) = wrote bs ns := by
  have e : zsOf (bkD bs) = bs.map txt := by
    show (bs.map fun w => D.str (txt w)).map strOf = _
    rw [List.map_map]
    rfl
  rw [e]
  show Txt.join "" ((ns.map fun k => D.int (k : Nat)).map fun d => (bs.map txt).getD (idxD d) "") = _
  rw [List.map_map]
  rfl
theorem row_good {n : Nat} : ∀ {ns : List Nat} {i : Nat}, (∀ k ∈ ns, k < n) → badIx n i (ns.map fun k => D.int (k : Nat)) = none
  | [], _, _ => rfl
  | k :: r, i, h => by
    have hk := h k List.mem_cons_self
    show (if 0 ≤ (k : Int) ∧ (k : Int) < n then badIx n (i + 1) (r.map fun k => D.int (k : Nat)) else some (.int (i : Nat))) = none
    rw [if_pos ⟨by omega, by omega⟩]
    exact row_good fun x hx => h x (List.mem_cons_of_mem _ hx)
def abRow (n : Nat) : List Nat := (List.replicate n [0, 1]).flatten
theorem ab_vals (n : Nat) : (List.replicate n [V.int 0, V.int 1]).flatten = rowV (abRow n) := by
  unfold abRow rowV
  rw [List.map_flatten, List.map_replicate]
  rfl
theorem ab_lt (n : Nat) : ∀ k ∈ abRow n, k < 2 := fun k hk => by
  unfold abRow at hk
  obtain ⟨l, hl, hk⟩ := List.mem_flatten.mp hk
  have := List.eq_of_mem_replicate hl
  subst this
  simp only [List.mem_cons, List.not_mem_nil, or_false] at hk
  omega
theorem ab_len (n : Nat) : (abRow n).length = n * 2 := by
  unfold abRow
  simp
theorem ab_wrote (n : Nat) : wrote [[97], [98]] (abRow n) = txt (repT [97, 98] n) := by
  rw [txt_of (wrote [[97], [98]] (abRow n))]
  congr 1
  unfold wrote
  rw [join_tl]
  induction n with
  | zero => rfl
  | succ n ih =>
    have e1 : abRow (n + 1) = [0, 1] ++ abRow n := by
      unfold abRow
      rw [List.replicate_succ, List.flatten_cons]
    have e2 : repT [97, 98] (n + 1) = [97, 98] ++ repT [97, 98] n := by
      unfold repT
      rw [List.replicate_succ, List.flatten_cons]
    rw [e1, e2, ← ih, List.map_append, List.map_append, List.flatten_append]
    rfl
theorem ab_ok : BkOk [[97], [98]] := by
  refine ⟨?_, ?_, by decide, by decide⟩
  · refine List.Pairwise.cons ?_ (List.pairwise_singleton _ _)
    intro b hb
    have : b = [98] := by simpa using hb
    subst this
    exact ⟨by decide, by decide⟩
  · intro w hw
    simp only [List.mem_cons, List.not_mem_nil, or_false] at hw
    rcases hw with rfl | rfl
    · exact ⟨by decide +kernel, by decide, by decide⟩
    · exact ⟨by decide +kernel, by decide, by decide⟩
theorem dt_bk {H : Hp} {b : Addr} {bs : List (List Nat)} (h : H b = some (.lst (vsT bs))) : Dt H (.ref b) (bkD bs) := .lst h (dt_vsT bs)
theorem dt_rw {H : Hp} {b : Addr} {ns : List Nat} (h : H b = some (.lst (rowV ns))) : Dt H (.ref b) (rowD ns) := .lst h (dt_row ns)
theorem ok_rowD {ns : List Nat} (h : ∀ k ∈ ns, k < 20) : Ok (rowD ns) := ok_row h
/-- write_row of a plain book and a row of its numbers -/
theorem write_good {C1 C2 : Addr} {H : Hp} {Q : VK} {E : XK} {b r : Addr} {bs : List (List Nat)} {ns : List Nat} (hb : H b = some (.lst (vsT bs))) (bk : BkOk bs) (hr : H r = some (.lst (rowV ns))) (hn : ∀ k ∈ ns, k < bs.length) (hl : ns.length ≤ 2000)
    (k : ∀ H', Same H H' → Q (.str (wrote bs ns)) H') : spWrite C1 C2 [.ref b, .ref r] H Q E := by
  have pl := bk.plain
  have zl : (zsOf (bkD bs)).length = bs.length := by
    show ((bs.map fun w => D.str (txt w)).map strOf).length = _
    rw [List.length_map, List.length_map]
  have l20 := bk.l20
  have gd : rowBad (zsOf (bkD bs)).length (rowD ns) = none := by
    rw [zl]
    exact row_good hn
  refine ⟨.ref b, .ref r, bkD bs, rowD ns, rfl, dt_bk hb, bk.ok.1, dt_rw hr, ok_rowD fun x hx => by have := hn x hx; omega, ?_, fun e => (by rw [pl] at e; cases e), fun _ => ⟨fun _ H' s => ?_, fun u hu => (by rw [gd] at hu; cases hu)⟩⟩
  · show (ns.map fun k => D.int (k : Nat)).length ≤ 2000
    rw [List.length_map]
    exact hl
  · rw [wrote_is]
    exact k H' s
theorem row_facts {ns : List Nat} (h : ∀ k ∈ ns, k < 20) : Ok (rowD ns) ∧ NoD (rowD ns) ∧ dep (rowD ns) ≤ 1 := by
  refine ⟨ok_row h, ?_, ?_⟩
  · refine noAll_of fun d hd => ?_
    obtain ⟨w, hw, rfl⟩ := List.mem_map.mp hd
    trivial
  · have := depAll_le (ds := ns.map fun k => D.int (k : Nat)) (n := 0) fun d hd => by
      obtain ⟨w, hw, rfl⟩ := List.mem_map.mp hd
      exact Nat.le_refl _
    show depAll (ns.map fun k => D.int (k : Nat)) + 1 ≤ 1
    omega
theorem bk_dep (bs : List (List Nat)) : dep (bkD bs) ≤ 1 := by
  have := depAll_le (ds := bs.map fun w => D.str (txt w)) (n := 0) fun d hd => by
    obtain ⟨w, hw, rfl⟩ := List.mem_map.mp hd
    exact Nat.le_refl _
  show depAll (bs.map fun w => D.str (txt w)) + 1 ≤ 1
  omega
theorem vsT_at {bs : List (List Nat)} {k : Nat} (h : k < bs.length) : ∃ z, (vsT bs)[k]? = some (.str z) ∧ (bs.map txt).getD k "" = z ∧ z.length ≤ (bs[k]).length := by
  refine ⟨txt bs[k], ?_, ?_, ?_⟩
  · unfold vsT
    rw [List.getElem?_map, List.getElem?_eq_getElem h]
    rfl
  · rw [List.getD_eq_getElem?_getD, List.getElem?_map, List.getElem?_eq_getElem h]
    rfl
  · rw [txt_length]
    exact Nat.le_refl _
theorem wrote_size {bs : List (List Nat)} (bk : BkOk bs) {ns : List Nat} (hl : ns.length ≤ 2000) : ((ns.map fun k => (bs.map txt).getD k "").map (·.length)).sum + (ns.map fun k => (bs.map txt).getD k "").length * ("" : Str).length ≤ 16777216 := by
  have e0 : ("" : Str).length = 0 := by decide +kernel
  have := sum_le (ys := ns.map fun k => (bs.map txt).getD k "") (n := 8) fun y hy => by
    obtain ⟨d, _, rfl⟩ := List.mem_map.mp hy
    refine mem_getD fun z hz => ?_
    obtain ⟨w, hw, rfl⟩ := List.mem_map.mp hz
    rw [txt_length]
    exact (bk.all w hw).hi
  rw [List.length_map] at this
  rw [e0, List.length_map]
  omega
/-! ### what a row spells -/
theorem wrote_txt (bs : List (List Nat)) (ns : List Nat) : wrote bs ns = txt (spell bs ns) := by
  rw [txt_of (wrote bs ns)]
  congr 1
  unfold wrote spell
  rw [join_tl, List.map_map]
  congr 1
  refine List.map_congr_left fun k _ => ?_
  show ((bs.map txt).getD k "").cps.toList = bs.getD k []
  rw [List.getD_eq_getElem?_getD, List.getD_eq_getElem?_getD, List.getElem?_map]
  cases bs[k]? with
  | none => exact (by decide +kernel : ("" : Str).cps.toList = [])
  | some w => exact txt_list w
theorem spell_len {bs : List (List Nat)} (bk : BkOk bs) : ∀ ns : List Nat, (spell bs ns).length ≤ 8 * ns.length
  | [] => Nat.zero_le _
  | k :: r => by
    have ih := spell_len bk r
    have e : spell bs (k :: r) = bs.getD k [] ++ spell bs r := rfl
    have h8 : (bs.getD k []).length ≤ 8 := by
      rw [List.getD_eq_getElem?_getD]
      cases q : bs[k]? with
      | none => exact Nat.zero_le _
      | some w => exact (bk.all w (List.mem_of_getElem? q)).hi
    rw [e, List.length_append, List.length_cons]
    omega
theorem spell_app (bs : List (List Nat)) (a b : List Nat) : spell bs (a ++ b) = spell bs a ++ spell bs b := by
  unfold spell
  rw [List.map_append, List.flatten_append]
theorem spell_asc {bs : List (List Nat)} (bk : BkOk bs) (ns : List Nat) : Asc (txt (spell bs ns)) := fun c hc => by
  rw [txt_list] at hc
  unfold spell at hc
  obtain ⟨w, hw, hc⟩ := List.mem_flatten.mp hc
  obtain ⟨k, _, rfl⟩ := List.mem_map.mp hw
  rw [List.getD_eq_getElem?_getD] at hc
  cases q : bs[k]? with
  | none =>
    rw [q] at hc
    exact absurd hc (by simp)
  | some w =>
    rw [q] at hc
    exact in_letters_asc ((bk.all w (List.mem_of_getElem? q)).l c hc)
theorem spell_one {bs : List (List Nat)} {k : Nat} {w : List Nat} (h : bs[k]? = some w) : spell bs [k] = w := by
  unfold spell
  rw [List.map_cons, List.map_nil, List.flatten_cons, List.flatten_nil, List.append_nil, List.getD_eq_getElem?_getD, h]
  rfl
theorem row_short {bs : List (List Nat)} (bk : BkOk bs) : ∀ {ns : List Nat}, (∀ k ∈ ns, k < bs.length) → ns.length ≤ (spell bs ns).length
  | [], _ => Nat.zero_le _
  | k :: r, h => by
    have ih := row_short bk fun x hx => h x (List.mem_cons_of_mem _ hx)
    have hk := h k List.mem_cons_self
    have e : spell bs (k :: r) = bs.getD k [] ++ spell bs r := rfl
    have h1 : 1 ≤ (bs.getD k []).length := by
      rw [List.getD_eq_getElem?_getD, List.getElem?_eq_getElem hk]
      exact (bk.all _ (List.getElem_mem hk)).lo
    rw [e, List.length_append, List.length_cons]
    omega
end Dear

namespace Dear
open PySem PySem.Spec PyProof.Rows L2
/-! ### a plain book is one -/
theorem pf_back {bs : List (List Nat)} (h : pfB (bs.map txt) = true) : PF bs := by
  unfold pfB at h
  rw [List.length_map] at h
  have key : ∀ (i j : Nat) (hi : i < bs.length) (hj : j < bs.length), i ≠ j → ¬ bs[i] <+: bs[j] := fun i j hi hj hn hp => by
    have h1 := List.all_eq_true.mp (List.all_eq_true.mp h i (List.mem_range.mpr hi)) j (List.mem_range.mpr hj)
    rw [decide_eq_false hn, Bool.false_or, getD_of (z := txt bs[j]) (by rw [List.getElem?_map, List.getElem?_eq_getElem hj]; rfl), getD_of (z := txt bs[i]) (by rw [List.getElem?_map, List.getElem?_eq_getElem hi]; rfl), starts_txt, decide_eq_true hp] at h1
    cases h1
  exact List.pairwise_iff_getElem.mpr fun i j hi hj lt => ⟨key i j hi hj (by omega), key j i hj hi (by omega)⟩
theorem plain_bk {d : D} (h : plainOk d = true) : ∃ bs, d = bkD bs ∧ BkOk bs := by
  cases d with
  | lst ds =>
    have h : (decide (1 ≤ ds.length ∧ ds.length ≤ 20) && ds.all isNm && pfB (ds.map strOf)) = true := h
    rw [Bool.and_eq_true, Bool.and_eq_true, decide_eq_true_eq] at h
    obtain ⟨⟨hl, hn⟩, hp⟩ := h
    obtain ⟨zs, rfl, hz⟩ := nm_strs hn
    rw [strOf_map] at hp
    rw [List.length_map] at hl
    have e : (zs.map fun z => z.cps.toList).map txt = zs := by
      rw [List.map_map]
      conv => rhs; rw [← List.map_id' zs]
      exact List.map_congr_left fun z _ => (txt_of z).symm
    refine ⟨zs.map fun z => z.cps.toList, ?_, pf_back (by rw [e]; exact hp), ?_, by rw [List.length_map]; exact hl.1, by rw [List.length_map]; exact hl.2⟩
    · show D.lst (zs.map D.str) = .lst ((zs.map fun z => z.cps.toList).map fun w => D.str (txt w))
      rw [List.map_map]
      exact congrArg D.lst (List.map_congr_left fun z _ => congrArg D.str (txt_of z))
    · intro w hw
      obtain ⟨z, hm, rfl⟩ := List.mem_map.mp hw
      exact nm_back (hz z hm)
  | _ => cases h
/-! ### a reader's object -/
theorem sn_ws : ¬ (("since" : Str) = "words") := by decide +kernel
theorem tk_ws : ¬ (("taken" : Str) = "words") := by decide +kernel
theorem tk_sn : ¬ (("taken" : Str) = "since") := by decide +kernel
theorem ws_sn : ¬ (("words" : Str) = "since") := by decide +kernel
theorem ws_tk : ¬ (("words" : Str) = "taken") := by decide +kernel
theorem sn_tk : ¬ (("since" : Str) = "taken") := by decide +kernel
def rdF (l : Addr) (z : Str) (n : Nat) : List (Str × V) := [("words", .ref l), ("since", .str z), ("taken", .int (n : Nat))]
theorem rdF_new (l : Addr) (z : Str) (n : Nat) : putF "taken" (.int (n : Nat)) (putF "since" (.str z) (putF "words" (.ref l) [])) = rdF l z n := by
  show (putF "taken" (V.int (n : Nat)) (if ("words" : Str) = "since" then _ else (("words" : Str), V.ref l) :: putF "since" (V.str z) [])) = _
  rw [if_neg ws_sn]
  show (if ("words" : Str) = "taken" then _ else (("words" : Str), V.ref l) :: (if ("since" : Str) = "taken" then _ else (("since" : Str), V.str z) :: putF "taken" (V.int (n : Nat)) [])) = _
  rw [if_neg ws_tk, if_neg sn_tk]
  rfl
theorem rdF_ws (l : Addr) (z : Str) (n : Nat) : (rdF l z n).lookup ("words" : Str) = some (.ref l) := by
  rw [← rdF_new, lookup_putF, if_neg ws_tk, lookup_putF, if_neg ws_sn, lookup_putF, if_pos rfl]
theorem rdF_sn (l : Addr) (z : Str) (n : Nat) : (rdF l z n).lookup ("since" : Str) = some (.str z) := by
  rw [← rdF_new, lookup_putF, if_neg sn_tk, lookup_putF, if_pos rfl]
theorem rdF_tk (l : Addr) (z : Str) (n : Nat) : (rdF l z n).lookup ("taken" : Str) = some (.int (n : Nat)) := by
  rw [← rdF_new, lookup_putF, if_pos rfl]
theorem rdF_no (l : Addr) (z : Str) (n : Nat) {m : Str} (h1 : ¬ m = "taken" := by decide +kernel) (h2 : ¬ m = "since" := by decide +kernel) (h3 : ¬ m = "words" := by decide +kernel) : (rdF l z n).lookup m = none := by
  rw [← rdF_new, lookup_putF, if_neg h1, lookup_putF, if_neg h2, lookup_putF, if_neg h3]
  rfl
theorem rdF_putS (l : Addr) (z y : Str) (n : Nat) : putF "since" (.str y) (rdF l z n) = rdF l y n := by
  show (if ("words" : Str) = "since" then _ else (("words" : Str), V.ref l) :: (if ("since" : Str) = "since" then _ else _)) = _
  rw [if_neg ws_sn, if_pos rfl]
  rfl
theorem rdF_putT (l : Addr) (z : Str) (n : Nat) (m : Nat) : putF "taken" (.int (m : Nat)) (rdF l z n) = rdF l z m := by
  show (if ("words" : Str) = "taken" then _ else (("words" : Str), V.ref l) :: (if ("since" : Str) = "taken" then _ else (("since" : Str), V.str z) :: (if ("taken" : Str) = "taken" then _ else _))) = _
  rw [if_neg ws_tk, if_neg sn_tk, if_pos rfl]
  rfl
/-- a reader of the book bs stands at p: s since the last word, n signs taken -/
structure RdAt (C : Addr) (H : Hp) (p l : Addr) (bs : List (List Nat)) (s : List Nat) (n : Nat) : Prop where
  ob : ∃ dx, H p = some (.ins C dx (rdF l (txt s) n))
  ws : H l = some (.lst (vsT bs))
  mid : Mid bs s
theorem RdAt.same {C : Addr} {H H' : Hp} {p l : Addr} {bs : List (List Nat)} {s : List Nat} {n : Nat} (R : RdAt C H p l bs s n) (e : Same H H') : RdAt C H' p l bs s n := by
  obtain ⟨⟨dx, h⟩, w, m⟩ := R
  exact ⟨⟨dx, e _ _ h⟩, e _ _ w, m⟩
theorem RdAt.ne {C : Addr} {H : Hp} {p l : Addr} {bs : List (List Nat)} {s : List Nat} {n : Nat} (R : RdAt C H p l bs s n) : p ≠ l := by
  obtain ⟨⟨dx, h⟩, w, m⟩ := R
  exact ne_of h w (by intro z; cases z)
def numV : Option Nat → V
  | none => .non
  | some k => .int (k : Nat)
/-- all but p stays -/
abbrev Bar (p : Addr) (H H' : Hp) : Prop := ∀ b o, H b = some o → b ≠ p → H' b = some o
def signOf : D → Option Nat
  | .str z => match z.cps.toList with
    | [c] => some c
    | _ => none
  | _ => none
def putR (bs : List (List Nat)) (s : List Nat) (d : D) : Option (List Nat × Option Nat) := (signOf d).bind (stepR bs s)
def spRdI (C B : Addr) : Sp := fun vs H Q E => ∃ (p dx : Addr) (v : V) (d : D), vs = [.ref p, v] ∧ H p = some (.ins C dx []) ∧ Dt H v d ∧ Ok d ∧
  (∀ bs, d = bkD bs → BkOk bs → ∀ (l : Addr) (H' : Hp), H l = none → RdAt C H' p l bs [] 0 → Bar p H H' → Q .non H') ∧ (plainOk d = false → ∀ H', Same H H' → E (.ref B) none H')
def spAmid (C : Addr) : Sp := fun vs H Q _ => ∃ (p l : Addr) (bs : List (List Nat)) (s : List Nat) (n : Nat), vs = [.ref p] ∧ RdAt C H p l bs s n ∧ Q (.str (txt s)) H
def spNextS (C : Addr) : Sp := fun vs H Q _ => ∃ (p l : Addr) (bs : List (List Nat)) (s : List Nat) (n : Nat), vs = [.ref p] ∧ RdAt C H p l bs s n ∧ BkOk bs ∧
  ∀ (ys : List Str) (q : Addr) (H' : Hp), H q = none → Same H H' → H' q = some (.lst (ys.map V.str)) → (∀ z, z ∈ ys ↔ ∃ c, z = txt [c] ∧ goes bs (s ++ [c]) = true) → sortedS ys = true → ys.Nodup → ys.length ≤ 20 → Q (.ref q) H'
def spPut (C B : Addr) : Sp := fun vs H Q E => ∃ (p l : Addr) (bs : List (List Nat)) (s : List Nat) (n : Nat) (v : V) (d : D), vs = [.ref p, v] ∧ RdAt C H p l bs s n ∧ BkOk bs ∧ n ≤ 1000000 ∧ Dt H v d ∧ Ok d ∧
  (∀ x, putR bs s d = some x → ∀ H', RdAt C H' p l bs x.1 (n + 1) → Bar p H H' → Q (numV x.2) H') ∧
  (putR bs s d = none → ∀ (dd : Addr) (H' : Hp), Same H H' → H dd = none → H' dd = some (.xd [("place", .int (n : Nat))]) → E (.ref B) (some dd) H')
/-! ### the signs that can come next -/
def nextL (bs : List (List Nat)) (s : List Nat) : List Str := (bs.filter fun w => decide (s <+: w)).map fun w => txt [w.getD s.length 0]
theorem mid_split {bs : List (List Nat)} {s w : List Nat} (m : Mid bs s) (hw : w ∈ bs) (hp : s <+: w) : ∃ c r, w = s ++ c :: r := by
  obtain ⟨t, rfl⟩ := hp
  cases t with
  | nil => exact absurd (by rw [List.append_nil] at hw; exact hw) m.no
  | cons c r => exact ⟨c, r, rfl⟩
theorem getD_mid (s : List Nat) (c : Nat) (r : List Nat) : (s ++ c :: r).getD s.length 0 = c := by
  rw [List.getD_eq_getElem?_getD, List.getElem?_append_right (Nat.le_refl _), Nat.sub_self]
  rfl
theorem next_le (bs : List (List Nat)) (s : List Nat) : (nextL bs s).length ≤ bs.length := by
  unfold nextL
  rw [List.length_map]
  exact List.length_filter_le _ _
theorem next_yes {bs : List (List Nat)} {s w : List Nat} (h : s <+: w) : nextL (bs ++ [w]) s = nextL bs s ++ [txt [w.getD s.length 0]] := by
  unfold nextL
  rw [List.filter_append, List.filter_cons_of_pos (p := fun w => decide (s <+: w)) (decide_eq_true h), List.map_append]
  rfl
theorem next_not {bs : List (List Nat)} {s w : List Nat} (h : ¬ s <+: w) : nextL (bs ++ [w]) s = nextL bs s := by
  unfold nextL
  rw [List.filter_append, List.filter_cons_of_neg (p := fun w => decide (s <+: w)) (by rw [decide_eq_false h]; decide), List.filter_nil, List.append_nil]
theorem next_mem {bs : List (List Nat)} {s : List Nat} (m : Mid bs s) (z : Str) : z ∈ nextL bs s ↔ ∃ c, z = txt [c] ∧ goes bs (s ++ [c]) = true := by
  unfold nextL
  rw [List.mem_map]
  constructor
  · rintro ⟨w, hw, rfl⟩
    obtain ⟨hw, hp⟩ := List.mem_filter.mp hw
    obtain ⟨c, r, rfl⟩ := mid_split m hw (of_decide_eq_true hp)
    exact ⟨c, by rw [getD_mid], goes_iff.mpr ⟨_, hw, ⟨r, by rw [List.append_assoc]; rfl⟩⟩⟩
  · rintro ⟨c, rfl, g⟩
    obtain ⟨w, hw, r, rfl⟩ := goes_iff.mp g
    have e : s ++ [c] ++ r = s ++ c :: r := by rw [List.append_assoc]; rfl
    refine ⟨_, List.mem_filter.mpr ⟨hw, decide_eq_true ⟨c :: r, e.symm⟩⟩, ?_⟩
    rw [e, getD_mid]
theorem sign_one {z : Str} (h : z.length = 1) : ∃ c, z = txt [c] := by
  have e : z.cps.toList.length = 1 := by rw [Array.length_toList]; exact h
  obtain ⟨c, hc⟩ := List.length_eq_one_iff.mp e
  exact ⟨c, by rw [txt_of z, hc]⟩
theorem sign_none {z : Str} (h : ¬ z.length = 1) : signOf (.str z) = none := by
  have e : ¬ z.cps.toList.length = 1 := by rw [Array.length_toList]; exact h
  show (match z.cps.toList with | [c] => some c | _ => none) = none
  cases q : z.cps.toList with
  | nil => rfl
  | cons a r =>
    cases r with
    | nil => rw [q] at e; exact absurd rfl e
    | cons b t => rfl
theorem vsT_map (bs : List (List Nat)) : vsT bs = (bs.map txt).map V.str := by
  rw [List.map_map]
  rfl
def readR (bs : List (List Nat)) : D → Sum Nat (List Nat)
  | .str z => readL bs z.cps.toList
  | _ => .inl 0
def spRead (B S : Addr) : Sp := fun vs H Q E => ∃ (vb vt : V) (db dt : D), vs = [vb, vt] ∧ Dt H vb db ∧ Ok db ∧ Dt H vt dt ∧ Ok dt ∧ (plainOk db = false → ∀ H', Same H H' → E (.ref B) none H') ∧
  ∀ bs, db = bkD bs → BkOk bs → (∀ row, readR bs dt = .inr row → ∀ (q : Addr) (H' : Hp), H q = none → Same H H' → H' q = some (.lst (rowV row)) → Q (.ref q) H') ∧
    ∀ i, readR bs dt = .inl i → ∀ (dd : Addr) (H' : Hp), Same H H' → H dd = none → H' dd = some (.xd [("place", .int (i : Nat))]) → E (.ref S) (some dd) H'
/-- the number of a word -/
theorem index_bk {K : PySem.W.Frag} {H : Hp} {Q : VK} {l : Addr} {bs : List (List Nat)} (bk : BkOk bs) {w : List Nat} (hm : w ∈ bs) (hl : H l = some (.lst (vsT bs))) (q : Q (.int (bs.idxOf w : Nat)) H) : rIndex K (.ref l) [.str (txt w)] H Q := by
  obtain ⟨i, hi⟩ := List.getElem?_of_mem hm
  have ei := idx_word bk hi
  refine ⟨l, (bs.map txt).map V.str, .str (txt w), bs.idxOf w, .str (txt w), rfl, rfl, SqL.of (by rw [← vsT_map]; exact hl), rfl, flat_str _, ?_, ?_, ?_, q⟩
  · rw [List.getElem?_map, List.getElem?_map, ei, hi]
    rfl
  · exact beq_self_eq_true (txt w)
  · intro m z' lt hz'
    rw [List.getElem?_map, List.getElem?_map] at hz'
    cases em : bs[m]? with
    | none =>
      rw [em] at hz'
      cases hz'
    | some y =>
      rw [em] at hz'
      injection hz' with hz'
      subst hz'
      refine beq_eq_false_iff_ne.mpr fun e => ?_
      have e := txt_inj e
      have := idx_word bk em
      rw [e] at this
      omega
theorem mem_txt {bs : List (List Nat)} {w : List Nat} : txt w ∈ bs.map txt ↔ w ∈ bs := by
  constructor
  · intro h
    obtain ⟨y, hy, e⟩ := List.mem_map.mp h
    rw [← txt_inj e]
    exact hy
  · exact fun h => List.mem_map.mpr ⟨_, h, rfl⟩
section
variable {P : Program} {w : World} {K : PySem.W.Frag} {mg : Str → Option Value} {base : Heap}
theorem o_Reader (T : Txt K mg) : OkC P w K mg base (L2.CX P w) 3 "Reader" T.A.Reader ["self", "book"] (spRdI T.A.Reader T.A.NoBook) := by
  have o_look_at_plain := o_look_at_plain (P := P) (w := w) (base := base) T
  refine T.I_Reader.okX c_Reader___init__ (fun vs H Q E h => ?_) (fun f cdv A outer s H vs Q E hr h => ?_)
  · obtain ⟨p, dx, v, d, rfl, _⟩ := h
    rfl
  · obtain ⟨p, dx, v, d, rfl, hp, hD, ok, k, kE⟩ := h
    refine ⟨_, (pss_cons (ps_expr (pe_cx o_look_at_plain hr (takes_of rfl rfl rfl rfl) (pa_cons (pv 1) pa_nil)))
(pss_cons (ps_fld (pv 0) (pe_callTy (call_list_of_k K) (by rfl) T.b_list (by decide +kernel) (pa_cons (pv 1) pa_nil)) rfl)
(pss_cons (ps_fld (pv 0) pe_str rfl)
(pss_one (ps_fld (pv 0) pe_int rfl))))), ?_⟩
    refine ⟨_, rfl, v, d, rfl, hD, ok, fun e H1 s1 => ?_, fun e H1 s1 => kE e H1 s1⟩
    obtain ⟨bs, rfl, bk⟩ := plain_bk e
    have hD1 := hD.same s1
    cases hD1 with
    | lst ha hall =>
      rename_i a xs
      have ex := vsT_of hall
      subst ex
      refine ⟨_, rfl, a, _, rfl, .inl (SqL.of ha), fun l hl => ?_⟩
      have hp1 := s1 _ _ hp
      have npl : p ≠ l := ne_of_none hp1 hl
      refine ⟨_, rfl, p, _, dx, [], rfl, (by rw [upd_ne npl]; exact hp1), T.K_Reader, T.N_Reader_words, (by show 0 < 1000; decide), _, rfl, p, _, dx, _, rfl, upd_same, T.K_Reader, T.N_Reader_since, (by show 1 < 1000; decide), _, rfl, p, _, dx, _, rfl, upd_same, T.K_Reader, T.N_Reader_taken, ?_, ?_⟩
      · show (putF "since" (V.str "") (putF "words" (V.ref l) [])).length < 1000
        show (if ("words" : Str) = "since" then _ else (("words" : Str), V.ref l) :: putF "since" (V.str "") []).length < 1000
        rw [if_neg ws_sn]
        show 2 < 1000
        decide
      · refine k bs rfl bk l _ (same_none s1 hl) ⟨⟨dx, ?_⟩, ?_, Mid.nil bk⟩ fun b o e hb => ?_
        · rw [upd_same, show ("" : Str) = txt [] from by decide +kernel]
          exact congrArg (fun f => some (HO.ins _ dx f)) (rdF_new l (txt []) 0)
        · rw [upd_ne npl.symm, upd_ne npl.symm, upd_ne npl.symm, upd_same]
        · rw [upd_ne hb, upd_ne hb, upd_ne hb, upd_ne (ne_of_none (s1 _ _ e) hl)]
          exact s1 _ _ e
theorem o_Reader_amid (T : Txt K mg) : OkM P w K mg base CX0 1 T.A.Reader "amid" ["self"] (spAmid T.A.Reader) := by
  refine T.M_Reader_amid.ok c_Reader_amid (fun vs H Q E h => ?_) (fun f cdv A outer s H vs Q E hr h => ?_)
  · obtain ⟨p, l, bs, s, n, rfl, _⟩ := h
    rfl
  · obtain ⟨p, l, bs, s, n, rfl, ⟨⟨dx, ob⟩, ws, mid⟩, k⟩ := h
    refine ⟨_, (pss_one (ps_ret (pe_fld_k K (pv 0) rfl))), ?_⟩
    exact ⟨_, rfl, p, _, dx, _, _, rfl, ob, T.K_Reader, T.N_Reader_since, rdF_sn _ _ _, k⟩
theorem o_Reader_next_signs (T : Txt K mg) : OkM P w K mg base CX0 1 T.A.Reader "next_signs" ["self"] (spNextS T.A.Reader) := by
  refine T.M_Reader_next_signs.ok c_Reader_next_signs (fun vs H Q E h => ?_) (fun f cdv A outer s H vs Q E hr h => ?_)
  · obtain ⟨p, l, bs, s, n, rfl, _⟩ := h
    rfl
  · obtain ⟨p, l, bs, s, n, rfl, ⟨⟨dx, ob⟩, ws, mid⟩, bk, k⟩ := h
    refine ⟨_, (pss_cons (ps_set (i := 1) c_Reader_next_signs.nd rfl (Or.inr rfl) (pe_callB call_len_str (by rfl) T.b_len PySem.boot_len (pa_cons (pe_fld_k K (pv 0) rfl) pa_nil)))
(pss_one (ps_ret (pe_sortSetS K rfl T.b_sorted T.b_set (pe_lc (own := [("word", 2)]) (g := gName 2) (by rfl) c_Reader_next_signs.nd (pi_list_k K (pe_fld_k K (pv 0) rfl)) (blkOk_by (own := [("word", 2)]) (N := n_Reader_next_signs) (sc := defScope s_Reader_next_signs) (by decide +kernel)) (fun _ _ _ _ _ => (pg_name (i := 2) c_Reader_next_signs.nd rfl (Or.inl rfl))) (fun _ _ _ _ _ => (pts_one (pt_val (pe_m1 PySem.F.slot_str_startswith PySem.F.type_str_startswith mt_startswith (pv 2) (pe_fld_k K (pv 0) rfl))))) (fun _ _ _ _ _ => (pe_ix ix_str (pv 2) (pv 1) (fun _ _ => rfl)))))))), ?_⟩
    have ls := mid.len bk
    have hz : (txt s).length ≤ sizeLine := by
      rw [txt_length]
      exact sz_lit (by omega)
    have b20 := bk.l20
    refine ⟨_, rfl, p, _, dx, _, _, rfl, ob, T.K_Reader, T.N_Reader_since, rdF_sn _ _ _, _, rfl, hz, ?_⟩
    refine ⟨_, rfl, p, _, dx, _, _, rfl, ob, T.K_Reader, T.N_Reader_words, rdF_ws _ _ _, l, rfl, ⟨_, SqL.of ws⟩, fun pD hD => lc_list (K := K) (a := l) (xs := vsT bs) (fun i H' => Same H H' ∧ H' pD = some (.lst ((nextL (bs.take i) s).map V.str))) ⟨Same.upd hD, upd_same⟩ (fun i H' _ e => SqL.of (e.1 _ _ ws)) ?_ ?_⟩
    · rintro i x H' hx ⟨s1, e1⟩
      obtain ⟨w, hw, rfl⟩ := vsT_get hx
      have hm := List.mem_of_getElem? hw
      refine ⟨rfl, _, rfl, ⟨_, rfl⟩, _, rfl, p, _, dx, _, _, rfl, s1 _ _ ob, T.K_Reader, T.N_Reader_since, rdF_sn _ _ _, txt w, txt s, rfl, rfl, _, rfl, itb (fun e => ?_) fun e => ?_⟩
      · rw [starts_txt, decide_eq_true_eq] at e
        obtain ⟨c, r, rfl⟩ := mid_split mid hm e
        have w8 := (bk.all _ hm).hi
        refine ⟨_, rfl, _, rfl, txt (s ++ c :: r), _, c, rfl, rfl, ?_, ?_, _, e1, ?_, ?_, ?_⟩
        · rw [txt_length]
          exact sz_lit (by omega)
        · rw [txt_list, txt_length]
          exact atI_nat (by rw [List.getElem?_append_right (Nat.le_refl _), Nat.sub_self]; rfl)
        · rw [List.length_map]
          have := next_le (bs.take i) s
          rw [List.length_take] at this
          exact small1000 (by omega)
        · intro b o hb
          rw [upd_ne (ne_of_none hb hD)]
          exact s1 _ _ hb
        · rw [upd_same, take_more hw, next_yes e, getD_mid, List.map_append]
          rfl
      · rw [starts_txt, decide_eq_false_iff_not] at e
        refine ⟨s1, ?_⟩
        rw [take_more hw, next_not e]
        exact e1
    · rintro H1 ⟨s1, e1⟩
      rw [show (vsT bs).length = bs.length from List.length_map _, List.take_length] at e1
      have l1 := next_le bs s
      refine ⟨pD, nextL bs s, rfl, SqL.of e1, by omega, fun ys q pm so hq => k ys q _ (same_none s1 hq) (s1.trans (Same.upd hq)) upd_same (fun z => ?_) so ?_ ?_⟩
      · rw [pm.mem_iff, ← next_mem mid]
        unfold dd
        rw [dd_mem]
        exact ⟨fun h => h.elim (fun h => nomatch h) id, .inr⟩
      · exact pm.nodup_iff.mpr (dd_uniq _ _ List.nodup_nil)
      · have := dd_le (nextL bs s) []
        rw [List.length_nil] at this
        rw [pm.length_eq]
        unfold dd
        omega
theorem o_Reader_put_sign (T : Txt K mg) : OkM P w K mg base (L2.CX P w) 3 T.A.Reader "put_sign" ["self", "sign"] (spPut T.A.Reader T.A.BadSign) := by
  have o_Reader_next_signs := o_Reader_next_signs (P := P) (w := w) (base := base) T
  have oi_BadSign := oi_BadSign (P := P) (w := w) (base := base) T
  refine T.M_Reader_put_sign.okX c_Reader_put_sign (fun vs H Q E h => ?_) (fun f cdv A outer s H vs Q E hr h => ?_)
  · obtain ⟨p, l, bs, s, n, v, d, rfl, _⟩ := h
    rfl
  · obtain ⟨p, l, bs, s, n, v, d, rfl, R, bk, n9, hI, ok, k, kE⟩ := h
    refine ⟨_, (pss_cons (ps_if (PW.pt (pw_or (pt_not (pt_val (pe_callB (call_isi_k K) (by rfl) T.b_isinstance (by decide +kernel) (pa_cons (pv 1) (pa_cons (pe_bltn (v := .ty "str") (by rfl) T.b_str (by decide +kernel) rfl) pa_nil))))) (pw_or (pt_cmpR op_ne (pe_callB call_len_str (by rfl) T.b_len PySem.boot_len (pa_cons (pv 1) pa_nil)) pe_int (nomark _)) (pw_or1 (pt_cmpR (op_notIn_seq_k K) (pv 1) (pe_mz o_Reader_next_signs T.K_Reader hr (pv 0)) rfl)))))
(pss_one (ps_raise rfl (takes_of rfl rfl rfl rfl) (pmk_i oi_BadSign hr (pa_cons (pe_fld_k K (pv 0) rfl) pa_nil))))
pss_nil)
(pss_cons (ps_fldaug (pv 0) (pv 1) in_addT)
(pss_cons (ps_fldaug (pv 0) pe_int in_add)
(pss_cons (ps_if (pt_cmpR (op_notIn_seq_k K) (pe_fld_k K (pv 0) rfl) (pe_fld_k K (pv 0) rfl) rfl)
(pss_one (ps_ret pe_non))
pss_nil)
(pss_cons (ps_set (i := 2) c_Reader_put_sign.nd rfl (Or.inl rfl) (pe_bm PySem.F.plainAttrs_list PySem.F.slot_list_index PySem.F.type_list_index (mt_index_k K) (pe_fld_k K (pv 0) rfl) (pa_cons (pe_fld_k K (pv 0) rfl) pa_nil)))
(pss_cons (ps_fld (pv 0) pe_str rfl)
(pss_one (ps_ret (pv 2))))))))), ?_⟩
    have fv : FmtV (.int (n : Nat)) := .inr (.inr ⟨_, rfl, Nat.lt_of_lt_of_le (show ((n : Nat) : Int).natAbs < 2 ^ 20 by omega) (by decide)⟩)
    obtain ⟨dx, ob⟩ := R.ob
    have ws := R.ws
    have npl := R.ne
    have bad : putR bs s d = none → ∀ {H1 : Hp}, Same H H1 → ∀ dd : Addr, H1 dd = none → E (.ref T.A.BadSign) (some dd) (upd H1 dd (.xd [("place", .int (n : Nat))])) := fun e {H1} s1 dd hd => kE e dd _ (s1.trans (Same.upd hd)) (same_none s1 hd) upd_same
    refine ⟨_, rfl, _, _, _, _, _, rfl, .ty _, hI.ty, kit_ty (kd_str d), _, rfl, ?_⟩
    cases hI with
    | str z =>
      have hz : z.length ≤ sizeLine := Nat.le_trans ok.1 (by decide)
      refine iteF ⟨_, rfl, z, rfl, hz, rfl, _, rfl, itnd (fun c1 => ?_) fun c1 => ?_⟩
      · refine ⟨_, rfl, p, _, dx, _, _, rfl, ob, T.K_Reader, T.N_Reader_taken, rdF_tk _ _ _, mkx T.X_BadSign fv (bad ?_ (Same.refl _))⟩
        unfold putR
        rw [sign_none fun q => c1 (by rw [q]; rfl)]
        rfl
      have c1 : z.length = 1 := by
        injection c1 with c1
        omega
      obtain ⟨c, rfl⟩ := sign_one c1
      have ep : putR bs s (.str (txt [c])) = stepR bs s c := rfl
      rw [ep] at k bad
      refine ⟨_, rfl, _, rfl, p, dx, _, rfl, ob, rdF_no _ _ _, p, l, bs, s, n, rfl, R, bk, fun ys q H1 hq s1 e1 hm so nd ln => ?_⟩
      have ob1 := s1 _ _ ob
      refine ⟨q, _, rfl, .inl (SqL.of e1), rfl, flat_str _, ?_⟩
      have eI : inV (.str (txt [c])) (ys.map V.str) = goes bs (s ++ [c]) := by
        rw [inV_strs]
        cases g : goes bs (s ++ [c]) with
        | true => exact decide_eq_true ((hm _).mpr ⟨c, rfl, g⟩)
        | false =>
          refine decide_eq_false fun h => ?_
          obtain ⟨c', e, g'⟩ := (hm _).mp h
          have e := txt_inj e
          injection e with e
          subst e
          rw [g] at g'
          cases g'
      rw [eI]
      cases g : goes bs (s ++ [c]) with
      | false =>
        refine ⟨_, rfl, iteT ?_⟩
        refine ⟨_, rfl, p, _, dx, _, _, rfl, ob1, T.K_Reader, T.N_Reader_taken, rdF_tk _ _ _, mkx T.X_BadSign fv (bad ?_ s1)⟩
        unfold stepR
        rw [g]
        rfl
      | true =>
        refine ⟨_, rfl, iteF ?_⟩
        have es : stepR bs s c = some (if s ++ [c] ∈ bs then ([], some (bs.idxOf (s ++ [c]))) else (s ++ [c], none)) := by
          unfold stepR
          rw [g]
          rfl
        have md : Mid bs (if s ++ [c] ∈ bs then (([] : List Nat), some (bs.idxOf (s ++ [c]))) else (s ++ [c], none)).1 := Mid.step bk es
        have ls := R.mid.len bk
        refine ⟨_, rfl, p, _, dx, _, _, rfl, ob1, T.K_Reader, T.N_Reader_since, rdF_sn _ _ _, _, rfl, txt s, txt [c], rfl, rfl, ?_, dx, _, ob1, (by show 3 < 1000; decide), ?_⟩
        · rw [txt_length, txt_length]
          exact sz_lit (by show s.length + 1 ≤ 1000; omega)
        rw [txt_app, rdF_putS]
        have ob2 : (upd H1 p (.ins T.A.Reader dx (rdF l (txt (s ++ [c])) n))) p = some (.ins T.A.Reader dx (rdF l (txt (s ++ [c])) n)) := upd_same
        have B2 : Bar p H (upd H1 p (.ins T.A.Reader dx (rdF l (txt (s ++ [c])) n))) := fun b o hb nb => by
          rw [upd_ne nb]
          exact s1 _ _ hb
        generalize upd H1 p (.ins T.A.Reader dx (rdF l (txt (s ++ [c])) n)) = H2 at ob2 B2 ⊢
        refine ⟨_, rfl, p, _, dx, _, _, rfl, ob2, T.K_Reader, T.N_Reader_taken, rdF_tk _ _ _, _, _, rfl, rfl, dx, _, ob2, (by show 3 < 1000; decide), ?_⟩
        rw [show ((n : Nat) : Int) + 1 = ((n + 1 : Nat) : Int) from rfl, rdF_putT]
        have ob3 : (upd H2 p (.ins T.A.Reader dx (rdF l (txt (s ++ [c])) (n + 1)))) p = some (.ins T.A.Reader dx (rdF l (txt (s ++ [c])) (n + 1))) := upd_same
        have B3 : Bar p H (upd H2 p (.ins T.A.Reader dx (rdF l (txt (s ++ [c])) (n + 1)))) := fun b o hb nb => by
          rw [upd_ne nb]
          exact B2 _ _ hb nb
        generalize upd H2 p (.ins T.A.Reader dx (rdF l (txt (s ++ [c])) (n + 1))) = H3 at ob3 B3 ⊢
        have ws3 := B3 _ _ ws npl.symm
        refine ⟨_, rfl, p, _, dx, _, _, rfl, ob3, T.K_Reader, T.N_Reader_since, rdF_sn _ _ _, _, rfl, p, _, dx, _, _, rfl, ob3, T.K_Reader, T.N_Reader_words, rdF_ws _ _ _, l, (bs.map txt).map V.str, rfl, .inl (SqL.of (by rw [← vsT_map]; exact ws3)), rfl, flat_str _, ?_⟩
        rw [inV_strs]
        by_cases hm2 : s ++ [c] ∈ bs
        · rw [decide_eq_true (List.mem_map.mpr ⟨_, hm2, rfl⟩)]
          refine ⟨_, rfl, iteF ?_⟩
          rw [if_pos hm2] at es
          rw [if_pos hm2] at md
          refine ⟨_, rfl, p, _, dx, _, _, rfl, ob3, T.K_Reader, T.N_Reader_words, rdF_ws _ _ _, .inl ⟨rfl, _, SqL.of ws3⟩, _, rfl, p, _, dx, _, _, rfl, ob3, T.K_Reader, T.N_Reader_since, rdF_sn _ _ _,
            ?_⟩
          dsimp only [tNil, tCons]
          refine index_bk bk hm2 ws3 ?_
          · refine ⟨_, rfl, p, _, dx, _, rfl, ob3, T.K_Reader, T.N_Reader_since, (by show 3 < 1000; decide), _, rfl, ?_⟩
            rw [rdF_putS, show ("" : Str) = txt [] from by decide +kernel]
            refine k _ es _ ⟨⟨dx, upd_same⟩, (by rw [upd_ne npl.symm]; exact ws3), md⟩ fun b o hb nb => ?_
            rw [upd_ne nb]
            exact B3 _ _ hb nb
        · rw [decide_eq_false fun h => hm2 (by obtain ⟨y, hy, e⟩ := List.mem_map.mp h; rw [← txt_inj e]; exact hy)]
          refine ⟨_, rfl, iteT ?_⟩
          rw [if_neg hm2] at es md
          exact k _ es H3 ⟨⟨dx, ob3⟩, ws3, md⟩ B3
    | _ => exact iteT ⟨_, rfl, p, _, dx, _, _, rfl, ob, T.K_Reader, T.N_Reader_taken, rdF_tk _ _ _, mkx T.X_BadSign fv (bad rfl (Same.refl _))⟩
end
end Dear

namespace Dear
open PySem PySem.Spec PyProof.Rows L2
/-! ### any thing in a list of texts -/
section
variable {A : Around} {s : Shared}
theorem str_eq_declines_dict (b : Str) (u : Tok) (l : Addr) (c : Value) (es : Array DictEntry) (ep : Nat) (dd : Option Addr) (sl : Array (Option Value)) :
    Meets (Builtin.«str.__eq__» ⟨[.str b u, .ref l], []⟩) (fun _ R s => s.heap.get? l = some { cls := c, dict := dd, data := .dict es ep, slots := sl } ∧ R (.ok (.ret .notImplemented)) s) :=
  .of_wp fun prog w A R s h => by obtain ⟨hp, g, d, tk, os⟩ := s; obtain ⟨hl, h⟩ := h; wp_walk using wpAny_loadPart' hl, wpAny_load hl; exact ⟨_, rfl, h⟩
theorem dict_eq_declines_str (l : Addr) (es : Array DictEntry) (ep : Nat) (dd : Option Addr) (sl : Array (Option Value)) (b : Str) (u : Tok) :
    Meets (Builtin.«dict.__eq__» ⟨[.ref l, .str b u], []⟩) (fun _ R s => s.heap.get? l = some { cls := .type "dict", dict := dd, data := .dict es ep, slots := sl } ∧ R (.ok (.ret .notImplemented)) s) :=
  .of_wp fun prog w A R s h => by obtain ⟨hp, g, d, tk, os⟩ := s; obtain ⟨hl, h⟩ := h; have f1 := F.sub_str_dict; wp_walk using wpAny_loadPart' hl; exact ⟨_, rfl, h⟩
theorem rc_str_dict {l : Addr} {es : Array DictEntry} {ep : Nat} {dd : Option Addr} {sl : Array (Option Value)} (b : Str) (u : Tok) (ho : s.heap.get? l = some { cls := .type "dict", dict := dd, data := .dict es ep, slots := sl }) (hu : A.units < cLine) : SeqAt.RcAt A s (.str b u) (.ref l) false := fun prog w E Q h => by
  exact SeqAt.rc_eq_decline_or (k := false) (typeIs_str s b u) ⟨_, ho, rfl⟩ (by decide) F.sub_dict_str F.slot_str_eq F.slot_dict_eq_refl
    (fun _ hq => call_meets F.slot_str_eq (typeIs_str s b u) F.entry_str_eq (F.args_str_eq_2 _ _) (str_eq_declines_dict b u l (.type "dict") es ep dd sl) ⟨ho, hq⟩)
    (fun _ hq => call_meets F.slot_dict_eq_refl ⟨_, ho, rfl⟩ F.entry_dict_eq (F.args_dict_eq_2 _ _) (dict_eq_declines_str l es ep dd sl b u) ⟨ho, hq⟩)
    (fun _ hq => wpAny_of_eq (rfl : isSame (.str b u) (.ref l) = pure false) hq) (.inr hu) h
theorem eq_str_dict {l : Addr} {es : Array DictEntry} {ep : Nat} {dd : Option Addr} {sl : Array (Option Value)} (b : Str) (u : Tok) (ho : s.heap.get? l = some { cls := .type "dict", dict := dd, data := .dict es ep, slots := sl }) (hu : A.units < cLine) : SeqAt.EqAt A s (.str b u) (.ref l) false := fun prog w E Q h => by
  unfold eqBool
  refine wpAny_holding ?_
  refine wpAny_ite_split (fun hab => absurd (eq_of_beq hab) nofun) (fun _ => ?_)
  exact wpAny_bind (rc_str_dict b u ho hu prog w E _ (wpAny_truthy_bool h))
end
/-- is it one of these texts -/
def inD (d : D) (ys : List Str) : Bool := match d with
  | .str z => decide (z ∈ ys)
  | _ => false
def rInT (K : PySem.W.Frag) : R2 := fun x y H Q => ∃ (d : D) (p : Addr) (ys : List Str), Dt H x d ∧ y = .ref p ∧ SqL K H p (ys.map V.str) ∧ Q (.bl (inD d ys)) H
theorem vals_str : ∀ {ys : List Str} {us : List Value}, Vals (ys.map V.str) us → ∀ u ∈ us, ∃ z t, u = Value.str z t
  | [], _, .nil => fun _ h => nomatch h
  | _ :: ys, _, .cons r h => fun u hu => by
    rcases List.mem_cons.mp hu with rfl | hu
    · obtain ⟨t, e⟩ := r
      exact ⟨_, t, e⟩
    · exact vals_str h u hu
theorem op_inT {X : Cx} (K : PySem.W.Frag) (hu : X.A.units + 64 < cLine) (hk : X.K = K := by rfl) : OpR X (compareOp .In) (rInT K) := by
  subst hk
  intro pins s σ H x y v u Q I rx ry h
  obtain ⟨d, p, ys, hd, rfl, hq, q⟩ := h
  have flat : flatV x = true → (inV x (ys.map V.str) = inD d ys) → wpAny (model X.prog X.w) X.A (compareOp .In v u) (EP X pins σ Q) X.xe s := fun f e =>
    op_in_seq pins s σ H x (.ref p) v u Q I rx ry ⟨p, _, rfl, .inl hq, f, flat_str ys, by rw [show (if false = true then !inV x (ys.map V.str) else inV x (ys.map V.str)) = inD d ys from e]; exact q⟩
  have no : ∀ x : V, flatV x = true → (∀ z, x ≠ .str z) → inV x (ys.map V.str) = false := fun x f n => by
    unfold inV
    rw [List.any_eq_false]
    intro w hw
    obtain ⟨z, _, rfl⟩ := List.mem_map.mp hw
    cases x with
    | str z => exact absurd rfl (n z)
    | _ => simp [eqV]
  have units : X.A.in1.units < cLine := by
    have : X.A.in1.units ≤ X.A.units + 1 := by
      first
        | exact Nat.le_refl _
        | exact Nat.le_succ _
    omega
  have deep : (∀ y ∈ (ys.map V.str), True) → (∀ (b : Str) (t : Tok), SeqAt.EqAt X.A.in1 s (.str b t) v false) → inD d ys = false → wpAny (model X.prog X.w) X.A (compareOp .In v u) (EP X pins σ Q) X.xe s := fun _ he e => by
    cases ry
    obtain ⟨its, r, pl, hz⟩ := I.list hq
    refine SeqAt.in_listAt (fun _ => false) pl.isList (fun w hw => ?_) ⟨.bl _, H, I, rfl, ?_⟩
    · obtain ⟨z, t, rfl⟩ := vals_str r w (by simpa using hw)
      exact he z t
    · rw [show its.toArray.any (fun _ => false) = false by simp, ← e]
      exact q
  cases hd with
  | non => exact flat rfl (no _ rfl fun z e => nomatch e)
  | bl b => exact flat rfl (no _ rfl fun z e => nomatch e)
  | int i => exact flat rfl (no _ rfl fun z e => nomatch e)
  | str z => exact flat rfl (inV_strs z ys)
  | lst ha hall =>
    cases rx
    obtain ⟨its, r, pl, hz⟩ := I.list (SqL.of ha)
    exact deep (fun _ _ => trivial) (fun b t => SeqAt.EqAt.str_list b t pl.isList units) rfl
  | tup ha hall =>
    cases rx
    obtain ⟨its, r, pl, hz⟩ := I.tuple (SqT.of ha)
    exact deep (fun _ _ => trivial) (fun b t => SeqAt.EqAt.str_tuple b t pl units) rfl
  | dct ha =>
    cases rx
    obtain ⟨_, _, vs, _, ⟨o, es, ep, ho, hex, hdt, _⟩⟩ := I.hok _ _ ha
    obtain ⟨cls, dd, data, sl⟩ := o
    simp only at hdt
    subst hdt
    obtain ⟨hc, hdd⟩ := hex
    simp only at hc
    subst hc
    exact deep (fun _ _ => trivial) (fun b t => eq_str_dict b t ho units) rfl
end Dear

namespace Dear
open PySem PySem.Spec PyProof.Rows L2
/-! ### a reader told good signs -/
theorem XfC.of {K : PySem.W.Frag} {C : Addr} (T : ExcC K C) : XfC K C := ⟨T.hg, T.hk, T.hs, T.hd⟩
/-- try .. except X: ..; try .. except X as n: .. (readings with a name, for loops) -/
def sTryO (K : PySem.W.Frag) (c : Value) (ts : Addr → Value → Option Addr → TS) (Wout : WX) (tb : WX → TS) : TS := fun D σ H => tb (wOnly K c ts Wout D) D σ H
def sTryA (K : PySem.W.Frag) (c : Value) (i : Nat) (ts : Addr → Value → Option Addr → TS) (Wout : WX) (tb : WX → TS) : TS := fun D σ H => tb (wAs K c i ts Wout D) D σ H
section
variable {X : Cx} {x n : Str} {c : Value} {i : Nat} {body suite : List Stmt} {b₀ : Stmt} {np pos pos' : Pos} {tb : WX → TS} {ts : Addr → Value → Option Addr → TS} {Wout : WX}
theorem ps_tryO (hs : X.stack = X.env :: X.outer) (hf : X.env.frame = some X.env.locals) (hc : Names X x c) (tk : Takes X Wout)
    (hb : ∀ (W : WX) (pn : List (Addr × Obj)) (xe : Value → Shared → Prop), Takes (X.tr pn xe) W → PassesOwn (model X.prog X.w) X.A X.env xe → PSs (X.tr pn xe) body (tb W))
    (hsu : ∀ (a : Addr) (oe : Obj) (cls : Value) (d : Option Addr) (pn : List (Addr × Obj)), Zc cls d oe → (∃ vs, oe.data = .fields vs) → PSs (X.suite a ((a, oe) :: pn)) (b₀ :: suite) (ts a cls d)) :
    PS X (.Try body [.ExceptHandler (some (.Name x np)) none (b₀ :: suite) pos'] [] [] pos) (sTryO X.K c ts Wout tb) := ps_try_only hs hf hc tk hb hsu
theorem ps_tryA (hs : X.stack = X.env :: X.outer) (hf : X.env.frame = some X.env.locals) (hN : X.N.Nodup) (hi : X.N[i]? = some n) (hln : X.env.kindOf n = some .local) (hc : Names X x c) (tk : Takes X Wout)
    (hb : ∀ (W : WX) (pn : List (Addr × Obj)) (xe : Value → Shared → Prop), Takes (X.tr pn xe) W → PassesOwn (model X.prog X.w) X.A X.env xe → PSs (X.tr pn xe) body (tb W))
    (hsu : ∀ (a : Addr) (oe : Obj) (cls : Value) (d : Option Addr) (pn : List (Addr × Obj)), Zc cls d oe → (∃ vs, oe.data = .fields vs) → PSs (X.suite a ((a, oe) :: pn)) (b₀ :: suite) (ts a cls d)) :
    PS X (.Try body [.ExceptHandler (some (.Name x np)) (some n) (b₀ :: suite) pos'] [] [] pos) (sTryA X.K c i ts Wout tb) := ps_try_as hs hf hN hi hln hc tk hb hsu
end
theorem pg_lst_k {X : Cx} (K : PySem.W.Frag) {es : List Expr} {k : Nat} {t : TGs} {n : Nat} {pos : Pos} (hc : X.calm = true) (hg : PGs X es t) (h : X.K = K := by rfl)
    (hn : (assignEach es X.env).length = n := by rfl) (hst : (assignEach es X.env).findIdx? (·.1) = none := by rfl) : PG X (.Tuple es k pos) (gLst K n t) := h ▸ pg_lst hc hg hn hst
theorem goes_filter (bs : List (List Nat)) (s : List Nat) : ((bs.filter fun w => decide (s <+: w)).map fun w => PyData.str (txt w)).isEmpty = !goes bs s := by
  cases g : goes bs s with
  | true =>
    obtain ⟨w, hw, hp⟩ := goes_iff.mp g
    cases e : bs.filter fun w => decide (s <+: w) with
    | nil =>
      have : w ∈ bs.filter fun w => decide (s <+: w) := List.mem_filter.mpr ⟨hw, decide_eq_true hp⟩
      rw [e] at this
      cases this
    | cons a r => rfl
  | false =>
    cases e : bs.filter fun w => decide (s <+: w) with
    | nil => rfl
    | cons a r =>
      have : a ∈ bs.filter fun w => decide (s <+: w) := by rw [e]; exact List.mem_cons_self
      obtain ⟨h1, h2⟩ := List.mem_filter.mp this
      rw [goes_iff.mpr ⟨a, h1, of_decide_eq_true h2⟩] at g
      cases g
theorem step_mem {bs : List (List Nat)} {s : List Nat} {c : Nat} (h : s ++ [c] ∈ bs) : stepR bs s c = some ([], some (bs.idxOf (s ++ [c]))) := by
  unfold stepR
  rw [goes_iff.mpr ⟨_, h, List.prefix_refl _⟩, if_pos rfl, if_pos h]
theorem step_mid {bs : List (List Nat)} {s : List Nat} {c : Nat} (h : s ++ [c] ∉ bs) (g : goes bs (s ++ [c]) = true) : stepR bs s c = some (s ++ [c], none) := by
  unfold stepR
  rw [g, if_pos rfl, if_neg h]
theorem step_bad {bs : List (List Nat)} {s : List Nat} {c : Nat} (g : goes bs (s ++ [c]) = false) : stepR bs s c = none := by
  unfold stepR
  rw [g]
  rfl
theorem run_more {bs : List (List Nat)} {s t : List Nat} {c i : Nat} {row : List Nat} {x : List Nat × Option Nat} (h : stepR bs s c = some x) : runR bs s (c :: t) i row = runR bs x.1 t (i + 1) (row ++ x.2.toList) := by
  show (match stepR bs s c with | none => Sum.inl i | some x => runR bs x.1 t (i + 1) (row ++ x.2.toList)) = _
  rw [h]
theorem run_bad {bs : List (List Nat)} {s t : List Nat} {c i : Nat} {row : List Nat} (h : stepR bs s c = none) : runR bs s (c :: t) i row = .inl i := by
  show (match stepR bs s c with | none => Sum.inl i | some x => runR bs x.1 t (i + 1) (row ++ x.2.toList)) = _
  rw [h]
theorem put_good {C B : Addr} {H : Hp} {Q : VK} {E : XK} {p l : Addr} {bs : List (List Nat)} {s : List Nat} {n c : Nat} {x : List Nat × Option Nat} (R : RdAt C H p l bs s n) (bk : BkOk bs) (n9 : n ≤ 1000000) (c128 : c < 128) (hx : stepR bs s c = some x)
    (k : ∀ H', RdAt C H' p l bs x.1 (n + 1) → Bar p H H' → Q (numV x.2) H') : spPut C B [.ref p, .str (txt [c])] H Q E := by
  have e : putR bs s (.str (txt [c])) = some x := hx
  refine ⟨p, l, bs, s, n, _, .str (txt [c]), rfl, R, bk, n9, .str _, ⟨by rw [txt_length]; show 1 ≤ 3000; decide, asc_one c128⟩, fun y hy H' R' B' => ?_, fun q => (by rw [e] at q; cases q)⟩
  rw [e] at hy
  injection hy with hy
  subst hy
  exact k H' R' B'
theorem Bar.trans {p : Addr} {H H1 H2 : Hp} (a : Bar p H H1) (b : Bar p H1 H2) : Bar p H H2 := fun x o e n => b _ _ (a _ _ e n) n
theorem Bar.of {p : Addr} {H H1 : Hp} (a : Same H H1) : Bar p H H1 := fun x o e _ => a _ _ e
theorem Bar.refl {p : Addr} (H : Hp) : Bar p H H := fun _ _ e _ => e
theorem num_lt {bs : List (List Nat)} {w : List Nat} (h : w ∈ bs) : bs.idxOf w < bs.length := List.idxOf_lt_length_iff.mpr h
/-- numbers alike -/
theorem eqv_rows : ∀ a b : List Nat, PyData.eqv (py (rowD a)) (py (rowD b)) = decide (a = b) := by
  have key : ∀ a b : List Nat, PyData.eqvAll (pyAll (a.map fun k => D.int (k : Nat))) (pyAll (b.map fun k => D.int (k : Nat))) = decide (a = b) := by
    intro a
    induction a with
    | nil =>
      intro b
      cases b with
      | nil => rw [decide_eq_true rfl]; simp [PyData.eqvAll, pyAll]
      | cons y b => rw [decide_eq_false (by simp)]; simp [PyData.eqvAll, pyAll]
    | cons x a ih =>
      intro b
      cases b with
      | nil => rw [decide_eq_false (by simp)]; simp [PyData.eqvAll, pyAll]
      | cons y b =>
        have e : PyData.eqvAll (pyAll ((x :: a).map fun k => D.int (k : Nat))) (pyAll ((y :: b).map fun k => D.int (k : Nat))) = (PyData.eqv (.int (x : Nat)) (.int (y : Nat)) && PyData.eqvAll (pyAll (a.map fun k => D.int (k : Nat))) (pyAll (b.map fun k => D.int (k : Nat)))) := by
          simp [PyData.eqvAll, pyAll, py]
        rw [e, ih b]
        have e2 : PyData.eqv (.int (x : Nat)) (.int (y : Nat)) = decide (x = y) := by
          simp only [PyData.eqv]
          by_cases h : x = y
          · rw [h, decide_eq_true rfl]
            simp
          · rw [decide_eq_false h]
            exact beq_eq_false_iff_ne.mpr fun q => h (by omega)
        rw [e2]
        by_cases h : x = y <;> by_cases h' : a = b <;> simp [h, h']
  intro a b
  have e : PyData.eqv (py (rowD a)) (py (rowD b)) = PyData.eqvAll (pyAll (a.map fun k => D.int (k : Nat))) (pyAll (b.map fun k => D.int (k : Nat))) := by
    unfold rowD
    simp only [py, PyData.eqv]
  rw [e, key]
/-- what a row spells tells the row -/
theorem spell_inj {bs : List (List Nat)} (bk : BkOk bs) {a b : List Nat} (ha : ∀ k ∈ a, k < bs.length) (hb : ∀ k ∈ b, k < bs.length) (e : spell bs a = spell bs b) : a = b := by
  have h1 := read_spell bk ha
  rw [e, read_spell bk hb] at h1
  injection h1 with h1
  exact h1.symm
/-- a reader of a plain book made -/
theorem make_good2 {C B : Addr} {H : Hp} {Q : VK} {E : XK} {b x dx : Addr} {bs : List (List Nat)} (hb : H b = some (.lst (vsT bs))) (bk : BkOk bs) (hx : H x = none) (hdx : H dx = none) (ne : dx ≠ x)
    (k : ∀ (l : Addr) (H' : Hp), H l = none → Same H H' → RdAt C H' x l bs [] 0 → Q .non H') : spRdI C B [.ref x, .ref b] (upd (upd H dx (.own x)) x (.ins C dx [])) Q E := by
  have pl := bk.plain
  have s0 : Same H (upd (upd H dx (.own x)) x (.ins C dx [])) := (Same.upd hdx).trans (Same.upd (by rw [upd_ne ne.symm]; exact hx))
  refine ⟨x, dx, .ref b, bkD bs, rfl, upd_same, dt_bk (s0 _ _ hb), bk.ok.1, fun bs' e bk' l H' hl R Br => ?_, fun e => (by rw [pl] at e; cases e)⟩
  have e' : bs' = bs := bkD_inj e.symm
  subst e'
  exact k l H' (same_none s0 hl) (fun b9 o9 hb9 => Br _ _ (s0 _ _ hb9) (ne_of_none hb9 hx)) R
theorem make_good {C B : Addr} {H : Hp} {Q : VK} {E : XK} {b x dx : Addr} {bs : List (List Nat)} (hb : H b = some (.lst (vsT bs))) (bk : BkOk bs) (hx : H x = none) (hdx : H dx = none) (ne : dx ≠ x)
    (k : ∀ (l : Addr) (H' : Hp), Same H H' → RdAt C H' x l bs [] 0 → Q .non H') : spRdI C B [.ref x, .ref b] (upd (upd H dx (.own x)) x (.ins C dx [])) Q E := make_good2 hb bk hx hdx ne fun l H' _ => k l H'
/-- read_row of a plain book and what a row of its numbers writes -/
theorem read_good {C1 C2 : Addr} {H : Hp} {Q : VK} {E : XK} {b : Addr} {bs : List (List Nat)} {ns : List Nat} (hb : H b = some (.lst (vsT bs))) (bk : BkOk bs) (hn : ∀ k ∈ ns, k < bs.length) (hl : (spell bs ns).length ≤ 3000)
    (k : ∀ (q : Addr) (H' : Hp), H q = none → Same H H' → H' q = some (.lst (rowV ns)) → Q (.ref q) H') : spRead C1 C2 [.ref b, .str (txt (spell bs ns))] H Q E := by
  have pl := bk.plain
  have rd : readR bs (.str (txt (spell bs ns))) = .inr ns := by
    show readL bs (txt (spell bs ns)).cps.toList = _
    rw [txt_list]
    exact read_spell bk hn
  refine ⟨.ref b, .str (txt (spell bs ns)), bkD bs, .str (txt (spell bs ns)), rfl, dt_bk hb, bk.ok.1, .str _, ⟨by rw [txt_length]; exact hl, spell_asc bk ns⟩, fun e => (by rw [pl] at e; cases e), fun bs' e bk' => ?_⟩
  have e' : bs' = bs := bkD_inj e.symm
  subst e'
  refine ⟨fun row hr q H' h1 h2 h3 => ?_, fun i hi => (by rw [rd] at hi; cases hi)⟩
  rw [rd] at hr
  injection hr with hr
  subst hr
  exact k q H' h1 h2 h3
/-- signs below 128, so many at most -/
structure TxOk (n : Nat) (t : List Nat) : Prop where
  le : t.length ≤ n
  lt : ∀ c ∈ t, c < 128
theorem TxOk.mono {n m : Nat} {t : List Nat} (h : TxOk n t) (e : n ≤ m) : TxOk m t := ⟨Nat.le_trans h.le e, h.lt⟩
theorem TxOk.app {n m : Nat} {a b : List Nat} (h : TxOk n a) (g : TxOk m b) : TxOk (n + m) (a ++ b) := ⟨by rw [List.length_append]; have := h.le; have := g.le; omega, fun c hc => (List.mem_append.mp hc).elim (h.lt c) (g.lt c)⟩
theorem TxOk.take {n : Nat} {a : List Nat} (h : TxOk n a) (j : Nat) : TxOk n (a.take j) := ⟨Nat.le_trans (List.length_take_le' _ _) h.le, fun c hc => h.lt c (List.mem_of_mem_take hc)⟩
theorem TxOk.drop {n : Nat} {a : List Nat} (h : TxOk n a) (j : Nat) : TxOk n (a.drop j) := ⟨by rw [List.length_drop]; have := h.le; omega, fun c hc => h.lt c (List.mem_of_mem_drop hc)⟩
theorem TxOk.one {c : Nat} (h : c < 128) : TxOk 1 [c] := ⟨Nat.le_refl _, fun x hx => by
  have : x = c := by simpa using hx
  omega⟩
theorem TxOk.nil : TxOk 0 [] := ⟨Nat.le_refl _, fun _ h => nomatch h⟩
theorem TxOk.word {bs : List (List Nat)} (bk : BkOk bs) {w : List Nat} (h : w ∈ bs) : TxOk 8 w := ⟨(bk.all w h).hi, fun c hc => in_letters_asc ((bk.all w h).l c hc)⟩
theorem TxOk.ok {n : Nat} {t : List Nat} (h : TxOk n t) (e : n ≤ 3000) : Ok (.str (txt t)) := ⟨by rw [txt_length]; exact Nat.le_trans h.le e, fun c hc => by rw [txt_list] at hc; exact h.lt c hc⟩
theorem TxOk.sz {n : Nat} {t : List Nat} (h : TxOk n t) (e : n ≤ 1000) : (txt t).length ≤ sizeLine := by
  rw [txt_length]
  exact sz_lit (Nat.le_trans h.le e)
theorem TxOk.ok_list {n : Nat} {t : List Nat} (h : TxOk n t) : Ok (.lst ((txt t).cps.toList.map fun c => D.str ⟨#[c]⟩)) := by
  rw [txt_list]
  have lt := h.lt
  clear h
  show OkAll _
  induction t with
  | nil => trivial
  | cons c r ih => exact ⟨⟨by show 1 ≤ 3000; decide, asc_one (lt c List.mem_cons_self)⟩, ih fun x hx => lt x (List.mem_cons_of_mem _ hx)⟩
theorem vsT_ix {bs : List (List Nat)} {r : Int} (r0 : 0 ≤ r) (r1 : r < bs.length) : ∃ w ∈ bs, atI (vsT bs) r = some (.str (txt w)) := by
  obtain ⟨n, rfl⟩ := Int.eq_ofNat_of_zero_le r0
  have hn : n < bs.length := by omega
  refine ⟨bs[n], List.getElem_mem hn, atI_nat ?_⟩
  unfold vsT
  rw [List.getElem?_map, List.getElem?_eq_getElem hn]
  rfl
/-! ### signs told one by one -/
/-- are all taken, what stands then, how many were taken -/
def feedR (bs : List (List Nat)) : List Nat → List Nat → Nat → Bool × List Nat × Nat
  | s, [], n => (true, s, n)
  | s, c :: r, n => match stepR bs s c with
    | none => (false, s, n)
    | some x => feedR bs x.1 r (n + 1)
theorem feed_more {bs : List (List Nat)} {s r : List Nat} {c n : Nat} {x : List Nat × Option Nat} (h : stepR bs s c = some x) : feedR bs s (c :: r) n = feedR bs x.1 r (n + 1) := by
  show (match stepR bs s c with | none => (false, s, n) | some x => feedR bs x.1 r (n + 1)) = _
  rw [h]
theorem feed_bad {bs : List (List Nat)} {s r : List Nat} {c n : Nat} (h : stepR bs s c = none) : feedR bs s (c :: r) n = (false, s, n) := by
  show (match stepR bs s c with | none => (false, s, n) | some x => feedR bs x.1 r (n + 1)) = _
  rw [h]
theorem step_suf {bs : List (List Nat)} {s : List Nat} {c : Nat} {x : List Nat × Option Nat} (h : stepR bs s c = some x) : x.1 <:+ s ++ [c] := by
  unfold stepR at h
  split at h
  · injection h with h
    subst h
    split
    · exact List.nil_suffix
    · exact List.suffix_refl _
  · cases h
theorem feed_suf {bs : List (List Nat)} : ∀ {t s : List Nat} {n : Nat} {s' : List Nat} {m : Nat}, feedR bs s t n = (true, s', m) → s' <:+ s ++ t
  | [], s, n, s', m, h => by
    injection h with _ h
    injection h with h _
    rw [h, List.append_nil]
    exact List.suffix_refl _
  | c :: t, s, n, s', m, h => by
    cases q : stepR bs s c with
    | none =>
      rw [feed_bad q] at h
      cases h
    | some x =>
      rw [feed_more q] at h
      have h1 := feed_suf h
      obtain ⟨u, hu⟩ := step_suf q
      refine h1.trans ⟨u, ?_⟩
      rw [← List.append_assoc, hu, List.append_assoc]
      rfl
/-- what the signs ahead lead to -/
theorem feed_run {bs : List (List Nat)} : ∀ {t s : List Nat} {n : Nat} {s' : List Nat} {m : Nat}, feedR bs s t n = (true, s', m) → ∀ (u row : List Nat), ∃ row', runR bs s (t ++ u) n row = runR bs s' u m row'
  | [], s, n, s', m, h, u, row => by
    injection h with _ h
    injection h with h h2
    rw [h, h2]
    exact ⟨row, rfl⟩
  | c :: t, s, n, s', m, h, u, row => by
    cases q : stepR bs s c with
    | none =>
      rw [feed_bad q] at h
      cases h
    | some x =>
      rw [feed_more q] at h
      obtain ⟨row', e⟩ := feed_run h u (row ++ x.2.toList)
      exact ⟨row', by rw [List.cons_append, run_more q, e]⟩
theorem feed_mid {bs : List (List Nat)} (bk : BkOk bs) : ∀ {t s : List Nat} {n : Nat}, Mid bs s → Mid bs (feedR bs s t n).2.1
  | [], s, n, h => h
  | c :: t, s, n, h => by
    cases q : stepR bs s c with
    | none =>
      rw [feed_bad q]
      exact h
    | some x =>
      rw [feed_more q]
      exact feed_mid bk (Mid.step bk q)
theorem feed_le {bs : List (List Nat)} : ∀ {t s : List Nat} {n : Nat}, (feedR bs s t n).2.2 ≤ n + t.length
  | [], s, n => Nat.le_refl _
  | c :: t, s, n => by
    cases q : stepR bs s c with
    | none =>
      rw [feed_bad q]
      exact Nat.le_add_right _ _
    | some x =>
      rw [feed_more q]
      have := feed_le (bs := bs) (t := t) (s := x.1) (n := n + 1)
      rw [List.length_cons]
      omega
/-- the first wrong sign -/
theorem run_place {bs : List (List Nat)} : ∀ {t s : List Nat} {n : Nat} {row : List Nat} {i : Nat}, runR bs s t n row = .inl i → ∃ s', n ≤ i ∧ feedR bs s (t.take (i - n)) n = (true, s', i) ∧ ((∃ c, t[i - n]? = some c ∧ stepR bs s' c = none) ∨ (i = n + t.length ∧ s' ≠ []))
  | [], s, n, row, i, h => by
    have h : (if s = [] then Sum.inr row else .inl n) = (.inl i : Sum Nat (List Nat)) := h
    split at h
    · cases h
    · rename_i q
      injection h with h
      subst h
      exact ⟨s, Nat.le_refl _, by rw [List.take_nil]; rfl, .inr ⟨rfl, q⟩⟩
  | c :: t, s, n, row, i, h => by
    cases q : stepR bs s c with
    | none =>
      rw [run_bad q] at h
      injection h with h
      subst h
      refine ⟨s, Nat.le_refl _, ?_, .inl ⟨c, ?_, q⟩⟩
      · rw [Nat.sub_self]
        rfl
      · rw [Nat.sub_self]
        rfl
    | some x =>
      rw [run_more q] at h
      obtain ⟨s', l, f, e⟩ := run_place h
      have e1 : i - n = (i - (n + 1)) + 1 := by omega
      refine ⟨s', by omega, ?_, ?_⟩
      · rw [e1, List.take_succ_cons, feed_more q]
        exact f
      · rcases e with ⟨d, hd, q'⟩ | ⟨hd, q'⟩
        · exact .inl ⟨d, by rw [e1, List.getElem?_cons_succ]; exact hd, q'⟩
        · exact .inr ⟨by rw [List.length_cons]; omega, q'⟩
/-- the row read writes the text -/
theorem run_back {bs : List (List Nat)} (bk : BkOk bs) : ∀ {t s : List Nat} {n : Nat} {row r : List Nat}, runR bs s t n row = .inr r → spell bs r = spell bs row ++ (s ++ t)
  | [], s, n, row, r, h => by
    have h : (if s = [] then Sum.inr row else .inl n) = (.inr r : Sum Nat (List Nat)) := h
    split at h
    · rename_i q
      injection h with h
      subst h
      rw [q, List.append_nil, List.append_nil]
    · cases h
  | c :: t, s, n, row, r, h => by
    cases q : stepR bs s c with
    | none =>
      rw [run_bad q] at h
      cases h
    | some x =>
      rw [run_more q] at h
      rw [run_back bk h, spell_app, List.append_assoc]
      congr 1
      have key : spell bs x.2.toList ++ x.1 = s ++ [c] := by
        unfold stepR at q
        split at q
        · injection q with q
          subst q
          split
          · rename_i hm
            show spell bs [bs.idxOf (s ++ [c])] ++ [] = _
            obtain ⟨i, hi⟩ := List.getElem?_of_mem hm
            rw [idx_word bk hi, spell_one hi, List.append_nil]
          · rfl
        · cases q
      rw [← List.append_assoc, key, List.append_assoc]
      rfl
theorem ends_txt (a b : List Nat) (h : b <:+ a) : Txt.endswith (txt a) (txt b) = true := by
  unfold Txt.endswith
  obtain ⟨u, rfl⟩ := h
  rw [PySem.StrLaws.subAt_eq, txt_list, txt_list, txt_length, txt_length]
  have e : (u ++ b).length - b.length = u.length := by rw [List.length_append]; omega
  rw [e, List.drop_left, List.take_length, Bool.and_eq_true]
  refine ⟨decide_eq_true ?_, beq_self_eq_true _⟩
  rw [List.length_append]
  omega
end Dear

namespace Dear
open PySem PySem.Spec PyProof.Rows L2
/-! ### the signs that can come next, told twice -/
theorem sorted_signs : ∀ {ys : List Str}, (∀ z ∈ ys, ∃ c, z = txt [c]) → sortedS ys = true → ∃ cs : List Nat, ys = cs.map (fun c => txt [c]) ∧ cs.Pairwise (· ≤ ·)
  | [], _, _ => ⟨[], rfl, .nil⟩
  | [z], h, _ => by
    obtain ⟨c, rfl⟩ := h z List.mem_cons_self
    exact ⟨[c], rfl, List.pairwise_singleton _ _⟩
  | z :: y :: r, h, s => by
    obtain ⟨c, rfl⟩ := h z List.mem_cons_self
    have s : (!ltCps y.cps.toList (txt [c]).cps.toList && risingS y r) = true := s
    rw [Bool.and_eq_true] at s
    obtain ⟨cs, e, pw⟩ := sorted_signs (ys := y :: r) (fun x hx => h x (List.mem_cons_of_mem _ hx)) s.2
    cases cs with
    | nil => cases e
    | cons d cs =>
      injection e with e1 e2
      have le : c ≤ d := by
        have s1 := s.1
        rw [e1, txt_list, txt_list] at s1
        have : (!(decide (d < c) || (d == c && ltCps [] []))) = true := s1
        by_cases q : d < c
        · rw [decide_eq_true q] at this
          cases this
        · omega
      refine ⟨c :: d :: cs, by rw [List.map_cons, List.map_cons, e1, e2], List.pairwise_cons.mpr ⟨fun x hx => ?_, pw⟩⟩
      rcases List.mem_cons.mp hx with rfl | hx
      · exact le
      · exact Nat.le_trans le ((List.pairwise_cons.mp pw).1 x hx)
theorem next_uniq {bs : List (List Nat)} {s : List Nat} {ys zs : List Str} (hy : ∀ z, z ∈ ys ↔ ∃ c, z = txt [c] ∧ goes bs (s ++ [c]) = true) (hz : ∀ z, z ∈ zs ↔ ∃ c, z = txt [c] ∧ goes bs (s ++ [c]) = true) (sy : sortedS ys = true) (sz : sortedS zs = true) (ny : ys.Nodup) (nz : zs.Nodup) : ys = zs := by
  obtain ⟨cs, rfl, pc⟩ := sorted_signs (fun z h => let ⟨c, e, _⟩ := (hy z).mp h; ⟨c, e⟩) sy
  obtain ⟨ds, rfl, pd⟩ := sorted_signs (fun z h => let ⟨c, e, _⟩ := (hz z).mp h; ⟨c, e⟩) sz
  have inj : ∀ {a b : Nat}, txt [a] = txt [b] → a = b := fun e => by
    have := txt_inj e
    injection this
  have mem : ∀ {l : List Nat} {c : Nat}, txt [c] ∈ l.map (fun c => txt [c]) ↔ c ∈ l := fun {l c} => ⟨fun h => by
    obtain ⟨d, hd, e⟩ := List.mem_map.mp h
    rw [← inj e]
    exact hd, fun h => List.mem_map.mpr ⟨c, h, rfl⟩⟩
  have nc : cs.Nodup := (List.pairwise_map.mp ny).imp fun h e => h (by rw [e])
  have nd : ds.Nodup := (List.pairwise_map.mp nz).imp fun h e => h (by rw [e])
  have pm : cs.Perm ds := (List.perm_ext_iff_of_nodup nc nd).mpr fun c => by
    rw [← mem (l := cs), ← mem (l := ds), hy, hz]
  have e : cs = ds := List.Perm.eq_of_pairwise (fun _ _ _ _ h1 h2 => Nat.le_antisymm h1 h2) pc pd pm
  rw [e]
theorem next_ok {bs : List (List Nat)} (bk : BkOk bs) {s : List Nat} {ys : List Str} (hy : ∀ z, z ∈ ys ↔ ∃ c, z = txt [c] ∧ goes bs (s ++ [c]) = true) : ∀ z ∈ ys, Ok (.str z) := fun z hz => by
  obtain ⟨c, rfl, g⟩ := (hy z).mp hz
  obtain ⟨w, hw, r, e⟩ := goes_iff.mp g
  exact (TxOk.one ((TxOk.word bk hw).lt c (by rw [← e]; simp))).ok (by decide)
theorem next_ne {bs : List (List Nat)} {s : List Nat} (md : Mid bs s) {ys : List Str} (hy : ∀ z, z ∈ ys ↔ ∃ c, z = txt [c] ∧ goes bs (s ++ [c]) = true) : ∃ c zs, ys = txt [c] :: zs := by
  obtain ⟨w, hw, hp⟩ := md.go
  obtain ⟨c, r, rfl⟩ := mid_split md hw hp
  have := (hy (txt [c])).mpr ⟨c, rfl, goes_iff.mpr ⟨_, hw, ⟨r, by rw [List.append_assoc]; rfl⟩⟩⟩
  cases ys with
  | nil => cases this
  | cons y zs =>
    obtain ⟨d, e, _⟩ := (hy y).mp List.mem_cons_self
    exact ⟨d, zs, by rw [e]⟩
theorem ok_strs : ∀ {zs : List Str}, (∀ z ∈ zs, Ok (.str z)) → OkAll (zs.map D.str)
  | [], _ => trivial
  | z :: _, h => ⟨h z List.mem_cons_self, ok_strs fun y hy => h y (List.mem_cons_of_mem _ hy)⟩
theorem dt_strZ {H : Hp} : ∀ zs : List Str, DtAll H (zs.map V.str) (zs.map D.str)
  | [] => .nil
  | _ :: zs => .cons (.str _) (dt_strZ zs)
/-! ### the law's dict of signs -/
def tk (ks : List Str) : List (Key × V) := ks.map fun z => (Sum.inr z, V.bl true)
theorem tk_put (ks : List Str) (z : Str) : putK (tk ks) (Sum.inr z) (.bl true) = tk (dd1 ks z) := by
  unfold putK dd1
  by_cases h : z ∈ ks
  · have e : ((tk ks).any fun kv => decide (kv.1 = Sum.inr z)) = true := List.any_eq_true.mpr ⟨(Sum.inr z, V.bl true), List.mem_map.mpr ⟨z, h, rfl⟩, decide_eq_true rfl⟩
    rw [if_pos e, if_pos h]
    unfold tk
    rw [List.map_map]
    refine List.map_congr_left fun y _ => ?_
    show (if Sum.inr y = (Sum.inr z : Key) then (Sum.inr y, V.bl true) else (Sum.inr y, V.bl true)) = _
    split <;> rfl
  · have e : ¬ ((tk ks).any fun kv => decide (kv.1 = Sum.inr z)) = true := fun q => by
      obtain ⟨kv, hk, e⟩ := List.any_eq_true.mp q
      obtain ⟨y, hy, rfl⟩ := List.mem_map.mp hk
      have := of_decide_eq_true e
      injection this with this
      exact h (by rw [← this]; exact hy)
    rw [if_neg e, if_neg h]
    unfold tk
    rw [List.map_append]
    rfl
theorem tk_keys (ks : List Str) : (tk ks).map (·.1) = ks.map Sum.inr := by
  unfold tk
  rw [List.map_map]
  rfl
theorem dd_snoc (xs : List Str) (z : Str) : dd (xs ++ [z]) = dd1 (dd xs) z := by
  unfold dd
  rw [List.foldl_append]
  rfl
theorem dd_len (xs : List Str) : (dd xs).length ≤ xs.length := by
  have := dd_le xs []
  simpa [dd] using this
def spNext23 : Sp := fun vs H Q _ => ∃ (b : Addr) (bs : List (List Nat)) (s : List Nat), vs = [.ref b, .str (txt s)] ∧ H b = some (.lst (vsT bs)) ∧ BkOk bs ∧ Mid bs s ∧
  ∀ (ys : List Str) (q : Addr) (H' : Hp), H q = none → Same H H' → H' q = some (.lst (ys.map V.str)) → (∀ z, z ∈ ys ↔ ∃ c, z = txt [c] ∧ goes bs (s ++ [c]) = true) → sortedS ys = true → ys.Nodup → ys.length ≤ 20 → Q (.ref q) H'
/-- the reader and the law's own notes, beside the source l -/
structure Two (C : Addr) (H : Hp) (l p q lw b : Addr) (bs : List (List Nat)) (s : List Nat) (n : Nat) : Prop where
  S : Src H l
  R : RdAt C H p lw bs s n
  t : H q = some (.tup [.ref b, .str (txt s), .int (n : Nat)])
  hb : H b = some (.lst (vsT bs))
  pl : p ≠ l
  wl : lw ≠ l
  ql : q ≠ l
  bl : b ≠ l
theorem Two.but {C : Addr} {H H' : Hp} {l p q lw b : Addr} {bs : List (List Nat)} {s : List Nat} {n : Nat} (W : Two C H l p q lw b bs s n) (B : But l H H') (S : Src H' l) : Two C H' l p q lw b bs s n := by
  obtain ⟨_, ⟨⟨dx, ob⟩, ws, md⟩, t, b1, pl, wl, ql, bl⟩ := W
  exact ⟨S, ⟨⟨dx, B _ _ ob pl⟩, B _ _ ws wl, md⟩, B _ _ t ql, B _ _ b1 bl, pl, wl, ql, bl⟩
def spLook23 (C : Addr) : Sp := fun vs H Q _ => ∃ (l p q lw b : Addr) (bs : List (List Nat)) (s : List Nat) (n : Nat), vs = [.ref l, .ref p, .ref q] ∧ Two C H l p q lw b bs s n ∧ BkOk bs ∧ ∀ H', But l H H' → Src H' l → Q (.bl true) H'
section
variable {P : Program} {w : World} {K : PySem.W.Frag} {mg : Str → Option Value} {base : Heap}
theorem o__law_next (T : Txt K mg) : OkF P w K mg base CX0 1 "_law_next" ["_law_book", "_law_since"] spNext23 := by
  refine T.f__law_next.ok c__law_next (fun vs H Q E h => ?_) (fun f cdv A outer s H vs Q E hr h => ?_)
  · obtain ⟨b, bs, s, rfl, _⟩ := h
    rfl
  · obtain ⟨b, bs, s, rfl, hb, bk, md, k⟩ := h
    refine ⟨_, (pss_cons (ps_set (i := 2) c__law_next.nd rfl (Or.inl rfl) pe_dnewK)
(pss_cons (ps_for PassesOwn.never rfl (pi_list_k K (pv 0)) (pg_name (i := 3) c__law_next.nd rfl (Or.inl rfl))
(pss_one (ps_if (pt_cmpR op_eq (pe_slice sl_str (pv 3) po_none (po_some (pe_callB call_len_str (by rfl) T.b_len PySem.boot_len (pa_cons (pv 1) pa_nil)))) (pv 1) (nomark _))
(pss_one (ps_dput (u1 hr.units) (pv 2) (pe_ix ix_str (pv 3) (pe_callB call_len_str (by rfl) T.b_len PySem.boot_len (pa_cons (pv 1) pa_nil)) (fun _ _ => rfl)) pe_bl rfl))
pss_nil)))
(pss_one (ps_ret (pe_callB (call_sortedD rfl) (by rfl) T.b_sorted (by decide +kernel) (pa_cons (pv 2) pa_nil)))))), ?_⟩
    have ls := md.len bk
    have hz : (txt s).length ≤ sizeLine := by
      rw [txt_length]
      exact sz_lit (by omega)
    have b20 := bk.l20
    refine fun pC hC => ?_
    have u1 := Same.upd (o := .dK []) hC
    refine ⟨_, rfl, b, rfl, ⟨_, SqL.of (u1 _ _ hb)⟩, for_list (K := K) (a := b) (xs := vsT bs) (fun i σ H' => Same H H' ∧ ∃ v3, σ = [some (.ref b), some (.str (txt s)), some (.ref pC), v3] ∧ H' pC = some (.dK (tk (dd (nextL (bs.take i) s))))) ⟨u1, _, rfl, upd_same⟩ (fun i σ H' _ e => SqL.of (e.1 _ _ hb)) ?_ ?_⟩
    · rintro i x σ H1 hx ⟨s1, v3, rfl, e1⟩
      obtain ⟨w, hw, rfl⟩ := vsT_get hx
      have hm := List.mem_of_getElem? hw
      have tw := TxOk.word bk hm
      refine ⟨_, rfl, _, rfl, _, rfl, hz, _, rfl, _, rfl, tw.sz (by decide), ?_⟩
      rw [cut_pre, txt_length]
      refine ⟨_, rfl, rfl, _, rfl, itd (fun ce => ?_) fun ce => ?_⟩
      · have e : s <+: w := by
          injection ce with ce
          exact List.prefix_iff_eq_take.mpr (txt_inj ce).symm
        clear ce
        obtain ⟨c, r, rfl⟩ := mid_split md hm e
        refine ⟨_, rfl, _, rfl, _, rfl, _, rfl, hz, _, _, c, rfl, rfl, tw.sz (by decide), ?_, _, _, rfl, DPut.k (k := Sum.inr (txt [c])) e1 ?_, ?_⟩
        · rw [txt_list, txt_length]
          exact atI_nat (by rw [List.getElem?_append_right (Nat.le_refl _), Nat.sub_self]; rfl)
        · unfold tk
          rw [List.length_map]
          have h1 := dd_len (nextL (bs.take i) s)
          have h2 := next_le (bs.take i) s
          rw [List.length_take] at h2
          exact small1000 (by omega)
        · rw [tk_put]
          refine ⟨fun b9 o9 hb9 => ?_, _, rfl, ?_⟩
          · rw [upd_ne (ne_of_none hb9 hC)]
            exact s1 _ _ hb9
          · rw [upd_same, take_more hw, next_yes e, getD_mid, dd_snoc]
      · have e : ¬ s <+: w := fun q => ce (by rw [← List.prefix_iff_eq_take.mp q])
        refine ⟨s1, _, rfl, ?_⟩
        rw [take_more hw, next_not e]
        exact e1
    · rintro σ H1 ⟨s1, v3, rfl, e1⟩
      rw [vsT_len, List.take_length] at e1
      have l1 := next_le bs s
      have l2 := dd_len (nextL bs s)
      refine ⟨_, rfl, pC, _, dd (nextL bs s), rfl, .inl e1, tk_keys _, by omega, fun ys q pm so hq => k ys q _ (same_none s1 hq) (s1.trans (Same.upd hq)) upd_same (fun z => ?_) so ?_ ?_⟩
      · rw [pm.mem_iff, ← next_mem md]
        unfold dd
        rw [dd_mem]
        exact ⟨fun h => h.elim (fun h => nomatch h) id, .inr⟩
      · exact pm.nodup_iff.mpr (dd_uniq _ _ List.nodup_nil)
      · rw [pm.length_eq]
        omega
theorem o__law_look (T : Txt K mg) : OkF P w K mg base CX0 2 "_law_look" ["_law_pool_here", "_law_reader", "_law_state"] (spLook23 T.A.Reader) := by
  have o__law_take := o__law_take (P := P) (w := w) (base := base) T
  have o__law_next := o__law_next (P := P) (w := w) (base := base) T
  have o_Reader_amid := o_Reader_amid (P := P) (w := w) (base := base) T
  have o_Reader_next_signs := o_Reader_next_signs (P := P) (w := w) (base := base) T
  refine T.f__law_look.ok c__law_look (fun vs H Q E h => ?_) (fun f cdv A outer s H vs Q E hr h => ?_)
  · obtain ⟨l, p, q, lw, b, bs, s, n, rfl, _⟩ := h
    rfl
  · obtain ⟨l, p, q, lw, b, bs, s, n, rfl, W, bk, k⟩ := h
    refine ⟨_, (pss_cons (ps_asg (pv 2) (pg_tup_k K (n := 3) rfl (pgs_cons (pg_name (i := 3) c__law_look.nd rfl (Or.inl rfl)) (pgs_cons (pg_name (i := 4) c__law_look.nd rfl (Or.inl rfl)) (pgs_cons (pg_name (i := 5) c__law_look.nd rfl (Or.inl rfl)) pgs_nil)))))
(pss_cons (ps_for PassesOwn.never rfl (pi_range1 (by rfl) T.b_range (pa_cons pe_int pa_nil)) (pg_name (i := 6) c__law_look.nd rfl (Or.inl rfl))
(C8.pss_cut (ps_if (pt_cmpR op_eq (pv 6) (pe_c o__law_take hr (pa_cons (pv 0) (pa_cons pe_int pa_nil))) (nomark _))
(pss_one (ps_if (PW.pt (pw_or (pt_cmpR op_ne (pe_mz o_Reader_amid T.K_Reader hr (pv 1)) (pv 4) (nomark _)) (pw_or1 (pt_not (pt_val (pe_callB (call_isi_k K) (by rfl) T.b_isinstance (by decide +kernel) (pa_cons (pe_mz o_Reader_amid T.K_Reader hr (pv 1)) (pa_cons (pe_bltn (v := .ty "str") (by rfl) T.b_str (by decide +kernel) rfl) pa_nil))))))))
(pss_one (ps_ret pe_bl))
pss_nil))
pss_nil)
(pss_cons (ps_set (i := 7) c__law_look.nd rfl (Or.inl rfl) (pe_mz o_Reader_next_signs T.K_Reader hr (pv 1)))
(C8.pss_cut (ps_if (PW.pt (pw_or (pt_not (pt_val (pe_callB (call_isi_k K) (by rfl) T.b_isinstance (by decide +kernel) (pa_cons (pv 7) (pa_cons (pe_bltn (v := .ty "list") (by rfl) T.b_list (by decide +kernel) rfl) pa_nil))))) (pw_or1 (pt_cmpR (op_neD_k K hr.units) (pv 7) (pe_c o__law_next hr (pa_cons (pv 3) (pa_cons (pv 4) pa_nil))) (nomark _)))))
(pss_one (ps_ret pe_bl))
pss_nil)
(pss_cons (ps_expr (pe_bm PySem.F.plainAttrs_list PySem.F.slot_list_append PySem.F.type_list_append mt_append (pv 7) (pa_cons pe_str pa_nil)))
(pss_one (ps_asg pe_str (pg_sub (pv 7) pe_int set_list))))))))
(pss_one (ps_ret (pe_cmpR op_eq (pe_mz o_Reader_amid T.K_Reader hr (pv 1)) (pv 4) (nomark _)))))), ?_⟩
    refine ⟨_, rfl, q, _, rfl, SqT.of W.t, rfl, _, _, rfl, _, _, rfl, _, _, rfl, rfl, ?_⟩
    refine ⟨2, rfl, by decide, by decide, for_range (lo := 0) (n := 2) (fun j σ H' => But l H H' ∧ Src H' l ∧ ∃ v6 v7, σ = [some (.ref l), some (.ref p), some (.ref q), some (.ref b), some (.str (txt s)), some (.int (n : Nat)), v6, v7]) ⟨fun _ _ e _ => e, W.S, _, _, rfl⟩ ?_ ?_⟩
    · rintro j σ H1 hj ⟨B1, S1, v6, v7, rfl⟩
      have W1 := W.but B1 S1
      refine ⟨fun σ' H' => But l H H' ∧ Src H' l ∧ σ' = [some (.ref l), some (.ref p), some (.ref q), some (.ref b), some (.str (txt s)), some (.int (n : Nat)), some (.int (0 + (j : Nat))), v7], ?_, ?_⟩
      · refine ⟨_, rfl, _, rfl, l, 2, rfl, S1, by decide, log_le 2 (by decide), fun x H2 x0 x1 B2 S2 => ⟨rfl, _, rfl, itd (fun _ => ?_) fun _ => ⟨B1.trans B2, S2, rfl⟩⟩⟩
        have W2 := W1.but B2 S2
        obtain ⟨dx2, ob2⟩ := W2.R.ob
        refine ⟨_, rfl, p, dx2, _, rfl, ob2, rdF_no _ _ _, p, lw, bs, s, n, rfl, W2.R, _, rfl, rfl, _, rfl, itnd (fun e => absurd rfl e) fun _ => ?_⟩
        exact ⟨_, rfl, p, dx2, _, rfl, ob2, rdF_no _ _ _, p, lw, bs, s, n, rfl, W2.R, _, _, _, _, _, rfl, .ty _, (Dt.str (H := H2) (txt s)).ty, kit_ty (kd_str (.str (txt s))), _, rfl, iteF ⟨B1.trans B2, S2, rfl⟩⟩
      rintro σ' H2 ⟨B2, S2, rfl⟩
      have W2 := W.but B2 S2
      obtain ⟨dx2, ob2⟩ := W2.R.ob
      refine ⟨_, rfl, p, dx2, _, rfl, ob2, rdF_no _ _ _, p, lw, bs, s, n, rfl, W2.R, bk, fun ys q9 H4 hq9 s4 e4 hm so nd ln => ?_⟩
      have okz : Ok (.lst (ys.map D.str)) := ok_strs (next_ok bk hm)
      have nod : NoD (.lst (ys.map D.str)) := noAll_of fun d hd => (strs_flat ys).2 d hd
      have sh : SeqAt.shaped (py (.lst (ys.map D.str))) = true := shaped_py okz nod (by have := depAll_le (strs_flat ys).1; show depAll _ + 1 ≤ 64; omega)
      refine ⟨fun σ' H' => Same H4 H' ∧ σ' = [some (.ref l), some (.ref p), some (.ref q), some (.ref b), some (.str (txt s)), some (.int (n : Nat)), some (.int (0 + (j : Nat))), some (.ref q9)], ?_, ?_⟩
      · have dq : ∀ {Hx : Hp}, Same H4 Hx → Dt Hx (.ref q9) (.lst (ys.map D.str)) := fun {Hx} sx => .lst (sx _ _ e4) (dt_strZ ys)
        refine ⟨_, rfl, _, _, _, _, _, rfl, .ty _, (dq (.refl _)).ty, kit_ty (kd_list (.lst (ys.map D.str))), _, rfl, iteF ?_⟩
        refine ⟨_, rfl, _, rfl, _, rfl, b, bs, s, rfl, s4 _ _ W2.hb, bk, W2.R.mid, fun zs q10 H5 hq10 s5 e5 hm5 so5 nd5 ln5 => ?_⟩
        have ez : zs = ys := next_uniq hm5 hm so5 so nd5 nd
        subst ez
        refine ⟨_, _, (dq s5).dp nod, (Dt.lst e5 (dt_strZ zs)).dp (d := .lst (zs.map D.str)) nod, sh, sh, ?_⟩
        rw [eqv_same sh]
        exact ⟨_, rfl, iteF ⟨s5, rfl⟩⟩
      rintro σ' H5 ⟨s5, rfl⟩
      have e5 := s5 _ _ e4
      refine ⟨_, rfl, .inl ⟨rfl, _, SqL.of e5⟩, q9, _, _, rfl, rfl, e5, (by rw [List.length_map]; exact small1000 (by omega)), ?_⟩
      refine ⟨_, rfl, _, _, _, _, rfl, rfl, upd_same, ixN_lt (by decide) (by rw [List.length_append]; show (0 : Int) < ((_ + 1 : Nat) : Int); omega), ?_⟩
      have n9 : q9 ≠ l := S2.ne hq9
      refine ⟨fun b9 o9 hb9 nb9 => ?_, ?_, _, _, rfl⟩
      · have h4 := s5 _ _ (s4 _ _ (B2 _ _ hb9 nb9))
        have n : b9 ≠ q9 := ne_of_none (B2 _ _ hb9 nb9) hq9
        rw [upd_ne n, upd_ne n]
        exact h4
      · obtain ⟨x, y, hl, hx, hy⟩ := (S2.same s4).same s5
        exact ⟨x, y, by rw [upd_ne n9.symm, upd_ne n9.symm]; exact hl, hx, hy⟩
    · rintro σ H1 ⟨B1, S1, v6, v7, rfl⟩
      have W1 := W.but B1 S1
      obtain ⟨dx1, ob1⟩ := W1.R.ob
      refine ⟨_, rfl, p, dx1, _, rfl, ob1, rdF_no _ _ _, p, lw, bs, s, n, rfl, W1.R, _, rfl, rfl, ?_⟩
      rw [decide_eq_true rfl]
      exact k H1 B1 S1
end
end Dear

namespace Dear
open PySem PySem.Spec PyProof.Rows L2
mutual
/-- a datum stays beside an object that changes -/
theorem Dt.bar {p C dx : Addr} {fs : List (Str × V)} {H H' : Hp} (hp : H p = some (.ins C dx fs)) (B : Bar p H H') : ∀ {v : V} {d : D}, Dt H v d → Dt H' v d
  | _, _, .non => .non
  | _, _, .bl _ => .bl _
  | _, _, .int _ => .int _
  | _, _, .str _ => .str _
  | _, _, .lst ha h => .lst (B _ _ ha (ne_of ha hp (by intro z; cases z))) (DtAll.bar hp B h)
  | _, _, .tup ha h => .tup (B _ _ ha (ne_of ha hp (by intro z; cases z))) (DtAll.bar hp B h)
  | _, _, .dct ha => .dct (B _ _ ha (ne_of ha hp (by intro z; cases z)))
theorem DtAll.bar {p C dx : Addr} {fs : List (Str × V)} {H H' : Hp} (hp : H p = some (.ins C dx fs)) (B : Bar p H H') : ∀ {vs : List V} {ds : List D}, DtAll H vs ds → DtAll H' vs ds
  | _, _, .nil => .nil
  | _, _, .cons h r => .cons (Dt.bar hp B h) (DtAll.bar hp B r)
end
def spPut23 (C : Addr) : Sp := fun vs H Q _ => ∃ (p lw : Addr) (bs : List (List Nat)) (s : List Nat) (n : Nat) (v : V) (d : D), vs = [.ref p, v] ∧ RdAt C H p lw bs s n ∧ BkOk bs ∧ n ≤ 1000000 ∧ Dt H v d ∧ Ok d ∧
  (∀ x, putR bs s d = some x → ∀ (t : Addr) (H' : Hp), RdAt C H' p lw bs x.1 (n + 1) → Bar p H H' → H t = none → H' t = some (.tup [.str "told", numV x.2]) → Q (.ref t) H') ∧
  (putR bs s d = none → ∀ (t : Addr) (H' : Hp), Same H H' → H t = none → H' t = some (.tup [.str "place", .int (n : Nat)]) → Q (.ref t) H')
def spSign23 : Sp := fun vs H Q _ => ∃ (l q b : Addr) (bs : List (List Nat)) (s : List Nat) (n : Nat), vs = [.ref l, .ref q] ∧ Src H l ∧ H q = some (.tup [.ref b, .str (txt s), .int (n : Nat)]) ∧ H b = some (.lst (vsT bs)) ∧ BkOk bs ∧ Mid bs s ∧ b ≠ l ∧
  ∀ (v : V) (d : D) (H' : Hp), But l H H' → Src H' l → Dt (Off l H') v d → Ok d → Q v H'
section
variable {P : Program} {w : World} {K : PySem.W.Frag} {mg : Str → Option Value} {base : Heap}
theorem o__law_put (T : Txt K mg) : OkF P w K mg base CX0 4 "_law_put" ["_law_reader", "_law_sign_here"] (spPut23 T.A.Reader) := by
  have o_Reader_put_sign := o_Reader_put_sign (P := P) (w := w) (base := base) T
  refine T.f__law_put.ok c__law_put (fun vs H Q E h => ?_) (fun f cdv A outer s H vs Q E hr h => ?_)
  · obtain ⟨p, lw, bs, s, n, v, d, rfl, _⟩ := h
    rfl
  · obtain ⟨p, lw, bs, s, n, v, d, rfl, R, bk, n9, hd, okd, k1, k2⟩ := h
    refine ⟨_, (pss_one (ps_tryA (i := 2) rfl rfl c__law_put.nd rfl rfl ⟨rfl, by decide, Or.inl T.C_BadSign⟩ takes0 (fun W pn xe tk _ =>
(pss_one (ps_ret (pe_tup (pa_cons pe_str (pa_cons (pe_mx o_Reader_put_sign T.K_Reader hr tk (pv 0) (pa_cons (pv 1) pa_nil)) pa_nil))))))
(fun a oe cls d pn hz hf =>
(pss_one (ps_ret (pe_tup (pa_cons pe_str (pa_cons (pe_xf (XfC.of T.X_BadSign.c) T.X_BadSign.n hz hf (pv 2)) pa_nil)))))))), ?_⟩
    have two : 2 ≤ sizeLine := by decide
    obtain ⟨dx, ob⟩ := R.ob
    refine ⟨_, rfl, p, dx, _, rfl, ob, rdF_no _ _ _, _, rfl, p, lw, bs, s, n, v, d, rfl, R, bk, n9, hd, okd, fun x hx H1 R1 B1 => ?_, fun e dd H1 s1 hdd hx => ?_⟩
    · refine ⟨two, fun t ht => ?_⟩
      have ut := Same.upd (o := .tup [.str "told", numV x.2]) ht
      refine k1 x hx t _ (R1.same ut) (B1.trans (Bar.of ut)) ?_ upd_same
      cases q : H t with
      | none => rfl
      | some o =>
        by_cases e : t = p
        · obtain ⟨dx1, ob1⟩ := R1.ob
          rw [e, ob1] at ht
          cases ht
        · rw [B1 _ _ q e] at ht
          cases ht
    · have lk : List.lookup ("place" : Str) [(("place" : Str), V.int (n : Nat))] = some (V.int (n : Nat)) := by simp [List.lookup]
      refine ⟨true, T.e_BadSign, fun _ a ha => ?_, fun q => nomatch q⟩
      exact ⟨_, rfl, rfl, rfl, dd, _, _, rfl, hx, lk, two, fun t ht => k2 e t _ (s1.trans (Same.upd ht)) (same_none s1 ht) upd_same⟩
theorem o__law_sign (T : Txt K mg) : OkF P w K mg base CX0 2 "_law_sign" ["_law_pool_here", "_law_state"] spSign23 := by
  have o__law_take := o__law_take (P := P) (w := w) (base := base) T
  have o__law_next := o__law_next (P := P) (w := w) (base := base) T
  refine T.f__law_sign.ok c__law_sign (fun vs H Q E h => ?_) (fun f cdv A outer s H vs Q E hr h => ?_)
  · obtain ⟨l, q, b, bs, s, n, rfl, _⟩ := h
    rfl
  · obtain ⟨l, q, b, bs, s, n, rfl, S, hq, hb, bk, md, bl, k⟩ := h
    refine ⟨_, (pss_cons (ps_set (i := 2) c__law_sign.nd rfl (Or.inl rfl) (pe_c o__law_next hr (pa_cons (pe_ix (ix_tup_k K) (pv 1) pe_int (fun _ _ => rfl)) (pa_cons (pe_ix (ix_tup_k K) (pv 1) pe_int (fun _ _ => rfl)) pa_nil))))
(pss_cons (ps_if (pt_cmpR op_gt (pe_c o__law_take hr (pa_cons (pv 0) (pa_cons pe_int pa_nil))) pe_int (nomark _))
(pss_one (ps_ret (pe_ix (ix_list_k K) (pv 2) (pe_c o__law_take hr (pa_cons (pv 0) (pa_cons (pe_callB (call_len_seq_k K) (by rfl) T.b_len PySem.boot_len (pa_cons (pv 2) pa_nil)) pa_nil))) (fun _ _ => rfl))))
pss_nil)
(pss_cons (ps_if (pt_cmpR op_eq (pe_c o__law_take hr (pa_cons (pv 0) (pa_cons pe_int pa_nil))) pe_int (nomark _))
(pss_one (ps_ret (pe_ix ix_str pe_str (pe_c o__law_take hr (pa_cons (pv 0) (pa_cons pe_int pa_nil))) (fun _ _ => rfl))))
pss_nil)
(pss_cons (ps_set (i := 3) c__law_sign.nd rfl (Or.inl rfl) (pe_lst (pa_cons pe_str (pa_cons pe_str (pa_cons pe_str (pa_cons pe_non (pa_cons pe_int (pa_cons pe_bl (pa_cons (pe_op op_add_str (pe_ix (ix_list_k K) (pv 2) pe_int (fun _ _ => rfl)) (pe_ix (ix_list_k K) (pv 2) pe_int (fun _ _ => rfl))) (pa_cons (pe_lst (pa_cons (pe_ix (ix_list_k K) (pv 2) pe_int (fun _ _ => rfl)) pa_nil)) (pa_cons pe_str (pa_cons (pe_tup (pa_cons (pe_lst pa_nil) pa_nil)) (pa_cons pe_dnewK pa_nil)))))))))))))
(pss_one (ps_ret (pe_ix (ix_list_k K) (pv 3) (pe_c o__law_take hr (pa_cons (pv 0) (pa_cons pe_int pa_nil))) (fun _ _ => rfl)))))))), ?_⟩
    refine ⟨_, rfl, _, _, _, _, rfl, rfl, SqT.of hq, rfl, _, rfl, _, _, _, _, rfl, rfl, SqT.of hq, rfl, b, bs, s, rfl, hb, bk, md, fun ys q1 H1 hq1 s1 e1 hm so nd ln => ?_⟩
    have S1 := S.same s1
    have n1 : q1 ≠ l := S.ne hq1
    have oky := next_ok bk hm
    obtain ⟨c, zs, ey⟩ := next_ne md hm
    have okc : Ok (.str (txt [c])) := oky _ (by rw [ey]; exact List.mem_cons_self)
    have yl : (ys.map V.str).length = ys.length := List.length_map _
    have y1 : 1 ≤ ys.length := by rw [ey]; exact Nat.succ_le_succ (Nat.zero_le _)
    refine ⟨_, rfl, l, 4, rfl, S1, by decide, log_le 4 (by decide), fun r2 H2 r20 r21 B2 S2 => ⟨_, _, rfl, rfl, _, rfl, itd (fun _ => ?_) fun _ => ?_⟩⟩
    · have e2 := B2 _ _ e1 n1
      refine ⟨_, rfl, _, rfl, _, rfl, q1, _, rfl, .inl (SqL.of e2), l, _, rfl, S2, by omega, log_le 20 (by omega), fun r3 H3 r30 r31 B3 S3 => ?_⟩
      obtain ⟨v, hv, hvm, hv2⟩ := at_lt (xs := ys.map V.str) r30 (by omega)
      obtain ⟨z, hz, rfl⟩ := List.mem_map.mp hvm
      exact ⟨_, _, _, _, rfl, rfl, SqL.of (B3 _ _ e2 n1), hv, k _ (.str z) H3 ((But.of s1).trans (B2.trans B3)) S3 (.str _) (oky z hz)⟩
    refine ⟨_, rfl, l, 2, rfl, S2, by decide, log_le 2 (by decide), fun r3 H3 r30 r31 B3 S3 => ⟨rfl, _, rfl, itd (fun _ => ?_) fun _ => ?_⟩⟩
    · refine ⟨_, rfl, l, 26, rfl, S3, by decide, log_le 26 (by decide), fun r4 H4 r40 r41 B4 S4 => ?_⟩
      obtain ⟨rn, rfl⟩ := Int.eq_ofNat_of_zero_le r40
      have z26 : letters.length ≤ sizeLine := by decide +kernel
      exact ⟨letters, (rn : Int), letN rn, rfl, rfl, z26, letN_atI (by omega), k _ (.str (txt [letN rn])) H4 ((But.of s1).trans ((B2.trans B3).trans B4)) S4 (.str _) ((TxOk.one (in_letters_asc (letN_mem (by omega)))).ok (by decide))⟩
    have e3 := B3 _ _ (B2 _ _ e1 n1) n1
    have hat : atI (ys.map V.str) 0 = some (.str (txt [c])) := by
      rw [ey]
      exact atI_nat (xs := (txt [c] :: zs).map V.str) (j := 0) rfl
    refine ⟨_, rfl, _, _, _, _, rfl, rfl, SqL.of e3, hat, _, rfl, _, _, _, _, rfl, rfl, SqL.of e3, hat, _, _, rfl, rfl, (by show 1 + 1 ≤ sizeLine; decide), ?_⟩
    rw [txt_app]
    refine ⟨_, rfl, _, _, _, _, rfl, rfl, SqL.of e3, hat, (by show 1 ≤ sizeLine; decide), fun t1 ht1 => ?_⟩
    have u1 := Same.upd (o := .lst [.str (txt [c])]) ht1
    refine ⟨(by show 0 ≤ sizeLine; decide), fun t2 ht2 => ?_⟩
    have u2 := Same.upd (o := .lst []) ht2
    refine ⟨(by show 1 ≤ sizeLine; decide), fun t3 ht3 => ?_⟩
    have u3 := Same.upd (o := .tup [.ref t2]) ht3
    refine fun t4 ht4 => ?_
    have u4 := Same.upd (o := .dK []) ht4
    refine ⟨(by show 11 ≤ sizeLine; decide), fun pL hL => ?_⟩
    have u5 := Same.upd (o := .lst [.str "", .str " ", .str "A", .non, .int 5, .bl true, .str (txt ([c] ++ [c])), .ref t1, .str "\n", .ref t3, .ref t4]) hL
    have s35 := (((u1.trans u2).trans u3).trans u4).trans u5
    have E1 := u5 _ _ (u4 _ _ (u3 _ _ (u2 _ _ (upd_same (H := H3) (a := t1) (o := .lst [.str (txt [c])])))))
    have E2 := u5 _ _ (u4 _ _ (u3 _ _ (upd_same (H := upd H3 t1 (.lst [.str (txt [c])])) (a := t2) (o := .lst []))))
    have E3 := u5 _ _ (u4 _ _ (upd_same (H := upd (upd H3 t1 (.lst [.str (txt [c])])) t2 (.lst [])) (a := t3) (o := .tup [.ref t2])))
    have E4 := u5 _ _ (upd_same (H := upd (upd (upd H3 t1 (.lst [.str (txt [c])])) t2 (.lst [])) t3 (.tup [.ref t2])) (a := t4) (o := .dK []))
    have E5 := upd_same (H := upd (upd (upd (upd H3 t1 (.lst [.str (txt [c])])) t2 (.lst [])) t3 (.tup [.ref t2])) t4 (.dK [])) (a := pL) (o := .lst [.str "", .str " ", .str "A", .non, .int 5, .bl true, .str (txt ([c] ++ [c])), .ref t1, .str "\n", .ref t3, .ref t4])
    have m1 : t1 ≠ l := S3.ne ht1
    have m2 : t2 ≠ l := (S3.same u1).ne ht2
    have m3 : t3 ≠ l := ((S3.same u1).same u2).ne ht3
    have m4 : t4 ≠ l := (((S3.same u1).same u2).same u3).ne ht4
    have m5 : pL ≠ l := ((((S3.same u1).same u2).same u3).same u4).ne hL
    generalize upd (upd (upd (upd (upd H3 t1 (.lst [.str (txt [c])])) t2 (.lst [])) t3 (.tup [.ref t2])) t4 (.dK [])) pL (.lst [.str "", .str " ", .str "A", .non, .int 5, .bl true, .str (txt ([c] ++ [c])), .ref t1, .str "\n", .ref t3, .ref t4]) = H5 at s35 E1 E2 E3 E4 E5 ⊢
    have S5 := S3.same s35
    have dall : DtAll (Off l H5) [.str "", .str " ", .str "A", .non, .int 5, .bl true, .str (txt ([c] ++ [c])), .ref t1, .str "\n", .ref t3, .ref t4] [.str "", .str " ", .str "A", .non, .int 5, .bl true, .str (txt ([c] ++ [c])), .lst [.str (txt [c])], .str "\n", .tup [.lst []], .dct] :=
      .cons (.str _) (.cons (.str _) (.cons (.str _) (.cons .non (.cons (.int _) (.cons (.bl _) (.cons (.str _) (.cons (.lst (by rw [off_ne m1]; exact E1) (.cons (.str _) .nil)) (.cons (.str _) (.cons (.tup (by rw [off_ne m3]; exact E3) (.cons (.lst (by rw [off_ne m2]; exact E2) .nil) .nil)) (.cons (.dct (by rw [off_ne m4]; exact E4)) .nil))))))))))
    have c128 : c < 128 := okc.2 c (by rw [txt_list]; exact List.mem_cons_self)
    have okcc : Ok (.str (txt ([c] ++ [c]))) := ((TxOk.one c128).app (TxOk.one c128)).ok (by decide)
    refine ⟨_, rfl, _, rfl, l, 11, rfl, S5, by decide, log_le 11 (by decide), fun r6 H6 r60 r61 B6 S6 => ?_⟩
    obtain ⟨zs7, v, d, g1, g2, g3, g4, hm⟩ := pick (.lst (by rw [off_ne m5]; exact E5) dall) ⟨okS, okS, okS, trivial, okI, trivial, okcc, ⟨okc, trivial⟩, okS, ⟨trivial, trivial⟩, trivial, trivial⟩ B6 r60 r61
    exact ⟨_, _, _, v, rfl, rfl, SqL.of g1, g2, k v d H6 (((But.of s1).trans ((B2.trans B3).trans (.of s35))).trans B6) S6 g3 g4⟩
end
end Dear

namespace Dear
open PySem PySem.Spec PyProof.Rows L2
/-- all but these two stay -/
abbrev Bar2 (l p : Addr) (H H' : Hp) : Prop := ∀ b o, H b = some o → b ≠ l → b ≠ p → H' b = some o
theorem Bar2.trans {l p : Addr} {H H1 H2 : Hp} (a : Bar2 l p H H1) (b : Bar2 l p H1 H2) : Bar2 l p H H2 := fun x o e n m => b _ _ (a _ _ e n m) n m
theorem Bar2.but {l p : Addr} {H H1 : Hp} (a : But l H H1) : Bar2 l p H H1 := fun x o e n _ => a _ _ e n
theorem Bar2.bar {l p : Addr} {H H1 : Hp} (a : Bar p H H1) : Bar2 l p H H1 := fun x o e _ m => a _ _ e m
theorem Bar2.of {l p : Addr} {H H1 : Hp} (a : Same H H1) : Bar2 l p H H1 := fun x o e _ _ => a _ _ e
def numD : Option Nat → D
  | none => .non
  | some k => .int (k : Nat)
theorem dt_num {H : Hp} : ∀ o : Option Nat, Dt H (numV o) (numD o)
  | none => .non
  | some _ => .int _
def spSteps23 (C : Addr) : Sp := fun vs H Q _ => ∃ (l p q lw b : Addr) (bs : List (List Nat)) (s : List Nat) (n : Nat), vs = [.ref l, .ref p, .ref q] ∧ Two C H l p q lw b bs s n ∧ BkOk bs ∧ n ≤ 5000 ∧
  ∀ (q' : Addr) (s' : List Nat) (n' : Nat) (H' : Hp), Bar2 l p H H' → Two C H' l p q' lw b bs s' n' → n' ≤ n + 10 → Q (.ref q') H'
theorem Two.nbp {C : Addr} {H : Hp} {l p q lw b : Addr} {bs : List (List Nat)} {s : List Nat} {n : Nat} (W : Two C H l p q lw b bs s n) : b ≠ p ∧ q ≠ p ∧ lw ≠ p := by
  obtain ⟨dx, ob⟩ := W.R.ob
  exact ⟨ne_of W.hb ob (by intro z; cases z), ne_of W.t ob (by intro z; cases z), ne_of W.R.ws ob (by intro z; cases z)⟩
theorem Src.bar {p l : Addr} {H H' : Hp} (S : Src H l) (B : Bar p H H') (n : l ≠ p) : Src H' l := by
  obtain ⟨x, y, hl, hx⟩ := S
  exact ⟨x, y, B _ _ hl n, hx⟩
/-- a sign that can come is one that is taken -/
theorem put_in {bs : List (List Nat)} {s : List Nat} {d : D} {x : List Nat × Option Nat} (h : putR bs s d = some x) : ∃ c, d = .str (txt [c]) ∧ stepR bs s c = some x ∧ goes bs (s ++ [c]) = true := by
  unfold putR at h
  cases d with
  | str z =>
    by_cases e : z.length = 1
    · obtain ⟨c, rfl⟩ := sign_one e
      have h : stepR bs s c = some x := h
      refine ⟨c, rfl, h, ?_⟩
      unfold stepR at h
      split at h
      · rename_i g
        exact g
      · cases h
    · rw [sign_none e] at h
      cases h
  | _ => cases h
theorem in_put {bs : List (List Nat)} {s : List Nat} {d : D} {ys : List Str} (hy : ∀ z, z ∈ ys ↔ ∃ c, z = txt [c] ∧ goes bs (s ++ [c]) = true) : inD d ys = (putR bs s d).isSome := by
  cases e : putR bs s d with
  | some x =>
    obtain ⟨c, rfl, _, g⟩ := put_in e
    exact decide_eq_true ((hy _).mpr ⟨c, rfl, g⟩)
  | none =>
    cases d with
    | str z =>
      refine decide_eq_false fun h => ?_
      obtain ⟨c, rfl, g⟩ := (hy z).mp h
      have e : stepR bs s c = none := e
      unfold stepR at e
      rw [g, if_pos rfl] at e
      cases e
    | _ => rfl
theorem num_facts {bs : List (List Nat)} (bk : BkOk bs) {s : List Nat} {d : D} {x : List Nat × Option Nat} (h : putR bs s d = some x) : Ok (numD x.2) ∧ NoD (numD x.2) ∧ dep (numD x.2) ≤ 1 := by
  obtain ⟨c, rfl, hst, g⟩ := put_in h
  have l20 := bk.l20
  by_cases hm : s ++ [c] ∈ bs
  · rw [step_mem hm] at hst
    injection hst with hst
    subst hst
    have := num_lt hm
    exact ⟨lt300 (Nat.lt_of_lt_of_le (show ((bs.idxOf (s ++ [c]) : Nat) : Int).natAbs < 2 ^ 20 by omega) (by decide)), trivial, Nat.zero_le _⟩
  · rw [step_mid hm g] at hst
    injection hst with hst
    subst hst
    exact ⟨trivial, trivial, Nat.zero_le _⟩
section
variable {P : Program} {w : World} {K : PySem.W.Frag} {mg : Str → Option Value} {base : Heap}
theorem o__law_steps (T : Txt K mg) : OkF P w K mg base CX0 5 "_law_steps" ["_law_pool_here", "_law_reader", "_law_state"] (spSteps23 T.A.Reader) := by
  have o__law_take := o__law_take (P := P) (w := w) (base := base) T
  have o__law_next := o__law_next (P := P) (w := w) (base := base) T
  have o__law_sign := o__law_sign (P := P) (w := w) (base := base) T
  have o__law_put := o__law_put (P := P) (w := w) (base := base) T
  have o__law_look := o__law_look (P := P) (w := w) (base := base) T
  refine T.f__law_steps.ok c__law_steps (fun vs H Q E h => ?_) (fun f cdv A outer s H vs Q E hr h => ?_)
  · obtain ⟨l, p, q, lw, b, bs, s, n, rfl, _⟩ := h
    rfl
  · obtain ⟨l, p, q, lw, b, bs, s, n, rfl, W, bk, n9, k⟩ := h
    refine ⟨_, (pss_cons (ps_for PassesOwn.never rfl (pi_range1 (by rfl) T.b_range (pa_cons (pe_c o__law_take hr (pa_cons (pv 0) (pa_cons pe_int pa_nil))) pa_nil)) (pg_name (i := 3) c__law_steps.nd rfl (Or.inl rfl))
(pss_cons (ps_asg (pv 2) (pg_tup_k K (n := 3) rfl (pgs_cons (pg_name (i := 4) c__law_steps.nd rfl (Or.inl rfl)) (pgs_cons (pg_name (i := 5) c__law_steps.nd rfl (Or.inl rfl)) (pgs_cons (pg_name (i := 6) c__law_steps.nd rfl (Or.inl rfl)) pgs_nil)))))
(pss_cons (ps_set (i := 7) c__law_steps.nd rfl (Or.inl rfl) (pe_c o__law_sign hr (pa_cons (pv 0) (pa_cons (pv 2) pa_nil))))
(pss_cons (ps_set (i := 8) c__law_steps.nd rfl (Or.inl rfl) (pe_c o__law_put hr (pa_cons (pv 1) (pa_cons (pv 7) pa_nil))))
(C8.pss_cut (ps_if (pt_cmpR (op_inT K hr.units) (pv 7) (pe_c o__law_next hr (pa_cons (pv 4) (pa_cons (pv 5) pa_nil))) rfl)
(pss_cons (ps_set (i := 9) c__law_steps.nd rfl (Or.inl rfl) pe_non)
(pss_cons (ps_set (i := 5) c__law_steps.nd rfl (Or.inl rfl) (pe_op op_add_str (pv 5) (pv 7)))
(C8.pss_cut (ps_if (pt_cmpR (op_in_seq_k K) (pv 5) (pv 4) rfl)
(pss_cons (ps_set (i := 9) c__law_steps.nd rfl (Or.inl rfl) (pe_bm PySem.F.plainAttrs_list PySem.F.slot_list_index PySem.F.type_list_index (mt_index_k K) (pv 4) (pa_cons (pv 5) pa_nil)))
(pss_one (ps_set (i := 5) c__law_steps.nd rfl (Or.inl rfl) pe_str)))
pss_nil)
(pss_cons (ps_set (i := 2) c__law_steps.nd rfl (Or.inl rfl) (pe_tup (pa_cons (pv 4) (pa_cons (pv 5) (pa_cons (pe_op op_add (pv 6) pe_int) pa_nil)))))
(pss_one (ps_if (PW.pt (pw_or (pt_cmpR (op_neD_k K hr.units) (pv 8) (pe_tup (pa_cons pe_str (pa_cons (pv 9) pa_nil))) (nomark _)) (pw_or1 (pt_val (pe_callB (call_isi_k K) (by rfl) T.b_isinstance (by decide +kernel) (pa_cons (pe_ix (ix_tup_k K) (pv 8) pe_int (fun _ _ => rfl)) (pa_cons (pe_bltn (v := .ty "bool") (by rfl) T.b_bool (by decide +kernel) rfl) pa_nil)))))))
(pss_one (ps_ret pe_non))
pss_nil))))))
(pss_one (ps_if (PW.pt (pw_or (pt_cmpR (op_neD_k K hr.units) (pv 8) (pe_tup (pa_cons pe_str (pa_cons (pv 6) pa_nil))) (nomark _)) (pw_or1 (pt_val (pe_callB (call_isi_k K) (by rfl) T.b_isinstance (by decide +kernel) (pa_cons (pe_ix (ix_tup_k K) (pv 8) pe_int (fun _ _ => rfl)) (pa_cons (pe_bltn (v := .ty "bool") (by rfl) T.b_bool (by decide +kernel) rfl) pa_nil)))))))
(pss_one (ps_ret pe_non))
pss_nil)))
(pss_one (ps_if (pt_not (pt_val (pe_c o__law_look hr (pa_cons (pv 0) (pa_cons (pv 1) (pa_cons (pv 2) pa_nil))))))
(pss_one (ps_ret pe_non))
pss_nil)))))))
(pss_one (ps_ret (pv 2)))), ?_⟩
    have two : 2 ≤ sizeLine := by decide
    have e0 : ("" : Str) = txt [] := by decide +kernel
    refine ⟨_, rfl, l, 11, rfl, W.S, by decide, log_le 11 (by decide), fun m H1 m0 m1 B1 S1 => ⟨_, rfl, by omega, by omega, for_range (lo := 0) (n := m.toNat) (fun j σ H' => Bar2 l p H H' ∧ ∃ (q' : Addr) (s' : List Nat) (n' : Nat) (v3 v4 v5 v6 v7 v8 v9 : Option V), σ = [some (.ref l), some (.ref p), some (.ref q'), v3, v4, v5, v6, v7, v8, v9] ∧ Two T.A.Reader H' l p q' lw b bs s' n' ∧ n' ≤ n + j)
      ⟨Bar2.but B1, q, s, n, _, _, _, _, _, _, _, rfl, W.but B1 S1, Nat.le_refl _⟩ ?_ ?_⟩⟩
    · rintro j σ H2 hj ⟨B2, q, s, n2, v3, v4, v5, v6, v7, v8, v9, rfl, W2, hn⟩
      obtain ⟨nbp, nqp, nwp⟩ := W2.nbp
      have md := W2.R.mid
      have ls := md.len bk
      refine ⟨_, rfl, q, _, rfl, SqT.of W2.t, rfl, _, _, rfl, _, _, rfl, _, _, rfl, rfl, ?_⟩
      refine ⟨_, rfl, _, rfl, l, q, b, bs, s, n2, rfl, W2.S, W2.t, W2.hb, bk, md, W2.bl, fun v d H3 B3 S3 hd okd => ?_⟩
      have W3 := W2.but B3 S3
      have B23 : Bar2 l p H H3 := B2.trans (Bar2.but B3)
      obtain ⟨dx3, ob3⟩ := W3.R.ob
      have nlp : l ≠ p := W2.pl.symm
      -- the state behind the sign
      refine ⟨_, rfl, _, rfl, p, lw, bs, s, n2, v, d, rfl, W3.R, bk, by omega, hd.on, okd, fun x hx t H4 R4 B4 ht0 ht => ?_, fun hx t H4 s4 ht0 ht => ?_⟩
      · -- taken
        have S4 := S3.bar B4 nlp
        have hb4 := B4 _ _ W3.hb nbp
        have tl : t ≠ l := S3.ne ht0
        have tp : t ≠ p := fun e => by
          rw [e, ob3] at ht0
          cases ht0
        refine ⟨fun σ' H' => Bar2 l p H H' ∧ ∃ (q' : Addr) (s' : List Nat) (n' : Nat) (v3 v4 v5 v6 v7 v8 v9 : Option V), σ' = [some (.ref l), some (.ref p), some (.ref q'), v3, v4, v5, v6, v7, v8, v9] ∧ Two T.A.Reader H' l p q' lw b bs s' n' ∧ n' ≤ n + (j + 1), ?_, ?_⟩
        · refine ⟨_, rfl, _, rfl, _, rfl, b, bs, s, rfl, hb4, bk, md, fun ys q5 H5 hq5 s5 e5 hm so nd ln => ?_⟩
          have hd5 : Dt H5 v d := ((hd.on).bar ob3 B4).same s5
          refine ⟨d, q5, ys, hd5, rfl, SqL.of e5, ?_⟩
          rw [in_put hm, hx]
          refine ⟨_, rfl, iteT ?_⟩
          obtain ⟨c, rfl, hst, g⟩ := put_in hx
          cases hd5
          refine ⟨_, rfl, _, rfl, _, _, rfl, rfl, ?_, ?_⟩
          · rw [txt_length]
            exact sz_lit (by show s.length + 1 ≤ 1000; omega)
          rw [txt_app]
          have hb5 := s5 _ _ hb4
          refine ⟨fun σ' H' => H' = H5 ∧ σ' = [some (.ref l), some (.ref p), some (.ref q), some (.int (0 + (j : Nat))), some (.ref b), some (.str (txt x.1)), some (.int (n2 : Nat)), some (.str (txt [c])), some (.ref t), some (numV x.2)], ?_, ?_⟩
          · refine ⟨_, rfl, _, rfl, b, (bs.map txt).map V.str, rfl, .inl (SqL.of (by rw [← vsT_map]; exact hb5)), rfl, flat_str _, ?_⟩
            rw [inV_strs]
            by_cases hm2 : s ++ [c] ∈ bs
            · rw [decide_eq_true (mem_txt.mpr hm2)]
              refine ⟨_, rfl, iteT ?_⟩
              rw [step_mem hm2] at hst
              injection hst with hst
              subst hst
              refine ⟨_, rfl, .inl ⟨rfl, _, SqL.of hb5⟩, _, rfl, ?_⟩
              dsimp only [tNil, tCons]
              refine index_bk bk hm2 hb5 ⟨rfl, ?_⟩
              rw [e0]
              rfl
            · rw [decide_eq_false fun h => hm2 (mem_txt.mp h)]
              rw [step_mid hm2 g] at hst
              injection hst with hst
              subst hst
              exact ⟨_, rfl, iteF ⟨rfl, rfl⟩⟩
          rintro σ' H6 ⟨rfl, rfl⟩
          refine ⟨_, rfl, _, rfl, _, rfl, _, _, rfl, rfl, (by show 3 ≤ sizeLine; decide), fun q' hq' => ?_⟩
          have u6 := Same.upd (o := .tup [.ref b, .str (txt x.1), .int ((n2 + 1 : Nat) : Int)]) hq'
          have e6 : (upd H6 q' (.tup [.ref b, .str (txt x.1), .int ((n2 + 1 : Nat) : Int)])) q' = some (.tup [.ref b, .str (txt x.1), .int ((n2 + 1 : Nat) : Int)]) := upd_same
          have S6 := S4.same s5
          have ql' : q' ≠ l := S6.ne hq'
          have ht6 := u6 _ _ (s5 _ _ ht)
          have s46 := s5.trans u6
          dsimp only
          rw [show ((n2 : Nat) : Int) + 1 = ((n2 + 1 : Nat) : Int) from rfl]
          generalize upd H6 q' (.tup [.ref b, .str (txt x.1), .int ((n2 + 1 : Nat) : Int)]) = H7 at u6 e6 ht6 s46 ⊢
          refine ⟨_, rfl, _, rfl, two, fun t2 ht2 => ?_⟩
          have u8 := Same.upd (o := .tup [.str "told", numV x.2]) ht2
          obtain ⟨f1, f2, f3⟩ := num_facts bk hx
          have sh : SeqAt.shaped (py (.tup [.str "told", numD x.2])) = true := shaped_py (d := .tup [.str "told", numD x.2]) ⟨okS, f1, trivial⟩ ⟨trivial, f2, trivial⟩ (by show max 0 (max (dep (numD x.2)) 0) + 1 ≤ 64; omega)
          refine ⟨_, _, (Dt.tup (u8 _ _ ht6) (.cons (.str _) (.cons (dt_num x.2) .nil))).dp (d := .tup [.str "told", numD x.2]) ⟨trivial, f2, trivial⟩, (Dt.tup upd_same (.cons (.str _) (.cons (dt_num x.2) .nil))).dp (d := .tup [.str "told", numD x.2]) ⟨trivial, f2, trivial⟩, sh, sh, ?_⟩
          rw [eqv_same sh]
          refine ⟨_, rfl, iteF ?_⟩
          have nb : isBl (numD x.2) = false := by cases x.2 <;> rfl
          have kb := kd_bool (numD x.2)
          rw [nb] at kb
          refine ⟨_, rfl, _, _, _, _, rfl, rfl, SqT.of (u8 _ _ ht6), rfl, _, _, _, _, _, rfl, .ty _, (dt_num x.2).ty, kit_ty kb, _, rfl, iteF ?_⟩
          have s48 := s46.trans u8
          have hb8 := s48 _ _ hb4
          exact ⟨B23.trans ((Bar2.bar B4).trans (Bar2.of s48)), q', x.1, n2 + 1, _, _, _, _, _, _, _, rfl, ⟨S4.same s48, R4.same s48, u8 _ _ e6, hb8, W2.pl, W2.wl, ql', W2.bl⟩, by omega⟩
        rintro σ' H6 ⟨B6, q', s', n', v3, v4, v5, v6, v7, v8, v9, rfl, W6, hn6⟩
        exact ⟨_, rfl, _, rfl, _, rfl, l, p, q', lw, b, bs, s', n', rfl, W6, bk, fun H7 B7 S7 => ⟨_, rfl, iteF ⟨B6.trans (Bar2.but B7), q', s', n', _, _, _, _, _, _, _, rfl, W6.but B7 S7, hn6⟩⟩⟩
      · -- refused
        have S4 := S3.same s4
        have W4 := W3.but (But.of s4) S4
        refine ⟨fun σ' H' => Bar2 l p H H' ∧ ∃ (q' : Addr) (s' : List Nat) (n' : Nat) (v3 v4 v5 v6 v7 v8 v9 : Option V), σ' = [some (.ref l), some (.ref p), some (.ref q'), v3, v4, v5, v6, v7, v8, v9] ∧ Two T.A.Reader H' l p q' lw b bs s' n' ∧ n' ≤ n + (j + 1), ?_, ?_⟩
        · refine ⟨_, rfl, _, rfl, _, rfl, b, bs, s, rfl, W4.hb, bk, md, fun ys q5 H5 hq5 s5 e5 hm so nd ln => ?_⟩
          refine ⟨d, q5, ys, (hd.on.same s4).same s5, rfl, SqL.of e5, ?_⟩
          rw [in_put hm, hx]
          refine ⟨_, rfl, iteF ?_⟩
          refine ⟨_, rfl, _, rfl, two, fun t2 ht2 => ?_⟩
          have u8 := Same.upd (o := .tup [.str "place", .int (n2 : Nat)]) ht2
          have s48 := s5.trans u8
          have ok2 : Ok (.tup [.str "place", .int (n2 : Nat)]) := ⟨okS, lt300 (Nat.lt_of_lt_of_le (show ((n2 : Nat) : Int).natAbs < 2 ^ 20 by omega) (by decide)), trivial⟩
          have no2 : NoD (.tup [.str "place", .int (n2 : Nat)]) := ⟨trivial, trivial, trivial⟩
          have sh : SeqAt.shaped (py (.tup [.str "place", .int (n2 : Nat)])) = true := shaped_py ok2 no2 (by show max 0 (max 0 0) + 1 ≤ 64; decide)
          refine ⟨_, _, (Dt.tup (s48 _ _ ht) (.cons (.str _) (.cons (.int _) .nil))).dp no2, (Dt.tup upd_same (.cons (.str _) (.cons (.int _) .nil))).dp no2, sh, sh, ?_⟩
          rw [eqv_same sh]
          refine ⟨_, rfl, iteF ?_⟩
          refine ⟨_, rfl, _, _, _, _, rfl, rfl, SqT.of (s48 _ _ ht), rfl, _, _, _, _, _, rfl, .ty _, (Dt.int (H := upd H5 t2 (.tup [.str "place", .int (n2 : Nat)])) (n2 : Nat)).ty, kit_ty (kd_bool (.int (n2 : Nat))), _, rfl, iteF ?_⟩
          exact ⟨B23.trans (Bar2.of (s4.trans s48)), q, s, n2, _, _, _, _, _, _, _, rfl, W4.but (But.of s48) (S4.same s48), by omega⟩
        rintro σ' H6 ⟨B6, q', s', n', v3, v4, v5, v6, v7, v8, v9, rfl, W6, hn6⟩
        exact ⟨_, rfl, _, rfl, _, rfl, l, p, q', lw, b, bs, s', n', rfl, W6, bk, fun H7 B7 S7 => ⟨_, rfl, iteF ⟨B6.trans (Bar2.but B7), q', s', n', _, _, _, _, _, _, _, rfl, W6.but B7 S7, hn6⟩⟩⟩
    · rintro σ H2 ⟨B2, q', s', n', v3, v4, v5, v6, v7, v8, v9, rfl, W2, hn⟩
      exact ⟨_, rfl, k q' s' n' H2 B2 W2 (by omega)⟩
end
end Dear

namespace Dear
open PySem PySem.Spec PyProof.Rows L2
/-- a reader and the law's notes of it -/
structure One (C : Addr) (H : Hp) (p q lw b : Addr) (bs : List (List Nat)) (s : List Nat) (n : Nat) : Prop where
  R : RdAt C H p lw bs s n
  t : H q = some (.tup [.ref b, .str (txt s), .int (n : Nat)])
  hb : H b = some (.lst (vsT bs))
theorem One.same {C : Addr} {H H' : Hp} {p q lw b : Addr} {bs : List (List Nat)} {s : List Nat} {n : Nat} (W : One C H p q lw b bs s n) (e : Same H H') : One C H' p q lw b bs s n := ⟨W.R.same e, e _ _ W.t, e _ _ W.hb⟩
theorem One.two {C : Addr} {H H' : Hp} {l p q lw b : Addr} {bs : List (List Nat)} {s : List Nat} {n : Nat} (W : One C H p q lw b bs s n) (hl : H l = none) (B : But l H H') (S : Src H' l) : Two C H' l p q lw b bs s n := by
  obtain ⟨⟨⟨dx, ob⟩, ws, md⟩, t, hb⟩ := W
  have n1 := ne_of_none ob hl
  have n2 := ne_of_none ws hl
  have n3 := ne_of_none t hl
  have n4 := ne_of_none hb hl
  exact ⟨S, ⟨⟨dx, B _ _ ob n1⟩, B _ _ ws n2, md⟩, B _ _ t n3, B _ _ hb n4, n1, n2, n3, n4⟩
/-- .. beside another reader at p' -/
theorem One.bar {C : Addr} {H H' : Hp} {l p q lw b p' : Addr} {bs : List (List Nat)} {s : List Nat} {n : Nat} (W : One C H p q lw b bs s n) (hl : H l = none) (B : ∀ b o, H b = some o → b ≠ l → b ≠ p' → H' b = some o) {D dx' : Addr} {fs : List (Str × V)} (hp' : H p' = some (.ins D dx' fs)) (np : p ≠ p') : One C H' p q lw b bs s n := by
  obtain ⟨⟨⟨dx, ob⟩, ws, md⟩, t, hb⟩ := W
  exact ⟨⟨⟨dx, B _ _ ob (ne_of_none ob hl) np⟩, B _ _ ws (ne_of_none ws hl) (ne_of ws hp' (by intro z; cases z)), md⟩, B _ _ t (ne_of_none t hl) (ne_of t hp' (by intro z; cases z)), B _ _ hb (ne_of_none hb hl) (ne_of hb hp' (by intro z; cases z))⟩
/-- .. with the list of notes set anew -/
theorem One.set {C : Addr} {H : Hp} {p q lw b pS : Addr} {bs : List (List Nat)} {s : List Nat} {n : Nat} {o : HO} {xs : List V} (W : One C H p q lw b bs s n) (hS : H pS = some (.lst xs)) (nw : lw ≠ pS) (nb : b ≠ pS) : One C (upd H pS o) p q lw b bs s n := by
  obtain ⟨⟨⟨dx, ob⟩, ws, md⟩, t, hb⟩ := W
  exact ⟨⟨⟨dx, by rw [upd_ne (ne_of ob hS (by intro z; cases z))]; exact ob⟩, by rw [upd_ne nw]; exact ws, md⟩, by rw [upd_ne (ne_of t hS (by intro z; cases z))]; exact t, by rw [upd_ne nb]; exact hb⟩
section
variable {P : Program} {w : World} {K : PySem.W.Frag} {mg : Str → Option Value} {base : Heap}
theorem ok_law (T : Txt K mg) {f : Addr} {fd : FuncData} (F : Fun K "law" "law" s_law f fd) : FnOk P w K mg base CX0 7 f fd ["_law_script"] (spLaw K) := by
  have o__law_pool := o__law_pool (P := P) (w := w) (base := base) T
  have o__law_take := o__law_take (P := P) (w := w) (base := base) T
  have o__law_plain := o__law_plain (P := P) (w := w) (base := base) T
  have o__law_steps := o__law_steps (P := P) (w := w) (base := base) T
  have o_Reader := o_Reader (P := P) (w := w) (base := base) T
  have o_Reader_amid := o_Reader_amid (P := P) (w := w) (base := base) T
  refine F.ok c_law (fun vs H Q E h => ?_) (fun cdv A outer s H vs Q E hr h => ?_)
  · obtain ⟨a, ns, rfl, _⟩ := h
    rfl
  · obtain ⟨a, ns, rfl, hS, hlen, k⟩ := h
    refine ⟨_, (pss_cons (ps_set (i := 1) c_law.nd rfl (Or.inl rfl) (pe_lst (pa_cons (pe_c o__law_plain hr (pa_cons (pe_c o__law_pool hr (pa_cons (pv 0) (pa_cons pe_int pa_nil))) pa_nil)) (pa_cons (pe_c o__law_plain hr (pa_cons (pe_c o__law_pool hr (pa_cons (pv 0) (pa_cons pe_int pa_nil))) pa_nil)) pa_nil))))
(pss_cons (ps_set (i := 2) c_law.nd rfl (Or.inl rfl) (pe_lst (pa_cons (pe_tup (pa_cons (pe_callTy (call_list_of_k K) (by rfl) T.b_list (by decide +kernel) (pa_cons (pe_ix (ix_list_k K) (pv 1) pe_int (fun _ _ => rfl)) pa_nil)) (pa_cons pe_str (pa_cons pe_int pa_nil)))) (pa_cons (pe_tup (pa_cons (pe_callTy (call_list_of_k K) (by rfl) T.b_list (by decide +kernel) (pa_cons (pe_ix (ix_list_k K) (pv 1) pe_int (fun _ _ => rfl)) pa_nil)) (pa_cons pe_str (pa_cons pe_int pa_nil)))) pa_nil))))
(pss_cons (ps_set (i := 3) c_law.nd rfl (Or.inl rfl) (pe_lst (pa_cons (pe_mkx o_Reader hr takes0 (pa_cons (pe_ix (ix_list_k K) (pv 1) pe_int (fun _ _ => rfl)) pa_nil)) (pa_cons (pe_mkx o_Reader hr takes0 (pa_cons (pe_ix (ix_list_k K) (pv 1) pe_int (fun _ _ => rfl)) pa_nil)) pa_nil))))
(pss_cons (ps_expr (pe_bm0 PySem.F.plainAttrs_list PySem.F.slot_list_clear PySem.F.type_list_clear mt_clear (pe_ix (ix_list_k K) (pv 1) pe_int (fun _ _ => rfl))))
(pss_cons (ps_asg pe_str (pg_sub (pe_ix (ix_list_k K) (pv 1) pe_int (fun _ _ => rfl)) pe_int set_list))
(pss_cons (ps_for PassesOwn.never rfl (pi_range2 (by rfl) T.b_range (pa_cons pe_int (pa_cons (pe_callB (call_max2 rfl) (by rfl) T.b_max (by decide +kernel) (pa_cons pe_int (pa_cons (pe_callB (call_min2 rfl) (by rfl) T.b_min (by decide +kernel) (pa_cons (pe_callB (call_len_seq_k K) (by rfl) T.b_len PySem.boot_len (pa_cons (pv 0) pa_nil)) (pa_cons pe_int pa_nil))) pa_nil))) pa_nil))) (pg_name (i := 4) c_law.nd rfl (Or.inl rfl))
(pss_cons (ps_set (i := 5) c_law.nd rfl (Or.inl rfl) (pe_c o__law_pool hr (pa_cons (pv 0) (pa_cons (pv 4) pa_nil))))
(pss_cons (ps_set (i := 6) c_law.nd rfl (Or.inl rfl) (pe_c o__law_take hr (pa_cons (pv 5) (pa_cons pe_int pa_nil))))
(pss_cons (ps_set (i := 7) c_law.nd rfl (Or.inl rfl) (pe_c o__law_steps hr (pa_cons (pv 5) (pa_cons (pe_ix (ix_list_k K) (pv 3) (pv 6) (fun _ _ => rfl)) (pa_cons (pe_ix (ix_list_k K) (pv 2) (pv 6) (fun _ _ => rfl)) pa_nil)))))
(pss_cons (ps_if (pt_cmpR op_isN (pv 7) pe_non (nomark _))
(pss_one (ps_ret pe_bl))
pss_nil)
(pss_cons (ps_asg (pv 7) (pg_sub (pv 2) (pv 6) set_list))
(pss_one (ps_if (pt_cmpR op_ne (pe_mz o_Reader_amid T.K_Reader hr (pe_ix (ix_list_k K) (pv 3) (pe_op op_sub pe_int (pv 6)) (fun _ _ => rfl))) (pe_ix (ix_tup_k K) (pe_ix (ix_list_k K) (pv 2) (pe_op op_sub pe_int (pv 6)) (fun _ _ => rfl)) pe_int (fun _ _ => rfl)) (nomark _))
(pss_one (ps_ret pe_bl))
pss_nil))))))))
(pss_one (ps_ret pe_bl)))))))), ?_⟩
    have two : 2 ≤ sizeLine := by decide
    have three : 3 ≤ sizeLine := by decide
    have e0 : ("" : Str) = txt [] := by decide +kernel
    have nl : (ns.map V.int).length = ns.length := List.length_map ..
    -- two books
    refine ⟨_, rfl, a, ns, 0, rfl, hS, by decide, by decide, fun l0 H1 hl0 s1 S1 => ⟨l0, rfl, S1, fun c0 bs0 H2 hc0 nc0 B2 S2 h0 bk0 => ?_⟩⟩
    have s2 : Same H H2 := But.same0 s1 hl0 B2
    refine ⟨_, rfl, a, ns, 1, rfl, s2.seq hS, by decide, by decide, fun l1 H3 hl1 s3 S3 => ⟨l1, rfl, S3, fun c1 bs1 H4 hc1 nc1 B4 S4 h1 bk1 => ?_⟩⟩
    have s24 : Same H2 H4 := But.same0 s3 hl1 B4
    have n10 : c0 ≠ c1 := ne_of_none (s3 _ _ h0) hc1
    have h0 := s24 _ _ h0
    refine ⟨two, fun pB hpB => ?_⟩
    have u5 := Same.upd (o := .lst [.ref c0, .ref c1]) hpB
    have nB0 : pB ≠ c0 := (ne_of_none h0 hpB).symm
    have nB1 : pB ≠ c1 := (ne_of_none h1 hpB).symm
    have eB : (upd H4 pB (.lst [.ref c0, .ref c1])) pB = some (.lst [.ref c0, .ref c1]) := upd_same
    have h0 := u5 _ _ h0
    have h1 := u5 _ _ h1
    have s5 : Same H (upd H4 pB (.lst [.ref c0, .ref c1])) := (s2.trans s24).trans u5
    generalize upd H4 pB (.lst [.ref c0, .ref c1]) = H5 at eB h0 h1 s5 ⊢
    -- the law's notes
    refine ⟨_, rfl, _, _, _, _, rfl, rfl, SqL.of eB, rfl, c0, _, rfl, .inl (SqL.of h0), fun k0 hk0 => ⟨three, fun q0 hq0 => ?_⟩⟩
    have v1 := Same.upd (o := .lst (vsT bs0)) hk0
    have v2 := Same.upd (o := .tup [.ref k0, .str "", .int 0]) hq0
    have v12 := v1.trans v2
    refine ⟨_, rfl, _, _, _, _, rfl, rfl, SqL.of (v12 _ _ eB), rfl, c1, _, rfl, .inl (SqL.of (v12 _ _ h1)), fun k1 hk1 => ⟨three, fun q1 hq1 => ?_⟩⟩
    have v3 := Same.upd (o := .lst (vsT bs1)) hk1
    have v4 := Same.upd (o := .tup [.ref k1, .str "", .int 0]) hq1
    refine ⟨two, fun pS hpS => ?_⟩
    have v5 := Same.upd (o := .lst [.ref q0, .ref q1]) hpS
    have v35 := (v3.trans v4).trans v5
    have ek0 := v35 _ _ (v2 _ _ (upd_same (H := H5) (a := k0) (o := .lst (vsT bs0))))
    have eq0 := v35 _ _ (upd_same (H := upd H5 k0 (.lst (vsT bs0))) (a := q0) (o := .tup [.ref k0, .str "", .int 0]))
    have ek1 := v5 _ _ (v4 _ _ (upd_same (H := upd (upd H5 k0 (.lst (vsT bs0))) q0 (.tup [.ref k0, .str "", .int 0])) (a := k1) (o := .lst (vsT bs1))))
    have eq1 := v5 _ _ (upd_same (H := upd (upd (upd H5 k0 (.lst (vsT bs0))) q0 (.tup [.ref k0, .str "", .int 0])) k1 (.lst (vsT bs1))) (a := q1) (o := .tup [.ref k1, .str "", .int 0]))
    have eS := upd_same (H := upd (upd (upd (upd H5 k0 (.lst (vsT bs0))) q0 (.tup [.ref k0, .str "", .int 0])) k1 (.lst (vsT bs1))) q1 (.tup [.ref k1, .str "", .int 0])) (a := pS) (o := .lst [.ref q0, .ref q1])
    have s56 := v12.trans v35
    have hpSn : H pS = none := same_none (s5.trans (v12.trans (v3.trans v4))) hpS
    have nS0 : pS ≠ c0 := (ne_of_none ((v12.trans (v3.trans v4)) _ _ h0) hpS).symm
    have nS1 : pS ≠ c1 := (ne_of_none ((v12.trans (v3.trans v4)) _ _ h1) hpS).symm
    have nk0S : k0 ≠ pS := ne_of_none (v4 _ _ (v3 _ _ (v2 _ _ upd_same))) hpS
    have nk1S : k1 ≠ pS := ne_of_none (v4 _ _ upd_same) hpS
    have hk1' : H5 k1 = none := same_none v12 hk1
    generalize upd (upd (upd (upd (upd H5 k0 (.lst (vsT bs0))) q0 (.tup [.ref k0, .str "", .int 0])) k1 (.lst (vsT bs1))) q1 (.tup [.ref k1, .str "", .int 0])) pS (.lst [.ref q0, .ref q1]) = H6 at ek0 eq0 ek1 eq1 eS s56 ⊢
    clear v1 v2 v3 v4 v5 v12 v35
    -- two readers
    have h06 := s56 _ _ h0
    have h16 := s56 _ _ h1
    have eB6 := s56 _ _ eB
    have nk00 : k0 ≠ c0 := (ne_of_none h0 hk0).symm
    have nk01 : k0 ≠ c1 := (ne_of_none h1 hk0).symm
    have nk10 : k1 ≠ c0 := (ne_of_none h0 hk1').symm
    have nk11 : k1 ≠ c1 := (ne_of_none h1 hk1').symm
    refine ⟨_, rfl, _, _, _, _, rfl, rfl, SqL.of eB6, rfl, fun p0 dx0 hp0 hdx0 nd0 => ?_⟩
    dsimp only [tNil, tCons]
    refine make_good2 h06 bk0 hp0 hdx0 nd0 fun lw0 H7 hlw0 s7 R7 => ⟨rfl, ?_⟩
    refine ⟨_, rfl, _, _, _, _, rfl, rfl, SqL.of (s7 _ _ eB6), rfl, fun p1 dx1 hp1 hdx1 nd1 => ?_⟩
    dsimp only [tNil, tCons]
    refine make_good2 (s7 _ _ h16) bk1 hp1 hdx1 nd1 fun lw1 H8 hlw1 s8 R8 => ⟨rfl, ?_⟩
    have np01 : p0 ≠ p1 := by
      obtain ⟨dx, ob⟩ := R7.ob
      exact ne_of_none ob hp1
    have hlw1' : H6 lw1 = none := same_none s7 hlw1
    refine ⟨two, fun pR hpR => ?_⟩
    have u9 := Same.upd (o := .lst [.ref p0, .ref p1]) hpR
    have s69 := (s7.trans s8).trans u9
    have eR : (upd H8 pR (.lst [.ref p0, .ref p1])) pR = some (.lst [.ref p0, .ref p1]) := upd_same
    have R0 := (R7.same s8).same u9
    have R1 := R8.same u9
    have nRS : pR ≠ pS := (ne_of_none ((s7.trans s8) _ _ eS) hpR).symm
    have nR0 : pR ≠ c0 := (ne_of_none ((s7.trans s8) _ _ h06) hpR).symm
    have nR1 : pR ≠ c1 := (ne_of_none ((s7.trans s8) _ _ h16) hpR).symm
    generalize upd H8 pR (.lst [.ref p0, .ref p1]) = H9 at s69 eR R0 R1 ⊢
    have W0 : One T.A.Reader H9 p0 q0 lw0 k0 bs0 [] 0 := ⟨R0, by rw [← e0]; exact s69 _ _ eq0, s69 _ _ ek0⟩
    have W1 : One T.A.Reader H9 p1 q1 lw1 k1 bs1 [] 0 := ⟨R1, by rw [← e0]; exact s69 _ _ eq1, s69 _ _ ek1⟩
    have eB9 := s69 _ _ eB6
    have h09 := s69 _ _ h06
    have h19 := s69 _ _ h16
    have eS9 := s69 _ _ eS
    have nw0S : lw0 ≠ pS := (ne_of_none eS hlw0).symm
    have nw1S : lw1 ≠ pS := (ne_of_none eS hlw1').symm
    have nw00 : lw0 ≠ c0 := (ne_of_none h06 hlw0).symm
    have nw01 : lw0 ≠ c1 := (ne_of_none h16 hlw0).symm
    have nw10 : lw1 ≠ c0 := (ne_of_none h06 hlw1').symm
    have nw11 : lw1 ≠ c1 := (ne_of_none h16 hlw1').symm
    have s09 : Same H H9 := (s5.trans s56).trans s69
    have hc0n : H c0 = none := same_none s1 hc0
    have hc1n : H c1 = none := same_none (s2.trans s3) hc1
    have hp0n : H p0 = none := same_none (s5.trans s56) hp0
    have hp1n : H p1 = none := same_none ((s5.trans s56).trans s7) hp1
    -- the books handed in are changed
    refine ⟨_, rfl, _, _, _, _, rfl, rfl, SqL.of eB9, rfl, .inl ⟨rfl, _, SqL.of h09⟩, c0, _, rfl, rfl, h09, ?_⟩
    have W0 := W0.set (o := .lst []) h09 nw00 nk00
    have W1 := W1.set (o := .lst []) h09 nw10 nk10
    have h1a : (upd H9 c0 (.lst [])) c1 = some (.lst (vsT bs1)) := by rw [upd_ne n10.symm]; exact h19
    have eBa : (upd H9 c0 (.lst [])) pB = some (.lst [.ref c0, .ref c1]) := by rw [upd_ne nB0]; exact eB9
    have eSa : (upd H9 c0 (.lst [])) pS = some (.lst [.ref q0, .ref q1]) := by rw [upd_ne nS0]; exact eS9
    have eRa : (upd H9 c0 (.lst [])) pR = some (.lst [.ref p0, .ref p1]) := by rw [upd_ne nR0]; exact eR
    have sa : Same H (upd H9 c0 (.lst [])) := fun b9 o9 hb9 => by
      rw [upd_ne (ne_of_none hb9 hc0n)]
      exact s09 _ _ hb9
    generalize upd H9 c0 (.lst []) = Ha at W0 W1 h1a eBa eSa eRa sa ⊢
    have b1l := bk1.l1
    refine ⟨_, rfl, _, _, _, _, rfl, rfl, SqL.of eBa, rfl, c1, _, _, _, rfl, rfl, h1a, ixN_lt (by decide) (by rw [vsT_len]; omega), ?_⟩
    have W0 := W0.set (o := .lst ((vsT bs1).set (0 : Int).toNat (.str "zzzzzzzz"))) h1a nw01 nk01
    have W1 := W1.set (o := .lst ((vsT bs1).set (0 : Int).toNat (.str "zzzzzzzz"))) h1a nw11 nk11
    have eSb : (upd Ha c1 (.lst ((vsT bs1).set (0 : Int).toNat (.str "zzzzzzzz")))) pS = some (.lst [.ref q0, .ref q1]) := by rw [upd_ne nS1]; exact eSa
    have eRb : (upd Ha c1 (.lst ((vsT bs1).set (0 : Int).toNat (.str "zzzzzzzz")))) pR = some (.lst [.ref p0, .ref p1]) := by rw [upd_ne nR1]; exact eRa
    have sb : Same H (upd Ha c1 (.lst ((vsT bs1).set (0 : Int).toNat (.str "zzzzzzzz")))) := fun b9 o9 hb9 => by
      rw [upd_ne (ne_of_none hb9 hc1n)]
      exact sa _ _ hb9
    dsimp only
    generalize upd Ha c1 (.lst ((vsT bs1).set (0 : Int).toNat (.str "zzzzzzzz"))) = Hb at W0 W1 eSb eRb sb ⊢
    refine ⟨_, rfl, _, _, rfl, .inl (sb.seq hS), _, _, rfl, _, _, rfl, _, _, rfl, ⟨by decide, by decide, ?_, ?_⟩, for_range (lo := 2) (fun i σ H' => Same H H' ∧ ∃ (q0 q1 : Addr) (s0 s1 : List Nat) (n0 n1 : Nat) (v4 v5 v6 v7 : Option V), σ = [some (.ref a), some (.ref pB), some (.ref pS), some (.ref pR), v4, v5, v6, v7] ∧ H' pS = some (.lst [.ref q0, .ref q1]) ∧ H' pR = some (.lst [.ref p0, .ref p1]) ∧ One T.A.Reader H' p0 q0 lw0 k0 bs0 s0 n0 ∧ One T.A.Reader H' p1 q1 lw1 k1 bs1 s1 n1 ∧ n0 ≤ 10 * i ∧ n1 ≤ 10 * i)
      ⟨sb, q0, q1, [], [], 0, 0, _, _, _, _, rfl, eSb, eRb, W0, W1, Nat.zero_le _, Nat.zero_le _⟩ ?_ ?_⟩
    · split <;> split <;> omega
    · split <;> split <;> omega
    · clear W0 W1 eSb eRb sb
      rintro i σ H1 hi ⟨s1, q0, q1, s0, s1', n0, n1, v4, v5, v6, v7, rfl, eS1, eR1, W0, W1, hn0, hn1⟩
      have i63 : i < 63 := Nat.lt_of_lt_of_le hi (by split <;> split <;> omega)
      refine ⟨_, rfl, _, rfl, a, ns, _, rfl, s1.seq hS, by omega, by omega, fun l H2 hl s2 S2 => ?_⟩
      refine ⟨_, rfl, l, 2, rfl, S2, by decide, log_le 2 (by decide), fun r H3 r0 r1 B3 S3 => ?_⟩
      have B13 : But l H1 H3 := (But.of s2).trans B3
      have nSl : pS ≠ l := ne_of_none eS1 hl
      have nRl : pR ≠ l := ne_of_none eR1 hl
      have eS3 := B13 _ _ eS1 nSl
      have eR3 := B13 _ _ eR1 nRl
      have rr : r = 0 ∨ r = 1 := by omega
      rcases rr with rfl | rfl
      · refine ⟨_, rfl, _, rfl, _, rfl, _, _, _, _, rfl, rfl, SqL.of eR3, rfl, _, rfl, _, rfl, _, _, _, _, rfl, rfl, SqL.of eS3, rfl, l, p0, q0, lw0, k0, bs0, s0, n0, rfl, W0.two hl B13 S3, bk0, by omega, fun q' s' n' H4 B4 W4 hn' => ?_⟩
        have ob := W0.R.ob
        obtain ⟨dx, ob⟩ := ob
        have B14 : ∀ b o, H1 b = some o → b ≠ l → b ≠ p0 → H4 b = some o := fun b o e n m => B4 _ _ (B13 _ _ e n) n m
        have eS4 := B14 _ _ eS1 nSl (ne_of eS1 ob (by intro z; cases z))
        have eR4 := B14 _ _ eR1 nRl (ne_of eR1 ob (by intro z; cases z))
        have Wo := (W1.bar hl B14 ob np01.symm).set (o := .lst [.ref q', .ref q1]) eS4 nw1S nk1S
        have Wn := (One.mk W4.R W4.t W4.hb).set (o := .lst [.ref q', .ref q1]) eS4 nw0S nk0S
        refine ⟨_, rfl, rfl, _, rfl, itd (fun z => nomatch z) fun _ => ?_⟩
        refine ⟨_, rfl, _, rfl, _, rfl, pS, _, _, _, rfl, rfl, eS4, rfl, ?_⟩
        have eS5 : (upd H4 pS (.lst [.ref q', .ref q1])) pS = some (.lst [.ref q', .ref q1]) := upd_same
        have eR5 : (upd H4 pS (.lst [.ref q', .ref q1])) pR = some (.lst [.ref p0, .ref p1]) := by rw [upd_ne nRS]; exact eR4
        have s5 : Same H (upd H4 pS (.lst [.ref q', .ref q1])) := fun b9 o9 hb9 => by
          rw [upd_ne (ne_of_none hb9 hpSn)]
          exact B14 _ _ (s1 _ _ hb9) (ne_of_none (s1 _ _ hb9) hl) (ne_of_none hb9 hp0n)
        obtain ⟨dxo, obo⟩ := Wo.R.ob
        refine ⟨_, rfl, _, rfl, _, _, rfl, rfl, _, _, _, _, rfl, rfl, SqL.of eR5, rfl, p1, dxo, _, rfl, obo, rdF_no _ _ _, p1, lw1, bs1, s1', n1, rfl, Wo.R, ?_⟩
        refine ⟨_, rfl, _, rfl, _, _, rfl, rfl, _, _, _, _, rfl, rfl, SqL.of eS5, rfl, _, _, _, _, rfl, rfl, SqT.of Wo.t, rfl, rfl, _, rfl, itnd (fun z => absurd rfl z) fun _ => ?_⟩
        exact ⟨s5, q', q1, s', s1', n', n1, _, _, _, _, rfl, eS5, eR5, Wn, Wo, by omega, by omega⟩
      · refine ⟨_, rfl, _, rfl, _, rfl, _, _, _, _, rfl, rfl, SqL.of eR3, rfl, _, rfl, _, rfl, _, _, _, _, rfl, rfl, SqL.of eS3, rfl, l, p1, q1, lw1, k1, bs1, s1', n1, rfl, W1.two hl B13 S3, bk1, by omega, fun q' s' n' H4 B4 W4 hn' => ?_⟩
        have ob := W1.R.ob
        obtain ⟨dx, ob⟩ := ob
        have B14 : ∀ b o, H1 b = some o → b ≠ l → b ≠ p1 → H4 b = some o := fun b o e n m => B4 _ _ (B13 _ _ e n) n m
        have eS4 := B14 _ _ eS1 nSl (ne_of eS1 ob (by intro z; cases z))
        have eR4 := B14 _ _ eR1 nRl (ne_of eR1 ob (by intro z; cases z))
        have Wo := (W0.bar hl B14 ob np01).set (o := .lst [.ref q0, .ref q']) eS4 nw0S nk0S
        have Wn := (One.mk W4.R W4.t W4.hb).set (o := .lst [.ref q0, .ref q']) eS4 nw1S nk1S
        refine ⟨_, rfl, rfl, _, rfl, itd (fun z => nomatch z) fun _ => ?_⟩
        refine ⟨_, rfl, _, rfl, _, rfl, pS, _, _, _, rfl, rfl, eS4, rfl, ?_⟩
        have eS5 : (upd H4 pS (.lst [.ref q0, .ref q'])) pS = some (.lst [.ref q0, .ref q']) := upd_same
        have eR5 : (upd H4 pS (.lst [.ref q0, .ref q'])) pR = some (.lst [.ref p0, .ref p1]) := by rw [upd_ne nRS]; exact eR4
        have s5 : Same H (upd H4 pS (.lst [.ref q0, .ref q'])) := fun b9 o9 hb9 => by
          rw [upd_ne (ne_of_none hb9 hpSn)]
          exact B14 _ _ (s1 _ _ hb9) (ne_of_none (s1 _ _ hb9) hl) (ne_of_none hb9 hp1n)
        obtain ⟨dxo, obo⟩ := Wo.R.ob
        refine ⟨_, rfl, _, rfl, _, _, rfl, rfl, _, _, _, _, rfl, rfl, SqL.of eR5, rfl, p0, dxo, _, rfl, obo, rdF_no _ _ _, p0, lw0, bs0, s0, n0, rfl, Wo.R, ?_⟩
        refine ⟨_, rfl, _, rfl, _, _, rfl, rfl, _, _, _, _, rfl, rfl, SqL.of eS5, rfl, _, _, _, _, rfl, rfl, SqT.of Wo.t, rfl, rfl, _, rfl, itnd (fun z => absurd rfl z) fun _ => ?_⟩
        exact ⟨s5, q0, q', s0, s', n0, n', _, _, _, _, rfl, eS5, eR5, Wo, Wn, by omega, by omega⟩
    · rintro σ H1 ⟨s1, q0, q1, s0, s1', n0, n1, v4, v5, v6, v7, rfl, eS1, eR1, W0, W1, hn0, hn1⟩
      exact k _
end
end Dear

namespace Dear
open PySem PySem.Spec PyProof.Rows L2
theorem walk {l : PySem.W.OpenLaw} {q : Program} {loose : List Str} {XP : (Str → Option Value) → Heap → Prop} {YP : World → Heap → Prop} {d : DefRec} {K : Params → PySem.W.Frag} (hn : l.most = some 63) (hdf : d.params.defaults = [])
    (hY : ∀ (w : World) (h : Heap), YP w h → (K w.params).In h)
    (F : ∀ (w : World) (mg : Str → Option Value) (fa : Addr) (h : Heap), (K w.params).In h → h.Ns mainGlobals mg → mg d.name = some (.ref fa) →
      ∃ fd : FuncData, (∀ (s : Shared) (u : Value), BindsTo s fd ⟨[u], []⟩ [("_law_script", u)]) ∧ ∀ base : Heap, (K w.params).In base → base.Ns mainGlobals mg → FnOk l.prog w (K w.params) mg base CX0 20 fa fd ["_law_script"] (spLaw (K w.params))) :
    PySem.W.WalkO q loose XP YP l.row.toRowW d [] (fun f vs => PySem.call f vs) :=
  L2.walk_of (n := 63) (k := 20) (x := "_law_script") (CX := fun _ => CX0) (sp := fun w => spLaw (K w.params)) hn (by decide) hdf ⟨rfl, by decide, by decide⟩ hY F (fun _ _ a ns hl _ hS => ⟨a, ns, rfl, hS, hl, fun _ => rfl⟩) fun _ _ _ _ _ z => z
theorem fin {l : PySem.W.OpenLaw} {w : World} {K : PySem.W.Frag} {h : Heap} {mg : Str → Option Value} {fa : Addr} (X : K.In h) (G : h.Ns mainGlobals mg) (hfa : mg "law" = some (.ref fa)) (T : Txt K mg) :
    ∃ fd : FuncData, (∀ (s : Shared) (v : Value), BindsTo s fd ⟨[v], []⟩ [("_law_script", v)]) ∧ ∀ base : Heap, K.In base → base.Ns mainGlobals mg → FnOk l.prog w K mg base CX0 20 fa fd ["_law_script"] (spLaw K) := by
  obtain ⟨f, fd, hm, F, hb⟩ := id T.f_law
  have e := hfa.symm.trans hm
  cases e
  refine ⟨fd, fun s v => ?_, fun base _ _ => (ok_law T F).mono (by decide)⟩
  obtain ⟨oc, od, kV, doc, pm, an, cdv, ct, osl, rfl, lk, hcd⟩ := F.ex
  exact .of_eq rfl
end Dear

open PySem PySem.W PyProof.Rows
set_option maxRecDepth 100000 in
set_option maxHeartbeats 0 in
theorem PySem.Challenge.cw_dearsigns_k23_reader_sign_by_sign_holds : PySem.Challenge.rw_dearsigns_k23_reader_sign_by_sign.Holds := by
  w_on; o_law; k_head; (case hw => w_witness2)
  k_fill
  refine Dear.walk (l := PySem.Challenge.rw_dearsigns_k23_reader_sign_by_sign) rfl rfl (fun w h Y => PySem.W.kIn_of Y) ?F
  case F =>
    intro w mg fa h KX G hmg
    refine Dear.fin KX G hmg ?T
    case T =>
      refine' Dear.txt_mk KX G ?g_DearError ?i_DearError ?t_DearError ?g_NoBook ?i_NoBook ?t_NoBook ?g_BadSign ?i_BadSign ?t_BadSign ?b_DearError ?x1_NoBook ?x2_NoBook ?x3_NoBook ?x4_NoBook ?x5_NoBook ?x6_NoBook ?x7_NoBook ?x8_NoBook ?x9_NoBook ?x10_NoBook ?x11_NoBook ?d1 ?d2 ?d3 ?xl_BadSign ?sa_BadSign ?x2_BadSign ?x3_BadSign ?x4_BadSign ?x5_BadSign ?x6_BadSign ?x7_BadSign ?x8_BadSign ?x9_BadSign ?x10_BadSign ?x11_BadSign ?fn_BadSign ?i1_BadSign ?i2_BadSign ?i3_BadSign ?i4_BadSign ?i5_BadSign ?q_NoBook_DearError ?n_NoBook_DearError ?q_NoBook_NoBook ?q_NoBook_BadSign ?n_NoBook_BadSign ?q_NoBook_ValueError ?q_BadSign_DearError ?n_BadSign_DearError ?q_BadSign_NoBook ?n_BadSign_NoBook ?q_BadSign_BadSign ?q_BadSign_ValueError ?b_BadSign ?g_Reader ?pg_Reader ?hd_Reader ?po_Reader ?sa_Reader ?mk_Reader ?kc_Reader ?na_Reader_words ?na_Reader_since ?na_Reader_taken ?ma_Reader___init__ ?mi_Reader___init__ ?ml_Reader___init__ ?mc_Reader___init__ ?me_Reader___init__ ?ma_Reader_next_signs ?mi_Reader_next_signs ?ml_Reader_next_signs ?mc_Reader_next_signs ?me_Reader_next_signs ?ma_Reader_put_sign ?mi_Reader_put_sign ?ml_Reader_put_sign ?mc_Reader_put_sign ?me_Reader_put_sign ?ma_Reader_amid ?mi_Reader_amid ?ml_Reader_amid ?mc_Reader_amid ?me_Reader_amid ?a1 ?l1 ?c1 ?k1 ?a2 ?l2 ?c2 ?k2 ?a3 ?l3 ?c3 ?k3 ?a4 ?l4 ?c4 ?k4 ?a5 ?l5 ?c5 ?k5 ?a6 ?l6 ?c6 ?k6 ?a7 ?l7 ?c7 ?k7 ?a8 ?l8 ?c8 ?k8 ?a9 ?l9 ?c9 ?k9 ?a10 ?l10 ?c10 ?k10 ?a11 ?l11 ?c11 ?k11 ?a12 ?a13 ?a14 ?a15 ?a16 ?a17 ?a18 ?a19 ?a20 ?a21 ?a22 ?a23 ?a24 ?a25 ?a26
      (case g_DearError => k_is); (case i_DearError => k_is); (case t_DearError => k_is); (case g_NoBook => k_is); (case i_NoBook => k_is); (case t_NoBook => k_is); (case g_BadSign => k_is); (case i_BadSign => k_is)
      (case t_BadSign => k_is); (case b_DearError => k_is); (case x1_NoBook => k_exc); (case x2_NoBook => k_is); (case x3_NoBook => k_is); (case x4_NoBook => k_is); (case x5_NoBook => k_is); (case x6_NoBook => k_is)
      (case x7_NoBook => k_is); (case x8_NoBook => k_is); (case x9_NoBook => k_is); (case x10_NoBook => k_is); (case x11_NoBook => k_is); (case d1 => k_is); (case d2 => k_is); (case d3 => k_is)
      (case xl_BadSign => k_is); (case sa_BadSign => k_is); (case x2_BadSign => k_is); (case x3_BadSign => k_is); (case x4_BadSign => k_is); (case x5_BadSign => k_is); (case x6_BadSign => k_is); (case x7_BadSign => k_is)
      (case x8_BadSign => k_is); (case x9_BadSign => k_is); (case x10_BadSign => k_is); (case x11_BadSign => k_is); (case fn_BadSign => k_is); (case i1_BadSign => k_is); (case i2_BadSign => k_is); (case i3_BadSign => k_is)
      (case i4_BadSign => k_is); (case i5_BadSign => k_is); (case q_NoBook_DearError => k_is); (case n_NoBook_DearError => rfl); (case q_NoBook_NoBook => k_is); (case q_NoBook_BadSign => k_is); (case n_NoBook_BadSign => rfl); (case q_NoBook_ValueError => k_is)
      (case q_BadSign_DearError => k_is); (case n_BadSign_DearError => rfl); (case q_BadSign_NoBook => k_is); (case n_BadSign_NoBook => rfl); (case q_BadSign_BadSign => k_is); (case q_BadSign_ValueError => k_is); (case b_BadSign => k_is); (case g_Reader => k_is)
      (case pg_Reader => k_is); (case hd_Reader => k_is); (case po_Reader => k_is); (case sa_Reader => k_is); (case mk_Reader => k_is); (case kc_Reader => k_is); (case na_Reader_words => k_is); (case na_Reader_since => k_is)
      (case na_Reader_taken => k_is); (case ma_Reader___init__ => k_is); (case mi_Reader___init__ => k_is); (case ml_Reader___init__ => k_is); (case mc_Reader___init__ => k_is); (case me_Reader___init__ => k_is); (case ma_Reader_next_signs => k_is); (case mi_Reader_next_signs => k_is)
      (case ml_Reader_next_signs => k_is); (case mc_Reader_next_signs => k_is); (case me_Reader_next_signs => k_is); (case ma_Reader_put_sign => k_is); (case mi_Reader_put_sign => k_is); (case ml_Reader_put_sign => k_is); (case mc_Reader_put_sign => k_is); (case me_Reader_put_sign => k_is)
      (case ma_Reader_amid => k_is); (case mi_Reader_amid => k_is); (case ml_Reader_amid => k_is); (case mc_Reader_amid => k_is); (case me_Reader_amid => k_is); (case a1 => k_is); (case l1 => k_is); (case c1 => k_is)
      (case k1 => k_is); (case a2 => k_is); (case l2 => k_is); (case c2 => k_is); (case k2 => k_is); (case a3 => k_is); (case l3 => k_is); (case c3 => k_is)
      (case k3 => k_is); (case a4 => k_is); (case l4 => k_is); (case c4 => k_is); (case k4 => k_is); (case a5 => k_is); (case l5 => k_is); (case c5 => k_is)
      (case k5 => k_is); (case a6 => k_is); (case l6 => k_is); (case c6 => k_is); (case k6 => k_is); (case a7 => k_is); (case l7 => k_is); (case c7 => k_is)
      (case k7 => k_is); (case a8 => k_is); (case l8 => k_is); (case c8 => k_is); (case k8 => k_is); (case a9 => k_is); (case l9 => k_is); (case c9 => k_is)
      (case k9 => k_is); (case a10 => k_is); (case l10 => k_is); (case c10 => k_is); (case k10 => k_is); (case a11 => k_is); (case l11 => k_is); (case c11 => k_is)
      (case k11 => k_is); (case a12 => k_is); (case a13 => k_is); (case a14 => k_is); (case a15 => k_is); (case a16 => k_is); (case a17 => k_is); (case a18 => k_is)
      (case a19 => k_is); (case a20 => k_is); (case a21 => k_is); (case a22 => k_is); (case a23 => k_is); (case a24 => k_is); (case a25 => k_is); (case a26 => k_is)
#print axioms PySem.Challenge.cw_dearsigns_k23_reader_sign_by_sign_holds

