import PyProof.Rows.All
import Wide.All
import OpenK.AllK
import Wide.FinOn
import HandS.ForMost
import HandS.Wide
import HandS.IsInst
import HandS.Flow
import HandS.Walk
import HandS.Strs
import HandS.Style
import HandS.Exc
import HandS.Codes
import HandS.ForExc
import HandS.ExcIs
import HandS.Defaults
import HandS.ExcInit
import HandS.FStr
import HandS.ExcField
import HandS.TryOnly
import HandS.Conv
import HandS.TupAny
import HandS.Zip
import HandS.Deep
import HandS.TupLen
import HandS.SortKw
import HandS.RevRange
import HandS.ListItems
import HandS.SetFor
import HandS.More
import KE.KIntText
import KE.DataCmp
import KE.GoesZip
import KE.KDictZip
import Flt.Len
import PySem.Challenge.RW_dearsigns_k17_whole_whatever_tree
set_option Elab.async false
set_option linter.all false
set_option maxRecDepth 100000
set_option maxHeartbeats 4000000

namespace Dear
open PySem PySem.Spec PyProof.Rows L2
/-! ### a def of the text, and a def with its promise -/
def Df (K : PySem.W.Frag) (mg : Str → Option Value) (x : Str) (st : Stmt) (ps : List Str) : Prop :=
  ∃ (f : Addr) (fd : FuncData), mg x = some (.ref f) ∧ Fun K x x st f fd ∧ Binds K fd ps []
/-- a def that the text calls by another name -/
def DfA (K : PySem.W.Frag) (mg : Str → Option Value) (y x : Str) (st : Stmt) (ps : List Str) : Prop :=
  ∃ (f : Addr) (fd : FuncData), mg y = some (.ref f) ∧ Fun K x x st f fd ∧ Binds K fd ps []
def OkF (P : Program) (w : World) (K : PySem.W.Frag) (mg : Str → Option Value) (base : Heap) (CX : CXT) (k : Nat) (x : Str) (ps : List Str) (sp : Sp) : Prop :=
  ∃ (f : Addr) (fd : FuncData), mg x = some (.ref f) ∧ PySem.W.keepIn K (.ref f) = true ∧ Binds K fd ps [] ∧ FnOk P w K mg base CX k f fd ps sp
section
variable {P : Program} {w : World} {K : PySem.W.Frag} {mg : Str → Option Value} {base : Heap}
theorem DfA.ok {y x : Str} {st : Stmt} {N ps : List Str} {k : Nat} {sp : Sp} (D : DfA K mg y x st ps) (S : FnScope N ps (defScope st)) (len : ∀ vs H Q E, sp vs H Q E → vs.length = ps.length)
    (hbody : ∀ (f : Addr) (cdv : Value) (A : Around) (outer : List Env) (s : Shared) (H : Hp) (vs : List V) (Q : VK) (E : XK), Room k (A.deeper (envOfC x (defScope st) s.heap.objs.size f cdv)) → sp vs H Q E →
      ∃ t, PSs (cxOf CX0 P w K mg base N x (defScope st) f cdv A outer s H E).nox (defBody st) t ∧ t { nx := fun _ H' => Q .non H', rt := Q } (start N vs) H) : OkF P w K mg base CX0 (k + 1) y ps sp := by
  obtain ⟨f, fd, hm, F, hb⟩ := D
  exact ⟨f, fd, hm, F.kp, hb, F.ok S len (hbody f)⟩
theorem Df.ok {x : Str} {st : Stmt} {N ps : List Str} {k : Nat} {sp : Sp} (D : Df K mg x st ps) (S : FnScope N ps (defScope st)) (len : ∀ vs H Q E, sp vs H Q E → vs.length = ps.length)
    (hbody : ∀ (f : Addr) (cdv : Value) (A : Around) (outer : List Env) (s : Shared) (H : Hp) (vs : List V) (Q : VK) (E : XK), Room k (A.deeper (envOfC x (defScope st) s.heap.objs.size f cdv)) → sp vs H Q E →
      ∃ t, PSs (cxOf CX0 P w K mg base N x (defScope st) f cdv A outer s H E).nox (defBody st) t ∧ t { nx := fun _ H' => Q .non H', rt := Q } (start N vs) H) : OkF P w K mg base CX0 (k + 1) x ps sp := by
  obtain ⟨f, fd, hm, F, hb⟩ := D
  exact ⟨f, fd, hm, F.kp, hb, F.ok S len (hbody f)⟩
end
section
variable {X : Cx}
theorem pe_c {k k' : Nat} {x : Str} {ps : List Str} {sp : Sp} {e : Expr} {es : List Expr} {t : TA} {p pos : Pos} (O : OkF X.prog X.w X.K X.mg X.base CX0 k x ps sp) (hr : Room k' X.A) (ha : PA X (e :: es) t) (hk : k ≤ k' := by decide) (hg : Gl X x := by rfl)
    (hdb : (x == ("__debug__" : Str)) = false := by decide) (he : starEach (e :: es) X.env = (false, eval e X.env) :: starEach es X.env := by rfl) (hpl : (backTo pos (starEach es X.env)).any (·.1) = false := by rfl) :
    PE X (.Call (.Name x p) (e :: es) [] pos) (tCall sp [] E0 t) := by
  obtain ⟨f, fd, hm, hkp, hb, F⟩ := O
  exact pe_call F (hr.mono hk) hg hm hkp hb .nil pass0 ha hdb he hpl
theorem pe_gi {x : Str} {i : Int} {pos : Pos} (h : ∃ t, X.mg x = some (.int i t)) (hg : Gl X x := by rfl) (hd : (x == ("__debug__" : Str)) = false := by decide) : PE X (.Name x pos) (tC (.int i)) := by
  obtain ⟨t, h⟩ := h
  exact pe_glob hg h ⟨_, rfl⟩ hd
theorem pe_gs {x : Str} {z : Str} {pos : Pos} (h : ∃ t, X.mg x = some (.str z t)) (hg : Gl X x := by rfl) (hd : (x == ("__debug__" : Str)) = false := by decide) : PE X (.Name x pos) (tC (.str z)) := by
  obtain ⟨t, h⟩ := h
  exact pe_glob hg h ⟨_, rfl⟩ hd
end
/-! ### the rules with the written part K named -/
section
variable {X : Cx} (K : PySem.W.Frag)
def rLen : List V → Hp → VK → Prop := fun xs H Q => ∃ p ys, xs = [.ref p] ∧ (SqL K H p ys ∨ SqT K H p ys) ∧ Q (.int ys.length) H
def rListOf : List V → Hp → VK → Prop := fun xs H Q => ∃ p ys, xs = [.ref p] ∧ (SqL K H p ys ∨ SqT K H p ys) ∧ ∀ l, H l = none → Q (.ref l) (upd H l (.lst ys))
theorem call_list_of_k (h : X.K = K := by rfl) : CallR X (.type "list") (rListOf K) := h ▸ call_list_of
def rTupOf : List V → Hp → VK → Prop := fun xs H Q => ∃ p ys, xs = [.ref p] ∧ ((SqL K H p ys ∧ ∀ l, H l = none → Q (.ref l) (upd H l (.tup ys))) ∨ (SqT K H p ys ∧ Q (.ref p) H))
theorem call_tuple_of_k (h : X.K = K := by rfl) : CallR X (.type "tuple") (rTupOf K) := h ▸ call_tuple_of
theorem cr_all_k (hc : X.calm = true) (h : X.K = K := by rfl) : CallR X (.builtin "all") (rAll K) := h ▸ cr_all hc
theorem mt_index_k (h : X.K = K := by rfl) : MtR X "list.index" (rIndex K) := h ▸ mt_index
theorem call_isi_k (h : X.K = K := by rfl) : CallR X (.builtin "isinstance") (rIsi K) := h ▸ call_isi
def rDictP : List V → Hp → VK → Prop := fun xs H Q => ∃ (a : Addr) (ps : List Addr) (kvs : List (Key × V)), xs = [.ref a] ∧ SqL K H a (ps.map V.ref) ∧ Paired (fun p kv => SqT K H p [kV kv.1, kv.2]) ps kvs ∧
    ∀ p, H p = none → Q (.ref p) (upd H p (.dK (mergeK [] kvs)))
theorem u1 {n : Nat} (h : n + 64 < cLine) : n + 1 < cLine := by omega
def rJoin : V → List V → Hp → VK → Prop := fun x xs H Q => ∃ a p, ∃ ys : List Str, x = .str a ∧ xs = [.ref p] ∧ (SqL K H p (ys.map V.str) ∨ SqT K H p (ys.map V.str)) ∧ (ys.map (·.length)).sum + ys.length * a.length ≤ 16777216 ∧ Q (.str (Txt.join a ys)) H
end
/-! ### heaps -/
/-- all that was tracked, but for what stands at l, is as it was -/
def But (l : Addr) (H H' : Hp) : Prop := ∀ b o, H b = some o → b ≠ l → H' b = some o
theorem But.refl (l : Addr) (H : Hp) : But l H H := fun _ _ h _ => h
theorem But.trans {l : Addr} {H H1 H2 : Hp} (a : But l H H1) (b : But l H1 H2) : But l H H2 := fun c o h n => b c o (a c o h n) n
theorem But.of {l : Addr} {H H1 : Hp} (a : Same H H1) : But l H H1 := fun c o h _ => a c o h
theorem But.upd {l : Addr} {H : Hp} {o : HO} : But l H (upd H l o) := fun b _ h n => by rw [upd_ne n]; exact h
theorem Same.upd {H : Hp} {l : Addr} {o : HO} (h : H l = none) : Same H (upd H l o) := fun b u e => by
  rw [upd_ne (ne_of_none e h)]
  exact e
theorem But.new {l : Addr} {H H1 : Hp} {p : Addr} {o : HO} (a : But l H H1) (h : H1 p = none) : But l H (L2.upd H1 p o) := a.trans (.of (Same.upd h))
theorem Same.new {H H1 : Hp} {p : Addr} {o : HO} (a : Same H H1) (h : H1 p = none) : Same H (L2.upd H1 p o) := a.trans (Same.upd h)
/-! ### readings, step by step -/
section
variable {σ : L2.St} {H : Hp} {D : Ends} {t1 t2 : TS} {te : TE} {i : Nat} {c : TT}
end
end Dear

namespace Dear
open PySem PySem.Spec PyProof.Rows L2
/-! ### an exception that is caught, kept in a name, and asked behind the suite -/
/-- a kept exception at a: its class, its own dict -/
def ExK (cls : Value) (d : Option Addr) (a : Addr) : HO := .ext fun h => ∃ (oe : Obj) (vs : Array Value), h.get? a = some oe ∧ Zc cls d oe ∧ oe.data = .fields vs
theorem exK_ok {P : Program} {w : World} {H : Hp} {h : Heap} {a : Addr} {cls : Value} {d : Option Addr} {oe : Obj} {vs : Array Value} (e : h.get? a = some oe) (z : Zc cls d oe) (dt : oe.data = .fields vs) : ObjOk P w H h a (ExK cls d a) :=
  ⟨⟨oe, vs, e, z, dt⟩, ⟨oe, e⟩, fun _ _ ⟨o, v, q, r⟩ k => ⟨o, v, k o q, r⟩⟩
section
variable {X : Cx} {pins : List (Addr × Obj)} {σ : L2.St} {H : Hp} {s : Shared}
/-- an object that stands there untracked, new since the entry, becomes tracked -/
theorem track (I : Inv X pins σ H s) {a : Addr} {o : HO} {oe : Obj} (he : s.heap.get? a = some oe) (na : H a = none) (n0 : X.s_0.heap.get? a = none) (nL : a ≠ X.env.locals) (nC : ∀ v, oe.data ≠ .cell v)
    (nP : ∀ p ∈ X.pn ++ pins, p.1 ≠ a) (new : ObjOk X.prog X.w (upd H a o) s.heap a o) : Inv X pins σ (upd H a o) s where
  ok := I.ok
  os := I.os
  bare := I.bare
  base := {
    keep := I.base.keep
    slot := I.base.slot
    free := fun b u q n hx => by
      rw [upd_ne fun z => by rw [z, n0] at q; cases q]
      exact I.base.free b u q n hx
    there := I.base.there
    tups := fun b xs q => by
      have z := I.base.tups b xs q
      rw [upd_ne (ne_of_none z na)]
      exact z
    frzs := fun b u v q => by
      have z := I.base.frzs b u v q
      rw [upd_ne (ne_of_none z na)]
      exact z
    tbls := fun b ps q => by
      obtain ⟨m, z⟩ := I.base.tbls b ps q
      exact ⟨m, by rw [upd_ne (ne_of_none z na)]; exact z⟩ }
  loc := I.loc
  cell := I.cell
  free := by rw [upd_ne (Ne.symm nL)]; exact I.free
  freeC := fun x c e => by
    have ne : c ≠ a := fun z => by
      obtain ⟨v, ob, q, dq⟩ := I.cell x c e
      rw [z, he] at q
      cases q
      exact nC v dq
    rw [upd_ne ne]
    exact I.freeC x c e
  pin := fun p hp => by
    obtain ⟨p1, p2, p3⟩ := I.pin p hp
    exact ⟨p1, by rw [upd_ne (nP p hp)]; exact p2, p3⟩
  hok := fun b u e => by
    by_cases hb : b = a
    · subst hb
      rw [upd_same] at e
      cases e
      exact new
    · rw [upd_ne hb] at e
      exact (I.hok b u e).stay (fun _ _ _ q => q) (fun c q => by rw [upd_ne (ne_of_none q na)]; exact q) fun c xs q => by rw [upd_ne (ne_of_none q na)]; exact q
  len := I.len
end
/-- what «except x as n: y = n» wishes of an exception of the body: n's slot is i, y's is j; behind it the exception stands tracked -/
def wKept (K : PySem.W.Frag) (c : Value) (i j : Nat) (Wout : WX) (D : Ends) : WX := fun cls d σ H =>
  ∃ b, PySem.W.exmOne K cls c = some b ∧ (b = true → ∀ a, H a = none → D.nx (((σ.set i (some (.ref a))).set j (some (.ref a))).set i none) (upd H a (ExK cls d a))) ∧ (b = false → Wout cls d σ H)
section
variable {X : Cx} {x n y : Str} {c : Value} {i j : Nat} {body : List Stmt} {np pos pos2 p3 p4 p5 : Pos} {tb : WX → TS} {Wout : WX}
theorem ps_try_kept (hs : X.stack = X.env :: X.outer) (hf : X.env.frame = some X.env.locals) (hex : X.ex = []) (hN : X.N.Nodup) (hi : X.N[i]? = some n) (hj : X.N[j]? = some y) (hij : i ≠ j) (hln : X.env.kindOf n = some .local) (hly : X.env.kindOf y = some .local) (hc : Names X x c) (tk : Takes X Wout)
    (hb : ∀ (W : WX) (pn : List (Addr × Obj)) (xe : Value → Shared → Prop), Takes (X.tr pn xe) W → PassesOwn (model X.prog X.w) X.A X.env xe → PSs (X.tr pn xe) body (tb W))
    (hdn : (n == ("__debug__" : Str)) = false := by decide) (hcd : (n == ("__classdict__" : Str)) = false := by decide) :
    PS X (.Try body [.ExceptHandler (some (.Name x np)) (some n) [.Assign [.Name y p3] (.Name n p4) p5] pos2] [] [] pos) (fun D σ H => tb (wKept X.K c i j Wout D) D σ H) := by
  refine ⟨fun pins s σ H D I h => ?_⟩
  have ok := I.ok
  have frames : X.A.frames = some (X.env :: X.outer) := by rw [ok.frames, hs]
  refine wpAny_Try_except (wpAny_mono ((hb (wKept X.K c i j Wout D) (X.pn ++ pins) _ (fun u s1 air => ?_) PassesOwn.looking).run [] s σ H D (I.toTry _) h) (fun f s1 done => ?_) fun _ _ z => z)
  · obtain ⟨a, B, sI, pins', σ1, H1, cls, d, rfl, J1, nb, up, sky, na, os, ag, b, hm, yes, no⟩ := air
    have J : Inv X pins σ1 H1 sI := J1.ofTry ok
    rw [show X.stack = X.env :: X.outer from hs] at sky
    refine Sky.land Zc.steady frames hf sky fun h3 fl3 up3 => ?_
    have J3 : Inv X pins σ1 H1 { s1 with heap := h3 } := J.landed nb fl3.1 (up.trans up3) os ag
    obtain ⟨oe3, vs3, he3, hz3, hd3⟩ := fl3.there
    have nfr : a ∉ frs (X.env :: X.outer) := fun hm => by
      obtain ⟨_, o', e', hnf⟩ := fl3.2.2.1.mem hm
      rw [he3] at e'
      cases e'
      exact hnf _ hd3
    have nL : a ≠ X.env.locals := fun z => nfr (List.mem_filterMap.mpr ⟨X.env, List.mem_cons_self, by rw [hf, z]⟩)
    have nF : a ∉ X.fs := fun hm => by
      obtain ⟨e, he, q⟩ := List.mem_filterMap.mp hm
      exact nfr (List.mem_filterMap.mpr ⟨e, List.mem_cons_of_mem _ he, q⟩)
    -- it is new: neither there at the entry nor pinned
    have gone : ∀ o, sI.heap.get? a ≠ some o := fun o q => by
      have z := nb a o q (by rw [hs]; exact nfr)
      rw [fl3.2.1] at z
      cases z
    have n0 : X.s_0.heap.get? a = none := by
      cases q : X.s_0.heap.get? a with
      | none => rfl
      | some o =>
        obtain ⟨o', q'⟩ := J.base.there a o q (by rw [hex]; simp)
        exact absurd q' (gone o')
    have nP : ∀ p ∈ X.pn ++ pins, p.1 ≠ a := fun p hp z => gone p.2 (z ▸ (J.pin p hp).1)
    have S3 := J3.suite he3 hd3 na nL nF
    refine wpAny_handleBy_cons (codeAny_handlers_test ?_) (by intro q; cases q)
    have LT : PySem.W.Looks (model X.prog X.w) h3 (typeOf (.ref a)) cls := fun _ _ _ _ k q => wpAny_typeOf_ref (k _ _ he3) (by rw [hz3.1]; exact q)
    have LM := PySem.W.exm_one (M := model X.prog X.w) J3.kIn LT hm
    have named : ∀ {Q : Value → Shared → Prop} {E : Value → Shared → Prop}, Q c { s1 with heap := h3 } → wpAny (model X.prog X.w) (X.A.mark (some (.ref a))) (eval (.Name x np) X.env) Q E { s1 with heap := h3 } := fun {Q E} q => by
      obtain ⟨hg, hdbg, hm | ⟨hm, hv, hnn⟩⟩ := hc
      · exact ld_glob (X := X.suite a ((a, oe3) :: (X.pn ++ pins))) S3 hg hm q hdbg
      · exact ld_blt (X := X.suite a ((a, oe3) :: (X.pn ++ pins))) S3 hg hm hv q hnn hdbg
    refine named (LM.here ?_)
    cases b with
    | true =>
      refine codeAny_handlers_suite_as (HandSPX.lands_againZ fl3 fun h4 fl4 up4 => ?_)
      have J4 : Inv X pins σ1 H1 { s1 with heap := h4 } := J.landed nb fl4.1 ((up.trans up3).trans up4) os ag
      obtain ⟨oe4, vs4, he4, hz4, hd4⟩ := fl4.there
      refine store_ok (X := X.suite a ((a, oe4) :: (X.pn ++ pins))) (v := .ref a) (J4.suite he4 hd4 na nL nF) hN hi (.inl hln) rfl (fun s5 S5 => ?_) (.inr hln)
      have suite : PSs (X.suite a ((a, oe4) :: (X.pn ++ pins))) [.Assign [.Name y p3] (.Name n p4) p5] (tAsg (tVar i) (gName j)) := pss_one (ps_set hN hj (.inl hly) (pe_var hi (.inl hln) hdn hcd) (hf := .inr hly))
      have len1 : i < σ1.length := by
        rw [J.len]
        exact (List.getElem?_eq_some_iff.mp hi).1
      refine wpAny_mono (suite.run [] s5 _ H1 { nx := fun σ' H' => σ' = (σ1.set i (some (.ref a))).set j (some (.ref a)) ∧ H' = H1, rt := fun _ _ => False } S5 ⟨.ref a, by rw [List.getElem?_set_self len1], rfl, rfl⟩) (fun f s6 done => ?_) fun _ _ z => z.elim
      cases f with
      | next =>
        obtain ⟨σ6, H6, S6, rfl, rfl⟩ := done
        have he6 := (S6.pin (a, oe4) (List.mem_append_left _ List.mem_cons_self)).1
        refine gone_ok (track (S6.unsuite ok) (o := ExK cls d a) he6 na n0 nL (fun v q => by rw [hd4] at q; cases q) nP (exK_ok he6 hz4 hd4)) hN hi hln fun s7 J7 => ⟨_, _, J7, yes rfl a na⟩
      | brk =>
        obtain ⟨_, _, _, z⟩ := done
        exact z.elim
      | cont =>
        obtain ⟨_, _, _, z⟩ := done
        exact z.elim
      | ret u =>
        obtain ⟨_, _, _, _, _, z⟩ := done
        exact z.elim
    | false =>
      show wpAny _ X.A (handleBy (.ref a) X.env []) _ _ _
      refine wpAny_handleBy_nil ?_
      obtain ⟨_, _, _, oe, vs, T, _, _, he, _, hd, h1, _⟩ := id fl3
      unfold PySem.passOn
      refine wpAny_bind (wpAny_field he hd h1 ?_)
      rw [if_neg (show ¬ ((Value.ref T == Value.none) = true) from by simp)]
      have fin : wpAny (model X.prog X.w) X.A (setFlight (.ref a) X.env.frame) (fun _ s4 => wpAny (model X.prog X.w) X.A (throw (.ref a) : Sem Flow) (SP X pins D) X.xe s4) X.xe { s1 with heap := h3 } := by
        rw [hf]
        exact HandSPX.setFlight_upZ fl3 fun h4 hh4 up4 => wpAny_throw (tk _ _ ⟨a, B, sI, pins, σ1, H1, cls, d, rfl, J, nb, (up.trans up3).trans up4, .inr (.inr (by rw [hs]; exact hh4)), na, os, ag, no rfl⟩)
      first
        | exact wpAny_bind (wpAny_pure (wpAny_bind fin))
        | exact wpAny_bind fin
  · cases f with
    | next =>
      obtain ⟨σ', H', J', q⟩ := done
      exact wpAny_execs_nil ⟨σ', H', J'.ofTry ok, q⟩
    | brk =>
      obtain ⟨σ', H', J', q⟩ := done
      exact ⟨σ', H', J'.ofTry ok, q⟩
    | cont =>
      obtain ⟨σ', H', J', q⟩ := done
      exact ⟨σ', H', J'.ofTry ok, q⟩
    | ret u =>
      obtain ⟨v, σ', H', J', r, q⟩ := done
      exact ⟨v, σ', H', J'.ofTry ok, r, q⟩
end
/-! ### isinstance of a kept exception -/
/-- the object as the library's rules want it -/
theorem instAt_kept {h : Heap} {a D : Addr} {oe : Obj} {vs : Array Value} (e : h.get? a = some oe) (z : Zc (.ref D) none oe) (d : oe.data = .fields vs) : PySem.W.InstAt h a oe D none := by
  obtain ⟨oc, od, oda, osl⟩ := oe
  obtain ⟨h1, h2⟩ := z
  dsimp only at h1 h2 d
  subst h1 h2 d
  exact ⟨e, rfl, rfl, trivial⟩
def rIsX (K : PySem.W.Frag) : List V → Hp → VK → Prop := fun xs H Q => ∃ (a D : Addr) (c : V) (u : Value) (b : Bool), xs = [.ref a, c] ∧ H a = some (ExK (.ref D) none a) ∧ ExcC K D ∧ ClsV c u ∧ PySem.W.kitOne K (.ref D) u = some b ∧ Q (.bl b) H
def rIsXT (K : PySem.W.Frag) : List V → Hp → VK → Prop := fun xs H Q => ∃ (a D tp : Addr) (cs : List V) (us : List Value) (b : Bool), xs = [.ref a, .ref tp] ∧ H a = some (ExK (.ref D) none a) ∧ ExcC K D ∧ H tp = some (.tup cs) ∧ Paired ClsV cs us ∧ PySem.W.kitAny K (.ref D) us = some b ∧ Q (.bl b) H
section
variable {X : Cx} (K : PySem.W.Frag)
end
/-! ### facts of own exception classes, calls of defs that raise, defs with defaults -/
/-- an own exception class over ValueError, without an own __init__ -/
structure ExOwn (K : PySem.W.Frag) (mg : Str → Option Value) (x : Str) (C : Addr) : Prop where
  g : mg x = some (.ref C)
  x : PySem.W.excIn K C [.type "ValueError", .type "Exception", .type "BaseException", .type "object"] "ValueError.__new__" = true
  k : PySem.W.keepIn K (.ref C) = true
  b : PySem.W.subIn K (.ref C) (.type "BaseException") = some true
  t : PySem.W.typeIn K (.ref C) = some (.type "type")
  c : ExcC K C
theorem kit_ref {K : PySem.W.Frag} {A C : Addr} {b : Bool} (n : (Value.ref A == Value.ref C) = false) (i : PySem.W.isClsIn K C = true) (t : PySem.W.typeIn K (.ref C) = some (.type "type")) (q : PySem.W.subIn K (.ref A) (.ref C) = some b) : PySem.W.kitOne K (.ref A) (.ref C) = some b := by
  unfold PySem.W.kitOne
  rw [if_neg (by rw [n]; exact Bool.false_ne_true)]
  have i' : (PySem.W.clsIn K C).isSome = true := i
  show (if ((PySem.W.clsIn K C).isSome && PySem.W.typeIn K (.ref C) == some (.type "type")) = true then PySem.W.subIn K (.ref A) (.ref C) else none) = some b
  rw [i', t, if_pos (by simp)]
  exact q
theorem kit_self {K : PySem.W.Frag} {C : Addr} : PySem.W.kitOne K (.ref C) (.ref C) = some true := by
  unfold PySem.W.kitOne
  rw [if_pos (by simp)]
theorem kit_val {K : PySem.W.Frag} {A : Addr} (q : PySem.W.subIn K (.ref A) (.type "ValueError") = some true) : PySem.W.kitOne K (.ref A) (.type "ValueError") = some true := by
  unfold PySem.W.kitOne
  rw [if_neg (by simp)]
  have m : PySem.W.kitMeta "ValueError" = true := by decide +kernel
  show (if PySem.W.kitMeta "ValueError" = true then PySem.W.subIn K (.ref A) (.type "ValueError") else none) = some true
  rw [if_pos m]
  exact q
theorem exm_ref2 {K : PySem.W.Frag} {A C : Addr} {b : Bool} (h1 : PySem.W.subIn K (.ref C) (.type "BaseException") = some true) (i : PySem.W.isClsIn K C = true) (t : PySem.W.typeIn K (.ref C) = some (.type "type")) (q : PySem.W.subIn K (.ref A) (.ref C) = some b) : PySem.W.exmOne K (.ref A) (.ref C) = some b := by
  have i' : (PySem.W.clsIn K C).isSome = true := i
  show (if (PySem.W.subIn K (.ref C) (.type "BaseException") == some true) = true then (if ((PySem.W.clsIn K C).isSome && PySem.W.typeIn K (.ref C) == some (.type "type")) = true then PySem.W.subIn K (.ref A) (.ref C) else none) else none) = some b
  rw [h1, i', t, if_pos (by simp), if_pos (by simp)]
  exact q
/-- none of some classes -/
theorem kit_none {K : PySem.W.Frag} {t : Value} : ∀ {us : List Value}, (∀ u ∈ us, PySem.W.kitOne K t u = some false) → PySem.W.kitAny K t us = some false
  | [], _ => rfl
  | u :: us, h => kitAny_cons (h u List.mem_cons_self) (fun _ => kit_none fun x hx => h x (List.mem_cons_of_mem _ hx)) (fun z => by cases z)
theorem cls_all : ∀ {cs : List Addr}, Paired ClsV (cs.map V.ref) (cs.map Value.ref)
  | [] => .nil
  | c :: _ => .cons (.own c) cls_all
/-- a def with defaults dvs, and with its promise -/
def DfD (K : PySem.W.Frag) (mg : Str → Option Value) (x : Str) (st : Stmt) (ps : List Str) (dvs : List V) : Prop :=
  ∃ (f : Addr) (fd : FuncData), mg x = some (.ref f) ∧ FunD K x x (defArgs st) (defBody st) (defScope st) dvs [] f fd ∧ (∃ ds, Vals dvs ds ∧ Binds K fd ps ds) ∧ Binds K fd ps []
def OkD (P : Program) (w : World) (K : PySem.W.Frag) (mg : Str → Option Value) (base : Heap) (CX : CXT) (k : Nat) (x : Str) (ps : List Str) (dvs : List V) (sp : Sp) : Prop :=
  ∃ (f : Addr) (fd : FuncData), mg x = some (.ref f) ∧ PySem.W.keepIn K (.ref f) = true ∧ (∃ ds, Vals dvs ds ∧ Binds K fd ps ds) ∧ Binds K fd ps [] ∧ FnOk P w K mg base CX k f fd ps sp
section
variable {P : Program} {w : World} {K : PySem.W.Frag} {mg : Str → Option Value} {base : Heap}
theorem DfD.ok {CX : CXT} {x : Str} {st : Stmt} {N ps : List Str} {dvs : List V} {k : Nat} {sp : Sp} (D : DfD K mg x st ps dvs) (S : FnScope N ps (defScope st)) (len : ∀ vs H Q E, sp vs H Q E → vs.length = ps.length)
    (hbody : ∀ (f : Addr) (cdv : Value) (A : Around) (outer : List Env) (s : Shared) (H : Hp) (vs : List V) (Q : VK) (E : XK), Room k (A.deeper (envOfC x (defScope st) s.heap.objs.size f cdv)) → sp vs H Q E →
      ∃ t, PSs (cxOf CX P w K mg base N x (defScope st) f cdv A outer s H E) (defBody st) t ∧ t { nx := fun _ H' => Q .non H', rt := Q } (start N vs) H) : OkD P w K mg base CX (k + 1) x ps dvs sp := by
  obtain ⟨f, fd, hm, F, hb, hb0⟩ := D
  exact ⟨f, fd, hm, F.kp, hb, hb0, F.ok S len (hbody f)⟩
/-- a def that may raise -/
theorem Df.okX {x : Str} {st : Stmt} {N ps : List Str} {k : Nat} {sp : Sp} (D : Df K mg x st ps) (S : FnScope N ps (defScope st)) (len : ∀ vs H Q E, sp vs H Q E → vs.length = ps.length)
    (hbody : ∀ (f : Addr) (cdv : Value) (A : Around) (outer : List Env) (s : Shared) (H : Hp) (vs : List V) (Q : VK) (E : XK), Room k (A.deeper (envOfC x (defScope st) s.heap.objs.size f cdv)) → sp vs H Q E →
      ∃ t, PSs (cxOf (L2.CX P w) P w K mg base N x (defScope st) f cdv A outer s H E) (defBody st) t ∧ t { nx := fun _ H' => Q .non H', rt := Q } (start N vs) H) : OkF P w K mg base (L2.CX P w) (k + 1) x ps sp := by
  obtain ⟨f, fd, hm, F, hb⟩ := D
  exact ⟨f, fd, hm, F.kp, hb, F.okX S len (hbody f)⟩
end
section
variable {X : Cx} {k k' : Nat} {x : Str} {ps : List Str} {sp : Sp} {e : Expr} {es : List Expr} {t : TA} {p pos : Pos} {W : WX} {dvs : List V}
/-- f(e, ..) where f may raise -/
theorem pe_cx (O : OkF X.prog X.w X.K X.mg X.base (L2.CX X.prog X.w) k x ps sp) (hr : Room k' X.A) (tk : Takes X W) (ha : PA X (e :: es) t) (hk : k ≤ k' := by decide) (hg : Gl X x := by rfl)
    (hdb : (x == ("__debug__" : Str)) = false := by decide) (he : starEach (e :: es) X.env = (false, eval e X.env) :: starEach es X.env := by rfl) (hpl : (backTo pos (starEach es X.env)).any (·.1) = false := by rfl) :
    PE X (.Call (.Name x p) (e :: es) [] pos) (tCallS sp (WE W) t) := by
  obtain ⟨f, fd, hm, hkp, hb, F⟩ := O
  exact pe_callS F (hr.mono hk) hg hm hkp hb (fun σ => passAt tk σ) ha hdb he hpl
/-- the same, the defaults fill up -/
def tCallD (sp : Sp) (dvs : List V) (E : L2.St → XK) (t : TA) : TE := fun σ H Q => t σ H fun vs H1 => sp (vs ++ dvs) H1 Q (E σ)
end
end Dear

namespace Dear
open PySem PySem.Spec PyProof.Rows L2
/-! ### own exceptions with an own __init__: X(DearError), DearError.__init__(self, f'..{f}'), self.f = f -/
/-- what may stand in such a field -/
def FmtV (v : V) : Prop := v = .non ∨ (∃ y : Str, v = .str y ∧ y.length ≤ 900) ∨ ∃ i : Int, v = .int i ∧ i.natAbs < 2 ^ 64
theorem int_len {i : Int} (h : i.natAbs < 2 ^ 64) : (Str.ofString (toString i)).length ≤ 900 ∧ i.natAbs.log2 < 1920 := by
  constructor
  · have e := int_text_length_le10 (k := 30) (a := i) (by decide) (Nat.lt_of_lt_of_le h (by decide))
    rw [PySem.ofString_length]
    omega
  · have e : i.natAbs.log2 < 64 := PySem.Flt.log2_lt_of (by decide) h
    omega
section
variable {X : Cx}
/-- {x} of None, a text, a number: some short text -/
def tFmtN (te : TE) : TE := fun σ H Q => te σ H fun x H1 => FmtV x ∧ ∀ z : Str, z.length ≤ 900 → Q (.str z) H1
theorem pe_fmtN {e : Expr} {te : TE} {pos : Pos} (he : PE X e te) : PE X (.FormattedValue e (-1) none pos) (tFmtN te) := by
  refine ⟨fun pins s σ H Q I h => wpAny_FormattedValue_plain (thn (he.run pins s σ H _ I h) fun v s1 hv => ?_)⟩
  obtain ⟨x, H1, J, r, hx, q⟩ := hv
  rcases hx with e | ⟨y, e, hy⟩ | ⟨i, e, hi⟩
  · subst e
    cases (show v = Value.none from r)
    exact wpAny_formatField_none ⟨.str "None", H1, (J.tok _), ⟨_, rfl⟩, q _ (by decide +kernel)⟩
  · subst e
    obtain ⟨t, e⟩ := r
    subst e
    have q' := q y hy
    exact wpAny_formatField_str ⟨.str y, H1, J, ⟨t, rfl⟩, q'⟩ ⟨.str y, H1, J.tok _, ⟨_, rfl⟩, q'⟩ (Nat.le_trans hy (by decide))
  · subst e
    obtain ⟨t, e⟩ := r
    subst e
    exact wpAny_formatField_int (int_len hi).2 ⟨.str (Str.ofString (toString i)), H1, J.tok _, ⟨_, rfl⟩, q _ (int_len hi).1⟩
end
/-- C.__init__ of an own exception class without an own one is ValueError's -/
structure DrI (K : PySem.W.Frag) (mg : Str → Option Value) (x : Str) (C : Addr) : Prop where
  g : mg x = some (.ref C)
  s : PySem.W.specialIn K (.ref C) "__getattribute__" = some (some (.builtin "type.__getattribute__"))
  r : PySem.W.readsIn K C (.type "type") = true
  v : PySem.W.findCls K (.ref C) (.type "type") "__init__" = some (.val (.builtin "ValueError.__init__"))
section
variable {X : Cx}
theorem pe_drinit {e : Expr} {es : List Expr} {ta : TA} {x : Str} {C0 : Addr} {pl : Sem Bool} {p1 p2 pos : Pos} (T : DrI X.K X.mg x C0) (ha : PA X (e :: es) ta) (hg : Gl X x := by rfl) (hdb : (x == ("__debug__" : Str)) = false := by decide)
    (hc : eval (.Call (.Attribute (.Name x p1) "__init__" p2) (e :: es) [] pos) X.env = (do
      let o9 ← eval (.Name x p1) X.env
      standAt p2.atName
      let (f9, r9) ← holding [o9] (getMethod o9 "__init__" pl)
      callWith pos f9 r9 (backTo pos (starEach (e :: es) X.env)) (backToKw pos (keywordEach [] X.env))) := by rfl)
    (he : starEach (e :: es) X.env = (false, eval e X.env) :: starEach es X.env := by rfl) (hpl : (backTo pos (starEach es X.env)).any (·.1) = false := by rfl) :
    PE X (.Call (.Attribute (.Name x p1) "__init__" p2) (e :: es) [] pos) (tVeI X.K ta) := by
  refine ⟨fun pins s σ H Q I h => PySem.W.methodCall_KW (ld_glob I hg T.g ?_ hdb) hc⟩
  refine PySem.W.method_cls I.kIn T.s (PySem.W.cls_value I.kIn T.r T.v (by decide +kernel) ?_)
  show wpAny (model X.prog X.w) X.A (callWith pos (Value.builtin "ValueError.__init__") [] (backTo pos (starEach (e :: es) X.env)) []) _ _ _
  refine PyProof.Rows.callWith_method1 (thn (ha.run pos pins _ σ H _ (I.tok _) h) fun us s1 hh => ?_) he hpl
  obtain ⟨vs, H1, J, r, a, C, ws, ev, hl, O, ea, q⟩ := hh
  subst ev
  cases r with
  | @cons _ u0 _ ur ra rr =>
    cases (show u0 = Value.ref a from ra)
    exact oinit_ok O J ea (by rw [← Paired.length rr]; exact Nat.le_trans hl (by decide)) fun s' J' => ⟨.non, H1, J', rfl, q⟩
end
/-- the promise of such an __init__ -/
def spExI (f : Str) (K : PySem.W.Frag) : Sp := fun vs H Q _ => ∃ (a C : Addr) (v : V), vs = [.ref a, v] ∧ OexC K C ∧ PySem.W.findIn K (.ref C) f = some none ∧ H a = some (exo a C none) ∧ FmtV v ∧
  ∀ dx, H dx = none → dx ≠ a → Q .non (upd (upd H dx (exd dx [(f, v)])) a (exo a C (some dx)))
/-- what the written part says of the class at C -/
structure ExInit (K : PySem.W.Frag) (mg : Str → Option Value) (x f : Str) (C : Addr) : Prop where
  g : mg x = some (.ref C)
  o : OexC K C
  n : PySem.W.findIn K (.ref C) f = some none
  c : ExcC K C
def OkI (P : Program) (w : World) (K : PySem.W.Frag) (mg : Str → Option Value) (base : Heap) (x f : Str) (C : Addr) : Prop :=
  ∃ (fI : Addr) (fd : FuncData), PySem.W.findIn K (.ref C) "__init__" = some (some (.ref fI)) ∧ PySem.W.typeIn K (.ref fI) = some (.type "function") ∧ FnOk P w K mg base CX0 1 fI fd ["self", f] (spExI f K) ∧ Binds K fd ["self", f] [] ∧ ExInit K mg x f C
/-- the def __init__ of the class at C -/
def DfI (K : PySem.W.Frag) (C : Addr) (q : Str) (st : Stmt) (f : Str) : Prop := ∃ (fI : Addr) (fd : FuncData), PySem.W.findIn K (.ref C) "__init__" = some (some (.ref fI)) ∧ PySem.W.typeIn K (.ref fI) = some (.type "function") ∧ Fun K "__init__" q st fI fd ∧ Binds K fd ["self", f] []
section
variable {X : Cx}
theorem pmk_i {k' : Nat} {x f : Str} {C : Addr} {e : Expr} {ta : TA} {p pos : Pos} (O : OkI X.prog X.w X.K X.mg X.base x f C) (hr : Room k' X.A) (ha : PA X [e] ta) (hk : 2 ≤ k' := by decide) (hg : Gl X x := by rfl) (hdb : (x == ("__debug__" : Str)) = false := by decide)
    (he : starEach [e] X.env = (false, eval e X.env) :: starEach [] X.env := by rfl) (hpl : (backTo pos (starEach [] X.env)).any (·.1) = false := by rfl) : PMk X (.Call (.Name x p) [e] [] pos) (tMkO C (spExI f X.K) [] ta) := by
  obtain ⟨fI, fd, h1, h2, F, b, T⟩ := O
  exact pmk_oex T.o h1 h2 F (hr.mono hk) b .nil pass0 hg T.g ha hdb he hpl
end
/-- making it, at its reading -/
theorem mkx {K : PySem.W.Frag} {mg : Str → Option Value} {x f : Str} {C : Addr} {H : Hp} {v : V} {Q : XK} (T : ExInit K mg x f C) (fv : FmtV v) (q : ∀ d, H d = none → Q (.ref C) (some d) (upd H d (.xd [(f, v)]))) :
    [v].length ≤ 1000 ∧ ∀ a, H a = none → spExI f K (.ref a :: ([v] ++ [])) (upd H a (exo a C none)) (fun u H2 => u = .non ∧ ∃ (d : Addr) (fs : List (Str × V)), H2 a = some (exo a C (some d)) ∧ H2 d = some (exd d fs) ∧ H d = none ∧ Q (.ref C) (some d) (upd (del H2 a) d (.xd fs))) (fun _ _ _ => False) := by
  refine ⟨(by decide : 1 ≤ 1000), fun a ha => ⟨a, C, v, rfl, T.o, T.n, upd_same, fv, fun dx hd ne => ⟨rfl, dx, [(f, v)], upd_same, ?_, ?_, ?_⟩⟩⟩
  · rw [upd_ne ne, upd_same]
  · rw [upd_ne ne] at hd
    exact hd
  · rw [upd_ne ne] at hd
    have e : upd (del (upd (upd (upd H a (exo a C none)) dx (exd dx [(f, v)])) a (exo a C (some dx))) a) dx (.xd [(f, v)]) = upd H dx (.xd [(f, v)]) := by
      funext b
      by_cases h1 : b = dx
      · subst h1
        rw [upd_same, upd_same]
      · rw [upd_ne h1, upd_ne h1]
        by_cases h2 : b = a
        · subst h2
          rw [del_same, ha]
        · rw [del_ne h2, upd_ne h2, upd_ne h1, upd_ne h2]
    rw [e]
    exact q dx hd
/-! ### a kept exception with a dict: isinstance, its field -/
/-- the exception of the class D at a, with its dict or without -/
def ExAt (H : Hp) (D a : Addr) : Prop := H a = some (ExK (.ref D) none a) ∨ ∃ (dd : Addr) (fs : List (Str × V)), H a = some (ExK (.ref D) (some dd) a) ∧ H dd = some (.xd fs)
section
variable {prog : Program} {w : World} {A : Around} {E : Value → Shared → Prop} {s : Shared} {K : PySem.W.Frag} {x D : Addr} {ox : Obj} {od : Option Obj}
open PySem.W in
theorem class_of_exc {Q : Option Value → Shared → Prop} (C : ExcC K D) (X : K.In s.heap) (I : InstAt s.heap x ox D od) (h : Q (some (.ref D)) { s with toks := s.toks + 1 }) : wpAny (model prog w) A (getAttr? (.ref x) "__class__") Q E s := by
  obtain ⟨cd, hc, _⟩ := any_some C.hd
  have found : findObj K D od "__class__" = some (.bind (.builtin "getset_descriptor.__get__") (.builtin "object.__class__")) := by
    unfold findObj
    rw [hc, Option.bind_some, C.ha, Option.bind_some]
    simp [C.hn, C.ht]
  obtain ⟨hp, g, d, t, os⟩ := s
  have M0 := I.type (M := model prog w)
  have no : (Value.builtin "BaseException.__getattribute__" == Value.builtin "object.__getattribute__") = false := by decide +kernel
  have isE : Looks (model prog w) hp (isInstance (.ref x) (.type "BaseException")) true := M0.andThen (looks_subIn X C.hs)
  unfold getAttr? getAttrBy? getAttrBy
  refine wpAny_bind (wpAny_mkText (wpAny_bind (wpAny_attempt (wpAny_holding (wpAny_bind (M0.at (wpAny_bind ((looks_findIn (M := model prog w) X C.hg).at ?_))))))))
  show wpAny (model prog w) _ (if (true && Value.builtin "BaseException.__getattribute__" == Value.builtin "object.__getattribute__") = true then _ else _) _ _ _
  rw [no, if_neg (by decide)]
  unfold getAttrByItsOwn hookBefore
  refine wpAny_bind ?_
  rw [if_pos (show onTheHeap (.ref D) = true from rfl)]
  refine (looks_findIn (M := model prog w) X C.hk).at (wpAny_bind (wpAny_attempt (wpAny_holding ?_)))
  unfold callGetattribute
  rw [if_neg (by decide)]
  unfold boundAndCalled
  rw [F.excAttr_ValueError.ga.bind (.ref x)]
  refine wpAny_bind (wpAny_pure ?_)
  show wpAny (model prog w) _ (call (.builtin "BaseException.__getattribute__") [.ref x, .str "__class__" t]) _ _ _
  refine wpAny_call (codeAny_call_builtin F.excAttr_ValueError.ga.plain F.entry_bexc_ga (@check_slot (model prog w) _ _ ⟨hp, g, d, t + 1, os⟩ "BaseException.__getattribute__" "BaseException" "__getattribute__" (.ref x) [.str "__class__" t] [] _ (by decide +kernel) (by decide +kernel) isE (F.args_bexc_ga (.ref x) (.str "__class__" t)) ?_))
  unfold Builtin.«object.__getattribute__»
  refine wpAny_bind (wpAny_of_eq (a := ((Value.ref x : Value), [Value.str "__class__" t])) (by first | (simp only [slotArgs]; rfl) | rfl) (wpAny_bind (wpAny_pure (wpAny_bind (M0.at (wpAny_bind ((looks_find (M := model prog w) X I found).at ?_)))))))
  show wpAny (model prog w) _ (holding [Value.builtin "object.__class__"] (call (.builtin "getset_descriptor.__get__") [.builtin "object.__class__", .ref x, .ref D]) >>= ret) _ _ _
  refine wpAny_bind (wpAny_holding (wpAny_call (class_get (s := ⟨hp, g, d, t + 1, os⟩) (ox := ox) (od := od) X I C.hm (wpAny_pure ?_))))
  show wpAny (model prog w) _ (handedOut (.ref D)) _ _ _
  rw [handedOut_of (v := .ref D) rfl]
  first
    | exact wpAny_pure (wpAny_pure h)
    | exact wpAny_pure h
    | exact wpAny_pure (wpAny_bind (wpAny_pure (wpAny_pure h)))
open PySem.W in
theorem kitx_own (C : ExcC K D) : KitX K (.ref x) (.ref D) (fun h => InstAt h x ox D od) := by
  have Z := handS_kitx_exc (x := x) (ox := ox) C.hg C.hk C.hs C.hd C.ha C.hn C.ht C.hm
  refine ⟨fun _ _ _ I => I.type, fun M h X _ => ?_, Z.ne, fun X I k => class_of_exc C X I k⟩
  obtain ⟨cd, hc, _⟩ := any_some C.hd
  unfold clsIn at hc
  split at hc
  · rename_i ho
    intro A' Q' E' s' k q
    unfold isType loadHead
    exact wpAny_bind (wpAny_loadPart (k _ _ (X _ _ ho)) (wpAny_pure q))
  · cases hc
end
def rIsY (K : PySem.W.Frag) : List V → Hp → VK → Prop := fun xs H Q => ∃ (a D : Addr) (c : V) (u : Value) (b : Bool), xs = [.ref a, c] ∧ ExAt H D a ∧ ExcC K D ∧ ClsV c u ∧ PySem.W.kitOne K (.ref D) u = some b ∧ Q (.bl b) H
def rIsYT (K : PySem.W.Frag) : List V → Hp → VK → Prop := fun xs H Q => ∃ (a D tp : Addr) (cs : List V) (us : List Value) (b : Bool), xs = [.ref a, .ref tp] ∧ ExAt H D a ∧ ExcC K D ∧ H tp = some (.tup cs) ∧ Paired ClsV cs us ∧ PySem.W.kitAny K (.ref D) us = some b ∧ Q (.bl b) H
section
variable {X : Cx} {pins : List (Addr × Obj)} {σ : L2.St} {H : Hp} {s : Shared}
theorem inst_of (I : Inv X pins σ H s) {D a : Addr} (h : ExAt H D a) : ∃ oe od, PySem.W.InstAt s.heap a oe D od := by
  rcases h with h | ⟨dd, fs, h, hd⟩
  · obtain ⟨⟨oe, vs, he, hz, hv⟩, _⟩ := I.hok a _ h
    exact ⟨oe, none, instAt_kept he hz hv⟩
  · obtain ⟨⟨oe, vs, he, hz, hv⟩, _⟩ := I.hok a _ h
    have hx : ObjOk X.prog X.w H s.heap dd (.xd fs) := I.hok dd _ hd
    obtain ⟨mA, hns, _⟩ := hx
    obtain ⟨od, ho, _⟩ := lookIn_ns hns
    exact ⟨oe, some od, he, hz.1, by unfold PySem.W.notCls; rw [hv] <;> rfl, by rw [hz.2]; exact ho⟩
end
section
variable {X : Cx} (K : PySem.W.Frag)
theorem call_isY_k (hk : X.K = K := by rfl) : CallR X (.builtin "isinstance") (rIsY K) := by
  subst hk
  intro pins s σ H xs us Q I r h
  obtain ⟨a, D, c, u, b, rfl, ha, C, k, e, q⟩ := h
  obtain ⟨u1, u2, rfl, r1, r2⟩ := vals2 r
  have e2 := k.eq r2
  subst e2
  cases r1
  obtain ⟨oe, od, J⟩ := inst_of I ha
  exact PySem.W.kia_one (kitx_own C) I.kIn J e (fun z => nomatch z) fun tk => ⟨.bl b, H, I.tok tk, rfl, q⟩
theorem call_isYT_k (hk : X.K = K := by rfl) : CallR X (.builtin "isinstance") (rIsYT K) := by
  subst hk
  intro pins s σ H xs us Q I r h
  obtain ⟨a, D, tp, cs, ws, b, rfl, ha, C, hT, k, e, q⟩ := h
  obtain ⟨u1, u2, rfl, r1, r2⟩ := vals2 r
  cases r1
  cases (show u2 = Value.ref tp from r2)
  obtain ⟨oe, od9, J⟩ := inst_of I ha
  obtain ⟨_, its, rv, o, h1, h2, n, h3⟩ := (show ObjOk X.prog X.w H s.heap tp (.tup cs) from I.hok tp _ hT)
  have e3 := ClsV.all k rv
  subst e3
  obtain ⟨oc, od, dt, sl⟩ := o
  simp only at h2 h3
  subst h2 h3
  exact PySem.W.kia_tup (kitx_own C) I.kIn J h1 e (fun z => nomatch z) fun tk => ⟨.bl b, H, I.tok tk, rfl, q⟩
/-- e.f, e a kept exception -/
def tXfK (K : PySem.W.Frag) (f : Str) (te : TE) : TE := fun σ H Q => te σ H fun x H1 => ∃ (a C dd : Addr) (fs : List (Str × V)) (v : V), x = .ref a ∧ H1 a = some (ExK (.ref C) (some dd) a) ∧ H1 dd = some (.xd fs) ∧ ExcC K C ∧ PySem.W.findIn K (.ref C) f = some none ∧ fs.lookup f = some v ∧ Q v H1
end
end Dear

namespace Dear
open PySem PySem.Spec PyProof.Rows L2
/-! ### own classes: making an object, its methods; both may raise -/
def DfM (K : PySem.W.Frag) (C : Addr) (m q : Str) (st : Stmt) (ps : List Str) : Prop := ∃ (f : Addr) (fd : FuncData), Meth K C m f ∧ Fun K m q st f fd ∧ Binds K fd ps []
def DfC (K : PySem.W.Frag) (mg : Str → Option Value) (x : Str) (C : Addr) (q : Str) (st : Stmt) (ps : List Str) : Prop := mg x = some (.ref C) ∧ ∃ (f : Addr) (fd : FuncData), L2.Mk K C f ∧ Fun K "__init__" q st f fd ∧ Binds K fd ps []
def OkM (P : Program) (w : World) (K : PySem.W.Frag) (mg : Str → Option Value) (base : Heap) (CX : CXT) (k : Nat) (C : Addr) (m : Str) (ps : List Str) (sp : Sp) : Prop :=
  ∃ (f : Addr) (fd : FuncData), Meth K C m f ∧ Binds K fd ps [] ∧ FnOk P w K mg base CX k f fd ps sp
def OkC (P : Program) (w : World) (K : PySem.W.Frag) (mg : Str → Option Value) (base : Heap) (CX : CXT) (k : Nat) (x : Str) (C : Addr) (ps : List Str) (sp : Sp) : Prop :=
  mg x = some (.ref C) ∧ ∃ (f : Addr) (fd : FuncData), L2.Mk K C f ∧ Binds K fd ps [] ∧ FnOk P w K mg base CX k f fd ps sp
section
variable {P : Program} {w : World} {K : PySem.W.Frag} {mg : Str → Option Value} {base : Heap} {C : Addr} {x m q : Str} {st : Stmt} {N ps : List Str} {k : Nat} {sp : Sp}
theorem DfM.ok (D : DfM K C m q st ps) (S : FnScope N ps (defScope st)) (len : ∀ vs H Q E, sp vs H Q E → vs.length = ps.length)
    (body : ∀ (f : Addr) (cdv : Value) (A : Around) (outer : List Env) (s : Shared) (H : Hp) (vs : List V) (Q : VK) (E : XK), Room k (A.deeper (envOfC q (defScope st) s.heap.objs.size f cdv)) → sp vs H Q E →
      ∃ t, PSs (cxOf CX0 P w K mg base N q (defScope st) f cdv A outer s H E).nox (defBody st) t ∧ t { nx := fun _ H' => Q .non H', rt := Q } (start N vs) H) : OkM P w K mg base CX0 (k + 1) C m ps sp := by
  obtain ⟨f, fd, hm, F, hb⟩ := D
  exact ⟨f, fd, hm, hb, F.ok S len (body f)⟩
theorem DfM.okX (D : DfM K C m q st ps) (S : FnScope N ps (defScope st)) (len : ∀ vs H Q E, sp vs H Q E → vs.length = ps.length)
    (body : ∀ (f : Addr) (cdv : Value) (A : Around) (outer : List Env) (s : Shared) (H : Hp) (vs : List V) (Q : VK) (E : XK), Room k (A.deeper (envOfC q (defScope st) s.heap.objs.size f cdv)) → sp vs H Q E →
      ∃ t, PSs (cxOf (L2.CX P w) P w K mg base N q (defScope st) f cdv A outer s H E) (defBody st) t ∧ t { nx := fun _ H' => Q .non H', rt := Q } (start N vs) H) : OkM P w K mg base (L2.CX P w) (k + 1) C m ps sp := by
  obtain ⟨f, fd, hm, F, hb⟩ := D
  exact ⟨f, fd, hm, hb, F.okX S len (body f)⟩
theorem DfC.okX (D : DfC K mg x C q st ps) (S : FnScope N ps (defScope st)) (len : ∀ vs H Q E, sp vs H Q E → vs.length = ps.length)
    (body : ∀ (f : Addr) (cdv : Value) (A : Around) (outer : List Env) (s : Shared) (H : Hp) (vs : List V) (Q : VK) (E : XK), Room k (A.deeper (envOfC q (defScope st) s.heap.objs.size f cdv)) → sp vs H Q E →
      ∃ t, PSs (cxOf (L2.CX P w) P w K mg base N q (defScope st) f cdv A outer s H E) (defBody st) t ∧ t { nx := fun _ H' => Q .non H', rt := Q } (start N vs) H) : OkC P w K mg base (L2.CX P w) (k + 1) x C ps sp := by
  obtain ⟨g, f, fd, hm, F, hb⟩ := D
  exact ⟨g, f, fd, hm, hb, F.okX S len (body f)⟩
theorem DfC.ok (D : DfC K mg x C q st ps) (S : FnScope N ps (defScope st)) (len : ∀ vs H Q E, sp vs H Q E → vs.length = ps.length)
    (body : ∀ (f : Addr) (cdv : Value) (A : Around) (outer : List Env) (s : Shared) (H : Hp) (vs : List V) (Q : VK) (E : XK), Room k (A.deeper (envOfC q (defScope st) s.heap.objs.size f cdv)) → sp vs H Q E →
      ∃ t, PSs (cxOf CX0 P w K mg base N q (defScope st) f cdv A outer s H E).nox (defBody st) t ∧ t { nx := fun _ H' => Q .non H', rt := Q } (start N vs) H) : OkC P w K mg base CX0 (k + 1) x C ps sp := by
  obtain ⟨g, f, fd, hm, F, hb⟩ := D
  exact ⟨g, f, fd, hm, hb, F.ok S len (body f)⟩
end
/-- o.m(..), the way out for a raise told at the names' values -/
def tMethX (C : Addr) (m : Str) (sp : Sp) (E : L2.St → XK) (ta : TE) (t : TA) : TE := fun σ H Q => ta σ H fun x H1 => ∃ a dx fs, x = .ref a ∧ H1 a = some (.ins C dx fs) ∧ fs.lookup m = none ∧ t σ H1 fun vs H2 => sp (x :: vs) H2 Q (E σ)
def tMakeX (C : Addr) (sp : Sp) (E : L2.St → XK) (t : TA) : TE := fun σ H Q => t σ H fun vs H1 => ∀ x dx, H1 x = none → H1 dx = none → dx ≠ x → sp (.ref x :: vs) (upd (upd H1 dx (.own x)) x (.ins C dx [])) (fun v H2 => v = .non ∧ Q (.ref x) H2) (E σ)
section
variable {X : Cx} {k k' : Nat} {C : Addr} {x m : Str} {ps : List Str} {sp : Sp} {o e : Expr} {es : List Expr} {ta : TE} {t : TA} {p pos apos : Pos} {W : WX}
end
/-- text += text, on an attribute -/
def rAddT : V → V → Hp → VK → Prop := fun x y H Q => ∃ i j, x = .str i ∧ y = .str j ∧ i.length + j.length ≤ sizeLine ∧ Q (.str (i ++ j)) H
end Dear

namespace Dear
open PySem PySem.Spec PyProof.Rows L2
/-! ### the set of a list of texts (any number), and how many it has -/
def dd1 (m : List Str) (v : Str) : List Str := if v ∈ m then m else m ++ [v]
def dd (xs : List Str) : List Str := xs.foldl dd1 []
theorem dd_le : ∀ (xs m : List Str), (xs.foldl dd1 m).length ≤ m.length + xs.length
  | [], m => by simp
  | v :: r, m => by
    rw [List.foldl_cons]
    have h1 := dd_le r (dd1 m v)
    have h2 : (dd1 m v).length ≤ m.length + 1 := by
      unfold dd1
      split
      · omega
      · simp
    rw [List.length_cons]
    omega
theorem dd_more {xs : List Str} {i : Nat} {v : Str} (h : xs[i]? = some v) : dd (xs.take (i + 1)) = dd1 (dd (xs.take i)) v := by
  unfold dd
  rw [List.take_succ, h, List.foldl_append]
  rfl
/-- unlike ones: as many as there are -/
theorem dd_nodup : ∀ {xs : List Str} (m : List Str), (m ++ xs).Nodup → xs.foldl dd1 m = m ++ xs
  | [], m, _ => by simp
  | v :: r, m, h => by
    have hv : ¬ v ∈ m := fun z => by
      have := List.nodup_append.mp h
      exact this.2.2 v z v List.mem_cons_self rfl
    rw [List.foldl_cons]
    have e : dd1 m v = m ++ [v] := if_neg hv
    rw [e, dd_nodup (m ++ [v]) (by rw [List.append_assoc]; exact h), List.append_assoc]
    rfl
/-! ### a set of texts that can be walked -/
def signE (e : Int × Value) : Str := match e.2 with | .str z _ => z | _ => Str.empty
def TextE (P : Program) (w : World) (e : Int × Value) : Prop := ∃ z tk, e.2 = Value.str z tk ∧ e.1 = (PySem.strKind P w).hash z
/-- at a lies the set of the texts m -/
def SetW (P : Program) (w : World) (h : Heap) (a : Addr) (m : List Str) : Prop :=
  ∃ ob ms n tb, h.get? a = some ob ∧ ob.ExactSet ∧ ob.data = .set ms n tb ∧ (∀ e ∈ ms.toList, TextE P w e) ∧ (ms.toList.map signE).Perm m ∧
    ms.size < scanBound ∧ tb.fits ms.size = true ∧ Ris tb.place.toList ∧ (w.params.followText "set-order" = true ∨ tb.led = true)
section
variable {P : Program} {w : World} {A : Around} {E : Value → Shared → Prop} {s : Shared} {a : Addr} {m : List Str}
theorem text_elems {l : List (Int × Value)} (g : ∀ e ∈ l, TextE P w e) : ElemsOf (PySem.strKind P w) l := fun e he => by
  obtain ⟨z, tk, e1, e2⟩ := g e he
  exact ⟨⟨z, by rw [e1]; exact strKind_is P w z tk, e2⟩, by rw [e1]; rfl⟩
theorem text_is {e : Int × Value} (g : TextE P w e) (z : Str) : (PySem.strKind P w).is z e.2 = true ↔ signE e = z := by
  obtain ⟨y, tk, e1, _⟩ := g
  unfold signE
  rw [e1]
  show ((y == z) = true) ↔ y = z
  exact beq_iff_eq
/-- behind the laying: the table may be laid anew -/
theorem add_rest {gave : Bool → Sem Unit} (hg : ∀ (b : Bool) (s1 : Shared) (Q1 : Unit → Shared → Prop), Q1 () s1 → wpAny (model P w) A (gave b) Q1 E s1)
    {ob : Obj} {ms : Array (Int × Value)} {n : Nat} {tb : SetTable} (at0 : s.heap.get? a = some ob) (ex : ob.ExactSet) (da : ob.data = .set ms n tb)
    {ms1 : Array (Int × Value)} {tb1 : SetTable} (te : ∀ e ∈ ms1.toList, TextE P w e) (pm1 : (ms1.toList.map signE).Perm m)
    (few : ms1.size < scanBound) (fit : tb1.fits ms1.size = true) (ris : Ris tb1.place.toList) (led : w.params.followText "set-order" = true ∨ tb1.led = true) {dum : Bool} {R : Option Bool → Shared → Prop}
    (hR : ∀ h1, Heap.SameBut a s.heap h1 → SetW P w h1 a m → R (some true) { s with heap := h1 }) :
    wpAny (model P w) A (do
        storeSet a ms1 tb1
        if (!dum && tb1.tooFull) = true then do
            gave (relayAll tb1 ms1 (SetTable.grown ms1.size)).2.2
            storeSet a (relayAll tb1 ms1 (SetTable.grown ms1.size)).1 (relayAll tb1 ms1 (SetTable.grown ms1.size)).2.1
            pure (some true)
          else pure (some true)) R E s := by
  refine wpAny_bind (wpAny_storeSet_of at0 da ?_ (fits_of_scanBound few))
  have at1 := store_at (es' := ms1) (t' := tb1) at0 da
  have same1 := Heap.SameBut.update s.heap a (Obj.putSet ms1 tb1)
  split
  · have q1 := relayAll_perm tb1 ms1 (SetTable.grown ms1.size)
    have q2 := relayAll_fits tb1 ms1 (SetTable.grown ms1.size)
    have q3 := relayAll_ris tb1 ms1 (SetTable.grown ms1.size)
    have q4 := relayAll_led tb1 ms1 (SetTable.grown ms1.size)
    generalize relayAll tb1 ms1 (SetTable.grown ms1.size) = Z at q1 q2 q3 q4 ⊢
    obtain ⟨ms2, tb2, gv⟩ := Z
    dsimp only at q1 q2 q3 q4 ⊢
    have sz : ms2.size = ms1.size := by rw [← Array.length_toList, q1.length_eq, Array.length_toList]
    have few2 : ms2.size < scanBound := by rw [sz]; exact few
    refine wpAny_bind (hg _ _ _ ?_)
    refine wpAny_bind (wpAny_storeSet_of at1 rfl ?_ (fits_of_scanBound few2))
    have at2 := store_at (es' := ms2) (t' := tb2) at1 rfl
    refine wpAny_pure (hR _ (same1.trans (Heap.SameBut.update _ a _)) ?_)
    exact ⟨_, ms2, _, tb2, at2, ex, rfl, fun e he => te e (q1.mem_iff.mp he), (q1.map signE).trans pm1, few2, q2, q3, led.imp id fun z => by rw [q4]; exact z⟩
  · exact wpAny_pure (hR _ same1 ⟨_, ms1, _, tb1, at1, ex, rfl, te, pm1, few, fit, ris, led⟩)
theorem setW_add {k : Str} {tk : Tok} {Q : Bool → Shared → Prop} (W : SetW P w s.heap a m) (room : m.length + 1 < scanBound)
    (hQ : ∀ h1 b, Heap.SameBut a s.heap h1 → SetW P w h1 a (dd1 m k) → Q b { s with heap := h1 }) :
    wpAny (model P w) A (setAddHashed a (.str k tk) ((PySem.strKind P w).hash k)) Q E s := by
  obtain ⟨ob, ms, n, tb, at0, ex, da, te, pm, few, fit, ris, led⟩ := W
  have isk : (PySem.strKind P w).is k (.str k tk) = true := strKind_is P w k tk
  have sc : (Value.str k tk).scannable = true := rfl
  have el : ElemsOf (PySem.strKind P w) ms.toList := text_elems te
  unfold setAddHashed setAddHashedIn
  refine wpAny_holding (wpAny_bind (wpAny_setState_of at0 da fit ?_))
  dsimp only
  rw [byScan_of sc few el]
  simp only [↓reduceIte]
  unfold setAddByScan
  refine wpAny_bind (wpAny_bind (wpAny_rule (wpAny_bind (wpAny_setScan_of isk at0 da fit el ?_))))
  cases found : List.findIdx? (fun e => (PySem.strKind P w).is k e.2) ms.toList with
  | some j =>
    dsimp only
    obtain ⟨lt, ej, _⟩ := List.findIdx?_eq_some_iff_getElem.mp found
    have km : k ∈ m := pm.mem_iff.mp (List.mem_map.mpr ⟨_, List.getElem_mem lt, (text_is (te _ (List.getElem_mem lt)) k).mp ej⟩)
    refine wpAny_pure (wpAny_pure ?_)
    refine hQ s.heap _ (Heap.SameBut.refl a s.heap) ⟨ob, ms, n, tb, at0, ex, da, te, ?_, few, fit, ris, led⟩
    unfold dd1
    rw [if_pos km]
    exact pm
  | none =>
    dsimp only
    have km : k ∉ m := fun z => by
      obtain ⟨e, he, q⟩ := List.mem_map.mp (pm.mem_iff.mpr z)
      have c := List.findIdx?_eq_none_iff.mp found e he
      rw [(text_is (te e he) k).mpr q] at c
      cases c
    have q1 := layNew_perm tb ms ((PySem.strKind P w).hash k) (.str k tk)
    have q2 := layNew_fits tb ms ((PySem.strKind P w).hash k) (.str k tk)
    have q3 := layNew_ris tb ms ((PySem.strKind P w).hash k) (.str k tk) ris
    have q4 := layNew_led tb ms ((PySem.strKind P w).hash k) (.str k tk)
    generalize layNew tb ms ((PySem.strKind P w).hash k) (.str k tk) = Z at q1 q2 q3 q4 ⊢
    obtain ⟨ms1, tb1, dum, gv⟩ := Z
    dsimp only at q1 q2 q3 q4 ⊢
    rw [Array.toList_push] at q1
    have te1 : ∀ e ∈ ms1.toList, TextE P w e := fun e he => by
      rcases List.mem_append.mp (q1.mem_iff.mp he) with z | z
      · exact te e z
      · rw [List.mem_singleton.mp z]
        exact ⟨k, tk, rfl, rfl⟩
    have pm1 : (ms1.toList.map signE).Perm (dd1 m k) := by
      have q := q1.map signE
      rw [List.map_append] at q
      unfold dd1
      rw [if_neg km]
      exact q.trans (pm.append_right _)
    have sz : ms1.size = m.length + 1 := by
      rw [← Array.length_toList, q1.length_eq, List.length_append, ← pm.length_eq, List.length_map]
      rfl
    have few1 : ms1.size < scanBound := by rw [sz]; exact room
    have led1 : w.params.followText "set-order" = true ∨ tb1.led = true := led.imp id fun z => by rw [q4]; exact z
    refine wpAny_bind (?_ : wpAny _ _ (match gv with | true => rule "set.scan.the-table-gave-way" | false => pure ()) _ _ _)
    have hgv : ∀ (b : Bool) {s1 : Shared} {Q1 : Unit → Shared → Prop}, Q1 () s1 → wpAny (model P w) A (match b with | true => rule "set.scan.the-table-gave-way" | false => pure ()) Q1 E s1 := fun b s1 Q1 q => by
      cases b
      · exact wpAny_pure q
      · exact wpAny_rule q
    refine hgv _ ?_
    split
    · refine wpAny_bind ?_
      rw [hashByValue_scannable 8 sc]
      refine wpAny_pure ?_
      refine add_rest ?_ at0 ex da te1 pm1 few1 ?_ ?_ ?_ ?_
      · intro b s1 Q1 q; cases b <;> first | exact wpAny_pure q | exact wpAny_rule q
      · first | (split <;> first | exact q2 | exact SetTable.fits_plain_off q2) | exact q2
      · first | (split <;> exact q3) | exact q3
      · first | (split <;> exact led1) | exact led1
      · intro h1 sb r; dsimp only; exact wpAny_pure (hQ h1 _ sb r)
    · refine wpAny_bind (wpAny_pure ?_)
      simp only [↓reduceIte]
      refine add_rest ?_ at0 ex da te1 pm1 few1 q2 q3 led1 ?_
      · intro b s1 Q1 q; cases b <;> first | exact wpAny_pure q | exact wpAny_rule q
      · intro h1 sb r; dsimp only; exact wpAny_pure (hQ h1 _ sb r)
/-- a new set -/
theorem new_set (x : Value) {Q1 : Value → Shared → Prop}
    (q : ∀ tb : SetTable, tb = .fresh 0 0 (!w.params.followText "set-order") → Q1 (.ref s.heap.objs.size) { s with heap := s.heap.push { cls := .type "set", dict := none, data := .set #[] 0 tb } }) :
    codeAny (model P w) A (.call (.builtin "set.__new__") ⟨[.type "set", x], []⟩) (wants Q1 E) s := by
  refine codeAny_of_tree (?_ : wpAny _ A.in1 (do checkBuiltinCall "set.__new__" ⟨[.type "set", x], []⟩; again (.builtin "set.__new__" ⟨[.type "set", x], []⟩)) _ _ s)
  refine wpAny_bind (wpAny_of_eq (PySem.F.newCall_set_1 x) (wpAny_pure ⟨plainId_quiet PySem.F.plain_set_new _, codeAny_builtin PySem.F.entry_set_new (?_ : wpAny _ _ _ _ _ s)⟩))
  rw [Around.under_plainId PySem.F.plain_set_new _]
  have below := sub_set_self
  unfold Builtin.«set.__new__» Builtin.Frozenset.newClass
  obtain ⟨h0, g0, d0, t0, o0⟩ := s
  dsimp only
  wp_walk
  refine wpAny_askSetting (wpAny_pure ?_)
  dsimp only
  simp only [newObj]
  exact wpAny_bind (wpAny_alloc (wpAny_pure (wpAny_pure (q _ rfl))))
theorem setW_fresh {h : Heap} (g : h.get? a = some { cls := .type "set", dict := none, data := .set #[] 0 (.fresh 0 0 (!w.params.followText "set-order")) }) : SetW P w h a [] := by
  refine ⟨_, #[], 0, _, g, ⟨rfl, rfl, rfl⟩, rfl, (fun e he => by simp at he), (by simp), (by decide), (by rfl), List.Pairwise.nil, ?_⟩
  show _ ∨ (!w.params.followText "set-order") = true
  cases w.params.followText "set-order"
  · exact .inr rfl
  · exact .inl rfl
end
section
variable {prog : Program} {w : World} {A : Around} {R : Result → Shared → Prop} {I : Addr} {fp wr : List Addr} {G : Array GenState → Array GenState → Prop} {n : Nat} {Pn : Nat → Value → Prop} {St : Nat → Shared → Prop}
/-- S holds the unlike ones of the first i -/
def SetAtS (prog : Program) (w : World) (h : Heap) (S : Addr) (xs : List Str) : Prop := SetW prog w h S (dd xs)
theorem set_loop (W : WalksS prog w A.in1 I fp wr G n Pn St) (S : Addr) (out : S ∉ fp) (xs : List Str) (size : xs.length = n) (room : n + 1 < scanBound)
    (vals : ∀ i v, Pn i v → ∃ t, v = .str (xs.getD i Str.empty) t) :
    ∀ (m i : Nat) (s : Shared), i + m = n → St i s → SetAtS prog w s.heap S (xs.take i) →
      (∀ s', Moved (S :: wr) G s s' → SetAtS prog w s'.heap S xs → R (.ok (.ret .none)) s') →
      codeAny (model prog w) A (.builtin "set.update.loop" ⟨[.ref S, .ref I], []⟩) R s := by
  have outw : S ∉ wr := fun z => out (W.sub _ z)
  have more : ∀ b ∈ wr, b ∈ S :: wr := fun b z => List.mem_cons_of_mem _ z
  have stay : ∀ {s s' : Shared} {ys : List Str}, Moved wr G s s' → SetAtS prog w s.heap S ys → SetAtS prog w s'.heap S ys := fun mv hS => by
    obtain ⟨o, es, ep, tb, ho, rest⟩ := hS
    exact ⟨o, es, ep, tb, mv.heap S _ outw ho, rest⟩
  intro m
  induction m with
  | zero =>
    intro i s im hst hS hR
    have ei : i = n := by omega
    subst ei
    rw [← size, List.take_length] at hS
    refine codeAny_builtin PyProof.Rows.F.entry_set_update_loop (?_ : wpAny _ _ _ _ _ s)
    rw [Around.under_plainId PyProof.Rows.F.plain_set_update_loop _]
    show wpAny _ A.in1 (pyNext (.ref I) >>= _) _ _ s
    exact wpAny_bind (W.done s _ _ hst fun s' mv => wpAny_pure (hR s' (mv.mono more) (stay mv hS)))
  | succ m ih =>
    intro i s im hst hS hR
    have lt : i < n := by omega
    refine codeAny_builtin PyProof.Rows.F.entry_set_update_loop (?_ : wpAny _ _ _ _ _ s)
    rw [Around.under_plainId PyProof.Rows.F.plain_set_update_loop _]
    show wpAny _ A.in1 (pyNext (.ref I) >>= _) _ _ s
    refine wpAny_bind (W.item i s _ _ lt hst fun v s1 pv st1 mv => ?_)
    obtain ⟨t, rfl⟩ := vals i v pv
    have e : xs[i]? = some (xs.getD i Str.empty) := by
      rw [List.getD_eq_getElem?_getD, List.getElem?_eq_getElem (by omega)]
      rfl
    generalize xs.getD i Str.empty = x at e
    have hS1 := stay mv hS
    show wpAny _ A.in1 (holding [Value.str x t] (setAdd S (.str x t)) >>= _) _ _ s1
    refine wpAny_bind (wpAny_holding ?_)
    unfold setAdd
    refine wpAny_holding (wpAny_bind ((PySem.strKind prog w).pyHash (k := x) (strKind_is _ _ _ _) ?_))
    have few : (dd (xs.take i)).length + 1 < scanBound := by
      have := dd_le (xs.take i) []
      have h2 : (xs.take i).length ≤ n := by rw [List.length_take]; omega
      have h3 : (dd (xs.take i)).length ≤ (xs.take i).length := by simpa [dd] using this
      omega
    refine setW_add (s := { s1 with toks := s1.toks + 1 }) hS1 few fun h2 _ same hS2 => ?_
    have next : SetAtS prog w h2 S (xs.take (i + 1)) := by
      unfold SetAtS
      rw [dd_more e]
      exact hS2
    refine wpAny_pure ⟨plainId_quiet PyProof.Rows.F.plain_set_update_loop _, ih (i + 1) _ (by omega) (W.frame _ s1 _ _ st1 (Nat.le_succ _) fun b hb o z => ?_) next fun s3 mv3 hS3 => hR s3 (Moved.trans W.gtrans ((mv.mono more).then_heap (Nat.le_succ _) fun b o hb z => ?_) mv3) hS3⟩
    · rw [same.2 b fun q => out (q ▸ hb)]
      exact z
    · rw [same.2 b fun q => hb (q ▸ List.mem_cons_self)]
      exact z
end
section
variable {prog : Program} {w : World} {A : Around} {E : Value → Shared → Prop} {s : Shared}
/-- an empty set, new -/
abbrev set0 (led : Bool) : Obj := { cls := .type "set", dict := none, data := .set #[] 0 (.fresh 0 0 led) }
set_option maxHeartbeats 3200000 in
/-- set(xs), xs a list of texts -/
theorem set_of_list {l : Addr} {its : Array Value} {xs : List Str} {Q : Value → Shared → Prop} (calm : A.handled = none) (hl : s.heap.IsList l its) (hi : StrsAre its.toList xs) (room : xs.length + 1 < scanBound)
    (q : ∀ (h2 : Heap) (tk : Nat), SetAtS prog w h2 s.heap.objs.size xs → (∀ b o, b < s.heap.objs.size → s.heap.get? b = some o → h2.get? b = some o) → Q (.ref s.heap.objs.size) { s with heap := h2, toks := tk }) :
    wpAny (model prog w) A (call (.type "set") [.ref l]) Q E s := by
  obtain ⟨_, _, way⟩ := PySem.F.called_set.mro
  have f1 := PySem.F.called_set.made
  have f2 := PySem.F.called_set.sub
  have f3 := PySem.F.called_set.notType
  have f4 := PySem.F.called_set.canCreate
  have f5 := PySem.F.typeCall_set_1 (.ref l)
  refine wpAny_call (codeAny_of_tree (?_ : wpAny _ _ (callAny (.type "set") _) _ _ _))
  refine wpAny_pure ⟨Code.quiet_builtin _ (by decide +kernel), codeAny_builtin PySem.F.entry_type_call (?_ : wpAny _ _ _ _ _ _)⟩
  rw [Around.under_plain (weight_type_call_type "set" [.ref l] []) rfl]
  repeat (any_goals (first | assumption | wp_step))
  refine codeAny_mono (new_set (.ref l) (E := E) (Q1 := fun u s1 => ∃ led : Bool, u = .ref s.heap.objs.size ∧ s1 = { s with heap := s.heap.push (set0 led) } ∧ led = !w.params.followText "set-order") fun tb e => ⟨_, rfl, by rw [e], rfl⟩) fun r s1 hr => ?_
  cases r with
  | error e => exact hr
  | ok fl =>
    cases fl with
    | next => exact hr.elim
    | brk => exact hr.elim
    | cont => exact hr.elim
    | ret u =>
      obtain ⟨led, rfl, rfl, eled⟩ := hr
      have g0 : (s.heap.push (set0 led)).get? s.heap.objs.size = some (set0 led) := Heap.get?_push_size _ rfl
      have ty : Shared.TypeIs { s with heap := s.heap.push (set0 led) } (.ref s.heap.objs.size) "set" := ⟨_, g0, rfl⟩
      have f6 := PySem.F.called_set.init.lookup
      have f7 := PySem.F.called_set.init.bind (.ref s.heap.objs.size)
      repeat (any_goals (first | assumption | wp_step))
      refine codeAny_mono (codeAny_call_builtin (R := wants (fun r s2 => r = .none ∧ ∃ h2 tk, s2 = { s with heap := h2, toks := tk } ∧ SetAtS prog w h2 s.heap.objs.size xs ∧ (∀ b o, b < s.heap.objs.size → s.heap.get? b = some o → h2.get? b = some o)) E)
        PySem.F.called_set.init.plain PySem.F.entry_set_init (check_set_init_1 ty ?_)) fun r2 s2 hr2 => ?_
      · obtain ⟨⟨c, d, da, sl⟩, ol, cl, nl, dl⟩ := hl
        simp only at cl dl
        subst cl dl
        have ol1 : (s.heap.push (set0 led)).get? l = some { cls := .type "list", dict := d, data := .seq its nl, slots := sl } := Heap.get?_push_of_some _ ol
        have f8 := PySem.F.sub_list_set
        have f9 := PySem.F.sub_list_frozenset
        have f10 : (Value.type "list" == Value.type "dict") = false := by decide
        have hl1 : (s.heap.push (set0 led)).IsList l its := ⟨_, ol1, rfl, nl, rfl⟩
        unfold Builtin.«set.__init__» noKeywords Builtin.Frozenset.updateFrom
        generalize hPI : pyIter = PI
        wp_walk
        subst hPI
        refine wpAny_pyIter_list hl1 (wpAny_bind (wpAny_runValue ?_))
        have below : l < s.heap.objs.size := Heap.lt_size ol
        have sz1 : (s.heap.push (set0 led)).objs.size = s.heap.objs.size + 1 := Heap.size_push _ _
        have n1 : l ≠ (s.heap.push (set0 led)).objs.size := by
          rw [sz1]
          exact Nat.ne_of_lt (Nat.lt_succ_of_lt below)
        have out : s.heap.objs.size ∉ [(s.heap.push (set0 led)).objs.size, l] := by
          rw [sz1]
          simp only [List.mem_cons, List.not_mem_nil, or_false, not_or]
          exact ⟨Nat.ne_of_lt (Nat.lt_succ_self _), Nat.ne_of_gt below⟩
        have size : xs.length = its.size := by rw [← StrsAre.len_eq hi, Array.length_toList]
        have vals : ∀ (i : Nat) (v : Value), its[i]? = some v → ∃ t, v = .str (xs.getD i Str.empty) t := fun i v z => SS.strs_at hi i v (by rw [Array.getElem?_toList]; exact z)
        refine set_loop ((Walks.list (show A.in1.in1.in1.handled = none by simp [calm]) _ l n1 its).toS) s.heap.objs.size out xs size (by rw [← size]; exact room) vals its.size 0 _ (by omega) ⟨⟨_, Heap.get?_push_size _ rfl, rfl, rfl⟩, (hl1.push _)⟩ ?start ?stop
        case start =>
          have g1 : ((s.heap.push (set0 led)).push { cls := .type "list_iterator", data := .fields #[.ref l, .int 0 0] }).get? s.heap.objs.size = some (set0 led) := Heap.get?_push_of_some _ g0
          exact setW_fresh (g1.trans (by rw [eled]))
        case stop =>
          rintro ⟨h2, g2, d2, tk2, os2⟩ mv hS
          obtain rfl : g2 = s.gens := mv.gens
          obtain rfl : d2 = s.drawn := mv.drawn
          obtain rfl : os2 = s.os := mv.os
          refine wpAny_pure (?_ : wpAny _ _ (ret Value.none) _ _ _)
          refine wpAny_pure ⟨rfl, h2, tk2, rfl, hS, fun b o hb z => mv.heap b o ?_ (Heap.get?_push_of_some _ (Heap.get?_push_of_some _ z))⟩
          simp only [List.mem_cons, List.not_mem_nil, or_false, not_or]
          exact ⟨Nat.ne_of_lt hb, by rw [sz1]; exact Nat.ne_of_lt (Nat.lt_succ_of_lt hb)⟩
      · cases r2 with
        | error e => exact hr2
        | ok fl2 =>
          cases fl2 with
          | next => exact hr2.elim
          | brk => exact hr2.elim
          | cont => exact hr2.elim
          | ret r =>
            obtain ⟨rfl, h2, tk, rfl, hS, keep⟩ := hr2
            repeat (any_goals (first | assumption | wp_step))
            exact q _ _ hS keep
end
/-- len(set(xs)) -/
def tLenSetS (K : PySem.W.Frag) (ta : TE) : TE := fun σ H Q => ta σ H fun x H1 => ∃ (l : Addr) (xs : List Str), x = .ref l ∧ SqL K H1 l (xs.map V.str) ∧ xs.length ≤ 1000 ∧ Q (.int ((dd xs).length : Nat)) H1
theorem pe_lenSetS {X : Cx} (K : PySem.W.Frag) {a : Expr} {ta : TE} {p p2 q pos : Pos} (hc : X.calm = true) (hm : X.mg "len" = none) (hm2 : X.mg "set" = none) (ha : PE X a ta) (hk : X.K = K := by rfl) (hg : Gl X "len" := by rfl) (hg2 : Gl X "set" := by rfl)
    (na : starEach [a] X.env = (false, eval a X.env) :: starEach [] X.env := by rfl) : PE X (.Call (.Name "len" p) [.Call (.Name "set" p2) [a] [] q] [] pos) (tLenSetS K ta) := by
  subst hk
  refine ⟨fun pins s σ H Q I h => ?_⟩
  refine Call_ (ld_blt I hg hm boot_len (PyProof.Rows.callWith_builtin1 (PyProof.Rows.args_cons ?_ rfl) rfl rfl))
  refine Call_ (ld_blt I hg2 hm2 boot_set ?_)
  refine PyProof.Rows.callWith_type1 (PyProof.Rows.args_cons (thn (ha.run pins s σ H _ I h) fun v s1 ⟨x, H1, I1, r1, q1⟩ => PyProof.Rows.args_nil ?_) na) na rfl
  obtain ⟨l, xs, rfl, hq, small, q1⟩ := q1
  cases r1
  obtain ⟨its, r, pl, hz⟩ := I1.list hq
  refine set_of_list (I1.ok.hd hc) pl.isList (by simpa using strsAre_of r) (by unfold scanBound; omega) fun h2 tk hS keep => PyProof.Rows.args_nil ?_
  obtain ⟨o, es, ep, t, ho, hex, hd, _, pm, _, hf, _⟩ := hS
  have hn : es.size = (dd xs).length := by rw [← pm.length_eq, List.length_map, Array.length_toList]
  have I2 : Inv X pins σ H1 { s1 with heap := h2, toks := tk } := I1.kept fun b o e => keep b o (Heap.lt_size e) e
  have few := dd_le xs []
  have few2 : (dd xs).length ≤ xs.length := by simpa [dd] using few
  exact call_len_set ho hex hd hf (by rw [hn]; omega) ⟨.int ((dd xs).length : Nat), H1, I2.tok _, ⟨_, by rw [hn]⟩, q1⟩
/-- sorted(set(xs)) -/
def tSortSetS (K : PySem.W.Frag) (ta : TE) : TE := fun σ H Q => ta σ H fun x H1 => ∃ (l : Addr) (xs : List Str), x = .ref l ∧ SqL K H1 l (xs.map V.str) ∧ xs.length < 64 ∧
  ∀ (ys : List Str) (p : Addr), ys.Perm (dd xs) → sortedS ys = true → H1 p = none → Q (.ref p) (upd H1 p (.lst (ys.map V.str)))
end Dear

namespace Dear
open PySem PySem.Spec PyProof.Rows L2
theorem sz_lit {n : Nat} (h : n ≤ 1000) : n ≤ sizeLine := Nat.le_of_lt (small1000 h)
theorem strOk_asc {z : Str} (h : ∀ c ∈ z.cps.toList, c < 128) : PyData.strOk z = true := by
  unfold PyData.strOk
  rw [Array.all_eq_true']
  intro c hc
  have := h c (by simpa using hc)
  simp
  omega
end Dear

namespace Dear
open PySem PySem.Spec PyProof.Rows L2
/-! ### slices of texts -/
def sgn (c : Nat) : Str := ⟨#[c]⟩
/-- the text of these code points -/
def txt (l : List Nat) : Str := ⟨l.toArray⟩
theorem txt_list (l : List Nat) : (txt l).cps.toList = l := List.toList_toArray ..
theorem txt_length (l : List Nat) : (txt l).length = l.length := List.size_toArray ..
theorem txt_of (z : Str) : z = txt z.cps.toList := by
  cases z
  rfl
theorem str_len (a b : Str) : (a ++ b).length = a.length + b.length := by
  show (a.cps ++ b.cps).size = _
  exact Array.size_append
theorem txt_inj {a b : List Nat} (h : txt a = txt b) : a = b := by
  have := congrArg (fun z : Str => z.cps.toList) h
  simpa [txt_list] using this
theorem txt_app (a b : List Nat) : txt a ++ txt b = txt (a ++ b) := by
  show (⟨a.toArray ++ b.toArray⟩ : Str) = ⟨(a ++ b).toArray⟩
  simp
theorem cut_txt (l : List Nat) (lo hi : Option Int) : cutS (txt l) lo hi = txt ((l.drop (HT.sIx l.length 0 lo)).take (HT.sIx l.length l.length hi - HT.sIx l.length 0 lo)) := by
  unfold cutS
  rw [txt_list, txt_length]
  rfl
theorem cut_pre (l : List Nat) (j : Nat) : cutS (txt l) none (some (j : Int)) = txt (l.take j) := by
  rw [cut_txt, HT.sIx_none, HT.sIx_nat, List.drop_zero, Nat.sub_zero]
  congr 1
  by_cases h : j ≤ l.length
  · rw [Nat.min_eq_left h]
  · rw [Nat.min_eq_right (by omega), List.take_length, List.take_of_length_le (by omega)]
theorem cut_from (l : List Nat) (j : Nat) : cutS (txt l) (some (j : Int)) none = txt (l.drop j) := by
  rw [cut_txt, HT.sIx_none, HT.sIx_nat]
  congr 1
  by_cases h : j ≤ l.length
  · rw [Nat.min_eq_left h, List.take_of_length_le (by rw [List.length_drop]; exact Nat.le_refl _)]
  · rw [Nat.min_eq_right (by omega), List.drop_length, List.drop_of_length_le (by omega), List.take_nil]
theorem cut_last0 : cutS (txt []) (some (-1)) none = "" := by decide +kernel
theorem cut_last (l : List Nat) (c : Nat) : cutS (txt (l ++ [c])) (some (-1)) none = txt [c] := by
  rw [cut_txt, HT.sIx_none]
  have e1 : HT.sIx (l ++ [c]).length 0 (some (-1)) = l.length := by
    show (if (-1 : Int) < 0 then (-1 + ((l ++ [c]).length : Int)).toNat else min (-1 : Int).toNat (l ++ [c]).length) = l.length
    rw [if_pos (by decide), List.length_append]
    show (-1 + ((l.length + 1 : Nat) : Int)).toNat = _
    omega
  rw [e1, List.drop_left, List.take_of_length_le]
  rw [List.length_append]
  show 1 ≤ l.length + 1 - l.length
  omega
/-- the sign ahead of the j-th one -/
def aheadOf (l : List Nat) (j : Nat) : Str := cutS (cutS (txt l) none (some (j : Int))) (some (-1)) none
end Dear

namespace Dear
open PySem PySem.Spec PyProof.Rows L2
/-! ### text * number -/
theorem fold_rep (a : Array Nat) : ∀ (k : Nat) (acc : Array Nat), ((List.replicate k a).foldl (· ++ ·) acc).toList = acc.toList ++ (List.replicate k a.toList).flatten
  | 0, acc => by simp
  | k + 1, acc => by
    rw [List.replicate_succ, List.replicate_succ, List.foldl_cons, fold_rep a k, List.flatten_cons, Array.toList_append, List.append_assoc]
def repT (l : List Nat) (k : Nat) : List Nat := (List.replicate k l).flatten
theorem repT_len (l : List Nat) (k : Nat) : (repT l k).length = k * l.length := by
  unfold repT
  simp
def rRepS : R2 := fun x y H Q => ∃ (l : List Nat) (n : Int), x = .str (txt l) ∧ y = .int n ∧ 0 ≤ n ∧ n ≤ 1000 ∧ l.length ≤ 1000 ∧ Q (.str (txt (repT l n.toNat))) H
theorem op_repS {X : Cx} : OpR X (binaryOp .Mult) rRepS := by
  intro pins s σ H x y v u Q I rx ry h
  obtain ⟨l, n, rfl, rfl, h0, h1, hl, q⟩ := h
  obtain ⟨t, rfl⟩ := rx
  obtain ⟨t', rfl⟩ := ry
  have ln := txt_length l
  have big : l.length * n.toNat ≤ 1000 * 1000 := Nat.mul_le_mul hl (by omega)
  refine PySem.P.mul_str (x := txt l) (by rw [decide_eq_false (by omega), decide_eq_false (by omega)]; rfl) (fun h2 _ => ?_) (fun _ _ => ?_) ?_
  · have h3 : 0 < n := by omega
    have h4 : ((txt l).length : Int) ≤ (2 ^ 63 - 1) / n := by
      rw [Int.le_ediv_iff_mul_le h3, ln]
      have e : ((l.length * n.toNat : Nat) : Int) = (l.length : Int) * n := by
        rw [Int.natCast_mul, Int.toNat_of_nonneg h0]
      rw [← e]
      omega
    omega
  · unfold Builtin.Str.tooLong
    rw [ln]
    refine decide_eq_false ?_
    have := sz_lit (n := 0) (by decide)
    rw [sizeLine_eq]
    omega
  · by_cases e1 : n < 1
    · rw [if_pos e1]
      have e2 : n = 0 := by omega
      subst e2
      exact ⟨by decide, .str (txt (repT l 0)), H, I.tok _, ⟨_, rfl⟩, q⟩
    · rw [if_neg e1]
      by_cases e2 : (n == 1 || (txt l).length == 0) = true
      · rw [if_pos e2]
        have e3 : repT l n.toNat = l := by
          rw [ln] at e2
          simp only [Bool.or_eq_true, beq_iff_eq] at e2
          rcases e2 with e2 | e2
          · subst e2
            simp [repT]
          · have e3 : l = [] := List.length_eq_zero_iff.mp e2
            subst e3
            simp [repT]
        rw [e3] at q
        exact ⟨.str (txt l), H, I, ⟨_, rfl⟩, q⟩
      · rw [if_neg e2]
        have e3 : (⟨(List.replicate n.toNat (txt l).cps).foldl (· ++ ·) #[]⟩ : Str) = txt (repT l n.toNat) := by
          rw [txt_of ⟨(List.replicate n.toNat (txt l).cps).foldl (· ++ ·) #[]⟩]
          congr 1
          show ((List.replicate n.toNat (txt l).cps).foldl (· ++ ·) #[]).toList = _
          rw [fold_rep, txt_list]
          rfl
        rw [e3]
        refine ⟨?_, .str (txt (repT l n.toNat)), H, I.tok _, ⟨_, rfl⟩, q⟩
        rw [txt_length, repT_len, Nat.mul_comm, sizeLine_eq]
        omega
end Dear

namespace Du
open PySem PySem.Spec PyProof.Rows L2
abbrev St := L2.St
/-! ### data: what values stand for; the layer of functions (see NOTES, «u») -/
inductive D where
  | non | bl (b : Bool) | int (i : Int) | str (z : Str) | lst (ds : List D) | tup (ds : List D) | scr (ns : List Int)
  | dct (t : Bool) (kvs : List (D × D))
  | exc (c : Str) (fs : List (Str × D))
noncomputable instance : DecidableEq D := fun a b => Classical.propDecidable (a = b)
/-- flat keys -/
def keyD : Key → D
  | .inl i => .int i
  | .inr x => .str x
def keysD (ks : List Key) : D := .tup (ks.map keyD)
/-- a tuple of the module's top -/
def KTp (K : PySem.W.Frag) (a : Addr) (xs : List V) : Prop := ∃ (o : Obj) (its : Array Value) (n : Nat), K.lookup a = some o ∧ o.cls = .type "tuple" ∧ o.data = .seq its n ∧ its.size ≤ sizeLine ∧ Vals xs its.toList
theorem keyD_inj {a b : Key} (h : keyD a = keyD b) : a = b := by
  cases a <;> cases b <;> simp [keyD] at h <;> subst h <;> rfl
mutual
inductive Dt (K : PySem.W.Frag) (F : Hp) : V → D → Prop
  | non : Dt K F .non .non
  | bl (b : Bool) : Dt K F (.bl b) (.bl b)
  | int (i : Int) : Dt K F (.int i) (.int i)
  | str (z : Str) : Dt K F (.str z) (.str z)
  | lst {a : Addr} {xs : List V} {ds : List D} : F a = some (.lst xs) → DtAll K F xs ds → Dt K F (.ref a) (.lst ds)
  | scr {a : Addr} {ns : List Int} : SqL K F a (ns.map V.int) → Dt K F (.ref a) (.scr ns)
  | tup {a : Addr} {xs : List V} {ds : List D} : F a = some (.tup xs) → DtAll K F xs ds → Dt K F (.ref a) (.tup ds)
  | tk {a : Addr} {xs : List V} {ds : List D} : KTp K a xs → DtAll K F xs ds → Dt K F (.ref a) (.tup ds)
  | dk {a : Addr} {kvs : List (Key × V)} {ds : List (D × D)} : Rd F a (.dK kvs) → DtAll K F (kvs.map (·.2)) (ds.map (·.2)) → ds.map (·.1) = kvs.map (fun p => keyD p.1) → Dt K F (.ref a) (.dct false ds)
  | dt {a : Addr} {kvs : List (List Key × V)} {ds : List (D × D)} : F a = some (.dT kvs) → DtAll K F (kvs.map (·.2)) (ds.map (·.2)) → ds.map (·.1) = kvs.map (fun p => keysD p.1) → Dt K F (.ref a) (.dct true ds)
inductive DtAll (K : PySem.W.Frag) (F : Hp) : List V → List D → Prop
  | nil : DtAll K F [] []
  | cons {v : V} {vs : List V} {d : D} {ds : List D} : Dt K F v d → DtAll K F vs ds → DtAll K F (v :: vs) (d :: ds)
end
/-- what is told of F holds of G, too (G may have locked what F has) -/
def Below (F G : Hp) : Prop := ∀ a o, F a = some o → G a = some o ∨ ∃ kvs ob, o = .dK kvs ∧ G a = some (.frz ob o)
theorem Below.refl (F : Hp) : Below F F := fun _ _ h => .inl h
theorem Below.of {F G : Hp} (s : Same F G) : Below F G := fun a o h => .inl (s a o h)
theorem Below.rd {F G : Hp} {a : Addr} {u : HO} (s : Below F G) (h : Rd F a u) : Rd G a u := by
  rcases h with h | ⟨ob, h⟩
  · rcases s _ _ h with h | ⟨_, ob, rfl, h⟩
    · exact .inl h
    · exact .inr ⟨ob, h⟩
  · rcases s _ _ h with h | ⟨_, _, n, h⟩
    · exact .inr ⟨ob, h⟩
    · cases n
section
variable {K : PySem.W.Frag} {F G : Hp}
theorem Below.lst {a : Addr} {xs : List V} (s : Below F G) (h : F a = some (.lst xs)) : G a = some (.lst xs) := by
  rcases s _ _ h with h | ⟨_, _, n, _⟩
  · exact h
  · cases n
theorem Below.tup {a : Addr} {xs : List V} (s : Below F G) (h : F a = some (.tup xs)) : G a = some (.tup xs) := by
  rcases s _ _ h with h | ⟨_, _, n, _⟩
  · exact h
  · cases n
theorem Below.dt {a : Addr} {xs : List (List Key × V)} (s : Below F G) (h : F a = some (.dT xs)) : G a = some (.dT xs) := by
  rcases s _ _ h with h | ⟨_, _, n, _⟩
  · exact h
  · cases n
theorem Below.sql {a : Addr} {xs : List V} (s : Below F G) (h : SqL K F a xs) : SqL K G a xs := by
  rcases h with h | h
  · exact .inl (s.rd h)
  · exact .inr h
theorem Below.sqt {a : Addr} {xs : List V} (s : Below F G) (h : SqT K F a xs) : SqT K G a xs := by
  rcases h with h | h
  · exact .inl (s.rd h)
  · exact .inr h
mutual
theorem Dt.mv (s : Below F G) : ∀ {v : V} {d : D}, Dt K F v d → Dt K G v d
  | _, _, .non => .non
  | _, _, .bl b => .bl b
  | _, _, .int i => .int i
  | _, _, .str z => .str z
  | _, _, .lst h a => .lst (s.lst h) (DtAll.mv s a)
  | _, _, .scr h => .scr (s.sql h)
  | _, _, .tup h a => .tup (s.tup h) (DtAll.mv s a)
  | _, _, .tk h a => .tk h (DtAll.mv s a)
  | _, _, .dk h a e => .dk (s.rd h) (DtAll.mv s a) e
  | _, _, .dt h a e => .dt (s.dt h) (DtAll.mv s a) e
theorem DtAll.mv (s : Below F G) : ∀ {vs : List V} {ds : List D}, DtAll K F vs ds → DtAll K G vs ds
  | _, _, .nil => .nil
  | _, _, .cons a b => .cons (Dt.mv s a) (DtAll.mv s b)
end
theorem Dt.same (s : Same F G) {v : V} {d : D} (h : Dt K F v d) : Dt K G v d := h.mv (.of s)
theorem DtAll.same (s : Same F G) {v : List V} {d : List D} (h : DtAll K F v d) : DtAll K G v d := h.mv (.of s)
theorem DtAll.length : ∀ {vs : List V} {ds : List D}, DtAll K F vs ds → vs.length = ds.length
  | _, _, .nil => rfl
  | _, _, .cons _ b => by rw [List.length_cons, List.length_cons, DtAll.length b]
theorem DtAll.get : ∀ {vs : List V} {ds : List D} {i : Nat} {v : V}, DtAll K F vs ds → vs[i]? = some v → ∃ d, ds[i]? = some d ∧ Dt K F v d
  | _, _, _, _, .nil, e => by simp at e
  | _, _, 0, _, .cons a _, e => by
    simp at e
    subst e
    exact ⟨_, rfl, a⟩
  | _, _, i + 1, v, .cons _ b, e => by
    obtain ⟨d, h1, h2⟩ := DtAll.get (i := i) (v := v) b (by simpa using e)
    exact ⟨d, by simpa using h1, h2⟩
theorem DtAll.at : ∀ {vs : List V} {ds : List D} {i : Nat} {d : D}, DtAll K F vs ds → ds[i]? = some d → ∃ v, vs[i]? = some v ∧ Dt K F v d
  | _, _, _, _, .nil, e => by simp at e
  | _, _, 0, _, .cons a _, e => by
    simp at e
    subst e
    exact ⟨_, rfl, a⟩
  | _, _, i + 1, d, .cons _ b, e => by
    obtain ⟨v, h1, h2⟩ := DtAll.at (i := i) (d := d) b (by simpa using e)
    exact ⟨v, by simpa using h1, h2⟩
theorem DtAll.app : ∀ {vs us : List V} {ds es : List D}, DtAll K F vs ds → DtAll K F us es → DtAll K F (vs ++ us) (ds ++ es)
  | _, _, _, _, .nil, s => s
  | _, _, _, _, .cons a b, s => .cons a (DtAll.app b s)
theorem DtAll.take : ∀ (n : Nat) {vs : List V} {ds : List D}, DtAll K F vs ds → DtAll K F (vs.take n) (ds.take n)
  | 0, _, _, _ => .nil
  | _ + 1, _, _, .nil => .nil
  | n + 1, _, _, .cons a b => .cons a (DtAll.take n b)
theorem DtAll.drop : ∀ (n : Nat) {vs : List V} {ds : List D}, DtAll K F vs ds → DtAll K F (vs.drop n) (ds.drop n)
  | 0, _, _, h => h
  | _ + 1, _, _, .nil => .nil
  | n + 1, _, _, .cons _ b => DtAll.drop n b
theorem DtAll.rev : ∀ {vs : List V} {ds : List D}, DtAll K F vs ds → DtAll K F vs.reverse ds.reverse
  | _, _, .nil => .nil
  | _, _, .cons a b => by
    rw [List.reverse_cons, List.reverse_cons]
    exact (DtAll.rev b).app (.cons a .nil)
theorem DtAll.set {v : V} {d : D} (h : Dt K F v d) : ∀ {vs : List V} {ds : List D} (i : Nat), DtAll K F vs ds → DtAll K F (vs.set i v) (ds.set i d)
  | _, _, _, .nil => .nil
  | _, _, 0, .cons _ t => .cons h t
  | _, _, i + 1, .cons q t => .cons q (DtAll.set h i t)
theorem Dt.intE {v : V} {i : Int} (h : Dt K F v (.int i)) : v = .int i := by cases h; rfl
theorem Dt.strE {v : V} {z : Str} (h : Dt K F v (.str z)) : v = .str z := by cases h; rfl
theorem Dt.blE {v : V} {b : Bool} (h : Dt K F v (.bl b)) : v = .bl b := by cases h; rfl
theorem Dt.nonE {v : V} (h : Dt K F v .non) : v = .non := by cases h; rfl
theorem Dt.lstE {v : V} {ds : List D} (h : Dt K F v (.lst ds)) : ∃ a xs, v = .ref a ∧ F a = some (.lst xs) ∧ DtAll K F xs ds := by
  cases h with
  | lst h a => exact ⟨_, _, rfl, h, a⟩
theorem Dt.tupE {v : V} {ds : List D} (h : Dt K F v (.tup ds)) : ∃ a xs, v = .ref a ∧ SqT K F a xs ∧ DtAll K F xs ds := by
  cases h with
  | tup h a => exact ⟨_, _, rfl, .inl (.inl h), a⟩
  | tk h a => exact ⟨_, _, rfl, .inr h, a⟩
theorem Dt.ints {F : Hp} : ∀ (ns : List Int), DtAll K F (ns.map V.int) (ns.map D.int)
  | [] => .nil
  | n :: r => .cons (.int n) (Dt.ints r)
theorem DtAll.strsE : ∀ {vs : List V} {ns : List Str}, DtAll K F vs (ns.map D.str) → vs = ns.map V.str
  | _, [], .nil => rfl
  | _, n :: ns, .cons a b => by
    rw [a.strE, DtAll.strsE b]
    rfl
end
/-! no list, no dict within -/
mutual
def imm : D → Bool
  | .lst _ => false
  | .scr _ => false
  | .dct _ _ => false
  | .exc _ _ => false
  | .tup ds => imms ds
  | _ => true
def imms : List D → Bool
  | [] => true
  | d :: ds => imm d && imms ds
end
/-- behind Same F G, without a list or a dict: tuples alone are borne -/
def Tups (F G : Hp) : Prop := ∀ a xs, F a = some (.tup xs) → G a = some (.tup xs)
mutual
theorem Dt.tups {K : PySem.W.Frag} {F G : Hp} (s : Tups F G) : ∀ {v : V} {d : D}, imm d = true → Dt K F v d → Dt K G v d
  | _, _, _, .non => .non
  | _, _, _, .bl b => .bl b
  | _, _, _, .int i => .int i
  | _, _, _, .str z => .str z
  | _, _, i, .lst _ _ => by cases i
  | _, _, i, .scr _ => by cases i
  | _, _, i, .tup h a => .tup (s _ _ h) (DtAll.tups s i a)
  | _, _, i, .tk h a => .tk h (DtAll.tups s i a)
  | _, _, i, .dk _ _ _ => by cases i
  | _, _, i, .dt _ _ _ => by cases i
theorem DtAll.tups {K : PySem.W.Frag} {F G : Hp} (s : Tups F G) : ∀ {vs : List V} {ds : List D}, imms ds = true → DtAll K F vs ds → DtAll K G vs ds
  | _, _, _, .nil => .nil
  | _, _, i, .cons a b => by
    simp only [imms, Bool.and_eq_true] at i
    exact .cons (Dt.tups s i.1 a) (DtAll.tups s i.2 b)
end
/-! ### results -/
structure Ex where
  cls : Str
  fs : List (Str × D)
inductive Res (α : Type) where
  | ok (a : α)
  | exc (x : Ex)
  | bad
def Res.bind {α β : Type} (r : Res α) (f : α → Res β) : Res β :=
  match r with
  | .ok a => f a
  | .exc x => .exc x
  | .bad => .bad
def Res.map {α β : Type} (r : Res α) (f : α → β) : Res β := r.bind fun a => .ok (f a)
section
variable {α β : Type}
@[simp] theorem Res.bind_ok (a : α) (f : α → Res β) : (Res.ok a).bind f = f a := rfl
@[simp] theorem Res.bind_exc (x : Ex) (f : α → Res β) : (Res.exc x).bind f = .exc x := rfl
@[simp] theorem Res.bind_bad (f : α → Res β) : (Res.bad : Res α).bind f = .bad := rfl
@[simp] theorem Res.map_ok (a : α) (f : α → β) : (Res.ok a).map f = .ok (f a) := rfl
theorem Res.bind_assoc {γ : Type} (r : Res α) (f : α → Res β) (g : β → Res γ) : (r.bind f).bind g = r.bind fun a => (f a).bind g := by cases r <;> rfl
end
/-- a list's length is within the line -/
def fit (n : Nat) : Bool := Nat.ble n 16777215
theorem fit_line {n : Nat} (h : fit n = true) : n < sizeLine := by
  rw [sizeLine_eq]
  have := Nat.le_of_ble_eq_true h
  omega
theorem fit_of {n : Nat} (h : n ≤ 16777215) : fit n = true := Nat.ble_eq_true_of_le h
def guard' (b : Bool) : Res Unit := if b = true then .ok () else .bad
end Du

namespace Du
open PySem PySem.Spec PyProof.Rows L2
/-! ### what grows: H the heap, F the part that is told of -/
structure Gr (F H F' H' : Hp) : Prop where
  hh : Same H H'
  ff : Same F F'
  fh : Same F' H'
  nw : ∀ a o, F' a = some o → F a = some o ∨ H a = none
section
variable {F H F1 H1 F2 H2 : Hp}
theorem Gr.refl (s : Same F H) : Gr F H F H := ⟨.refl _, .refl _, s, fun _ _ h => .inl h⟩
theorem Gr.trans (a : Gr F H F1 H1) (b : Gr F1 H1 F2 H2) : Gr F H F2 H2 := ⟨a.hh.trans b.hh, a.ff.trans b.ff, b.fh, fun p o h => by
  rcases b.nw p o h with h | h
  · exact a.nw p o h
  · exact .inr (a.hh.free h)⟩
theorem sm_upd {H : Hp} {l : Addr} {o : HO} (h : H l = none) : Same H (upd H l o) := fun b u e => by
  rw [upd_ne (ne_of_none e h)]
  exact e
theorem sm_upd2 {F H : Hp} {l : Addr} {o : HO} (s : Same F H) : Same (upd F l o) (upd H l o) := fun b u e => by
  by_cases h : b = l
  · subst h
    rw [upd_same] at e ⊢
    exact e
  · rw [upd_ne h] at e ⊢
    exact s _ _ e
theorem Gr.new {p : Addr} {o : HO} (s : Same F H) (hp : H p = none) : Gr F H (upd F p o) (upd H p o) := ⟨sm_upd hp, sm_upd (s.free hp), sm_upd2 s, fun a u e => by
  by_cases h : a = p
  · subst h
    exact .inr hp
  · rw [upd_ne h] at e
    exact .inl e⟩
/-- new, but not told of -/
theorem Gr.hid {p : Addr} {o : HO} (s : Same F H) (hp : H p = none) : Gr F H F (upd H p o) := ⟨sm_upd hp, .refl _, s.trans (sm_upd hp), fun _ _ h => .inl h⟩
end
/-! ### slots as data -/
abbrev VEnv := List (Option D)
structure Vw (K : PySem.W.Frag) (F : Hp) (σ : St) (ρ : VEnv) : Prop where
  len : σ.length = ρ.length
  get : ∀ (i : Nat) (d : D), ρ[i]? = some (some d) → ∃ v, σ[i]? = some (some v) ∧ Dt K F v d
theorem Vw.same {K : PySem.W.Frag} {F G : Hp} {σ : St} {ρ : VEnv} (h : Vw K F σ ρ) (s : Same F G) : Vw K G σ ρ := ⟨h.len, fun i d e => by
  obtain ⟨v, h1, h2⟩ := h.get i d e
  exact ⟨v, h1, h2.same s⟩⟩
/-! ### exceptions: the wish behind them -/
/-- an exception as the law's text sees it: its class, its own dict -/
def ExIs (K : PySem.W.Frag) (mg : Str → Option Value) (x : Ex) (F : Hp) (C : Value) (dd : Option Addr) : Prop :=
  mg x.cls = some C ∧ match x.fs with
    | [] => dd = none
    | [(f, d)] => ∃ a v, dd = some a ∧ F a = some (.xd [(f, v)]) ∧ Dt K F v d
    | _ => False
structure XM where
  mg : Str → Option Value
  W : WX
abbrev XMo := Option XM
def Xw (K : PySem.W.Frag) (xm : XMo) (σ : St) (F H : Hp) (x : Ex) : Prop := match xm with
  | none => False
  | some m => ∀ C dd F' H', Gr F H F' H' → ExIs K m.mg x F' C dd → m.W C dd σ H'
theorem Xw.mono {K : PySem.W.Frag} {xm : XMo} {σ : St} {F H F1 H1 : Hp} {x : Ex} (h : Xw K xm σ F H x) (g : Gr F H F1 H1) : Xw K xm σ F1 H1 x := by
  cases xm with
  | none => exact h.elim
  | some m => exact fun C dd F' H' g' => h C dd F' H' (g.trans g')
/-! ### what a reading has to give -/
def Po {α ω : Type} (R : Hp → ω → α → Prop) (K : PySem.W.Frag) (xm : XMo) (σ : St) (F H : Hp) (r : Res α) (Q : ω → Hp → Prop) : Prop := match r with
  | .ok a => ∀ w F' H', Gr F H F' H' → R F' w a → Q w H'
  | .exc x => Xw K xm σ F H x
  | .bad => False
section
variable {α β ω ω' : Type} {R : Hp → ω → α → Prop} {R' : Hp → ω' → β → Prop} {K : PySem.W.Frag} {xm : XMo} {σ : St} {F H F1 H1 : Hp}
theorem Po.mono {r : Res α} {Q : ω → Hp → Prop} (h : Po R K xm σ F H r Q) (g : Gr F H F1 H1) : Po R K xm σ F1 H1 r Q := by
  cases r with
  | ok a => exact fun w F' H' g' => h w F' H' (g.trans g')
  | exc x => exact Xw.mono h g
  | bad => exact h
theorem Po.seq {r : Res α} {f : α → Res β} {Q : ω' → Hp → Prop} {W : ω → Hp → Prop} (k : Po R' K xm σ F H (r.bind f) Q) (n : ∀ a w F1 H1, Gr F H F1 H1 → R F1 w a → Po R' K xm σ F1 H1 (f a) Q → W w H1) : Po R K xm σ F H r W := by
  cases r with
  | ok a => exact fun w F1 H1 g d => n a w F1 H1 g d (Po.mono k g)
  | exc x => exact k
  | bad => exact k
theorem Po.done {a : α} {w : ω} {Q : ω → Hp → Prop} (k : Po R K xm σ F H (.ok a) Q) (s : Same F H) (h : R F w a) : Q w H := k w F H (.refl s) h
theorem Po.new {a : α} {w : ω} {Q : ω → Hp → Prop} {p : Addr} {o : HO} (k : Po R K xm σ F H (.ok a) Q) (s : Same F H) (hp : H p = none) (h : R (upd F p o) w a) : Q w (upd H p o) := k w _ _ (.new s hp) h
end
abbrev RD (K : PySem.W.Frag) : Hp → V → D → Prop := fun F v d => Dt K F v d
abbrev RL (K : PySem.W.Frag) : Hp → List V → List D → Prop := fun F v d => DtAll K F v d
abbrev RB : Hp → Bool → Bool → Prop := fun _ b c => b = c
/-! ### readings by functions -/
def tF (K : PySem.W.Frag) (xm : XMo) (f : VEnv → Res D) : TE := fun σ H Q => ∃ F ρ, Same F H ∧ Vw K F σ ρ ∧ Po (RD K) K xm σ F H (f ρ) Q
def bF (K : PySem.W.Frag) (xm : XMo) (f : VEnv → Res Bool) : TT := fun σ H Q => ∃ F ρ, Same F H ∧ Vw K F σ ρ ∧ Po RB K xm σ F H (f ρ) Q
def aF (K : PySem.W.Frag) (xm : XMo) (f : VEnv → Res (List D)) : TA := fun σ H Q => ∃ F ρ, Same F H ∧ Vw K F σ ρ ∧ Po (RL K) K xm σ F H (f ρ) Q
theorem PE.to {X : Cx} {e : Expr} {t t' : TE} (h : PE X e t) (m : ∀ σ H Q, t' σ H Q → t σ H Q) : PE X e t' := ⟨fun pins s σ H Q I q => h.run pins s σ H Q I (m _ _ _ q)⟩
theorem PT.to {X : Cx} {e : Expr} {t t' : TT} (h : PT X e t) (m : ∀ σ H Q, t' σ H Q → t σ H Q) : PT X e t' := ⟨fun pins s σ H Q I q => h.run pins s σ H Q I (m _ _ _ q)⟩
theorem PW.to {X : Cx} {e : Expr} {t t' : TT} (h : PW X e t) (m : ∀ σ H Q, t' σ H Q → t σ H Q) : PW X e t' := ⟨fun wh pins s σ H Q I q => h.run wh pins s σ H Q I (m _ _ _ q)⟩
theorem PA.to {X : Cx} {e : List Expr} {t t' : TA} (h : PA X e t) (m : ∀ σ H Q, t' σ H Q → t σ H Q) : PA X e t' := ⟨fun pos pins s σ H Q I q => h.run pos pins s σ H Q I (m _ _ _ q)⟩
theorem PS.to {X : Cx} {e : Stmt} {t t' : TS} (h : PS X e t) (m : ∀ D σ H, t' D σ H → t D σ H) : PS X e t' := ⟨fun pins s σ H D I q => h.run pins s σ H D I (m _ _ _ q)⟩
theorem PSs.to {X : Cx} {e : List Stmt} {t t' : TS} (h : PSs X e t) (m : ∀ D σ H, t' D σ H → t D σ H) : PSs X e t' := ⟨fun pins s σ H D I q => h.run pins s σ H D I (m _ _ _ q)⟩
/-- FE: the expression e computes f -/
abbrev FE (K : PySem.W.Frag) (xm : XMo) (X : Cx) (e : Expr) (f : VEnv → Res D) : Prop := PE X e (tF K xm f)
abbrev FT (K : PySem.W.Frag) (xm : XMo) (X : Cx) (e : Expr) (f : VEnv → Res Bool) : Prop := PT X e (bF K xm f)
abbrev FW (K : PySem.W.Frag) (xm : XMo) (X : Cx) (e : Expr) (f : VEnv → Res Bool) : Prop := PW X e (bF K xm f)
abbrev FA (K : PySem.W.Frag) (xm : XMo) (X : Cx) (e : List Expr) (f : VEnv → Res (List D)) : Prop := PA X e (aF K xm f)
/-! ### names, constants -/
def eVar (i : Nat) : VEnv → Res D := fun ρ => match ρ[i]? with
  | some (some d) => .ok d
  | _ => .bad
def eC (d : D) : VEnv → Res D := fun _ => .ok d
section
variable {K : PySem.W.Frag} {xm : XMo} {X : Cx}
theorem tF.var {i : Nat} {σ : St} {H : Hp} {Q : VK} (h : tF K xm (eVar i) σ H Q) : tVar i σ H Q := by
  obtain ⟨F, ρ, sF, vw, k⟩ := h
  unfold eVar at k
  split at k
  · rename_i d e
    obtain ⟨v, h1, h2⟩ := vw.get i d e
    exact ⟨v, h1, k.done sF h2⟩
  · exact k.elim
theorem fe_var (i : Nat) {x : Str} {pos : Pos} (hN : X.N[i]? = some x := by rfl) (hv : Vis X.env.scope x := by first | exact Or.inl rfl | exact Or.inr (Or.inl rfl) | exact Or.inr (Or.inr rfl)) (hd : (x == ("__debug__" : Str)) = false := by decide)
    (hcd : (x == ("__classdict__" : Str)) = false := by decide) : FE K xm X (.Name x pos) (eVar i) := PE.to (pv i hN hv hd hcd) fun _ _ _ h => h.var
theorem fe_cst {e : Expr} {v : V} {d : D} (h : PE X e (tC v)) (hd : ∀ F, Dt K F v d) : FE K xm X e (eC d) := PE.to h fun σ H Q ⟨F, ρ, sF, vw, k⟩ => k.done sF (hd F)
theorem fe_int {i : Int} {j : Nat} {pos : Pos} : FE K xm X (.Constant (.int i) j pos) (eC (.int i)) := fe_cst pe_int fun _ => .int _
theorem fe_bl {i : Bool} {j : Nat} {pos : Pos} : FE K xm X (.Constant (.bool i) j pos) (eC (.bl i)) := fe_cst pe_bl fun _ => .bl _
theorem fe_non {j : Nat} {pos : Pos} : FE K xm X (.Constant .none j pos) (eC .non) := fe_cst pe_non fun _ => .non
theorem fe_str {x : Str} {j : Nat} {pos : Pos} : FE K xm X (.Constant (.str x) j pos) (eC (.str x)) := fe_cst pe_str fun _ => .str _
theorem fe_gi {x : Str} {i : Int} {pos : Pos} (h : ∃ t, X.mg x = some (.int i t)) (hg : Gl X x := by rfl) (hd : (x == ("__debug__" : Str)) = false := by decide) : FE K xm X (.Name x pos) (eC (.int i)) := fe_cst (Dear.pe_gi h hg hd) fun _ => .int _
theorem fe_gs {x : Str} {i : Str} {pos : Pos} (h : ∃ t, X.mg x = some (.str i t)) (hg : Gl X x := by rfl) (hd : (x == ("__debug__" : Str)) = false := by decide) : FE K xm X (.Name x pos) (eC (.str i)) := fe_cst (Dear.pe_gs h hg hd) fun _ => .str _
/-! ### operators by values -/
/-- the rule r does what g says -/
def OpD (K : PySem.W.Frag) (r : R2) (g : D → D → Res D) : Prop := ∀ (xm : XMo) σ F H x y a b Q, Same F H → Dt K F x a → Dt K F y b → Po (RD K) K xm σ F H (g a b) Q → r x y H Q
def UnD (K : PySem.W.Frag) (r : V → Hp → VK → Prop) (g : D → Res D) : Prop := ∀ (xm : XMo) σ F H x a Q, Same F H → Dt K F x a → Po (RD K) K xm σ F H (g a) Q → r x H Q
def CallD (K : PySem.W.Frag) (r : List V → Hp → VK → Prop) (g : List D → Res D) : Prop := ∀ (xm : XMo) σ F H xs ds Q, Same F H → DtAll K F xs ds → Po (RD K) K xm σ F H (g ds) Q → r xs H Q
def eOp (g : D → D → Res D) (fa fb : VEnv → Res D) : VEnv → Res D := fun ρ => (fa ρ).bind fun a => (fb ρ).bind fun b => g a b
def eUn (g : D → Res D) (fa : VEnv → Res D) : VEnv → Res D := fun ρ => (fa ρ).bind g
theorem tF.op {r : R2} {g : D → D → Res D} {fa fb : VEnv → Res D} (h : OpD K r g) {σ : St} {H : Hp} {Q : VK} (k : tF K xm (eOp g fa fb) σ H Q) : tOp r (tF K xm fa) (tF K xm fb) σ H Q := by
  obtain ⟨F, ρ, sF, vw, k⟩ := k
  refine ⟨F, ρ, sF, vw, Po.seq k fun a x F1 H1 g1 d1 k1 => ⟨F1, ρ, g1.fh, vw.same g1.ff, Po.seq k1 fun b y F2 H2 g2 d2 k2 => h xm σ F2 H2 x y a b Q g2.fh (Dt.same g2.ff d1) d2 k2⟩⟩
theorem tF.un {r : V → Hp → VK → Prop} {g : D → Res D} {fa : VEnv → Res D} (h : UnD K r g) {σ : St} {H : Hp} {Q : VK} (k : tF K xm (eUn g fa) σ H Q) : tUn r (tF K xm fa) σ H Q := by
  obtain ⟨F, ρ, sF, vw, k⟩ := k
  exact ⟨F, ρ, sF, vw, Po.seq k fun a x F1 H1 g1 d1 k1 => h xm σ F1 H1 x a Q g1.fh d1 k1⟩
theorem fe_op {a b : Expr} {op : Operator} {pos : Pos} {r : R2} {g : D → D → Res D} {fa fb : VEnv → Res D} (ho : OpR X (binaryOp op) r) (h : OpD K r g) (ha : FE K xm X a fa) (hb : FE K xm X b fb) : FE K xm X (.BinOp a op b pos) (eOp g fa fb) :=
  PE.to (pe_op ho ha hb) fun _ _ _ k => k.op h
theorem fe_cmp {a b : Expr} {op : CmpOp} {pos : Pos} {r : R2} {g : D → D → Res D} {fa fb : VEnv → Res D} (ho : OpR X (compareOp op) r) (h : OpD K r g) (ha : FE K xm X a fa) (hb : FE K xm X b fb) (hm : behindInMarks op b = false := by first | exact nomark _ | rfl) :
    FE K xm X (.Compare a [op] [b] pos) (eOp g fa fb) := PE.to (pe_cmpR ho ha hb hm) fun _ _ _ k => k.op h
theorem fe_un {a : Expr} {op : UnaryOp} {pos : Pos} {r : V → Hp → VK → Prop} {g : D → Res D} {fa : VEnv → Res D} (ho : UnR X (unaryOp op) r) (h : UnD K r g) (ha : FE K xm X a fa) : FE K xm X (.UnaryOp op a pos) (eUn g fa) := PE.to (pe_un ho ha) fun _ _ _ k => k.un h
/-- two rules for one operator -/
theorem OpR.or {f : Value → Value → Sem Value} {r1 r2 : R2} (h1 : OpR X f r1) (h2 : OpR X f r2) : OpR X f (fun x y H Q => r1 x y H Q ∨ r2 x y H Q) := fun pins s σ H x y u v Q I rx ry h => h.elim (h1 pins s σ H x y u v Q I rx ry) (h2 pins s σ H x y u v Q I rx ry)
theorem CallR.or {f : Value} {r1 r2 : List V → Hp → VK → Prop} (h1 : CallR X f r1) (h2 : CallR X f r2) : CallR X f (fun x H Q => r1 x H Q ∨ r2 x H Q) := fun pins s σ H x u Q I rx h => h.elim (h1 pins s σ H x u Q I rx) (h2 pins s σ H x u Q I rx)
end
end Du

namespace Du
open PySem PySem.Spec PyProof.Rows L2
section
variable {X : Cx} (K : PySem.W.Frag)
def rAddA : R2 := fun x y H Q => (((rI0 fun i j => .int (i + j)) x y H Q ∨ (fun x y H Q => ∃ i j, x = .str i ∧ y = .str j ∧ i.length + j.length ≤ sizeLine ∧ Q (.str (i ++ j)) H) x y H Q) ∨ rCat x y H Q) ∨ rCatA K x y H Q
theorem op_addA (h : X.K = K := by rfl) : OpR X (binaryOp .Add) (rAddA K) := OpR.or (OpR.or (OpR.or op_add op_add_str) op_cat) (h ▸ op_catA)
end
def dAdd : D → D → Res D
  | .int a, .int b => .ok (.int (a + b))
  | .str a, .str b => if fit (a.length + b.length) = true then .ok (.str (a ++ b)) else .bad
  | .lst a, .lst b => if fit (a.length + b.length) = true then .ok (.lst (a ++ b)) else .bad
  | .tup a, .tup b => if fit (a.length + b.length) = true then .ok (.tup (a ++ b)) else .bad
  | _, _ => .bad
theorem DtAll.nilE {K : PySem.W.Frag} {F : Hp} {ds : List D} (h : DtAll K F [] ds) : ds = [] := by cases h; rfl
theorem Po.ite {α ω : Type} {R : Hp → ω → α → Prop} {K : PySem.W.Frag} {xm : XMo} {σ : St} {F H : Hp} {b : Bool} {r : Res α} {Q : ω → Hp → Prop} (k : Po R K xm σ F H (if b = true then r else .bad) Q) : b = true ∧ Po R K xm σ F H r Q := by
  cases b with
  | true => exact ⟨rfl, by rwa [if_pos rfl] at k⟩
  | false =>
    rw [if_neg Bool.false_ne_true] at k
    exact k.elim
theorem Po.iteP {α ω : Type} {R : Hp → ω → α → Prop} {K : PySem.W.Frag} {xm : XMo} {σ : St} {F H : Hp} {b : Prop} [Decidable b] {r : Res α} {Q : ω → Hp → Prop} (k : Po R K xm σ F H (if b then r else .bad) Q) : b ∧ Po R K xm σ F H r Q := by
  by_cases h : b
  · exact ⟨h, by rwa [if_pos h] at k⟩
  · rw [if_neg h] at k
    exact k.elim
section
variable {K : PySem.W.Frag}
theorem opd_add : OpD K (rAddA K) dAdd := by
  intro xm σ F H x y a b Q s hx hy k
  unfold dAdd at k
  split at k
  · rw [hx.intE, hy.intE]
    exact .inl (.inl (.inl ⟨_, _, rfl, rfl, k.done s (.int _)⟩))
  · obtain ⟨f, k⟩ := Po.ite k
    rw [hx.strE, hy.strE]
    exact .inl (.inl (.inr ⟨_, _, rfl, rfl, Nat.le_of_lt (fit_line f), k.done s (.str _)⟩))
  · obtain ⟨f, k⟩ := Po.ite k
    obtain ⟨p, xs, rfl, h1, h2⟩ := hx.lstE
    obtain ⟨q, ys, rfl, h3, h4⟩ := hy.lstE
    refine .inl (.inr ⟨_, _, _, _, rfl, rfl, s _ _ h1, s _ _ h3, by rw [h2.length, h4.length]; exact Nat.le_of_lt (fit_line f), fun r hr => ?_⟩)
    have w := sm_upd (o := .lst (xs ++ ys)) (s.free hr)
    exact k.new s hr (.lst upd_same ((h2.same w).app (h4.same w)))
  · obtain ⟨f, k⟩ := Po.ite k
    obtain ⟨p, xs, rfl, h1, h2⟩ := hx.tupE
    obtain ⟨q, ys, rfl, h3, h4⟩ := hy.tupE
    refine .inr ⟨_, _, _, _, rfl, rfl, (Below.of s).sqt h1, (Below.of s).sqt h3, by rw [h2.length, h4.length]; exact Nat.le_of_lt (fit_line f), fun e => ?_, fun _ e => ?_, fun _ _ r hr => ?_⟩
    · subst e
      rw [h2.nilE] at k
      exact k.done s hy
    · subst e
      rw [h4.nilE, List.append_nil] at k
      exact k.done s hx
    · have w := sm_upd (o := .tup (xs ++ ys)) (s.free hr)
      exact k.new s hr (.tup upd_same ((h2.same w).app (h4.same w)))
  · exact k.elim
/-! ### whole numbers -/
def dI (c : Int → Int → Prop) [∀ i j, Decidable (c i j)] (g : Int → Int → Int) : D → D → Res D
  | .int a, .int b => if c a b then .ok (.int (g a b)) else .bad
  | _, _ => .bad
theorem opd_i {c : Int → Int → Prop} [∀ i j, Decidable (c i j)] {C : Int → Int → Prop} {g : Int → Int → Int} (h : ∀ i j, c i j → C i j) : OpD K (rI C fun i j => .int (g i j)) (dI c g) := by
  intro xm σ F H x y a b Q s hx hy k
  unfold dI at k
  split at k
  · obtain ⟨f, k⟩ := Po.iteP k
    rw [hx.intE, hy.intE]
    exact ⟨_, _, rfl, rfl, h _ _ f, k.done s (.int _)⟩
  · exact k.elim
def dSub : D → D → Res D
  | .int a, .int b => .ok (.int (a - b))
  | _, _ => .bad
theorem opd_sub : OpD K (rI0 fun i j => .int (i - j)) dSub := by
  intro xm σ F H x y a b Q s hx hy k
  unfold dSub at k
  split at k
  · rw [hx.intE, hy.intE]
    exact ⟨_, _, rfl, rfl, k.done s (.int _)⟩
  · exact k.elim
instance : ∀ i j, Decidable (CMulW i j) := fun i j => inferInstanceAs (Decidable (_ < _))
instance : ∀ i j, Decidable (CDivW i j) := fun i j => inferInstanceAs (Decidable (_ ∧ _))
instance : ∀ i j, Decidable (CPow i j) := fun i j => inferInstanceAs (Decidable (_ ∧ _ ∧ _))
abbrev dDiv := dI CDivW fun i j => i / j
abbrev dMod := dI (fun _ j => 0 < j) fun i j => i % j
abbrev dPow := dI CPow fun i j => i ^ j.toNat
theorem opd_div : OpD K (rI CDivW fun i j => .int (i / j)) dDiv := opd_i fun _ _ h => h
theorem opd_mod : OpD K (rI (fun _ j => 0 < j) fun i j => .int (i % j)) dMod := opd_i fun _ _ h => h
theorem opd_pow : OpD K (rI CPow fun i j => .int (i ^ j.toNat)) dPow := opd_i fun _ _ h => h
end
/-! ### times: whole numbers, a list or a text by a number -/
section
variable {X : Cx}
def rMulA : R2 := fun x y H Q => (((rI CMulW fun i j => .int (i * j)) x y H Q ∨ (rI CMul fun i j => .int (i * j)) x y H Q) ∨ Dear.rRepS x y H Q) ∨ rRep x y H Q
theorem op_mulA : OpR X (binaryOp .Mult) rMulA := OpR.or (OpR.or (OpR.or op_mulW op_mul) Dear.op_repS) op_rep
end
/-- few figures together, or one factor small -/
def CMulA (i j : Int) : Prop := CMulW i j ∨ CMul i j
instance : ∀ i j, Decidable (CMul i j) := fun i j => inferInstanceAs (Decidable (_ ∨ _))
instance : ∀ i j, Decidable (CMulA i j) := fun i j => inferInstanceAs (Decidable (_ ∨ _))
def dMul : D → D → Res D
  | .int a, .int b => if CMulA a b then .ok (.int (a * b)) else .bad
  | .str a, .int b => if 0 ≤ b ∧ b ≤ 1000 ∧ a.length ≤ 1000 then .ok (.str (Dear.txt (Dear.repT a.cps.toList b.toNat))) else .bad
  | .lst a, .int b => if -1000000 ≤ b ∧ b ≤ 1000000 ∧ fit a.length = true ∧ fit (a.length * b.toNat) = true then .ok (.lst (List.replicate b.toNat a).flatten) else .bad
  | _, _ => .bad
theorem DtAll.rep {K : PySem.W.Frag} {F : Hp} {vs : List V} {ds : List D} (h : DtAll K F vs ds) : ∀ n : Nat, DtAll K F (List.replicate n vs).flatten (List.replicate n ds).flatten
  | 0 => .nil
  | n + 1 => by
    rw [List.replicate_succ, List.replicate_succ, List.flatten_cons, List.flatten_cons]
    exact h.app (DtAll.rep h n)
theorem opd_mul {K : PySem.W.Frag} : OpD K rMulA dMul := by
  intro xm σ F H x y a b Q s hx hy k
  unfold dMul at k
  split at k
  · obtain ⟨f, k⟩ := Po.iteP k
    rw [hx.intE, hy.intE]
    rcases f with f | f
    · exact .inl (.inl (.inl ⟨_, _, rfl, rfl, f, k.done s (.int _)⟩))
    · exact .inl (.inl (.inr ⟨_, _, rfl, rfl, f, k.done s (.int _)⟩))
  · rename_i a b
    obtain ⟨⟨f1, f2, f3⟩, k⟩ := Po.iteP k
    rw [hx.strE, hy.intE]
    have e : a = Dear.txt a.cps.toList := Dear.txt_of a
    exact .inl (.inr ⟨a.cps.toList, b, congrArg V.str e, rfl, f1, f2, by rw [Array.length_toList]; exact f3, k.done s (.str _)⟩)
  · rename_i a b
    obtain ⟨⟨f0, f1, f2, f3⟩, k⟩ := Po.iteP k
    obtain ⟨p, xs, rfl, h1, h2⟩ := hx.lstE
    rw [hy.intE]
    refine .inr ⟨_, _, _, rfl, rfl, s _ _ h1, by omega, by omega, by rw [h2.length]; exact Nat.le_of_lt (fit_line f3), fun r hr => ?_⟩
    exact k.new s hr (.lst upd_same ((h2.same (sm_upd (s.free hr))).rep _))
  · exact k.elim
/-- [..] * n -/
def eRep (fa : VEnv → Res (List D)) (fb : VEnv → Res D) : VEnv → Res D := fun ρ => (fa ρ).bind fun a => if fit a.length = true then (fb ρ).bind fun b => match b with
  | .int b => if -1000000 ≤ b ∧ b ≤ 1000000 ∧ fit (a.length * b.toNat) = true then .ok (.lst (List.replicate b.toNat a).flatten) else .bad
  | _ => .bad else .bad
end Du

namespace Du
open PySem PySem.Spec PyProof.Rows L2
/-! ### data as the library's -/
mutual
def py : D → PyData
  | .non => .none
  | .bl b => .bool b
  | .int i => .int i
  | .str z => .str z
  | .lst ds => .list (pyAll ds)
  | .tup ds => .tuple (pyAll ds)
  | _ => .none
def pyAll : List D → List PyData
  | [] => []
  | d :: ds => py d :: pyAll ds
end
mutual
/-- texts, numbers, truths, None, lists and tuples of such; the texts plain -/
def okD : D → Bool
  | .non => true
  | .bl _ => true
  | .int _ => true
  | .str z => z.cps.toList.all fun c => decide (c < 128)
  | .lst ds => okAll ds
  | .tup ds => okAll ds
  | _ => false
def okAll : List D → Bool
  | [] => true
  | d :: ds => okD d && okAll ds
end
mutual
def dep : D → Nat
  | .lst ds => depAll ds + 1
  | .tup ds => depAll ds + 1
  | _ => 0
def depAll : List D → Nat
  | [] => 0
  | d :: ds => max (dep d) (depAll ds)
end
/-- may be compared -/
def lay (d : D) : Bool := okD d && decide (dep d ≤ 60)
mutual
def pyEq : D → D → Bool
  | .non, .non => true
  | .bl a, .bl b => a == b
  | .bl a, .int j => (if a then 1 else 0) == j
  | .int i, .bl b => i == (if b then 1 else 0)
  | .int i, .int j => decide (i = j)
  | .str x, .str y => decide (x = y)
  | .lst xs, .lst ys => pyEqAll xs ys
  | .tup xs, .tup ys => pyEqAll xs ys
  | _, _ => false
def pyEqAll : List D → List D → Bool
  | [], [] => true
  | x :: xs, y :: ys => pyEq x y && pyEqAll xs ys
  | _, _ => false
end
mutual
theorem Dt.dp {K : PySem.W.Frag} {H : Hp} : ∀ {v : V} {d : D}, okD d = true → Dt K H v d → Dp K H v (py d)
  | _, _, _, .non => .non
  | _, _, _, .bl b => .bl b
  | _, _, _, .int i => .int i
  | _, _, _, .str z => .str z
  | _, _, n, .lst h a => .lst (SqL.of h) (DtAll.dp n a)
  | _, _, n, .tup h a => .tup (.inl (.inl h)) (DtAll.dp n a)
  | _, _, n, .tk h a => .tup (.inr h) (DtAll.dp n a)
  | _, _, n, .scr _ => by cases n
  | _, _, n, .dk _ _ _ => by cases n
  | _, _, n, .dt _ _ _ => by cases n
theorem DtAll.dp {K : PySem.W.Frag} {H : Hp} : ∀ {vs : List V} {ds : List D}, okAll ds = true → DtAll K H vs ds → DpAll K H vs (pyAll ds)
  | _, _, _, .nil => .nil
  | _, _, n, .cons a b => by
    simp only [okAll, Bool.and_eq_true] at n
    exact .cons (Dt.dp n.1 a) (DtAll.dp n.2 b)
end
mutual
theorem lay_py : ∀ {d : D}, okD d = true → PyData.canLay0 (py d) = true
  | .non, _ => rfl
  | .bl _, _ => rfl
  | .int _, _ => rfl
  | .str z, o => Dear.strOk_asc fun c hc => by
    have := List.all_eq_true.mp (show (z.cps.toList.all fun c => decide (c < 128)) = true from o) c hc
    simpa using this
  | .lst _, o => layAll_py o
  | .tup _, o => layAll_py o
  | .scr _, o => by cases o
  | .dct _ _, o => by cases o
  | .exc _ _, o => by cases o
theorem layAll_py : ∀ {ds : List D}, okAll ds = true → PyData.canLayAll0 (pyAll ds) = true
  | [], _ => rfl
  | d :: ds, o => by
    simp only [okAll, Bool.and_eq_true] at o
    show (PyData.canLay0 (py d) && PyData.canLayAll0 (pyAll ds)) = true
    rw [lay_py o.1, layAll_py o.2]
    rfl
end
mutual
theorem dep_py : ∀ d : D, PyData.depth (py d) = dep d
  | .non => rfl
  | .bl _ => rfl
  | .int _ => rfl
  | .str _ => rfl
  | .lst ds => congrArg (· + 1) (depAll_py ds)
  | .tup ds => congrArg (· + 1) (depAll_py ds)
  | .scr _ => rfl
  | .dct _ _ => rfl
  | .exc _ _ => rfl
theorem depAll_py : ∀ ds : List D, PyData.depthAll (pyAll ds) = depAll ds
  | [] => rfl
  | d :: ds => by
    show max (PyData.depth (py d)) (PyData.depthAll (pyAll ds)) = max (dep d) (depAll ds)
    rw [dep_py d, depAll_py ds]
end
mutual
theorem Dp.mono {K : PySem.W.Frag} {F H : Hp} (s : Same F H) : ∀ {v : V} {d : PyData}, Dp K F v d → Dp K H v d
  | _, _, .non => .non
  | _, _, .bl b => .bl b
  | _, _, .int i => .int i
  | _, _, .str z => .str z
  | _, _, .lst h a => .lst ((Below.of s).sql h) (DpAll.mono s a)
  | _, _, .tup h a => .tup ((Below.of s).sqt h) (DpAll.mono s a)
theorem DpAll.mono {K : PySem.W.Frag} {F H : Hp} (s : Same F H) : ∀ {v : List V} {d : List PyData}, DpAll K F v d → DpAll K H v d
  | _, _, .nil => .nil
  | _, _, .cons a b => .cons (Dp.mono s a) (DpAll.mono s b)
end
theorem lay_ok {d : D} (h : lay d = true) : okD d = true := (Bool.and_eq_true_iff.mp h).1
theorem lay_shaped {d : D} (h : lay d = true) : SeqAt.shaped (py d) = true := by
  unfold lay at h
  rw [Bool.and_eq_true, decide_eq_true_eq] at h
  show (PyData.canLay0 (py d) && decide (PyData.depth (py d) ≤ 64)) = true
  rw [lay_py h.1, dep_py, decide_eq_true (by omega)]
  rfl
mutual
theorem eqv_py : ∀ {a b : D}, okD a = true → okD b = true → PyData.eqv (py a) (py b) = pyEq a b := by
  intro a b ha hb
  cases a <;> cases b <;> first
    | rfl
    | (exfalso; revert ha; simp [okD]; done)
    | (exfalso; revert hb; simp [okD]; done)
    | (simp only [py, PyData.eqv, pyEq]; done)
    | (simp only [py, PyData.eqv, pyEq]; exact eqvAll_py ha hb)
    | skip
theorem eqvAll_py : ∀ {a b : List D}, okAll a = true → okAll b = true → PyData.eqvAll (pyAll a) (pyAll b) = pyEqAll a b
  | [], [], _, _ => rfl
  | [], _ :: _, _, _ => rfl
  | _ :: _, [], _, _ => rfl
  | x :: xs, y :: ys, ha, hb => by
    simp only [okAll, Bool.and_eq_true] at ha hb
    show (PyData.eqv (py x) (py y) && PyData.eqvAll (pyAll xs) (pyAll ys)) = (pyEq x y && pyEqAll xs ys)
    rw [eqv_py ha.1 hb.1, eqvAll_py ha.2 hb.2]
end
/-! ### == and != -/
/-- pairs of which == asks no more -/
def scalD : D → D → Bool
  | .non, .non => true | .non, .int _ => true | .int _, .non => true | .non, .bl _ => true | .bl _, .non => true | .non, .str _ => true | .str _, .non => true
  | .int _, .int _ => true | .bl _, .bl _ => true | .str _, .str _ => true
  | .int _, .str _ => true | .str _, .int _ => true | .bl _, .str _ => true | .str _, .bl _ => true
  | _, _ => false
theorem scal_of {K : PySem.W.Frag} {F : Hp} {x y : V} {a b : D} (h : scalD a b = true) (hx : Dt K F x a) (hy : Dt K F y b) : scal x y = true ∧ decide (x = y) = pyEq a b := by
  cases hx <;> cases hy <;> first
    | (exfalso; revert h; simp [scalD]; done)
    | (refine ⟨rfl, ?_⟩; simp [pyEq]; done)
    | skip
  · refine ⟨rfl, ?_⟩
    simp only [pyEq, V.bl.injEq]
    rename_i a b
    cases a <;> cases b <;> rfl
def dEq (a b : D) : Res D := if (scalD a b || (lay a && lay b)) = true then .ok (.bl (pyEq a b)) else .bad
def dNe (a b : D) : Res D := if (scalD a b || (lay a && lay b)) = true then .ok (.bl (!pyEq a b)) else .bad
section
variable {K : PySem.W.Frag} {X : Cx}
def rEqA (K : PySem.W.Frag) : R2 := fun x y H Q => rEq x y H Q ∨ rEqD K x y H Q
def rNeA (K : PySem.W.Frag) : R2 := fun x y H Q => rNe x y H Q ∨ rNeD K x y H Q
theorem op_eqA (hu : X.A.units + 64 < cLine) (h : X.K = K := by rfl) : OpR X (compareOp .Eq) (rEqA K) := OpR.or op_eq (h ▸ op_eqD hu)
theorem op_neA (hu : X.A.units + 64 < cLine) (h : X.K = K := by rfl) : OpR X (compareOp .NotEq) (rNeA K) := OpR.or op_ne (h ▸ op_neD hu)
theorem opd_eq : OpD K (rEqA K) dEq := by
  intro xm σ F H x y a b Q s hx hy k
  obtain ⟨f, k⟩ := Po.ite k
  rcases Bool.or_eq_true_iff.mp f with f | f
  · obtain ⟨h1, h2⟩ := scal_of f hx hy
    exact .inl ⟨h1, by rw [h2]; exact k.done s (.bl _)⟩
  · rw [Bool.and_eq_true] at f
    refine .inr ⟨_, _, Dp.mono s (Dt.dp (lay_ok f.1) hx), Dp.mono s (Dt.dp (lay_ok f.2) hy), lay_shaped f.1, lay_shaped f.2, ?_⟩
    rw [eqv_py (lay_ok f.1) (lay_ok f.2)]
    exact k.done s (.bl _)
theorem opd_ne : OpD K (rNeA K) dNe := by
  intro xm σ F H x y a b Q s hx hy k
  obtain ⟨f, k⟩ := Po.ite k
  rcases Bool.or_eq_true_iff.mp f with f | f
  · obtain ⟨h1, h2⟩ := scal_of f hx hy
    exact .inl ⟨h1, by rw [h2]; exact k.done s (.bl _)⟩
  · rw [Bool.and_eq_true] at f
    refine .inr ⟨_, _, Dp.mono s (Dt.dp (lay_ok f.1) hx), Dp.mono s (Dt.dp (lay_ok f.2) hy), lay_shaped f.1, lay_shaped f.2, ?_⟩
    rw [eqv_py (lay_ok f.1) (lay_ok f.2)]
    exact k.done s (.bl _)
/-! ### <, <=, >, >= of whole numbers -/
def dCmp (p : Int → Int → Bool) : D → D → Res D
  | .int a, .int b => .ok (.bl (p a b))
  | _, _ => .bad
theorem opd_cmp {p : Int → Int → Bool} : OpD K (rI0 fun i j => .bl (p i j)) (dCmp p) := by
  intro xm σ F H x y a b Q s hx hy k
  unfold dCmp at k
  split at k
  · rw [hx.intE, hy.intE]
    exact ⟨_, _, rfl, rfl, k.done s (.bl _)⟩
  · exact k.elim
abbrev dLt := dCmp fun i j => decide (i < j)
abbrev dLe := dCmp fun i j => decide (i ≤ j)
abbrev dGt := dCmp fun i j => decide (j < i)
abbrev dGe := dCmp fun i j => decide (j ≤ i)
theorem opd_lt : OpD K (rI0 fun i j => .bl (decide (i < j))) dLt := opd_cmp
theorem opd_le : OpD K (rI0 fun i j => .bl (decide (i ≤ j))) dLe := opd_cmp
theorem opd_gt : OpD K (rI0 fun i j => .bl (decide (j < i))) dGt := opd_cmp
theorem opd_ge : OpD K (rI0 fun i j => .bl (decide (j ≤ i))) dGe := opd_cmp
/-! ### is None -/
def isNon : D → Bool
  | .non => true
  | _ => false
theorem isNon_of {F : Hp} {v : V} {d : D} (h : Dt K F v d) : decide (v = .non) = isNon d := by
  cases h <;> first
    | rfl
    | (refine decide_eq_false ?_; intro e; cases e)
def dIsN (a b : D) : Res D := if isNon b = true then .ok (.bl (isNon a)) else .bad
def dNotN (a b : D) : Res D := if isNon b = true then .ok (.bl (!isNon a)) else .bad
theorem isNonE {F : Hp} {v : V} {d : D} (h : Dt K F v d) (e : isNon d = true) : v = .non := by
  have := isNon_of h
  rw [e] at this
  exact of_decide_eq_true this
theorem opd_isN : OpD K (fun x y H Q => y = .non ∧ Q (.bl (decide (x = .non))) H) dIsN := by
  intro xm σ F H x y a b Q s hx hy k
  obtain ⟨f, k⟩ := Po.ite k
  exact ⟨isNonE hy f, by rw [isNon_of hx]; exact k.done s (.bl _)⟩
theorem opd_notN : OpD K (fun x y H Q => y = .non ∧ Q (.bl (!decide (x = .non))) H) dNotN := by
  intro xm σ F H x y a b Q s hx hy k
  obtain ⟨f, k⟩ := Po.ite k
  exact ⟨isNonE hy f, by rw [isNon_of hx]; exact k.done s (.bl _)⟩
end
end Du

namespace Du
open PySem PySem.Spec PyProof.Rows L2
section
variable {K : PySem.W.Frag} {X : Cx}
/-! ### dicts with flat keys, as data -/
noncomputable def dGet (kvs : List (D × D)) (k : D) : Option D := (kvs.find? fun p => decide (p.1 = k)).map (·.2)
def dKeyOk : D → Bool
  | .int _ => true
  | .str _ => true
  | _ => false
theorem keyE {F : Hp} {v : V} {d : D} (h : Dt K F v d) (o : dKeyOk d = true) : ∃ k : Key, v = kV k ∧ d = keyD k := by
  cases d with
  | int i => exact ⟨.inl i, h.intE, rfl⟩
  | str z => exact ⟨.inr z, h.strE, rfl⟩
  | _ => cases o
theorem dGet_of {F : Hp} : ∀ {kvs : List (Key × V)} {ds : List (D × D)} {k : Key}, DtAll K F (kvs.map (·.2)) (ds.map (·.2)) → ds.map (·.1) = kvs.map (fun p => keyD p.1) →
    (∀ d, dGet ds (keyD k) = some d → ∃ v, valV kvs k = some v ∧ Dt K F v d) ∧ (dGet ds (keyD k)).isSome = (valV kvs k).isSome
  | [], [], _, _, _ => ⟨(fun _ e => nomatch e), rfl⟩
  | [], _ :: _, _, _, e => by simp at e
  | _ :: _, [], _, _, e => by simp at e
  | p :: kvs, q :: ds, k, h, e => by
    simp only [List.map_cons] at h e
    cases h with
    | cons h1 h2 =>
      injection e with e1 e2
      obtain ⟨i1, i2⟩ := dGet_of (k := k) h2 e2
      by_cases c : p.1 = k
      · have c' : q.1 = keyD k := by rw [e1, c]
        rw [valV_pos c]
        have g : dGet (q :: ds) (keyD k) = some q.2 := by simp [dGet, List.find?_cons, c']
        rw [g]
        exact ⟨fun d e => by cases e; exact ⟨_, rfl, h1⟩, rfl⟩
      · have c' : ¬ q.1 = keyD k := fun z => c (keyD_inj (by rw [← e1, z]))
        rw [valV_neg c]
        have g : dGet (q :: ds) (keyD k) = dGet ds (keyD k) := by simp [dGet, List.find?_cons, c']
        rw [g]
        exact ⟨i1, i2⟩
/-! ### in, not in -/
def rInDk (neg : Bool) : R2 := fun y x H Q => ∃ a o, x = .ref a ∧ DGet H a y o ∧ Q (.bl (if neg then !o.isSome else o.isSome)) H
theorem op_inDk (hu : X.A.units + 1 < cLine) : OpR X (compareOp .In) (rInDk false) := by
  intro pins s σ H y x u v Q I ry rx h
  obtain ⟨a, o, rfl, g, q⟩ := h
  cases (show v = Value.ref a from rx)
  exact d_in hu I g ry fun s' I' => ⟨.bl o.isSome, H, I', rfl, q⟩
theorem op_notInDk (hu : X.A.units + 1 < cLine) : OpR X (compareOp .NotIn) (rInDk true) := by
  intro pins s σ H y x u v Q I ry rx h
  obtain ⟨a, o, rfl, g, q⟩ := h
  cases (show v = Value.ref a from rx)
  exact d_notIn hu I g ry fun s' I' => ⟨.bl (!o.isSome), H, I', rfl, q⟩
def rInA (K : PySem.W.Frag) : R2 := fun x y H Q => (((fun x y H Q => ∃ (c : Nat) (z : Str), x = .str ⟨#[c]⟩ ∧ y = .str z ∧ Q (.bl (decide (c ∈ z.cps.toList))) H) x y H Q ∨ rIn K false x y H Q) ∨ rInD K x y H Q) ∨ rInDk false x y H Q
def rNotInA (K : PySem.W.Frag) : R2 := fun x y H Q => (((fun x y H Q => ∃ (c : Nat) (z : Str), x = .str ⟨#[c]⟩ ∧ y = .str z ∧ Q (.bl (!decide (c ∈ z.cps.toList))) H) x y H Q ∨ rIn K true x y H Q) ∨ rNotInD K x y H Q) ∨ rInDk true x y H Q
theorem op_inA (hu : X.A.units + 64 + 1 < cLine) (h : X.K = K := by rfl) : OpR X (compareOp .In) (rInA K) := OpR.or (OpR.or (OpR.or op_in_sign (h ▸ op_in_seq)) (h ▸ op_inD hu)) (op_inDk (by omega))
theorem op_notInA (hu : X.A.units + 64 + 1 < cLine) (h : X.K = K := by rfl) : OpR X (compareOp .NotIn) (rNotInA K) := OpR.or (OpR.or (OpR.or op_notIn_sign (h ▸ op_notIn_seq)) (h ▸ op_notInD hu)) (op_notInDk (by omega))
def flatD : D → Bool
  | .non => true
  | .bl _ => true
  | .int _ => true
  | .str _ => true
  | _ => false
theorem flat_of {F : Hp} {v : V} {d : D} (h : Dt K F v d) (f : flatD d = true) : flatV v = true := by
  cases h <;> first | rfl | cases f
theorem flats_of {F : Hp} : ∀ {vs : List V} {ds : List D}, DtAll K F vs ds → ds.all flatD = true → vs.all flatV = true
  | _, _, .nil, _ => rfl
  | _, _, .cons a b, f => by
    rw [List.all_cons, Bool.and_eq_true] at f
    rw [List.all_cons, flat_of a f.1, flats_of b f.2]
    rfl
theorem eqV_of {F : Hp} {x y : V} {a b : D} (hx : Dt K F x a) (hy : Dt K F y b) (fa : flatD a = true) (fb : flatD b = true) : eqV x y = pyEq a b := by
  cases hx <;> cases hy <;> first
    | rfl
    | (cases fa; done)
    | (cases fb; done)
    | skip
/-- one of a list equals d -/
def inL (d : D) (ds : List D) : Bool := ds.any fun e => pyEq e d
theorem inV_of {F : Hp} {x : V} {d : D} (hx : Dt K F x d) (fx : flatD d = true) : ∀ {vs : List V} {ds : List D}, DtAll K F vs ds → ds.all flatD = true → inV x vs = inL d ds
  | _, _, .nil, _ => rfl
  | _, _, .cons a b, f => by
    rw [List.all_cons, Bool.and_eq_true] at f
    have ih := inV_of hx fx b f.2
    unfold inV inL at ih ⊢
    rw [List.any_cons, List.any_cons, eqV_of a hx f.1 fx, ih]
theorem inD_of {d : D} (o : okD d = true) : ∀ {ds : List D}, okAll ds = true → (pyAll ds).any (fun e => PyData.eqv e (py d)) = inL d ds
  | [], _ => rfl
  | e :: ds, h => by
    simp only [okAll, Bool.and_eq_true] at h
    have ih := inD_of o h.2
    unfold inL at ih ⊢
    show ((PyData.eqv (py e) (py d)) || (pyAll ds).any fun e => PyData.eqv e (py d)) = _
    rw [List.any_cons, eqv_py h.1 o, ih]
noncomputable def dIn (neg : Bool) : D → D → Res D
  | .str a, .str b => match a.cps.toList with
    | [c] => .ok (.bl (neg ^^ decide (c ∈ b.cps.toList)))
    | _ => .bad
  | d, .lst ds => if (flatD d && ds.all flatD) || (lay d && lay (.lst ds)) then .ok (.bl (neg ^^ inL d ds)) else .bad
  | d, .tup ds => if (flatD d && ds.all flatD) then .ok (.bl (neg ^^ inL d ds)) else .bad
  | d, .dct false kvs => if dKeyOk d then .ok (.bl (neg ^^ (dGet kvs d).isSome)) else .bad
  | _, _ => .bad
theorem one_sign {a : Str} {c : Nat} (h : a.cps.toList = [c]) : a = ⟨#[c]⟩ := by
  obtain ⟨⟨l⟩⟩ := a
  simp only at h
  subst h
  rfl
theorem opd_in (neg : Bool) : OpD K (if neg then rNotInA K else rInA K) (dIn neg) := by
  intro xm σ F H x y a b Q s hx hy k
  unfold dIn at k
  split at k
  · split at k
    · rename_i c e
      rw [hx.strE, hy.strE, one_sign e]
      have q := k.done s (.bl _)
      cases neg
      · exact .inl (.inl (.inl ⟨c, _, rfl, rfl, by simpa using q⟩))
      · exact .inl (.inl (.inl ⟨c, _, rfl, rfl, by simpa using q⟩))
    · exact k.elim
  · obtain ⟨f, k⟩ := Po.ite k
    obtain ⟨p, xs, rfl, h1, h2⟩ := hy.lstE
    have q := k.done s (.bl _)
    rcases Bool.or_eq_true_iff.mp f with f | f
    · rw [Bool.and_eq_true] at f
      rw [← inV_of hx f.1 h2 f.2] at q
      cases neg
      · exact .inl (.inl (.inr ⟨p, xs, rfl, .inl (SqL.of (s _ _ h1)), flat_of hx f.1, flats_of h2 f.2, by simpa using q⟩))
      · exact .inl (.inl (.inr ⟨p, xs, rfl, .inl (SqL.of (s _ _ h1)), flat_of hx f.1, flats_of h2 f.2, by simpa using q⟩))
    · rw [Bool.and_eq_true] at f
      have ok2 := lay_ok f.2
      rw [← inD_of (lay_ok f.1) (show okAll _ = true from ok2)] at q
      have d1 := Dp.mono s (Dt.dp (lay_ok f.1) hx)
      have d2 := Dp.mono s (Dt.dp ok2 hy)
      cases neg
      · exact .inl (.inr ⟨_, _, d1, d2, lay_shaped f.1, lay_shaped f.2, by simpa using q⟩)
      · exact .inl (.inr ⟨_, _, d1, d2, lay_shaped f.1, lay_shaped f.2, by simpa using q⟩)
  · obtain ⟨f, k⟩ := Po.ite k
    obtain ⟨p, xs, rfl, h1, h2⟩ := hy.tupE
    have q := k.done s (.bl _)
    rw [Bool.and_eq_true] at f
    rw [← inV_of hx f.1 h2 f.2] at q
    cases neg
    · exact .inl (.inl (.inr ⟨p, xs, rfl, .inr ((Below.of s).sqt h1), flat_of hx f.1, flats_of h2 f.2, by simpa using q⟩))
    · exact .inl (.inl (.inr ⟨p, xs, rfl, .inr ((Below.of s).sqt h1), flat_of hx f.1, flats_of h2 f.2, by simpa using q⟩))
  · obtain ⟨f, k⟩ := Po.ite k
    obtain ⟨key, rfl, rfl⟩ := keyE hx f
    have q := k.done s (.bl _)
    cases hy with
    | dk h1 h2 h3 =>
      rw [(dGet_of h2 h3).2] at q
      have g : DGet H _ (kV key) _ := .inl ⟨_, key, (Below.of s).rd h1, rfl, rfl⟩
      cases neg
      · exact .inr ⟨_, _, rfl, g, by simpa using q⟩
      · exact .inr ⟨_, _, rfl, g, by simpa using q⟩
  · exact k.elim
theorem opd_inF : OpD K (rInA K) (dIn false) := opd_in false
theorem opd_inT : OpD K (rNotInA K) (dIn true) := opd_in true
/-! ### subscripts -/
def rIxDk : R2 := fun x y H Q => ∃ a v, x = .ref a ∧ DGet H a y (some v) ∧ Q v H
theorem ix_dk (hu : X.A.units + 1 < cLine) : IxR X rIxDk := by
  intro value slice pins s σ H x y v u Q I rx ry h hs
  obtain ⟨a, w, rfl, g, q⟩ := h
  cases (show v = Value.ref a from rx)
  have hT := dict_typeIs I g
  unfold subscriptTail
  refine wpAny_bind ?_
  rw [getitemInPython_of_ne hT.not_modules]
  refine wpAny_bind (wpAny_specialOf hT PySem.F.slot_dict_getitem.lookup ?_)
  have fin : wpAny (model X.prog X.w) X.A (subscripted slice false (.ref a) u) (fun r s₃ => wpAny (model X.prog X.w) X.A (letTemporaryGo value (.ref a) r >>= fun _ => pure r) (EP X pins σ Q) X.xe s₃) X.xe s := by
    rw [hs]
    exact wpAny_operating (wpAny_mono (d_getItem hu I g ry fun w' s' I' r' => ⟨w, H, I', r', q⟩) (fun r s₃ h₃ => wpAny_bind (wpAny_letTemporaryGo (wpAny_pure h₃))) fun _ _ x => x)
  first
    | exact wpAny_pure (wpAny_bind fin)
    | exact wpAny_bind (wpAny_pure (wpAny_bind fin))
    | exact wpAny_bind fin
def rIxA (K : PySem.W.Frag) : R2 := fun x y H Q => ((rIxL K x y H Q ∨ rIxT K x y H Q) ∨ rIxS x y H Q) ∨ rIxDk x y H Q
theorem ix_A (hu : X.A.units + 1 < cLine) (h : X.K = K := by rfl) : IxR X (rIxA K) := IxR.or (IxR.or (IxR.or (h ▸ ix_list) (h ▸ ix_tup)) ix_str) (ix_dk hu)
noncomputable def dIx : D → D → Res D
  | .lst ds, .int i => match atI ds i with
    | some d => .ok d
    | none => .bad
  | .tup ds, .int i => match atI ds i with
    | some d => .ok d
    | none => .bad
  | .scr ns, .int i => match atI ns i with
    | some n => .ok (.int n)
    | none => .bad
  | .str z, .int i => if fit z.length = true then match atI z.cps.toList i with
    | some c => .ok (.str ⟨#[c]⟩)
    | none => .bad else .bad
  | .dct false kvs, k => if dKeyOk k = true then match dGet kvs k with
    | some d => .ok d
    | none => .bad else .bad
  | _, _ => .bad
theorem DtAll.atI {F : Hp} {vs : List V} {ds : List D} {i : Int} {d : D} (h : DtAll K F vs ds) (e : atI ds i = some d) : ∃ v, L2.atI vs i = some v ∧ Dt K F v d := by
  unfold L2.atI at e ⊢
  rw [h.length]
  obtain ⟨j, e1, e2⟩ := Option.bind_eq_some_iff.mp e
  obtain ⟨v, e3, e4⟩ := DtAll.at h e2
  exact ⟨v, by rw [e1]; exact e3, e4⟩
theorem atI_map {α β : Type} {f : α → β} {xs : List α} {i : Int} {a : α} (e : atI xs i = some a) : atI (xs.map f) i = some (f a) := by
  unfold L2.atI at e ⊢
  rw [List.length_map]
  obtain ⟨j, e1, e2⟩ := Option.bind_eq_some_iff.mp e
  rw [e1]
  show (xs.map f)[j]? = _
  rw [List.getElem?_map, e2]
  rfl
theorem opd_ix : OpD K (rIxA K) dIx := by
  intro xm σ F H x y a b Q s hx hy k
  unfold dIx at k
  split at k
  · split at k
    · rename_i d e
      obtain ⟨p, xs, rfl, h1, h2⟩ := hx.lstE
      obtain ⟨v, e1, e2⟩ := h2.atI e
      rw [hy.intE]
      exact .inl (.inl (.inl ⟨_, _, _, _, rfl, rfl, SqL.of (s _ _ h1), e1, k.done s e2⟩))
    · exact k.elim
  · split at k
    · rename_i d e
      obtain ⟨p, xs, rfl, h1, h2⟩ := hx.tupE
      obtain ⟨v, e1, e2⟩ := h2.atI e
      rw [hy.intE]
      exact .inl (.inl (.inr ⟨_, _, _, _, rfl, rfl, (Below.of s).sqt h1, e1, k.done s e2⟩))
    · exact k.elim
  · split at k
    · rename_i d e
      rw [hy.intE]
      cases hx with
      | scr h1 => exact .inl (.inl (.inl ⟨_, _, _, _, rfl, rfl, (Below.of s).sql h1, atI_map e, k.done s (.int _)⟩))
    · exact k.elim
  · obtain ⟨f, k⟩ := Po.ite k
    split at k
    · rename_i c e
      rw [hx.strE, hy.intE]
      exact .inl (.inr ⟨_, _, _, rfl, rfl, Nat.le_of_lt (fit_line f), e, k.done s (.str _)⟩)
    · exact k.elim
  · obtain ⟨f, k1⟩ := Po.ite k
    clear k
    split at k1
    · rename_i d e
      obtain ⟨key, rfl, rfl⟩ := keyE hy f
      cases hx with
      | dk h1 h2 h3 =>
        obtain ⟨v, e1, e2⟩ := (dGet_of h2 h3).1 _ e
        exact .inr ⟨_, v, rfl, .inl ⟨_, key, (Below.of s).rd h1, rfl, e1.symm⟩, k1.done s e2⟩
    · exact k1.elim
  · exact k.elim
theorem fe_ix {xm : XMo} {a b : Expr} {pos : Pos} {r : R2} {g : D → D → Res D} {fa fb : VEnv → Res D} (hr : IxR X r) (h : OpD K r g) (ha : FE K xm X a fa) (hb : FE K xm X b fb) (hs : PlainIx b := by intro _ _; rfl) : FE K xm X (.Subscript a b pos) (eOp g fa fb) :=
  PE.to (pe_ix hr ha hb hs) fun _ _ _ k => k.op h
/-! ### slices -/
def dPart : D → Res (Option Int)
  | .int i => .ok (some i)
  | _ => .bad
def pNo : VEnv → Res (Option Int) := fun _ => .ok none
def pYes (f : VEnv → Res D) : VEnv → Res (Option Int) := fun ρ => (f ρ).bind dPart
def cutD {α : Type} (xs : List α) (lo hi : Option Int) : List α := (xs.drop (HT.sIx xs.length 0 lo)).take (HT.sIx xs.length xs.length hi - HT.sIx xs.length 0 lo)
def dSl : D → Option Int → Option Int → Res D
  | .lst ds, lo, hi => .ok (.lst (cutD ds lo hi))
  | .tup ds, lo, hi => .ok (.tup (cutD ds lo hi))
  | .scr ns, lo, hi => .ok (.lst ((cutD ns lo hi).map D.int))
  | .str z, lo, hi => if fit z.length = true then .ok (.str (cutS z lo hi)) else .bad
  | _, _, _ => .bad
def eSl (fe : VEnv → Res D) (fl fh : VEnv → Res (Option Int)) : VEnv → Res D := fun ρ => (fe ρ).bind fun a => (fl ρ).bind fun l => (fh ρ).bind fun h => dSl a l h
abbrev RO : Hp → Option Int → Option Int → Prop := fun _ b c => b = c
def oF (K : PySem.W.Frag) (xm : XMo) (f : VEnv → Res (Option Int)) : TO := fun σ H Q => ∃ F ρ, Same F H ∧ Vw K F σ ρ ∧ Po RO K xm σ F H (f ρ) Q
abbrev FO (K : PySem.W.Frag) (xm : XMo) (X : Cx) (e : Option Expr) (f : VEnv → Res (Option Int)) : Prop := PO X e (oF K xm f)
theorem PO.to {e : Option Expr} {t t' : TO} (h : PO X e t) (m : ∀ σ H Q, t' σ H Q → t σ H Q) : PO X e t' := ⟨fun pins s σ H Q I q => h.run pins s σ H Q I (m _ _ _ q)⟩
theorem fo_no {xm : XMo} : FO K xm X none pNo := PO.to po_none fun σ H Q ⟨F, ρ, sF, vw, k⟩ => k.done sF rfl
theorem fo_yes {xm : XMo} {e : Expr} {f : VEnv → Res D} (h : FE K xm X e f) : FO K xm X (some e) (pYes f) := PO.to (po_some h) fun σ H Q ⟨F, ρ, sF, vw, k⟩ => ⟨F, ρ, sF, vw, Po.seq k fun a x F1 H1 g1 d1 k1 => by
  unfold dPart at k1
  split at k1
  · rw [d1.intE]
    exact ⟨_, rfl, k1.done g1.fh rfl⟩
  · exact k1.elim⟩
def rSlAll (K : PySem.W.Frag) : V → Option Int → Option Int → Hp → VK → Prop := fun x lo hi H Q => (rSlL K x lo hi H Q ∨ rSlA K x lo hi H Q) ∨ rSlS x lo hi H Q
theorem sl_all (h : X.K = K := by rfl) : SlR X (rSlAll K) := SlR.or (SlR.or (h ▸ sl_list) (h ▸ sl_tupA)) sl_str
theorem DtAll.cut {F : Hp} {vs : List V} {ds : List D} (h : DtAll K F vs ds) (lo hi : Option Int) : DtAll K F (cutV vs lo hi) (cutD ds lo hi) := by
  unfold cutV cutD
  rw [h.length]
  exact (h.drop _).take _
theorem cut_map {α β : Type} (f : α → β) (xs : List α) (lo hi : Option Int) : cutD (xs.map f) lo hi = (cutD xs lo hi).map f := by
  unfold cutD
  rw [List.length_map, List.map_take, List.map_drop]
theorem cutV_map {α : Type} (f : α → V) (xs : List α) (lo hi : Option Int) : cutV (xs.map f) lo hi = (cutD xs lo hi).map f := cut_map f xs lo hi
theorem cut_whole {α : Type} {xs : List α} {lo hi : Option Int} (h : HT.sIx xs.length 0 lo = 0 ∧ HT.sIx xs.length xs.length hi = xs.length) : cutD xs lo hi = xs := by
  unfold cutD
  rw [h.1, h.2]
  simp
theorem fe_sl {xm : XMo} {e : Expr} {lo hi : Option Expr} {p2 pos : Pos} {fe : VEnv → Res D} {fl fh : VEnv → Res (Option Int)} (he : FE K xm X e fe) (hl : FO K xm X lo fl) (hh : FO K xm X hi fh) (hk : X.K = K := by rfl) :
    FE K xm X (.Subscript e (.Slice lo hi none p2) pos) (eSl fe fl fh) := PE.to (pe_slice (sl_all hk) he hl hh) fun σ H Q ⟨F, ρ, sF, vw, k⟩ => ⟨F, ρ, sF, vw, Po.seq k fun a x F1 H1 g1 d1 k1 =>
  ⟨F1, ρ, g1.fh, vw.same g1.ff, Po.seq k1 fun l l' F2 H2 g2 d2 k2 => ⟨F2, ρ, g2.fh, vw.same (g1.ff.trans g2.ff), Po.seq k2 fun h h' F3 H3 g3 d3 k3 => by
    subst d2 d3
    have s := g3.fh
    have d := (d1.same g2.ff).same g3.ff
    unfold dSl at k3
    split at k3
    · obtain ⟨p, xs, rfl, h1, h2⟩ := d.lstE
      exact .inl (.inl ⟨p, xs, rfl, SqL.of (s _ _ h1), fun q hq => k3.new s hq (.lst upd_same ((h2.cut l' h').same (sm_upd (s.free hq))))⟩)
    · obtain ⟨p, xs, rfl, h1, h2⟩ := d.tupE
      refine .inl (.inr ⟨p, xs, rfl, (Below.of s).sqt h1, fun w => ?_, fun _ q hq => k3.new s hq (.tup upd_same ((h2.cut l' h').same (sm_upd (s.free hq))))⟩)
      rw [h2.length] at w
      rw [cut_whole w] at k3
      exact k3.done s d
    · cases d with
      | scr h1 => exact .inl (.inl ⟨_, _, rfl, (Below.of s).sql h1, fun q hq => k3.new s hq (.lst upd_same (by rw [cutV_map]; exact Dt.ints _))⟩)
    · obtain ⟨f, k3⟩ := Po.ite k3
      rw [d.strE]
      exact .inr ⟨_, rfl, Nat.le_of_lt (fit_line f), k3.done s (.str _)⟩
    · exact k3.elim⟩⟩⟩
end
end Du

namespace Du
open PySem PySem.Spec PyProof.Rows L2
section
variable {K : PySem.W.Frag} {xm : XMo} {X : Cx}
/-! ### arguments, displays -/
def aNil : VEnv → Res (List D) := fun _ => .ok []
def aCons (f : VEnv → Res D) (g : VEnv → Res (List D)) : VEnv → Res (List D) := fun ρ => (f ρ).bind fun a => (g ρ).bind fun as => .ok (a :: as)
theorem fa_nil : FA K xm X [] aNil := PA.to pa_nil fun σ H Q ⟨F, ρ, sF, vw, k⟩ => k.done sF .nil
theorem fa_cons {e : Expr} {es : List Expr} {f : VEnv → Res D} {g : VEnv → Res (List D)} (h : FE K xm X e f) (r : FA K xm X es g) (hs : starEach (e :: es) X.env = (false, eval e X.env) :: starEach es X.env := by rfl) : FA K xm X (e :: es) (aCons f g) :=
  PA.to (pa_cons h r hs) fun σ H Q ⟨F, ρ, sF, vw, k⟩ => ⟨F, ρ, sF, vw, Po.seq k fun a x F1 H1 g1 d1 k1 => ⟨F1, ρ, g1.fh, vw.same g1.ff, Po.seq k1 fun b y F2 H2 g2 d2 k2 =>
    k2.done g2.fh (.cons (d1.same g2.ff) d2)⟩⟩
def eTup (f : VEnv → Res (List D)) : VEnv → Res D := fun ρ => (f ρ).bind fun as => if fit as.length = true then .ok (.tup as) else .bad
def eLst (f : VEnv → Res (List D)) : VEnv → Res D := fun ρ => (f ρ).bind fun as => if fit as.length = true then .ok (.lst as) else .bad
theorem fe_tup {es : List Expr} {kk : Nat} {pos : Pos} {f : VEnv → Res (List D)} (h : FA K xm X es f) : FE K xm X (.Tuple es kk pos) (eTup f) :=
  PE.to (pe_tup h) fun σ H Q ⟨F, ρ, sF, vw, k⟩ => ⟨F, ρ, sF, vw, Po.seq k fun a xs F1 H1 g1 d1 k1 => by
    obtain ⟨f, k1⟩ := Po.ite k1
    exact ⟨by rw [d1.length]; exact Nat.le_of_lt (fit_line f), fun p hp => k1.new g1.fh hp (.tup upd_same (d1.same (sm_upd (g1.fh.free hp))))⟩⟩
theorem fe_lst {es : List Expr} {pos : Pos} {f : VEnv → Res (List D)} (h : FA K xm X es f) : FE K xm X (.List es pos) (eLst f) :=
  PE.to (pe_lst h) fun σ H Q ⟨F, ρ, sF, vw, k⟩ => ⟨F, ρ, sF, vw, Po.seq k fun a xs F1 H1 g1 d1 k1 => by
    obtain ⟨f, k1⟩ := Po.ite k1
    exact ⟨by rw [d1.length]; exact Nat.le_of_lt (fit_line f), fun p hp => k1.new g1.fh hp (.lst upd_same (d1.same (sm_upd (g1.fh.free hp))))⟩⟩
def eDct0 : VEnv → Res D := fun _ => .ok (.dct false [])
/-! ### truth, tests -/
def dTru : D → Res Bool
  | .non => .ok false
  | .bl b => .ok b
  | .int i => .ok (i != 0)
  | .str z => if fit z.length = true then .ok ((z.length : Int) != 0) else .bad
  | .lst ds => .ok (!ds.isEmpty)
  | .tup ds => .ok (!ds.isEmpty)
  | _ => .bad
theorem isEmpty_all {F : Hp} {vs : List V} {ds : List D} (h : DtAll K F vs ds) : vs.isEmpty = ds.isEmpty := by cases h <;> rfl
theorem tru_of {F H : Hp} {v : V} {d : D} {b : Bool} (s : Same F H) (h : Dt K F v d) (e : dTru d = .ok b) : TruV K v H b := by
  unfold dTru at e
  split at e
  · cases e; rw [h.nonE]; exact rfl
  · cases e; rw [h.blE]; exact rfl
  · cases e; rw [h.intE]; exact rfl
  · rename_i z
    by_cases f : fit z.length = true
    · rw [if_pos f] at e; cases e; rw [h.strE]; exact ⟨Nat.le_of_lt (fit_line f), rfl⟩
    · rw [if_neg f] at e; cases e
  · cases e
    obtain ⟨p, xs, rfl, h1, h2⟩ := h.lstE
    exact .inl ⟨xs, SqL.of (s _ _ h1), by rw [isEmpty_all h2]⟩
  · cases e
    obtain ⟨p, xs, rfl, h1, h2⟩ := h.tupE
    exact .inr (.inl ⟨xs, (Below.of s).sqt h1, by rw [isEmpty_all h2]⟩)
  · cases e
theorem tru_exc {d : D} {x : Ex} : dTru d ≠ .exc x := by
  unfold dTru
  split <;> first
    | (intro e; cases e; done)
    | (split <;> intro e <;> cases e)
theorem Po.tru {α ω : Type} {R : Hp → ω → α → Prop} {σ : St} {F H : Hp} {d : D} {g : Bool → Res α} {Q : ω → Hp → Prop} (k : Po R K xm σ F H ((dTru d).bind g) Q) : ∃ b, dTru d = .ok b ∧ Po R K xm σ F H (g b) Q := by
  cases e : dTru d with
  | ok b => exact ⟨b, rfl, by rw [e] at k; exact k⟩
  | exc x => exact absurd e tru_exc
  | bad => rw [e] at k; exact k.elim
def bT (f : VEnv → Res D) : VEnv → Res Bool := fun ρ => (f ρ).bind dTru
theorem ft_tru {e : Expr} {f : VEnv → Res D} (h : FE K xm X e f) (hk : X.K = K := by rfl) (he : ∀ whole, isTrue e X.env whole = (do let v ← whole; standAt e.pos; holding [v] (truthy v)) := by intro _; rfl) : FT K xm X e (bT f) := by
  subst hk
  exact PT.to (pt_truth h he) fun σ H Q ⟨F, ρ, sF, vw, k⟩ => ⟨F, ρ, sF, vw, Po.seq k fun a x F1 H1 g1 d1 k1 => by
    cases e : dTru a with
    | ok b =>
      rw [e] at k1
      exact ⟨b, tru_of g1.fh d1 e, k1.done g1.fh rfl⟩
    | exc x => exact absurd e tru_exc
    | bad => rw [e] at k1; exact k1.elim⟩
theorem po_bl {σ : St} {F H : Hp} {r : Res D} {Q : Bool → Hp → Prop} (nb : ∀ d, r = .ok d → ∃ b, d = .bl b) (k : Po RB K xm σ F H (r.bind dTru) Q) : Po (RD K) K xm σ F H r fun v H' => ∃ c, v = V.bl c ∧ Q c H' := by
  cases e : r with
  | ok d =>
    obtain ⟨c, rfl⟩ := nb _ e
    rw [e] at k
    intro w F3 H3 g3 d3
    exact ⟨c, d3.blE, k c F3 H3 g3 rfl⟩
  | exc x => rw [e] at k; exact k
  | bad => rw [e] at k; exact k
/-- the operator tells a truth -/
def Bls (K : PySem.W.Frag) (r : R2) : Prop := ∀ x y H Q, r x y H Q → r x y H fun v H' => (∃ b, v = .bl b) ∧ Q v H'
theorem ft_cmp {a b : Expr} {op : CmpOp} {pos : Pos} {r : R2} {g : D → D → Res D} {fa fb : VEnv → Res D} (ho : OpR X (compareOp op) r) (h : OpD K r g) (hg : ∀ x y d, g x y = .ok d → ∃ b, d = .bl b) (ha : FE K xm X a fa) (hb : FE K xm X b fb)
    (hm : behindInMarks op b = false := by first | exact nomark _ | rfl) : FT K xm X (.Compare a [op] [b] pos) (bT (eOp g fa fb)) := PT.to (pt_cmpR ho ha hb hm) fun σ H Q ⟨F, ρ, sF, vw, k⟩ => by
  unfold bT eOp at k
  rw [Res.bind_assoc] at k
  refine ⟨F, ρ, sF, vw, Po.seq k fun a x F1 H1 g1 d1 k1 => ⟨F1, ρ, g1.fh, vw.same g1.ff, ?_⟩⟩
  rw [Res.bind_assoc] at k1
  refine Po.seq k1 fun b y F2 H2 g2 d2 k2 => h xm σ F2 H2 x y a b _ g2.fh (d1.same g2.ff) d2 ?_
  exact po_bl (fun d e => hg _ _ _ e) k2
def bNot (f : VEnv → Res Bool) : VEnv → Res Bool := fun ρ => (f ρ).bind fun b => .ok (!b)
def bAnd (f g : VEnv → Res Bool) : VEnv → Res Bool := fun ρ => (f ρ).bind fun b => if b = true then g ρ else .ok false
def bOr (f g : VEnv → Res Bool) : VEnv → Res Bool := fun ρ => (f ρ).bind fun b => if b = true then .ok true else g ρ
theorem ft_not {a : Expr} {pos : Pos} {f : VEnv → Res Bool} (h : FT K xm X a f) : FT K xm X (.UnaryOp .Not a pos) (bNot f) := PT.to (pt_not h) fun σ H Q ⟨F, ρ, sF, vw, k⟩ => ⟨F, ρ, sF, vw, Po.seq k fun a x F1 H1 g1 d1 k1 => by
  subst d1
  exact k1.done g1.fh rfl⟩
theorem fw_and1 {a : Expr} {pos : Pos} {f : VEnv → Res Bool} (h : FT K xm X a f) : FW K xm X (.BoolOp .And [a] pos) f := pw_and1 h
theorem fw_or1 {a : Expr} {pos : Pos} {f : VEnv → Res Bool} (h : FT K xm X a f) : FW K xm X (.BoolOp .Or [a] pos) f := pw_or1 h
theorem fw_and {a b : Expr} {rest : List Expr} {pos : Pos} {f g : VEnv → Res Bool} (h : FT K xm X a f) (r : FW K xm X (.BoolOp .And (b :: rest) pos) g) : FW K xm X (.BoolOp .And (a :: b :: rest) pos) (bAnd f g) :=
  PW.to (pw_and h r) fun σ H Q ⟨F, ρ, sF, vw, k⟩ => ⟨F, ρ, sF, vw, Po.seq k fun a x F1 H1 g1 d1 k1 => by
    subst d1
    cases x with
    | true =>
      rw [if_pos rfl] at k1
      exact iteT ⟨F1, ρ, g1.fh, vw.same g1.ff, k1⟩
    | false =>
      rw [if_neg Bool.false_ne_true] at k1
      exact iteF (k1.done g1.fh rfl)⟩
theorem fw_or {a b : Expr} {rest : List Expr} {pos : Pos} {f g : VEnv → Res Bool} (h : FT K xm X a f) (r : FW K xm X (.BoolOp .Or (b :: rest) pos) g) : FW K xm X (.BoolOp .Or (a :: b :: rest) pos) (bOr f g) :=
  PW.to (pw_or h r) fun σ H Q ⟨F, ρ, sF, vw, k⟩ => ⟨F, ρ, sF, vw, Po.seq k fun a x F1 H1 g1 d1 k1 => by
    subst d1
    cases x with
    | true =>
      rw [if_pos rfl] at k1
      exact iteT (k1.done g1.fh rfl)
    | false =>
      rw [if_neg Bool.false_ne_true] at k1
      exact iteF ⟨F1, ρ, g1.fh, vw.same g1.ff, k1⟩⟩
theorem ft_w {a : Expr} {f : VEnv → Res Bool} (h : FW K xm X a f) : FT K xm X a f := PW.pt h
/-! ### and, or, not as values; a if t else b -/
def eAnd (f g : VEnv → Res D) : VEnv → Res D := fun ρ => (f ρ).bind fun a => (dTru a).bind fun b => if b = true then g ρ else .ok a
def eOr (f g : VEnv → Res D) : VEnv → Res D := fun ρ => (f ρ).bind fun a => (dTru a).bind fun b => if b = true then .ok a else g ρ
def eNot (f : VEnv → Res D) : VEnv → Res D := fun ρ => (f ρ).bind fun a => (dTru a).bind fun b => .ok (.bl (!b))
theorem fe_one {op : BoolOp} {a : Expr} {pos : Pos} {f : VEnv → Res D} (h : FE K xm X a f) : FE K xm X (.BoolOp op [a] pos) f := pe_one h
theorem fe_and {a b : Expr} {rest : List Expr} {pos : Pos} {f g : VEnv → Res D} (h : FE K xm X a f) (r : FE K xm X (.BoolOp .And (b :: rest) pos) g) (hk : X.K = K := by rfl) : FE K xm X (.BoolOp .And (a :: b :: rest) pos) (eAnd f g) := by
  subst hk
  exact PE.to (pe_andT h r) fun σ H Q ⟨F, ρ, sF, vw, k⟩ => ⟨F, ρ, sF, vw, Po.seq k fun a x F1 H1 g1 d1 k1 => by
    obtain ⟨b, e, k2⟩ := Po.tru k1
    refine ⟨b, tru_of g1.fh d1 e, ?_⟩
    cases b with
    | true => exact iteT ⟨F1, ρ, g1.fh, vw.same g1.ff, by rwa [if_pos rfl] at k2⟩
    | false =>
      rw [if_neg Bool.false_ne_true] at k2
      exact iteF (k2.done g1.fh d1)⟩
theorem fe_or {a b : Expr} {rest : List Expr} {pos : Pos} {f g : VEnv → Res D} (h : FE K xm X a f) (r : FE K xm X (.BoolOp .Or (b :: rest) pos) g) (hk : X.K = K := by rfl) : FE K xm X (.BoolOp .Or (a :: b :: rest) pos) (eOr f g) := by
  subst hk
  exact PE.to (pe_orT h r) fun σ H Q ⟨F, ρ, sF, vw, k⟩ => ⟨F, ρ, sF, vw, Po.seq k fun a x F1 H1 g1 d1 k1 => by
    obtain ⟨b, e, k2⟩ := Po.tru k1
    refine ⟨b, tru_of g1.fh d1 e, ?_⟩
    cases b with
    | true =>
      rw [if_pos rfl] at k2
      exact iteT (k2.done g1.fh d1)
    | false => exact iteF ⟨F1, ρ, g1.fh, vw.same g1.ff, by rwa [if_neg Bool.false_ne_true] at k2⟩⟩
theorem fe_not {a : Expr} {pos : Pos} {f : VEnv → Res D} (h : FE K xm X a f) (hk : X.K = K := by rfl) : FE K xm X (.UnaryOp .Not a pos) (eNot f) := by
  subst hk
  exact PE.to (pe_notT h) fun σ H Q ⟨F, ρ, sF, vw, k⟩ => ⟨F, ρ, sF, vw, Po.seq k fun a x F1 H1 g1 d1 k1 => by
    obtain ⟨b, e, k2⟩ := Po.tru k1
    exact ⟨b, tru_of g1.fh d1 e, k2.done g1.fh (.bl _)⟩⟩
def eIf (c : VEnv → Res Bool) (f g : VEnv → Res D) : VEnv → Res D := fun ρ => (c ρ).bind fun b => if b = true then f ρ else g ρ
/-! ### a < b < c -/
def dBl : D → Res Bool
  | .bl b => .ok b
  | _ => .bad
def eChain (g g' : D → D → Res D) (fa fb fc : VEnv → Res D) : VEnv → Res D := fun ρ => (fa ρ).bind fun a => (fb ρ).bind fun b => (g a b).bind fun z => (dBl z).bind fun k => if k = true then (fc ρ).bind fun c => g' b c else .ok (.bl false)
theorem tF.chain {r r' : R2} {g g' : D → D → Res D} {fa fb fc : VEnv → Res D} (h : OpD K r g) (h' : OpD K r' g') {σ : St} {H : Hp} {Q : VK} (k : tF K xm (eChain g g' fa fb fc) σ H Q) : tChain r r' (tF K xm fa) (tF K xm fb) (tF K xm fc) σ H Q := by
  obtain ⟨F, ρ, sF, vw, k⟩ := k
  refine ⟨F, ρ, sF, vw, Po.seq k fun a x F1 H1 g1 d1 k1 => ⟨F1, ρ, g1.fh, vw.same g1.ff, Po.seq k1 fun b y F2 H2 g2 d2 k2 => h xm σ F2 H2 x y a b _ g2.fh (d1.same g2.ff) d2 (Po.seq k2 fun z v F3 H3 g3 d3 k3 => ?_)⟩⟩
  unfold dBl at k3
  cases z with
  | bl c =>
    refine ⟨c, d3.blE, ?_⟩
    cases c with
    | true =>
      refine iteT ⟨F3, ρ, g3.fh, vw.same ((g1.ff.trans g2.ff).trans g3.ff), ?_⟩
      have k4 : Po (RD K) K xm σ F3 H3 ((fc ρ).bind fun c => g' b c) Q := k3
      exact Po.seq k4 fun c w F4 H4 g4 d4 k5 => h' xm σ F4 H4 y w b c Q g4.fh ((d2.same g3.ff).same g4.ff) d4 k5
    | false => exact iteF (Po.done (R := RD K) (a := D.bl false) k3 g3.fh (.bl _))
  | _ => exact k3.elim
theorem ft_chain {a b c : Expr} {op op' : CmpOp} {pos : Pos} {r r' : R2} {g g' : D → D → Res D} {fa fb fc : VEnv → Res D} (ho : OpR X (compareOp op) r) (h : OpD K r g) (ho' : OpR X (compareOp op') r') (h' : OpD K r' g') (hg : ∀ x y d, g' x y = .ok d → ∃ b, d = .bl b)
    (ha : FE K xm X a fa) (hb : FE K xm X b fb) (hc : FE K xm X c fc) (hm : lastMarks [op, op'] [b, c] = false := by with_unfolding_all rfl) : FT K xm X (.Compare a [op, op'] [b, c] pos) (bT (eChain g g' fa fb fc)) :=
  PT.to (pt_chain ho ho' ha hb hc hm) fun σ H Q ⟨F, ρ, sF, vw, k⟩ => by
    refine tF.chain h h' ⟨F, ρ, sF, vw, ?_⟩
    unfold bT at k
    have nb : ∀ d, eChain g g' fa fb fc ρ = .ok d → ∃ b, d = .bl b := fun d e => by
      unfold eChain at e
      cases e1 : fa ρ with
      | ok a =>
        rw [e1, Res.bind_ok] at e
        cases e2 : fb ρ with
        | ok b =>
          rw [e2, Res.bind_ok] at e
          cases e3 : g a b with
          | ok z =>
            rw [e3, Res.bind_ok] at e
            cases e4 : dBl z with
            | ok k =>
              rw [e4, Res.bind_ok] at e
              cases k with
              | true =>
                rw [if_pos rfl] at e
                cases e5 : fc ρ with
                | ok c => rw [e5, Res.bind_ok] at e; exact hg _ _ _ e
                | exc x => rw [e5] at e; cases e
                | bad => rw [e5] at e; cases e
              | false =>
                rw [if_neg Bool.false_ne_true] at e
                cases e
                exact ⟨_, rfl⟩
            | exc x => rw [e4] at e; cases e
            | bad => rw [e4] at e; cases e
          | exc x => rw [e3] at e; cases e
          | bad => rw [e3] at e; cases e
        | exc x => rw [e2] at e; cases e
        | bad => rw [e2] at e; cases e
      | exc x => rw [e1] at e; cases e
      | bad => rw [e1] at e; cases e
    exact po_bl nb k
/-! ### calls of built-ins -/
def eCall (g : List D → Res D) (fa : VEnv → Res (List D)) : VEnv → Res D := fun ρ => (fa ρ).bind g
theorem fe_callB {x : Str} {id : String} {r : List V → Hp → VK → Prop} {g : List D → Res D} {e : Expr} {es : List Expr} {p pos : Pos} {fa : VEnv → Res (List D)} (hc : CallR X (.builtin id) r) (h : CallD K r g) (hm : X.mg x = none) (ha : FA K xm X (e :: es) fa) (hg : Gl X x := by rfl) (hv : bootBuiltins x = some (.builtin id) := by decide +kernel)
    (hn : x ≠ "__name__" := by decide) (hdb : (x == ("__debug__" : Str)) = false := by decide) (he : starEach (e :: es) X.env = (false, eval e X.env) :: starEach es X.env := by rfl) (hpl : (backTo pos (starEach es X.env)).any (·.1) = false := by rfl) :
    FE K xm X (.Call (.Name x p) (e :: es) [] pos) (eCall g fa) := PE.to (pe_callB hc hg hm hv ha hn hdb he hpl) fun σ H Q ⟨F, ρ, sF, vw, k⟩ => ⟨F, ρ, sF, vw, Po.seq k fun ds vs F1 H1 g1 d1 k1 => h xm σ F1 H1 vs ds Q g1.fh d1 k1⟩
theorem fe_callT {x : Str} {id : String} {r : List V → Hp → VK → Prop} {g : List D → Res D} {e : Expr} {es : List Expr} {p pos : Pos} {fa : VEnv → Res (List D)} (hc : CallR X (.type id) r) (h : CallD K r g) (hm : X.mg x = none) (ha : FA K xm X (e :: es) fa) (hg : Gl X x := by rfl) (hv : bootBuiltins x = some (.type id) := by decide +kernel)
    (hn : x ≠ "__name__" := by decide) (hdb : (x == ("__debug__" : Str)) = false := by decide) (he : starEach (e :: es) X.env = (false, eval e X.env) :: starEach es X.env := by rfl) (hpl : (backTo pos (starEach es X.env)).any (·.1) = false := by rfl) :
    FE K xm X (.Call (.Name x p) (e :: es) [] pos) (eCall g fa) := PE.to (pe_callTy hc hg hm hv ha hn hdb he hpl) fun σ H Q ⟨F, ρ, sF, vw, k⟩ => ⟨F, ρ, sF, vw, Po.seq k fun ds vs F1 H1 g1 d1 k1 => h xm σ F1 H1 vs ds Q g1.fh d1 k1⟩
/-! ### promises of defs that compute a function -/
/-- no exception leaves -/
def sp0 (K : PySem.W.Frag) (f : List D → Res D) : Sp := fun vs H Q _ => ∃ ds G, Same G H ∧ DtAll K G vs ds ∧ ∃ d, f ds = .ok d ∧ ∀ v G' H', Gr G H G' H' → Dt K G' v d → Q v H'
/-- an exception may leave -/
def spX (K : PySem.W.Frag) (mg : Str → Option Value) (f : List D → Res D) : Sp := fun vs H Q E => ∃ ds G, Same G H ∧ DtAll K G vs ds ∧ match f ds with
  | .ok d => ∀ v G' H', Gr G H G' H' → Dt K G' v d → Q v H'
  | .exc x => ∀ C dd G' H', Gr G H G' H' → ExIs K mg x G' C dd → E C dd H'
  | .bad => False
theorem fe_call {x : Str} {k k' : Nat} {ps : List Str} {f : List D → Res D} {e : Expr} {es : List Expr} {p pos : Pos} {fa : VEnv → Res (List D)} (O : Dear.OkF X.prog X.w X.K X.mg X.base CX0 k x ps (sp0 K f)) (hr : Room k' X.A) (ha : FA K none X (e :: es) fa) (hk : k ≤ k' := by decide) (hg : Gl X x := by rfl)
    (hdb : (x == ("__debug__" : Str)) = false := by decide) (he : starEach (e :: es) X.env = (false, eval e X.env) :: starEach es X.env := by rfl) (hpl : (backTo pos (starEach es X.env)).any (·.1) = false := by rfl) : FE K none X (.Call (.Name x p) (e :: es) [] pos) (eCall f fa) :=
  PE.to (Dear.pe_c O hr ha hk hg hdb he hpl) fun σ H Q ⟨F, ρ, sF, vw, k⟩ => ⟨F, ρ, sF, vw, Po.seq k fun ds vs F1 H1 g1 d1 k1 => by
    refine ⟨ds, F1, g1.fh, by rw [List.append_nil]; exact d1, ?_⟩
    cases e : f ds with
    | ok d => rw [e] at k1; exact ⟨d, rfl, k1⟩
    | exc x => rw [e] at k1; exact k1.elim
    | bad => rw [e] at k1; exact k1.elim⟩
/-- f's exceptions are none that the caller waits for: they are as no answer -/
def nx (f : List D → Res D) : List D → Res D := fun ds => match f ds with
  | .ok d => .ok d
  | _ => .bad
theorem fe_call1 {x : Str} {k k' : Nat} {ps : List Str} {f : List D → Res D} {e : Expr} {es : List Expr} {p pos : Pos} {fa : VEnv → Res (List D)} (O : Dear.OkF X.prog X.w X.K X.mg X.base CX0 k x ps (sp0 K f)) (hr : Room k' X.A) (ha : FA K xm X (e :: es) fa) (hk : k ≤ k' := by decide) (hg : Gl X x := by rfl)
    (hdb : (x == ("__debug__" : Str)) = false := by decide) (he : starEach (e :: es) X.env = (false, eval e X.env) :: starEach es X.env := by rfl) (hpl : (backTo pos (starEach es X.env)).any (·.1) = false := by rfl) : FE K xm X (.Call (.Name x p) (e :: es) [] pos) (eCall (nx f) fa) :=
  PE.to (Dear.pe_c O hr ha hk hg hdb he hpl) fun σ H Q ⟨F, ρ, sF, vw, k⟩ => ⟨F, ρ, sF, vw, Po.seq k fun ds vs F1 H1 g1 d1 k1 => by
    refine ⟨ds, F1, g1.fh, by rw [List.append_nil]; exact d1, ?_⟩
    unfold nx at k1
    cases e : f ds with
    | ok d => rw [e] at k1; exact ⟨d, rfl, k1⟩
    | exc x => rw [e] at k1; exact k1.elim
    | bad => rw [e] at k1; exact k1.elim⟩
theorem fe_callX {mg : Str → Option Value} {W : WX} {x : Str} {k k' : Nat} {ps : List Str} {f : List D → Res D} {e : Expr} {es : List Expr} {p pos : Pos} {fa : VEnv → Res (List D)} (O : Dear.OkF X.prog X.w X.K X.mg X.base (L2.CX X.prog X.w) k x ps (spX K mg f)) (hr : Room k' X.A) (tk : Takes X W) (ha : FA K (some ⟨mg, W⟩) X (e :: es) fa)
    (hk : k ≤ k' := by decide) (hg : Gl X x := by rfl) (hdb : (x == ("__debug__" : Str)) = false := by decide) (he : starEach (e :: es) X.env = (false, eval e X.env) :: starEach es X.env := by rfl) (hpl : (backTo pos (starEach es X.env)).any (·.1) = false := by rfl) : FE K (some ⟨mg, W⟩) X (.Call (.Name x p) (e :: es) [] pos) (eCall f fa) :=
  PE.to (Dear.pe_cx O hr tk ha hk hg hdb he hpl) fun σ H Q ⟨F, ρ, sF, vw, k⟩ => ⟨F, ρ, sF, vw, Po.seq k fun ds vs F1 H1 g1 d1 k1 => by
    refine ⟨ds, F1, g1.fh, d1, ?_⟩
    cases e : f ds with
    | ok d => rw [e] at k1; exact k1
    | exc x => rw [e] at k1; exact k1
    | bad => rw [e] at k1; exact k1.elim⟩
end
end Du

namespace Du
open PySem PySem.Spec PyProof.Rows L2
section
variable {K : PySem.W.Frag} {xm : XMo} {X : Cx}
/-! ### what is walked, as data -/
structure Yl (K : PySem.W.Frag) (F : Hp) (J : It) (ds : List D) : Prop where
  go : ∀ i H, i < ds.length → Same F H → J.go i H
  yld : ∀ i d F1 H x H', ds[i]? = some d → Same F F1 → Same F1 H → J.yld i H x H' → ∃ F2, Gr F1 H F2 H' ∧ Dt K F2 x d
  stop : ∀ H, Same F H → J.stop ds.length H
theorem Yl.same {F G : Hp} {J : It} {ds : List D} (y : Yl K F J ds) (s : Same F G) : Yl K G J ds :=
  ⟨fun i H h q => y.go i H h (s.trans q), fun i d F1 H x H' e q => y.yld i d F1 H x H' e (s.trans q), fun H q => y.stop H (s.trans q)⟩
def iF (K : PySem.W.Frag) (xm : XMo) (f : VEnv → Res (List D)) : TI := fun σ H R => ∃ F ρ, Same F H ∧ Vw K F σ ρ ∧ Po (fun F' J ds => Yl K F' J ds) K xm σ F H (f ρ) R
abbrev FI (K : PySem.W.Frag) (xm : XMo) (X : Cx) (tg e : Expr) (f : VEnv → Res (List D)) : Prop := PI X tg e (iF K xm f)
theorem PI.to {tg e : Expr} {t t' : TI} (h : PI X tg e t) (m : ∀ σ H R, t' σ H R → t σ H R) : PI X tg e t' := ⟨fun pins s σ H R I q => h.run pins s σ H R I (m _ _ _ q)⟩
theorem PI.or {tg e : Expr} {t t' : TI} (h : PI X tg e t) (h' : PI X tg e t') : PI X tg e fun σ H R => t σ H R ∨ t' σ H R := ⟨fun pins s σ H R I q => q.elim (h.run pins s σ H R I) (h'.run pins s σ H R I)⟩
theorem yl_list {F : Hp} {a : Addr} {xs : List V} {ds : List D} (h : ∀ H, Same F H → SqL K H a xs) (d : DtAll K F xs ds) : Yl K F (Itl K a) ds := by
  have l := d.length
  refine ⟨fun i H hi s => ⟨xs, xs[i], h H s, by rw [List.getElem?_eq_getElem (by omega)]⟩, fun i e F1 H x H' he s s1 y => ?_, fun H s => ⟨xs, h H s, by omega⟩⟩
  obtain ⟨rfl, y⟩ := y
  obtain ⟨v, e1, e2⟩ := d.at he
  have := y xs (h H' (s.trans s1))
  rw [e1] at this
  cases this
  exact ⟨F1, .refl s1, e2.same s⟩
theorem yl_tup {F : Hp} {a : Addr} {xs : List V} {ds : List D} (h : ∀ H, Same F H → SqT K H a xs) (d : DtAll K F xs ds) : Yl K F (Itt K a) ds := by
  have l := d.length
  refine ⟨fun i H hi s => ⟨xs, xs[i], h H s, by rw [List.getElem?_eq_getElem (by omega)]⟩, fun i e F1 H x H' he s s1 y => ?_, fun H s => ⟨xs, h H s, by omega⟩⟩
  obtain ⟨rfl, y⟩ := y
  obtain ⟨v, e1, e2⟩ := d.at he
  have := y xs (h H' (s.trans s1))
  rw [e1] at this
  cases this
  exact ⟨F1, .refl s1, e2.same s⟩
/-- the signs of a text -/
def signs (z : Str) : List D := z.cps.toList.map fun c => .str ⟨#[c]⟩
theorem yl_str {F : Hp} (z : Str) : Yl K F (Its z) (signs z) := by
  have l : (signs z).length = z.cps.size := by unfold signs; rw [List.length_map, Array.length_toList]
  refine ⟨fun i H hi s => (by rw [l] at hi; exact hi), fun i e F1 H x H' he s s1 y => ?_, fun H s => (by rw [l]; exact Nat.le_refl _)⟩
  obtain ⟨rfl, c, hc, rfl⟩ := y
  unfold signs at he
  rw [List.getElem?_map, Array.getElem?_toList, hc] at he
  cases he
  exact ⟨F1, .refl s1, .str _⟩
/-- for x in e: a list, a tuple, the script, a text -/
def dItems : D → Res (List D)
  | .lst ds => .ok ds
  | .tup ds => .ok ds
  | .scr ns => .ok (ns.map D.int)
  | .str z => .ok (signs z)
  | _ => .bad
def iAny (f : VEnv → Res D) : VEnv → Res (List D) := fun ρ => (f ρ).bind dItems
theorem fi_any {tg e : Expr} {f : VEnv → Res D} (h : FE K xm X e f) (hk : X.K = K := by rfl) : FI K xm X tg e (iAny f) := by
  subst hk
  refine PI.to (PI.or (PI.or (pi_list h) (pi_tup h)) (pi_str h)) fun σ H R ⟨F, ρ, sF, vw, k⟩ => ?_
  unfold iAny at k
  cases e : f ρ with
  | exc x =>
    rw [e] at k
    exact .inl (.inl ⟨F, ρ, sF, vw, by rw [e]; exact k⟩)
  | bad => rw [e] at k; exact k.elim
  | ok d =>
    rw [e] at k
    cases d with
    | lst ds =>
      refine .inl (.inl ⟨F, ρ, sF, vw, ?_⟩)
      rw [e]
      intro x F1 H1 g1 d1
      obtain ⟨p, xs, rfl, h1, h2⟩ := d1.lstE
      exact ⟨p, rfl, ⟨xs, SqL.of (g1.fh _ _ h1)⟩, k _ F1 H1 g1 (yl_list (fun H s => SqL.of (s _ _ h1)) h2)⟩
    | scr ns =>
      refine .inl (.inl ⟨F, ρ, sF, vw, ?_⟩)
      rw [e]
      intro x F1 H1 g1 d1
      cases d1 with
      | scr h1 => exact ⟨_, rfl, ⟨_, (Below.of g1.fh).sql h1⟩, k _ F1 H1 g1 (yl_list (fun H s => (Below.of s).sql h1) (Dt.ints ns))⟩
    | tup ds =>
      refine .inl (.inr ⟨F, ρ, sF, vw, ?_⟩)
      rw [e]
      intro x F1 H1 g1 d1
      obtain ⟨p, xs, rfl, h1, h2⟩ := d1.tupE
      exact ⟨p, rfl, ⟨xs, (Below.of g1.fh).sqt h1⟩, k _ F1 H1 g1 (yl_tup (fun H s => (Below.of s).sqt h1) h2)⟩
    | str z =>
      refine .inr ⟨F, ρ, sF, vw, ?_⟩
      rw [e]
      intro x F1 H1 g1 d1
      exact ⟨z, d1.strE, k _ F1 H1 g1 (yl_str z)⟩
    | _ => exact k.elim
/-! ### range -/
def rangeD (lo : Int) (n : Nat) : List D := (List.range n).map fun i => .int (lo + (i : Nat))
theorem yl_rng {F : Hp} (lo : Int) (n : Nat) : Yl K F (Itr lo n) (rangeD lo n) := by
  have l : (rangeD lo n).length = n := by unfold rangeD; rw [List.length_map, List.length_range]
  refine ⟨fun i H hi s => (by rw [l] at hi; exact hi), fun i e F1 H x H' he s s1 y => ?_, fun H s => (by rw [l]; exact Nat.le_refl _)⟩
  obtain ⟨rfl, rfl⟩ := y
  unfold rangeD at he
  rw [List.getElem?_map] at he
  obtain ⟨j, h1, rfl⟩ := Option.map_eq_some_iff.mp he
  have := List.getElem?_eq_some_iff.mp h1
  obtain ⟨h2, h3⟩ := this
  rw [List.getElem_range] at h3
  subst h3
  exact ⟨F1, .refl s1, .int _⟩
def inR (i : Int) : Bool := decide (-(2 ^ 62) ≤ i ∧ i < 2 ^ 62)
def dRange : List D → Res (List D)
  | [.int j] => if inR j = true then .ok (rangeD 0 j.toNat) else .bad
  | [.int i, .int j] => if (inR i && inR j) = true then .ok (rangeD i (j - i).toNat) else .bad
  | [.int i, .int j, .int (-1)] => if (inR i && inR j) = true then .ok ((List.range (i - j).toNat).map fun k => .int (i - (k : Nat))) else .bad
  | [.int i, .int j, .int 2] => if (inR i && inR j) = true then .ok ((List.range ((j - i + 1) / 2).toNat).map fun k => .int (i + 2 * (k : Nat))) else .bad
  | _ => .bad
def iRange (f : VEnv → Res (List D)) : VEnv → Res (List D) := fun ρ => (f ρ).bind dRange
theorem DtAll.one {F : Hp} {vs : List V} {d : D} (h : DtAll K F vs [d]) : ∃ v, vs = [v] ∧ Dt K F v d := by
  cases h with
  | cons a b => cases b; exact ⟨_, rfl, a⟩
theorem DtAll.two {F : Hp} {vs : List V} {d e : D} (h : DtAll K F vs [d, e]) : ∃ v w, vs = [v, w] ∧ Dt K F v d ∧ Dt K F w e := by
  cases h with
  | cons a b =>
    obtain ⟨w, rfl, c⟩ := b.one
    exact ⟨_, w, rfl, a, c⟩
theorem fi_range1 {tg a : Expr} {p pos : Pos} {f : VEnv → Res (List D)} (hm : X.mg "range" = none) (h : FA K xm X [a] f) (hg : Gl X "range" := by rfl) (hs : starEach [a] X.env = [(false, eval a X.env)] := by rfl) (h1 : ∀ ρ ds, f ρ = .ok ds → ds.length = 1) :
    FI K xm X tg (.Call (.Name "range" p) [a] [] pos) (iRange f) := PI.to (pi_range1 hg hm h hs) fun σ H R ⟨F, ρ, sF, vw, k⟩ => by
  unfold iRange at k
  cases e : f ρ with
  | exc x => rw [e] at k; exact ⟨F, ρ, sF, vw, by rw [e]; exact k⟩
  | bad => rw [e] at k; exact k.elim
  | ok ds =>
    rw [e] at k
    refine ⟨F, ρ, sF, vw, ?_⟩
    rw [e]
    intro vs F1 H1 g1 d1
    match ds, h1 ρ ds e with
    | [d], _ =>
      cases d with
      | int j =>
        obtain ⟨v, rfl, q⟩ := d1.one
        have k' : Po (fun F' J ds => Yl K F' J ds) K xm σ F H (if inR j = true then Res.ok (rangeD 0 j.toNat) else .bad) R := k
        obtain ⟨f, k'⟩ := Po.ite k'
        have f := of_decide_eq_true f
        exact ⟨j, by rw [q.intE], f.1, f.2, k' _ F1 H1 g1 (yl_rng 0 _)⟩
      | _ => exact k.elim
theorem fi_range2 {tg a b : Expr} {p pos : Pos} {f : VEnv → Res (List D)} (hm : X.mg "range" = none) (h : FA K xm X [a, b] f) (h1 : ∀ ρ ds, f ρ = .ok ds → ds.length = 2) (hg : Gl X "range" := by rfl) (hs : starEach [a, b] X.env = [(false, eval a X.env), (false, eval b X.env)] := by rfl) (hs2 : starEach [b] X.env = [(false, eval b X.env)] := by rfl) :
    FI K xm X tg (.Call (.Name "range" p) [a, b] [] pos) (iRange f) := PI.to (pi_range2 hg hm h hs hs2) fun σ H R ⟨F, ρ, sF, vw, k⟩ => by
  unfold iRange at k
  cases e : f ρ with
  | exc x => rw [e] at k; exact ⟨F, ρ, sF, vw, by rw [e]; exact k⟩
  | bad => rw [e] at k; exact k.elim
  | ok ds =>
    rw [e] at k
    refine ⟨F, ρ, sF, vw, ?_⟩
    rw [e]
    intro vs F1 H1 g1 d1
    match ds, h1 ρ ds e with
    | [d, c], _ =>
      cases d with
      | int i =>
        cases c with
        | int j =>
          obtain ⟨v, w, rfl, q, r⟩ := d1.two
          have k' : Po (fun F' J ds => Yl K F' J ds) K xm σ F H (if (inR i && inR j) = true then Res.ok (rangeD i (j - i).toNat) else .bad) R := k
          obtain ⟨f, k'⟩ := Po.ite k'
          rw [Bool.and_eq_true] at f
          have f1 := of_decide_eq_true f.1
          have f2 := of_decide_eq_true f.2
          exact ⟨i, j, by rw [q.intE, r.intE], ⟨f1.1, f1.2, f2.1, f2.2⟩, k' _ F1 H1 g1 (yl_rng i _)⟩
        | _ => exact k.elim
      | _ => exact k.elim
theorem len1 {f : VEnv → Res D} : ∀ ρ ds, aCons f aNil ρ = .ok ds → ds.length = 1 := fun ρ ds e => by
  unfold aCons aNil at e
  cases h : f ρ with
  | ok a => rw [h] at e; cases e; rfl
  | exc x => rw [h] at e; cases e
  | bad => rw [h] at e; cases e
theorem len2 {f g : VEnv → Res D} : ∀ ρ ds, aCons f (aCons g aNil) ρ = .ok ds → ds.length = 2 := fun ρ ds e => by
  unfold aCons aNil at e
  cases h : f ρ with
  | ok a =>
    cases h2 : g ρ with
    | ok b => rw [h, Res.bind_ok, h2] at e; cases e; rfl
    | exc x => rw [h, Res.bind_ok, h2] at e; cases e
    | bad => rw [h, Res.bind_ok, h2] at e; cases e
  | exc x => rw [h] at e; cases e
  | bad => rw [h] at e; cases e
/-! ### enumerate, zip: pairs in new tuples -/
def numbered : Nat → List D → List D
  | _, [] => []
  | n, d :: ds => .tup [.int n, d] :: numbered (n + 1) ds
theorem numbered_len : ∀ (n : Nat) (ds : List D), (numbered n ds).length = ds.length
  | _, [] => rfl
  | n, _ :: ds => by rw [numbered, List.length_cons, numbered_len (n + 1) ds, List.length_cons]
theorem numbered_get : ∀ {n i : Nat} {ds : List D} {d : D}, (numbered n ds)[i]? = some d → ∃ e, ds[i]? = some e ∧ d = .tup [.int ((n + i : Nat) : Int), e]
  | n, i, [], d, h => by simp [numbered] at h
  | n, 0, x :: ds, d, h => by
    rw [numbered] at h
    simp at h
    exact ⟨x, rfl, h.symm⟩
  | n, i + 1, x :: ds, d, h => by
    rw [numbered] at h
    obtain ⟨e, h1, h2⟩ := numbered_get (n := n + 1) (i := i) (ds := ds) (by simpa using h)
    exact ⟨e, by simpa using h1, by rw [h2]; congr 4; omega⟩
def dEnum : List D → Res (List D)
  | [.lst ds] => .ok (numbered 0 ds)
  | [.scr ns] => .ok (numbered 0 (ns.map D.int))
  | _ => .bad
def iEnumD (f : VEnv → Res (List D)) : VEnv → Res (List D) := fun ρ => (f ρ).bind dEnum
theorem yl_enum {F : Hp} {a : Addr} {xs : List V} {ds : List D} (h : ∀ H, Same F H → SqL K H a xs) (d : DtAll K F xs ds) : Yl K F (Ite K a) (numbered 0 ds) := by
  have l := d.length
  refine ⟨fun i H hi s => ⟨xs, xs[i]'(by rw [numbered_len] at hi; omega), h H s, by rw [List.getElem?_eq_getElem]⟩, fun i e F1 H x H' he s s1 y => ?_, fun H s => ⟨xs, h H s, by rw [numbered_len]; omega⟩⟩
  obtain ⟨T, x, rfl, hT, rfl, y⟩ := y
  obtain ⟨e, hb, rfl⟩ := numbered_get he
  obtain ⟨v, e1, e2⟩ := d.at hb
  have := y xs (h H (s.trans s1))
  rw [e1] at this
  cases this
  have w := sm_upd (o := .tup [.int (i : Nat), x]) (s1.free hT)
  refine ⟨_, .new s1 hT, .tup upd_same (.cons ?_ (.cons ((e2.same s).same w) .nil))⟩
  rw [Nat.zero_add]
  exact .int _
theorem fi_enum {e : Expr} {p pos tpos : Pos} {elts : List Expr} {kk : Nat} {f : VEnv → Res (List D)} (hm : X.mg "enumerate" = none) (h : FA K xm X [e] f) (h1 : ∀ ρ ds, f ρ = .ok ds → ds.length = 1) (hk : X.K = K := by rfl) (hg : Gl X "enumerate" := by rfl) (hs : starEach [e] X.env = [(false, eval e X.env)] := by rfl) :
    FI K xm X (.Tuple elts kk tpos) (.Call (.Name "enumerate" p) [e] [] pos) (iEnumD f) := by
  subst hk
  refine PI.to (pi_enum hg hm h hs) fun σ H R ⟨F, ρ, sF, vw, k⟩ => ?_
  unfold iEnumD at k
  cases e : f ρ with
  | exc x => rw [e] at k; exact ⟨F, ρ, sF, vw, by rw [e]; exact k⟩
  | bad => rw [e] at k; exact k.elim
  | ok ds =>
    rw [e] at k
    refine ⟨F, ρ, sF, vw, ?_⟩
    rw [e]
    intro vs F1 H1 g1 d1
    match ds, h1 ρ ds e with
    | [d], _ =>
      obtain ⟨v, rfl, q⟩ := d1.one
      cases d with
      | lst ds =>
        obtain ⟨p, xs, rfl, h1, h2⟩ := q.lstE
        exact ⟨p, xs, rfl, SqL.of (g1.fh _ _ h1), k _ F1 H1 g1 (yl_enum (fun H s => SqL.of (s _ _ h1)) h2)⟩
      | scr ns =>
        cases q with
        | scr h1 => exact ⟨_, _, rfl, (Below.of g1.fh).sql h1, k _ F1 H1 g1 (yl_enum (fun H s => (Below.of s).sql h1) (Dt.ints ns))⟩
      | _ => exact k.elim
def pairs : List D → List D → List D
  | a :: as, b :: bs => .tup [a, b] :: pairs as bs
  | _, _ => []
def dZip : List D → Res (List D)
  | [.lst as, .lst bs] => .ok (pairs as bs)
  | [.tup as, .tup bs] => .ok (pairs as bs)
  | _ => .bad
def iZipD (f : VEnv → Res (List D)) : VEnv → Res (List D) := fun ρ => (f ρ).bind dZip
end
end Du

namespace Du
open PySem PySem.Spec PyProof.Rows L2
/-! ### targets: which slots get what -/
def setAll (σ : St) : List (Nat × V) → St
  | [] => σ
  | p :: ps => setAll (σ.set p.1 (some p.2)) ps
def setAllD (ρ : VEnv) : List (Nat × D) → VEnv
  | [] => ρ
  | p :: ps => setAllD (ρ.set p.1 (some p.2)) ps
theorem setAll_app (σ : St) : ∀ a b : List (Nat × V), setAll σ (a ++ b) = setAll (setAll σ a) b
  | [], _ => rfl
  | p :: a, b => setAll_app (σ.set p.1 (some p.2)) a b
abbrev As (K : PySem.W.Frag) (F : Hp) : List (Nat × V) → List (Nat × D) → Prop := Paired fun p q => p.1 = q.1 ∧ Dt K F p.2 q.2
abbrev Tgt := D → Res (List (Nat × D))
def tgN (i : Nat) : Tgt := fun d => .ok [(i, d)]
def tgL : List Tgt → List D → Res (List (Nat × D))
  | [], [] => .ok []
  | t :: ts, d :: ds => (t d).bind fun a => (tgL ts ds).bind fun b => .ok (a ++ b)
  | _, _ => .bad
def tgT (ts : List Tgt) : Tgt := fun d => match d with
  | .tup ds => tgL ts ds
  | _ => .bad
def gF (K : PySem.W.Frag) (g : Tgt) : TG := fun v σ H Q => ∃ F d as, Same F H ∧ Dt K F v d ∧ g d = .ok as ∧ ∀ bs, As K F bs as → Q (setAll σ bs) H
def gsF (K : PySem.W.Frag) (g : List Tgt) : TGs := fun vs σ H Q => ∃ F ds as, Same F H ∧ DtAll K F vs ds ∧ tgL g ds = .ok as ∧ ∀ bs, As K F bs as → Q (setAll σ bs) H
abbrev FG (K : PySem.W.Frag) (X : Cx) (tg : Expr) (g : Tgt) : Prop := PG X tg (gF K g)
abbrev FGs (K : PySem.W.Frag) (X : Cx) (tg : List Expr) (g : List Tgt) : Prop := PGs X tg (gsF K g)
theorem tgL_len : ∀ {ts : List Tgt} {ds : List D} {as : List (Nat × D)}, tgL ts ds = .ok as → ds.length = ts.length
  | [], [], _, _ => rfl
  | [], _ :: _, _, h => by cases h
  | _ :: _, [], _, h => by cases h
  | t :: ts, d :: ds, as, h => by
    unfold tgL at h
    cases e : t d with
    | ok a =>
      rw [e, Res.bind_ok] at h
      cases e2 : tgL ts ds with
      | ok b => rw [List.length_cons, List.length_cons, tgL_len e2]
      | exc x => rw [e2] at h; cases h
      | bad => rw [e2] at h; cases h
    | exc x => rw [e] at h; cases h
    | bad => rw [e] at h; cases h
section
variable {K : PySem.W.Frag} {xm : XMo} {X : Cx}
theorem PG.to {e : Expr} {t t' : TG} (h : PG X e t) (m : ∀ v σ H Q, t' v σ H Q → t v σ H Q) : PG X e t' := ⟨fun pins s σ H v u Q I r q => h.run pins s σ H v u Q I r (m _ _ _ _ q)⟩
theorem PGs.to {e : List Expr} {t t' : TGs} (h : PGs X e t) (m : ∀ v σ H Q, t' v σ H Q → t v σ H Q) : PGs X e t' := ⟨fun pins s σ H v u Q I r q => h.run pins s σ H v u Q I r (m _ _ _ _ q)⟩
theorem fg_name (i : Nat) {x : Str} {pos : Pos} (hN : X.N.Nodup) (hi : X.N[i]? = some x := by rfl) (hx : Loc X.env.scope x := by first | exact Or.inl rfl | exact Or.inr rfl) (hf : X.fn x = true ∨ X.env.scope.names.lookup x = some .local := by first | exact .inl rfl | exact .inr rfl | assumption) : FG K X (.Name x pos) (tgN i) :=
  PG.to (pg_name hN hi hx hf) fun v σ H Q ⟨F, d, as, s, h, e, q⟩ => by
    cases e
    exact q [(i, v)] (.cons ⟨rfl, h⟩ .nil)
theorem fgs_nil : FGs K X [] [] := PGs.to pgs_nil fun v σ H Q ⟨F, d, as, s, h, e, q⟩ => by
  cases h with
  | nil => cases e; exact ⟨rfl, q [] .nil⟩
  | cons a b => cases e
theorem As.app {F : Hp} : ∀ {a b : List (Nat × V)} {c d : List (Nat × D)}, As K F a c → As K F b d → As K F (a ++ b) (c ++ d)
  | _, _, _, _, .nil, h => h
  | _, _, _, _, .cons x y, h => .cons x (As.app y h)
theorem fgs_cons {e : Expr} {es : List Expr} {g : Tgt} {gs : List Tgt} (h : FG K X e g) (r : FGs K X es gs) (hs : (assignEach (e :: es) X.env).map (·.2) = assign e X.env :: (assignEach es X.env).map (·.2) := by rfl) : FGs K X (e :: es) (g :: gs) :=
  PGs.to (pgs_cons h r hs) fun v σ H Q ⟨F, ds, as, s, hd, e, q⟩ => by
    cases hd with
    | nil => cases e
    | @cons v vs d ds a b =>
      unfold tgL at e
      cases e1 : g d with
      | exc x => rw [e1] at e; cases e
      | bad => rw [e1] at e; cases e
      | ok c =>
        rw [e1, Res.bind_ok] at e
        cases e2 : tgL gs ds with
        | exc x => rw [e2] at e; cases e
        | bad => rw [e2] at e; cases e
        | ok c' =>
          rw [e2] at e
          cases e
          exact ⟨v, vs, rfl, F, d, c, s, a, e1, fun bs hb => ⟨F, ds, c', s, b, e2, fun bs' hb' => by
            rw [← setAll_app]
            exact q _ (hb.app hb')⟩⟩
theorem fg_tup {es : List Expr} {kk : Nat} {pos : Pos} {gs : List Tgt} (h : FGs K X es gs) (hc : X.calm = true := by rfl) (hk : X.K = K := by rfl) (hn : (assignEach es X.env).length = gs.length := by rfl) (hst : (assignEach es X.env).findIdx? (·.1) = none := by rfl) : FG K X (.Tuple es kk pos) (tgT gs) := by
  subst hk
  refine PG.to (pg_tup hc h hn hst) fun v σ H Q ⟨F, d, as, s, hd, e, q⟩ => ?_
  unfold tgT at e
  split at e
  · obtain ⟨p, xs, rfl, h1, h2⟩ := hd.tupE
    exact ⟨p, xs, rfl, (Below.of s).sqt h1, by rw [h2.length, tgL_len e], F, _, as, s, h2, e, q⟩
  · cases e
end
/-! ### slots forgotten -/
def wipeD (ρ : VEnv) : List Nat → VEnv
  | [] => ρ
  | v :: vs => (wipeD ρ vs).set v none
theorem wipe_get (σ : St) (j : Nat) : ∀ vs : List Nat, (wipe σ vs)[j]? = if j ∈ vs then σ[j]?.map (fun _ => none) else σ[j]?
  | [] => by simp [wipe]
  | v :: vs => by
    unfold wipe
    rw [List.getElem?_set]
    by_cases h : v = j
    · subst h
      rw [if_pos rfl, if_pos List.mem_cons_self, wipe_length]
      by_cases hl : v < σ.length
      · rw [if_pos hl, List.getElem?_eq_getElem hl]; rfl
      · rw [if_neg hl, List.getElem?_eq_none (by omega)]; rfl
    · rw [if_neg h, wipe_get σ j vs]
      have : (j ∈ v :: vs) ↔ j ∈ vs := ⟨fun q => (List.mem_cons.mp q).elim (fun e => absurd e.symm h) id, List.mem_cons_of_mem _⟩
      by_cases hj : j ∈ vs
      · rw [if_pos hj, if_pos (this.mpr hj)]
      · rw [if_neg hj, if_neg fun q => hj (this.mp q)]
theorem wipeD_get (σ : VEnv) (j : Nat) : ∀ vs : List Nat, (wipeD σ vs)[j]? = if j ∈ vs then σ[j]?.map (fun _ => none) else σ[j]?
  | [] => by simp [wipeD]
  | v :: vs => by
    unfold wipeD
    have wl : ∀ vs : List Nat, (wipeD σ vs).length = σ.length := by
      intro vs
      induction vs with
      | nil => rfl
      | cons a r ih => unfold wipeD; rw [List.length_set, ih]
    rw [List.getElem?_set]
    by_cases h : v = j
    · subst h
      rw [if_pos rfl, if_pos List.mem_cons_self, wl]
      by_cases hl : v < σ.length
      · rw [if_pos hl, List.getElem?_eq_getElem hl]; rfl
      · rw [if_neg hl, List.getElem?_eq_none (by omega)]; rfl
    · rw [if_neg h, wipeD_get σ j vs]
      have : (j ∈ v :: vs) ↔ j ∈ vs := ⟨fun q => (List.mem_cons.mp q).elim (fun e => absurd e.symm h) id, List.mem_cons_of_mem _⟩
      by_cases hj : j ∈ vs
      · rw [if_pos hj, if_pos (this.mpr hj)]
      · rw [if_neg hj, if_neg fun q => hj (this.mp q)]
theorem wipe_set {σ : St} {i : Nat} {x : Option V} {vs : List Nat} (h : i ∈ vs) : wipe (σ.set i x) vs = wipe σ vs := by
  refine List.ext_getElem? fun j => ?_
  rw [wipe_get, wipe_get]
  by_cases hj : j ∈ vs
  · rw [if_pos hj, if_pos hj, List.getElem?_set]
    by_cases e : i = j
    · subst e
      rw [if_pos rfl]
      by_cases hl : i < σ.length
      · rw [if_pos hl, List.getElem?_eq_getElem hl]; rfl
      · rw [if_neg hl, List.getElem?_eq_none (by omega)]
    · rw [if_neg e]
  · rw [if_neg hj, if_neg hj, List.getElem?_set_ne fun e => hj (by rw [← e]; exact h)]
theorem wipe_wipe (σ : St) (vs : List Nat) : wipe (wipe σ vs) vs = wipe σ vs := by
  refine List.ext_getElem? fun j => ?_
  rw [wipe_get, wipe_get]
  by_cases hj : j ∈ vs
  · rw [if_pos hj, if_pos hj, Option.map_map]; rfl
  · rw [if_neg hj]
theorem wipe_setAll {vs : List Nat} : ∀ {bs : List (Nat × V)} {σ : St}, (∀ b ∈ bs, b.1 ∈ vs) → wipe (setAll σ bs) vs = wipe σ vs
  | [], _, _ => rfl
  | b :: bs, σ, h => by
    show wipe (setAll (σ.set b.1 (some b.2)) bs) vs = _
    rw [wipe_setAll fun x hx => h x (List.mem_cons_of_mem _ hx), wipe_set (h b List.mem_cons_self)]
section
variable {K : PySem.W.Frag} {xm : XMo} {X : Cx}
theorem wipeD_len (σ : VEnv) : ∀ vs : List Nat, (wipeD σ vs).length = σ.length
  | [] => rfl
  | a :: r => by unfold wipeD; rw [List.length_set, wipeD_len σ r]
theorem Vw.wipe {F : Hp} {σ : St} {ρ : VEnv} (h : Vw K F σ ρ) (vs : List Nat) : Vw K F (L2.wipe σ vs) (wipeD ρ vs) := ⟨by rw [wipe_length, wipeD_len, h.len], fun i d e => by
  rw [wipeD_get] at e
  by_cases hj : i ∈ vs
  · rw [if_pos hj] at e
    obtain ⟨a, h1, h2⟩ := Option.map_eq_some_iff.mp e
    cases h2
  · rw [if_neg hj] at e
    obtain ⟨v, h1, h2⟩ := h.get i d e
    exact ⟨v, by rw [wipe_get, if_neg hj]; exact h1, h2⟩⟩
theorem Vw.set {F : Hp} {σ : St} {ρ : VEnv} (h : Vw K F σ ρ) {i : Nat} {v : V} {d : D} (hd : Dt K F v d) : Vw K F (σ.set i (some v)) (ρ.set i (some d)) := ⟨by rw [List.length_set, List.length_set, h.len], fun j e he => by
  have hl := h.len
  rw [List.getElem?_set] at he
  by_cases q : i = j
  · subst q
    rw [if_pos rfl] at he
    by_cases hi : i < ρ.length
    · rw [if_pos hi] at he
      cases he
      exact ⟨v, by rw [List.getElem?_set, if_pos rfl, if_pos (by omega)], hd⟩
    · rw [if_neg hi] at he; cases he
  · rw [if_neg q] at he
    obtain ⟨w, h1, h2⟩ := h.get j e he
    exact ⟨w, by rw [List.getElem?_set_ne q]; exact h1, h2⟩⟩
theorem Vw.setAll {F : Hp} : ∀ {bs : List (Nat × V)} {as : List (Nat × D)} {σ : St} {ρ : VEnv}, Vw K F σ ρ → As K F bs as → Vw K F (Du.setAll σ bs) (setAllD ρ as)
  | _, _, _, _, h, .nil => h
  | _, _, σ, ρ, h, .cons (a := a) (b := b) x y => Vw.setAll (σ := σ.set a.1 (some a.2)) (ρ := ρ.set b.1 (some b.2)) (by
      rw [x.1]
      exact h.set x.2) y
theorem As.slots {F : Hp} {vs : List Nat} : ∀ {bs : List (Nat × V)} {as : List (Nat × D)}, As K F bs as → as.all (fun p => vs.contains p.1) = true → ∀ b ∈ bs, b.1 ∈ vs
  | _, _, .nil, _ => fun b hb => by cases hb
  | _, _, .cons x y, h => fun b hb => by
    rw [List.all_cons, Bool.and_eq_true] at h
    rcases List.mem_cons.mp hb with rfl | hb
    · rw [x.1]
      simpa using h.1
    · exact As.slots y h.2 b hb
theorem As.same {F G : Hp} (s : Same F G) : ∀ {bs : List (Nat × V)} {as : List (Nat × D)}, As K F bs as → As K G bs as
  | _, _, .nil => .nil
  | _, _, .cons x y => .cons ⟨x.1, x.2.same s⟩ (As.same s y)
/-! ### [e for x in xs if c] -/
def compL (tg : Tgt) (c : VEnv → Res Bool) (f : VEnv → Res D) (ρ : VEnv) (vs : List Nat) : List D → Res (List D)
  | [] => .ok []
  | d :: ds => (tg d).bind fun as => if as.all (fun p => vs.contains p.1) = true then (c (setAllD ρ as)).bind fun b => if b = true then (f (setAllD ρ as)).bind fun e => (compL tg c f ρ vs ds).bind fun es => .ok (e :: es) else compL tg c f ρ vs ds else .bad
def okOf {α : Type} : Res α → Res α
  | .ok a => .ok a
  | _ => .bad
def eComp (vs : List Nat) (it : VEnv → Res (List D)) (tg : Tgt) (c : VEnv → Res Bool) (f : VEnv → Res D) : VEnv → Res D := fun ρ => (it ρ).bind fun ds => if fit ds.length = true then (okOf (compL tg c f (wipeD ρ vs) vs ds)).bind fun es => .ok (.lst es) else .bad
def bYes : VEnv → Res Bool := fun _ => .ok true
abbrev FTs (K : PySem.W.Frag) (X : Cx) (ifs : List Expr) (c : VEnv → Res Bool) : Prop := PTs X ifs (bF K none c)
theorem PTs.to {e : List Expr} {t t' : TT} (h : PTs X e t) (m : ∀ σ H Q, t' σ H Q → t σ H Q) : PTs X e t' := ⟨fun pins s σ H Q I q => h.run pins s σ H Q I (m _ _ _ q)⟩
theorem fts_nil : FTs K X [] bYes := PTs.to pts_nil fun σ H Q ⟨F, ρ, sF, vw, k⟩ => k.done sF rfl
theorem fts_one {c : Expr} {f : VEnv → Res Bool} (h : FT K none X c f) : FTs K X [c] f := pts_one h
theorem comp_loop {J : It} {tg : Tgt} {c : VEnv → Res Bool} {f : VEnv → Res D} {ρ : VEnv} {vs : List Nat} {ds es : List D} {σ : St} {F H : Hp} {p : Addr} {Q : VK} (sF : Same F H) (vw : Vw K F σ ρ) (y : Yl K F J ds) (hp : H p = none) (hz : fit ds.length = true)
    (hc : compL tg c f (wipeD ρ vs) vs ds = .ok es) (k : ∀ F' H' acc, Gr F H F' H' → F' p = none → H' p = some (.lst acc) → DtAll K F' acc es → Q (.ref p) H') :
    ∃ W : Nat → Nat → Hp → Prop, (∃ m, W 0 m (upd H p (.lst []))) ∧ ∀ i m H, W i m H →
      (J.stop i H ∧ Q (.ref p) H) ∨ (J.go i H ∧ ∃ Nx : Hp → Prop, (∀ H', Nx H' → ∃ m', m' < m ∧ W (i + 1) m' H') ∧ ∀ x H', J.yld i H x H' → gF K tg x (wipe σ vs) H' fun σ2 H2 => wipe σ2 vs = wipe σ vs ∧ bF K none c σ2 H2 fun b H3 =>
        if b = true then tF K none f σ2 H3 fun y H4 => ∃ acc, H4 p = some (.lst acc) ∧ acc.length < sizeLine ∧ Nx (upd H4 p (.lst (acc ++ [y]))) else Nx H3) := by
  let St' : Nat → Hp → Prop := fun i H2 => ∃ F2 acc da rest, Gr F H F2 H2 ∧ F2 p = none ∧ H2 p = some (.lst acc) ∧ DtAll K F2 acc da ∧ acc.length ≤ i ∧ compL tg c f (wipeD ρ vs) vs (ds.drop i) = .ok rest ∧ da ++ rest = es
  refine ⟨fun i m H2 => m = ds.length - i ∧ i ≤ ds.length ∧ St' i H2, ⟨ds.length, by simp, Nat.zero_le _, F, [], [], es, .hid sF hp, sF.free hp, upd_same, .nil, Nat.le_refl _, hc, rfl⟩, ?_⟩
  rintro i m H2 ⟨rfl, hi, F2, acc, da, rest, g, fp, ep, dd, la, hr, he⟩
  by_cases hlt : i < ds.length
  · refine .inr ⟨y.go i H2 hlt (g.ff.trans g.fh), St' (i + 1), fun H' p' => ⟨ds.length - (i + 1), by omega, rfl, hlt, p'⟩, fun x H3 yx => ?_⟩
    obtain ⟨F3, g3, dx⟩ := y.yld i ds[i] F2 H2 x H3 (List.getElem?_eq_getElem hlt) g.ff g.fh yx
    rw [List.drop_eq_getElem_cons hlt] at hr
    unfold compL at hr
    cases e1 : tg ds[i] with
    | exc x => rw [e1] at hr; cases hr
    | bad => rw [e1] at hr; cases hr
    | ok as =>
      rw [e1, Res.bind_ok] at hr
      by_cases ha : as.all (fun p => vs.contains p.1) = true
      · rw [if_pos ha] at hr
        refine ⟨F3, ds[i], as, g3.fh, dx, e1, fun bs hb => ⟨?_, ?_⟩⟩
        · rw [wipe_setAll (hb.slots ha), wipe_wipe]
        · have vw3 : Vw K F3 (Du.setAll (wipe σ vs) bs) (setAllD (wipeD ρ vs) as) := Vw.setAll ((vw.wipe vs).same (g.ff.trans g3.ff)) hb
          have fp3 : F3 p = none := by
            cases q : F3 p with
            | none => rfl
            | some o =>
              rcases g3.nw p o q with z | z
              · rw [fp] at z; cases z
              · rw [ep] at z; cases z
          have ep3 := g3.hh _ _ ep
          have keep : ∀ {F4 H4 : Hp}, Gr F3 H3 F4 H4 → F4 p = none ∧ H4 p = some (.lst acc) ∧ DtAll K F4 acc da := fun {F4 H4} g4 => by
            refine ⟨?_, g4.hh _ _ ep3, dd.same (g3.ff.trans g4.ff)⟩
            cases q : F4 p with
            | none => rfl
            | some o =>
              rcases g4.nw p o q with z | z
              · rw [fp3] at z; cases z
              · rw [ep3] at z; cases z
          cases e2 : c (setAllD (wipeD ρ vs) as) with
          | exc x => rw [e2] at hr; cases hr
          | bad => rw [e2] at hr; cases hr
          | ok b =>
            rw [e2, Res.bind_ok] at hr
            refine ⟨F3, _, g3.fh, vw3, ?_⟩
            rw [e2]
            intro b' F4 H4 g4 hb'
            subst hb'
            cases b' with
            | false =>
              rw [if_neg Bool.false_ne_true] at hr
              obtain ⟨k1, k2, k3⟩ := keep g4
              exact iteF ⟨F4, acc, da, rest, (g.trans g3).trans g4, k1, k2, k3, by omega, hr, he⟩
            | true =>
              rw [if_pos rfl] at hr
              cases e3 : f (setAllD (wipeD ρ vs) as) with
              | exc x => rw [e3] at hr; cases hr
              | bad => rw [e3] at hr; cases hr
              | ok e =>
                rw [e3, Res.bind_ok] at hr
                cases e4 : compL tg c f (wipeD ρ vs) vs (ds.drop (i + 1)) with
                | exc x => rw [e4] at hr; cases hr
                | bad => rw [e4] at hr; cases hr
                | ok r =>
                  rw [e4] at hr
                  cases hr
                  refine iteT ⟨F4, _, g4.fh, vw3.same g4.ff, ?_⟩
                  rw [e3]
                  intro v F5 H5 g5 dv
                  obtain ⟨k1, k2, k3⟩ := keep (g4.trans g5)
                  have lz : acc.length < sizeLine := Nat.lt_of_lt_of_le (by omega) (Nat.le_of_lt (fit_line hz))
                  have s5 : Same F5 (upd H5 p (.lst (acc ++ [v]))) := fun b o hb => by
                    rw [upd_ne fun z => by rw [z, k1] at hb; cases hb]
                    exact g5.fh _ _ hb
                  have gt := ((g.trans g3).trans g4).trans g5
                  refine ⟨acc, k2, lz, F5, acc ++ [v], da ++ [e], r, ⟨fun b o hb => ?_, gt.ff, s5, gt.nw⟩, k1, upd_same, k3.app (.cons dv .nil), by rw [List.length_append, List.length_singleton]; omega, e4, by rw [List.append_assoc]; exact he⟩
                  rw [upd_ne fun z => by rw [z, hp] at hb; cases hb]
                  exact gt.hh _ _ hb
      · rw [if_neg ha] at hr; cases hr
  · have e : i = ds.length := by omega
    subst e
    rw [List.drop_length] at hr
    cases hr
    rw [List.append_nil] at he
    subst he
    exact .inl ⟨y.stop H2 (g.ff.trans g.fh), k F2 H2 acc g fp ep dd⟩
/-- a new thing is frozen -/
theorem Gr.freeze {F H F' H' : Hp} {p : Addr} {o : HO} (g : Gr F H F' H') (hp : H p = none) (fp : F' p = none) (e : H' p = some o) : Gr F H (upd F' p o) H' := ⟨g.hh, fun b u hb => by
    rw [upd_ne fun z => by
      have z2 := g.ff _ _ hb
      rw [z, fp] at z2; cases z2]
    exact g.ff _ _ hb, fun b u hb => by
    by_cases z : b = p
    · subst z
      rw [upd_same] at hb
      cases hb
      exact e
    · rw [upd_ne z] at hb
      exact g.fh _ _ hb, fun b u hb => by
    by_cases z : b = p
    · subst z
      exact .inr hp
    · rw [upd_ne z] at hb
      exact g.nw _ _ hb⟩
theorem fe_comp {elt tg iter : Expr} {ifs : List Expr} {scope : Scope} {pos : Pos} (own : List (Str × Nat)) {it : VEnv → Res (List D)} {g : Tgt} {c : VEnv → Res Bool} {f : VEnv → Res D} (hN : X.N.Nodup) (hi : FI K xm X tg iter it)
    (hg : ∀ (s : Shared) (H : Hp) (C : Addr) (cl : List (Str × Addr)) (fp : List Addr), FG K (X.blk s H scope (compEnvC scope cl C X.env) fp) tg g) (ht : ∀ (s : Shared) (H : Hp) (C : Addr) (cl : List (Str × Addr)) (fp : List Addr), FTs K (X.blk s H scope (compEnvC scope cl C X.env) fp) ifs c)
    (he : ∀ (s : Shared) (H : Hp) (C : Addr) (cl : List (Str × Addr)) (fp : List Addr), FE K none (X.blk s H scope (compEnvC scope cl C X.env) fp) elt f)
    (ok : BlkOk X.N X.env.scope scope own) (hc : X.calm = true := by rfl) (hs : ∀ x, foldedSetIterable iter X.env x = pure x := by intro _; rfl) :
    FE K xm X (.ListComp elt [⟨tg, iter, ifs, 0⟩] scope pos) (eComp (own.map (·.2)) it g c f) :=
  PE.to (pe_lc hc hN hi ok hg ht he hs) fun σ H Q ⟨F, ρ, sF, vw, k⟩ => ⟨F, ρ, sF, vw, Po.seq k fun ds J F1 H1 g1 y k1 p hp => by
    obtain ⟨hz, k2⟩ := Po.ite k1
    cases e : compL g c f (wipeD ρ (own.map (·.2))) (own.map (·.2)) ds with
    | exc x => rw [e] at k2; exact k2.elim
    | bad => rw [e] at k2; exact k2.elim
    | ok es =>
      rw [e] at k2
      exact comp_loop g1.fh (vw.same g1.ff) y hp hz e fun F' H' acc g fp ep dd => k2 _ (upd F' p (.lst acc)) H' (g.freeze hp fp ep) (.lst upd_same (dd.same (sm_upd fp)))⟩
end
end Du

namespace Du
open PySem PySem.Spec PyProof.Rows L2
/-! ### slots at statements: what a def made itself and nobody else holds is its own (it may be changed), all else is frozen -/
inductive Slot where
  | frz (d : D)
  | own (t : Bool) (d : D)
abbrev Env := List (Option Slot)
def viewS (b : Bool) : Option Slot → Option D
  | some (.frz d) => some d
  | some (.own _ d) => if b = true then some d else none
  | none => none
def viewI (L : List Nat) : Nat → Env → VEnv
  | _, [] => []
  | i, s :: r => viewS (L.contains i) s :: viewI L (i + 1) r
/-- the slots as an expression sees them that reads the own ones of L -/
def view (L : List Nat) (ρ : Env) : VEnv := viewI L 0 ρ
def shutS (b : Bool) : Option Slot → Option Slot
  | some (.own t d) => if b = true then some (.frz d) else some (.own t d)
  | s => s
def shutI (L : List Nat) : Nat → Env → Env
  | _, [] => []
  | i, s :: r => shutS (L.contains i) s :: shutI L (i + 1) r
/-- the own ones of L are frozen from now on -/
def shut (L : List Nat) (ρ : Env) : Env := shutI L 0 ρ
theorem viewI_get (L : List Nat) : ∀ (n : Nat) (ρ : Env) (i : Nat), (viewI L n ρ)[i]? = (ρ[i]?).map (viewS (L.contains (n + i)))
  | n, [], i => by simp [viewI]
  | n, s :: r, 0 => by simp [viewI]
  | n, s :: r, i + 1 => by
    rw [viewI, List.getElem?_cons_succ, List.getElem?_cons_succ, viewI_get L (n + 1) r i]
    congr 3
    omega
theorem shutI_get (L : List Nat) : ∀ (n : Nat) (ρ : Env) (i : Nat), (shutI L n ρ)[i]? = (ρ[i]?).map (shutS (L.contains (n + i)))
  | n, [], i => by simp [shutI]
  | n, s :: r, 0 => by simp [shutI]
  | n, s :: r, i + 1 => by
    rw [shutI, List.getElem?_cons_succ, List.getElem?_cons_succ, shutI_get L (n + 1) r i]
    congr 3
    omega
theorem viewI_len (L : List Nat) : ∀ (n : Nat) (ρ : Env), (viewI L n ρ).length = ρ.length
  | _, [] => rfl
  | n, s :: r => by rw [viewI, List.length_cons, viewI_len L (n + 1) r, List.length_cons]
theorem shutI_len (L : List Nat) : ∀ (n : Nat) (ρ : Env), (shutI L n ρ).length = ρ.length
  | _, [] => rfl
  | n, s :: r => by rw [shutI, List.length_cons, shutI_len L (n + 1) r, List.length_cons]
theorem view_get (L : List Nat) (ρ : Env) (i : Nat) : (view L ρ)[i]? = (ρ[i]?).map (viewS (L.contains i)) := by
  unfold view
  rw [viewI_get, Nat.zero_add]
theorem shut_get (L : List Nat) (ρ : Env) (i : Nat) : (shut L ρ)[i]? = (ρ[i]?).map (shutS (L.contains i)) := by
  unfold shut
  rw [shutI_get, Nat.zero_add]
/-- an own thing at p -/
def Ow (K : PySem.W.Frag) (F H : Hp) (p : Addr) : D → Prop
  | .lst ds => ∃ xs, H p = some (.lst xs) ∧ DtAll K F xs ds
  | .dct false ds => ∃ kvs, H p = some (.dK kvs) ∧ DtAll K F (kvs.map (·.2)) (ds.map (·.2)) ∧ ds.map (·.1) = kvs.map (fun p => keyD p.1)
  | .dct true ds => ∃ kvs, H p = some (.dT kvs) ∧ DtAll K F (kvs.map (·.2)) (ds.map (·.2)) ∧ ds.map (·.1) = kvs.map (fun p => keysD p.1)
  | _ => False
/-- what has to stay: all of b; of b only what g has may be told of; pin: where the thing stands that was handed in to be changed -/
structure Bs where
  b : Hp
  g : Hp
  pin : Addr := 0
structure Rl (K : PySem.W.Frag) (B : Bs) (σ : St) (H : Hp) (ρ : Env) (F : Hp) : Prop where
  fh : Same F H
  bh : Same B.b H
  zf : ∀ a o u, B.b a = some o → F a = some u → ∃ v, B.g a = some v
  len : σ.length = ρ.length
  fz : ∀ (i : Nat) (d : D), ρ[i]? = some (some (.frz d)) → ∃ v, σ[i]? = some (some v) ∧ Dt K F v d
  ow : ∀ (i : Nat) (t : Bool) (d : D), ρ[i]? = some (some (.own t d)) → ∃ p, σ[i]? = some (some (.ref p)) ∧ F p = none ∧ B.b p = none ∧ Ow K F H p d
  dj : ∀ (i j : Nat) (t u : Bool) (d e : D) (p : Addr), ρ[i]? = some (some (.own t d)) → ρ[j]? = some (some (.own u e)) → σ[i]? = some (some (.ref p)) → σ[j]? = some (some (.ref p)) → i = j
  pn : ∀ (i : Nat) (d : D) (p : Addr), ρ[i]? = some (some (.own true d)) → σ[i]? = some (some (.ref p)) → p = B.pin
section
variable {K : PySem.W.Frag} {B : Bs} {F H : Hp} {σ : St} {ρ : Env}
theorem Ow.mono {F' H' : Hp} {p : Addr} {d : D} (h : Ow K F H p d) (s : Same F F') (e : ∀ o, H p = some o → H' p = some o) : Ow K F' H' p d := by
  unfold Ow at h ⊢
  split at h
  · obtain ⟨xs, h1, h2⟩ := h
    exact ⟨xs, e _ h1, h2.same s⟩
  · obtain ⟨kvs, h1, h2, h3⟩ := h
    exact ⟨kvs, e _ h1, h2.same s, h3⟩
  · obtain ⟨kvs, h1, h2, h3⟩ := h
    exact ⟨kvs, e _ h1, h2.same s, h3⟩
  · exact h.elim
theorem Ow.some {p : Addr} {d : D} (h : Ow K F H p d) : ∃ o, H p = Option.some o := by
  unfold Ow at h
  split at h
  · obtain ⟨xs, h1, h2⟩ := h
    exact ⟨_, h1⟩
  · obtain ⟨kvs, h1, h2, h3⟩ := h
    exact ⟨_, h1⟩
  · obtain ⟨kvs, h1, h2, h3⟩ := h
    exact ⟨_, h1⟩
  · exact h.elim
theorem Ow.notup {p : Addr} {d : D} (h : Ow K F H p d) (xs : List V) : H p ≠ Option.some (.tup xs) ∧ ∀ o, H p ≠ Option.some (.frz o (.tup xs)) := by
  unfold Ow at h
  split at h
  · obtain ⟨ys, h1, h2⟩ := h
    exact ⟨fun e => (by rw [h1] at e; cases e), fun o e => (by rw [h1] at e; cases e)⟩
  · obtain ⟨kvs, h1, h2, h3⟩ := h
    exact ⟨fun e => (by rw [h1] at e; cases e), fun o e => (by rw [h1] at e; cases e)⟩
  · obtain ⟨kvs, h1, h2, h3⟩ := h
    exact ⟨fun e => (by rw [h1] at e; cases e), fun o e => (by rw [h1] at e; cases e)⟩
  · exact h.elim
/-- it is frozen: told of -/
theorem Ow.dt {G : Hp} {p : Addr} {d : D} (h : Ow K F H p d) (s : Same F G) (e : ∀ o, H p = Option.some o → G p = Option.some o) : Dt K G (.ref p) d := by
  unfold Ow at h
  split at h
  · obtain ⟨xs, h1, h2⟩ := h
    exact .lst (e _ h1) (h2.same s)
  · obtain ⟨kvs, h1, h2, h3⟩ := h
    exact .dk (.inl (e _ h1)) (h2.same s) h3
  · obtain ⟨kvs, h1, h2, h3⟩ := h
    exact .dt (e _ h1) (h2.same s) h3
  · exact h.elim
/-- a is the cell of an own slot of L -/
def Cell (σ : St) (ρ : Env) (L : List Nat) (a : Addr) : Prop := ∃ (i : Nat) (t : Bool) (d : D), i ∈ L ∧ ρ[i]? = some (some (.own t d)) ∧ σ[i]? = some (some (.ref a))
open Classical in
/-- what an expression sees that reads the own ones of L -/
noncomputable def lend (σ : St) (ρ : Env) (L : List Nat) (F H : Hp) : Hp := fun a => if Cell σ ρ L a then H a else F a
open Classical in
noncomputable def unlend (σ : St) (ρ : Env) (L : List Nat) (F : Hp) : Hp := fun a => if Cell σ ρ L a then none else F a
theorem Rl.lend_fh (r : Rl K B σ H ρ F) (L : List Nat) : Same (lend σ ρ L F H) H := fun a o e => by
  unfold lend at e
  split at e
  · exact e
  · exact r.fh _ _ e
theorem Rl.lend_ff (r : Rl K B σ H ρ F) (L : List Nat) : Same F (lend σ ρ L F H) := fun a o e => by
  unfold lend
  split
  · exact r.fh _ _ e
  · exact e
theorem Rl.view (r : Rl K B σ H ρ F) (L : List Nat) : Vw K (lend σ ρ L F H) σ (view L ρ) := ⟨by
  unfold Du.view
  rw [viewI_len, r.len], fun i d e => by
  rw [view_get] at e
  obtain ⟨s, h1, h2⟩ := Option.map_eq_some_iff.mp e
  cases s with
  | none => cases h2
  | some s =>
    cases s with
    | frz e =>
      cases h2
      obtain ⟨v, q1, q2⟩ := r.fz i _ h1
      exact ⟨v, q1, q2.same (r.lend_ff L)⟩
    | own t e =>
      unfold viewS at h2
      dsimp only at h2
      by_cases c : L.contains i = true
      · rw [if_pos c] at h2
        cases h2
        obtain ⟨p, q1, q2, q3, q4⟩ := r.ow i _ _ h1
        refine ⟨_, q1, q4.dt (r.lend_ff L) fun o ho => ?_⟩
        have : Cell σ ρ L p := ⟨i, _, _, by simpa using c, h1, q1⟩
        unfold lend
        rw [if_pos this]
        exact ho
      · rw [if_neg c] at h2
        cases h2⟩
theorem Rl.own_new (r : Rl K B σ H ρ F) {L : List Nat} {F' H' : Hp} (g : Gr (lend σ ρ L F H) H F' H') {i : Nat} {t : Bool} {d : D} {p : Addr} (hi : ρ[i]? = some (some (.own t d))) (hp : σ[i]? = some (some (.ref p))) (hL : i ∉ L) : F' p = none := by
  obtain ⟨p', q1, q2, q3, q4⟩ := r.ow i _ _ hi
  rw [hp] at q1
  cases q1
  cases e : F' p with
  | none => rfl
  | some o =>
    exfalso
    rcases g.nw p o e with z | z
    · unfold lend at z
      split at z
      · rename_i c
        obtain ⟨j, t', d', hj, h1, h2⟩ := c
        exact hL (r.dj i j _ _ _ _ p hi h1 hp h2 ▸ hj)
      · rw [q2] at z; cases z
    · obtain ⟨o', h⟩ := q4.some
      rw [h] at z; cases z
theorem Rl.zf2 (r : Rl K B σ H ρ F) {L : List Nat} {F' H' : Hp} (g : Gr (lend σ ρ L F H) H F' H') {a : Addr} {o u : HO} (e1 : B.b a = some o) (e2 : F' a = some u) : ∃ v, B.g a = some v := by
  rcases g.nw _ _ e2 with z | z
  · unfold lend at z
    split at z
    · rename_i c
      obtain ⟨i, t, d, _, h1, h2⟩ := c
      obtain ⟨p, q1, _, q3, _⟩ := r.ow i _ d h1
      rw [h2] at q1
      cases q1
      rw [q3] at e1
      cases e1
    · exact r.zf _ _ _ e1 z
  · rw [r.bh _ _ e1] at z
    cases z
theorem Rl.back_ff (r : Rl K B σ H ρ F) {L : List Nat} {F' H' : Hp} (g : Gr (lend σ ρ L F H) H F' H') : Same F (unlend σ ρ L F') := fun a o e => by
  unfold unlend
  rw [if_neg ?_]
  · exact g.ff _ _ (r.lend_ff L _ _ e)
  · rintro ⟨i, t, d, _, h1, h2⟩
    obtain ⟨p, q1, q2, _⟩ := r.ow i _ d h1
    rw [h2] at q1
    cases q1
    rw [q2] at e
    cases e
/-- behind an expression whose value holds no list: all is as it was -/
theorem Rl.back (r : Rl K B σ H ρ F) {L : List Nat} {F' H' : Hp} (g : Gr (lend σ ρ L F H) H F' H') : Rl K B σ H' ρ (unlend σ ρ L F') := by
  have ff := r.back_ff g
  refine ⟨fun a o e => ?_, r.bh.trans g.hh, fun a o u e1 e2 => ?_, r.len, fun i d e => ?_, fun i t d e => ?_, r.dj, r.pn⟩
  · unfold unlend at e
    split at e
    · cases e
    · exact g.fh _ _ e
  · unfold unlend at e2
    split at e2
    · cases e2
    · exact r.zf2 g e1 e2
  · obtain ⟨v, h1, h2⟩ := r.fz i d e
    exact ⟨v, h1, h2.same ff⟩
  · obtain ⟨p, q1, q2, q3, q4⟩ := r.ow i _ d e
    refine ⟨p, q1, ?_, q3, q4.mono ff fun o ho => g.hh _ _ ho⟩
    unfold unlend
    by_cases c : Cell σ ρ L p
    · rw [if_pos c]
    · rw [if_neg c]
      exact r.own_new g e q1 fun hL => c ⟨i, t, d, hL, e, q1⟩
theorem Rl.back_dts (r : Rl K B σ H ρ F) {L : List Nat} {F' H' : Hp} (g : Gr (lend σ ρ L F H) H F' H') : Tups F' (unlend σ ρ L F') := fun a xs hr => by
  have nc : ¬ Cell σ ρ L a := by
    rintro ⟨j, t, e, _, h1, h2⟩
    obtain ⟨p, q1, _, _, q4⟩ := r.ow j _ e h1
    rw [h2] at q1
    cases q1
    obtain ⟨n1, n2⟩ := Ow.notup (q4.mono (F' := F) (H' := H') (.refl _) fun o ho => g.hh _ _ ho) xs
    exact n1 (g.fh _ _ hr)
  have e : unlend σ ρ L F' a = F' a := by
    unfold unlend
    rw [if_neg nc]
  exact e.trans hr
theorem Rl.back_dt (r : Rl K B σ H ρ F) {L : List Nat} {F' H' : Hp} (g : Gr (lend σ ρ L F H) H F' H') {v : V} {d : D} (i : imm d = true) (h : Dt K F' v d) : Dt K (unlend σ ρ L F') v d := Dt.tups (r.back_dts g) i h
/-- behind an expression whose value may hold the own ones of L: they are frozen -/
theorem Rl.shutted (r : Rl K B σ H ρ F) {L : List Nat} {F' H' : Hp} (g : Gr (lend σ ρ L F H) H F' H') : Rl K B σ H' (shut L ρ) F' := by
  have ff : Same F F' := (r.lend_ff L).trans g.ff
  have old : ∀ {i : Nat} {t : Bool} {d : D}, (shut L ρ)[i]? = some (some (.own t d)) → ρ[i]? = some (some (.own t d)) ∧ i ∉ L := fun {i t d} e => by
    rw [shut_get] at e
    obtain ⟨s, h1, h2⟩ := Option.map_eq_some_iff.mp e
    cases s with
    | none => cases h2
    | some s =>
      cases s with
      | frz e => cases h2
      | own t e =>
        unfold shutS at h2
        dsimp only at h2
        by_cases c : L.contains i = true
        · rw [if_pos c] at h2; cases h2
        · rw [if_neg c] at h2
          cases h2
          exact ⟨h1, fun z => c (by simpa using z)⟩
  refine ⟨g.fh, r.bh.trans g.hh, fun a o u e1 e2 => r.zf2 g e1 e2, by unfold shut; rw [shutI_len, r.len], fun i d e => ?_, fun i t d e => ?_, fun i j t u d e p h1 h2 => r.dj i j t u d e p (old h1).1 (old h2).1, fun i d p h => r.pn i d p (old h).1⟩
  · rw [shut_get] at e
    obtain ⟨s, h1, h2⟩ := Option.map_eq_some_iff.mp e
    cases s with
    | none => cases h2
    | some s =>
      cases s with
      | frz e =>
        cases h2
        obtain ⟨v, q1, q2⟩ := r.fz i _ h1
        exact ⟨v, q1, q2.same ff⟩
      | own t e =>
        unfold shutS at h2
        dsimp only at h2
        by_cases c : L.contains i = true
        · rw [if_pos c] at h2
          cases h2
          obtain ⟨p, q1, q2, q3, q4⟩ := r.ow i _ _ h1
          refine ⟨_, q1, q4.dt ff fun o ho => g.ff _ _ ?_⟩
          have : Cell σ ρ L p := ⟨i, _, _, by simpa using c, h1, q1⟩
          unfold lend
          rw [if_pos this]
          exact ho
        · rw [if_neg c] at h2; cases h2
  · obtain ⟨h1, h2⟩ := old e
    obtain ⟨p, q1, q2, q3, q4⟩ := r.ow i _ d h1
    exact ⟨p, q1, r.own_new g h1 q1 h2, q3, q4.mono ff fun o ho => g.hh _ _ ho⟩
/-- the slots behind an expression that gave d -/
def aft (L : List Nat) (d : D) (ρ : Env) : Env := if imm d = true then ρ else shut L ρ
theorem Rl.aft (r : Rl K B σ H ρ F) {L : List Nat} {F' H' : Hp} (g : Gr (lend σ ρ L F H) H F' H') {v : V} {d : D} (h : Dt K F' v d) : ∃ F2, Rl K B σ H' (aft L d ρ) F2 ∧ Dt K F2 v d ∧ Same F F2 := by
  unfold Du.aft
  by_cases i : imm d = true
  · rw [if_pos i]
    exact ⟨_, r.back g, r.back_dt g i h, r.back_ff g⟩
  · rw [if_neg i]
    exact ⟨_, r.shutted g, h, (r.lend_ff L).trans g.ff⟩
/-- the slots behind an expression whose value is taken apart: ds are its parts -/
def aftL (L : List Nat) (ds : List D) (ρ : Env) : Env := if imms ds = true then ρ else shut L ρ
theorem Rl.aftL (r : Rl K B σ H ρ F) {L : List Nat} {F' H' : Hp} (g : Gr (lend σ ρ L F H) H F' H') {vs : List V} {ds : List D} (h : DtAll K F' vs ds) : ∃ F2, Rl K B σ H' (aftL L ds ρ) F2 ∧ DtAll K F2 vs ds ∧ Same F F2 ∧ ∀ p, F' p = none → F2 p = none := by
  unfold Du.aftL
  by_cases i : imms ds = true
  · rw [if_pos i]
    refine ⟨_, r.back g, DtAll.tups (r.back_dts g) i h, r.back_ff g, fun p hp => ?_⟩
    unfold unlend
    split
    · rfl
    · exact hp
  · rw [if_neg i]
    exact ⟨_, r.shutted g, h, (r.lend_ff L).trans g.ff, fun _ h => h⟩
end
/-! ### what a statement comes to -/
inductive Out where
  | nx (ρ : Env)
  | bk (ρ : Env)
  | ct (ρ : Env)
  | rt (d : D) (ρ : Env)
  | ro (d : D) (ρ : Env)
  | ex (x : Ex) (ρ : Env)
  | bad
def So (K : PySem.W.Frag) (xm : XMo) (B : Bs) (Dn : Ends) : Out → Prop
  | .nx ρ => ∀ σ H F, Rl K B σ H ρ F → Dn.nx σ H
  | .bk ρ => ∀ σ H F, Rl K B σ H ρ F → Dn.bk σ H
  | .ct ρ => ∀ σ H F, Rl K B σ H ρ F → Dn.ct σ H
  | .rt d ρ => ∀ v σ H F, Rl K B σ H ρ F → Dt K F v d → Dn.rt v H
  | .ro d ρ => ∀ p σ H F, Rl K B σ H ρ F → F p = none → B.b p = none → Ow K F H p d → Dn.rt (.ref p) H
  | .ex x ρ => match xm with
    | none => False
    | some m => ∀ C dd σ H F, Rl K B σ H ρ F → ExIs K m.mg x F C dd → m.W C dd σ H
  | .bad => False
def sF (K : PySem.W.Frag) (xm : XMo) (g : Env → Out) : TS := fun Dn σ H => ∃ B ρ F, Rl K B σ H ρ F ∧ So K xm B Dn (g ρ)
abbrev FS (K : PySem.W.Frag) (xm : XMo) (X : Cx) (st : Stmt) (g : Env → Out) : Prop := PS X st (sF K xm g)
abbrev FSs (K : PySem.W.Frag) (xm : XMo) (X : Cx) (st : List Stmt) (g : Env → Out) : Prop := PSs X st (sF K xm g)
/-- a pure expression at a statement: its value, and the slots behind it -/
def eAt {α : Type} (L : List Nat) (f : VEnv → Res α) (ρ : Env) (k : α → Out) : Out := match f (view L ρ) with
  | .ok a => k a
  | .exc x => .ex x (shut L ρ)
  | .bad => .bad
section
variable {K : PySem.W.Frag} {xm : XMo} {X : Cx} {B : Bs} {F H : Hp} {σ : St} {ρ : Env} {Dn : Ends}
theorem exc_at {L : List Nat} {x : Ex} (r : Rl K B σ H ρ F) (k : So K xm B Dn (.ex x (shut L ρ))) : Xw K xm σ (lend σ ρ L F H) H x := by
  cases xm with
  | none => exact k.elim
  | some m => exact fun C dd F' H' g e => k C dd σ H' F' (r.shutted g) e
theorem tF.at {L : List Nat} {f : VEnv → Res D} {k : D → Out} {Q : VK} (r : Rl K B σ H ρ F) (h : So K xm B Dn (eAt L f ρ k)) (n : ∀ d v H' F', f (view L ρ) = .ok d → Rl K B σ H' (aft L d ρ) F' → Dt K F' v d → Same F F' → Same H H' → So K xm B Dn (k d) → Q v H') : tF K xm f σ H Q := by
  refine ⟨_, _, r.lend_fh L, r.view L, ?_⟩
  unfold eAt at h
  cases e : f (view L ρ) with
  | ok d =>
    rw [e] at h
    intro v F' H' g hd
    obtain ⟨F2, r2, h2, h3⟩ := r.aft g hd
    exact n d v H' F2 e r2 h2 h3 g.hh h
  | exc x =>
    rw [e] at h
    exact exc_at r h
  | bad => rw [e] at h; exact h.elim
theorem bF.at {L : List Nat} {f : VEnv → Res Bool} {k : Bool → Out} {Q : Bool → Hp → Prop} (r : Rl K B σ H ρ F) (h : So K xm B Dn (eAt L f ρ k)) (n : ∀ b H' F', f (view L ρ) = .ok b → Rl K B σ H' ρ F' → So K xm B Dn (k b) → Q b H') : bF K xm f σ H Q := by
  refine ⟨_, _, r.lend_fh L, r.view L, ?_⟩
  unfold eAt at h
  cases e : f (view L ρ) with
  | ok d =>
    rw [e] at h
    intro v F' H' g hd
    subst hd
    exact n v H' _ e (r.back g) h
  | exc x =>
    rw [e] at h
    exact exc_at r h
  | bad => rw [e] at h; exact h.elim
end
end Du

namespace Du
open PySem PySem.Spec PyProof.Rows L2
section
variable {K : PySem.W.Frag} {xm : XMo} {X : Cx} {B B' : Bs} {F H : Hp} {σ : St} {ρ : Env} {Dn : Ends}
structure Bs.Le (B B' : Bs) : Prop where
  b : Same B.b B'.b
  g : ∀ a o u, B.b a = some o → B'.g a = some u → ∃ v, B.g a = some v
  pin : B'.pin = B.pin
theorem Bs.Le.refl (B : Bs) : B.Le B := ⟨.refl _, fun _ _ _ _ e => ⟨_, e⟩, rfl⟩
theorem Rl.unbase (r : Rl K B' σ H ρ F) (s : B.Le B') : Rl K B σ H ρ F := ⟨r.fh, s.b.trans r.bh, fun a o u e1 e2 => by
  obtain ⟨v, h⟩ := r.zf a o u (s.b _ _ e1) e2
  exact s.g a o v e1 h, r.len, r.fz, fun i t d e => by
  obtain ⟨p, q1, q2, q3, q4⟩ := r.ow i _ d e
  exact ⟨p, q1, q2, s.b.free q3, q4⟩, r.dj, fun i d p h1 h2 => (r.pn i d p h1 h2).trans s.pin⟩
theorem So.weak {o : Out} (h : So K xm B Dn o) (s : B.Le B') : So K xm B' Dn o := by
  cases o with
  | nx ρ => exact fun σ H F r => h σ H F (r.unbase s)
  | bk ρ => exact fun σ H F r => h σ H F (r.unbase s)
  | ct ρ => exact fun σ H F r => h σ H F (r.unbase s)
  | rt d ρ => exact fun v σ H F r => h v σ H F (r.unbase s)
  | ro d ρ => exact fun p σ H F r f b => h p σ H F (r.unbase s) f (s.b.free b)
  | ex x ρ =>
    cases xm with
    | none => exact h
    | some m => exact fun C dd σ H F r => h C dd σ H F (r.unbase s)
  | bad => exact h
/-- both of two parts of a heap -/
def both (F G : Hp) : Hp := fun a => match F a with | some o => some o | none => G a
theorem both_l {F G : Hp} : Same F (both F G) := fun a o e => by
  show (match F a with | some o => some o | none => G a) = some o
  rw [e]
theorem both_r {F G H : Hp} (s : Same F H) (t : Same G H) : Same G (both F G) := fun a o e => by
  show (match F a with | some o => some o | none => G a) = some o
  cases q : F a with
  | none => exact e
  | some u => exact (s _ _ q).symm.trans (t _ _ e)
theorem both_in {F G H : Hp} (s : Same F H) (t : Same G H) : Same (both F G) H := fun a o e => by
  have e : (match F a with | some o => some o | none => G a) = some o := e
  cases q : F a with
  | none =>
    rw [q] at e
    exact t _ _ e
  | some u =>
    rw [q] at e
    cases e
    exact s _ _ q
theorem both_cases {F G : Hp} {a : Addr} {o : HO} (e : both F G a = some o) : F a = some o ∨ G a = some o := by
  have e : (match F a with | some o => some o | none => G a) = some o := e
  cases q : F a with
  | none => rw [q] at e; exact .inr e
  | some u => rw [q] at e; cases e; exact .inl rfl
theorem both_none {F G : Hp} {a : Addr} (e : F a = none) (e2 : G a = none) : both F G a = none := by
  show (match F a with | some o => some o | none => G a) = none
  rw [e]
  exact e2
/-- what is frozen is kept, too -/
theorem Rl.base (r : Rl K B σ H ρ F) : ∃ B' : Bs, B.Le B' ∧ Same F B'.b ∧ Same F B'.g ∧ Rl K B' σ H ρ F := by
  refine ⟨⟨both F B.b, both F B.g, B.pin⟩, ⟨both_r r.fh r.bh, fun a o u e1 e2 => ?_, rfl⟩, both_l, both_l, r.fh, both_in r.fh r.bh, fun a o u e1 e2 => ⟨u, both_l _ _ e2⟩, r.len, r.fz, fun i t d e => ?_, r.dj, r.pn⟩
  · rcases both_cases e2 with z | z
    · exact r.zf _ _ _ e1 z
    · exact ⟨_, z⟩
  · obtain ⟨p, q1, q2, q3, q4⟩ := r.ow i _ d e
    exact ⟨p, q1, q2, both_none q2 q3, q4⟩
theorem Rl.grow {F' H' : Hp} (r : Rl K B σ H ρ F) (g : Gr F H F' H') : Rl K B σ H' ρ F' := ⟨g.fh, r.bh.trans g.hh, fun a o u e1 e2 => by
  exact (g.nw _ _ e2).elim (fun z => r.zf _ _ _ e1 z) (fun z => by rw [r.bh _ _ e1] at z; cases z), r.len, fun i d e => by
  obtain ⟨v, h1, h2⟩ := r.fz i d e
  exact ⟨v, h1, h2.same g.ff⟩, fun i t d e => by
  obtain ⟨p, q1, q2, q3, q4⟩ := r.ow i _ d e
  refine ⟨p, q1, ?_, q3, q4.mono g.ff fun o ho => g.hh _ _ ho⟩
  cases q : F' p with
  | none => rfl
  | some o =>
    exfalso
    exact (g.nw p o q).elim (fun z => by rw [q2] at z; cases z) (fun z => by
      obtain ⟨o', h⟩ := q4.some
      rw [h] at z; cases z), r.dj, r.pn⟩
theorem set_cases {α : Type} {l : List α} {i j : Nat} {a b : α} (h : (l.set i a)[j]? = some b) : (i = j ∧ b = a ∧ i < l.length) ∨ (i ≠ j ∧ l[j]? = some b) := by
  rw [List.getElem?_set] at h
  by_cases q : i = j
  · rw [if_pos q] at h
    subst q
    by_cases hi : i < l.length
    · rw [if_pos hi] at h
      cases h
      exact .inl ⟨rfl, rfl, hi⟩
    · rw [if_neg hi] at h; cases h
  · rw [if_neg q] at h
    exact .inr ⟨q, h⟩
theorem Rl.set (r : Rl K B σ H ρ F) {i : Nat} {v : V} {d : D} (h : Dt K F v d) : Rl K B (σ.set i (some v)) H (ρ.set i (some (.frz d))) F := ⟨r.fh, r.bh, r.zf, by rw [List.length_set, List.length_set, r.len], fun j e he => by
  rcases set_cases he with ⟨rfl, q, hi⟩ | ⟨hj, q⟩
  · cases q
    exact ⟨v, by rw [List.getElem?_set, if_pos rfl, if_pos (by rw [r.len]; exact hi)], h⟩
  · obtain ⟨w, h1, h2⟩ := r.fz j e q
    exact ⟨w, by rw [List.getElem?_set_ne hj]; exact h1, h2⟩, fun j t e he => by
  rcases set_cases he with ⟨rfl, q, hi⟩ | ⟨hj, q⟩
  · cases q
  · obtain ⟨p, q1, q2, q3, q4⟩ := r.ow j _ e q
    exact ⟨p, by rw [List.getElem?_set_ne hj]; exact q1, q2, q3, q4⟩, fun j k t u d1 d2 p h1 h2 h3 h4 => by
  rcases set_cases h1 with ⟨rfl, q, hi⟩ | ⟨hj, q⟩
  · cases q
  · rcases set_cases h2 with ⟨rfl, q', hi⟩ | ⟨hj', q'⟩
    · cases q'
    · rw [List.getElem?_set_ne hj] at h3
      rw [List.getElem?_set_ne hj'] at h4
      exact r.dj j k t u d1 d2 p q q' h3 h4, fun j d p h1 h2 => by
  rcases set_cases h1 with ⟨rfl, q, hi⟩ | ⟨hj, q⟩
  · cases q
  · rw [List.getElem?_set_ne hj] at h2
    exact r.pn j d p q h2⟩
/-- a slot is forgotten -/
theorem Rl.drop (r : Rl K B σ H ρ F) (i : Nat) : Rl K B σ H (ρ.set i none) F := ⟨r.fh, r.bh, r.zf, by rw [List.length_set, r.len], fun j e he => by
  rcases set_cases he with ⟨rfl, q, hi⟩ | ⟨hj, q⟩
  · cases q
  · exact r.fz j e q, fun j t e he => by
  rcases set_cases he with ⟨rfl, q, hi⟩ | ⟨hj, q⟩
  · cases q
  · exact r.ow j t e q, fun j k t u d1 d2 p h1 h2 h3 h4 => by
  rcases set_cases h1 with ⟨rfl, q, hi⟩ | ⟨hj, q⟩
  · cases q
  · rcases set_cases h2 with ⟨rfl, q', hi⟩ | ⟨hj', q'⟩
    · cases q'
    · exact r.dj j k t u d1 d2 p q q' h3 h4, fun j d p h1 h2 => by
  rcases set_cases h1 with ⟨rfl, q, hi⟩ | ⟨hj, q⟩
  · cases q
  · exact r.pn j d p q h2⟩
def clr : List Nat → Env → Env
  | [], ρ => ρ
  | i :: l, ρ => clr l (ρ.set i none)
theorem Rl.clr (r : Rl K B σ H ρ F) : ∀ l : List Nat, Rl K B σ H (Du.clr l ρ) F := fun l => by
  induction l generalizing ρ with
  | nil => exact r
  | cons i l ih => exact ih (r.drop i)
def setS (ρ : Env) : List (Nat × D) → Env
  | [] => ρ
  | p :: ps => setS (ρ.set p.1 (some (.frz p.2))) ps
theorem Rl.setAll : ∀ {bs : List (Nat × V)} {as : List (Nat × D)} {σ : St} {ρ : Env}, Rl K B σ H ρ F → As K F bs as → Rl K B (Du.setAll σ bs) H (setS ρ as) F
  | _, _, _, _, h, .nil => h
  | _, _, σ, ρ, h, .cons (a := a) (b := b) x y => Rl.setAll (σ := σ.set a.1 (some a.2)) (ρ := ρ.set b.1 (some (.frz b.2))) (by
      rw [x.1]
      exact h.set x.2) y
/-- a new thing of one's own -/
theorem Rl.setOwn (r : Rl K B σ H ρ F) {i : Nat} {p : Addr} {d : D} (h : Ow K F H p d) (fp : F p = none) (bp : B.b p = none) (np : ∀ (j : Nat) (t : Bool) (e : D), ρ[j]? = some (some (.own t e)) → σ[j]? = some (some (.ref p)) → j = i) : Rl K B (σ.set i (some (.ref p))) H (ρ.set i (some (.own false d))) F := ⟨r.fh, r.bh, r.zf, by rw [List.length_set, List.length_set, r.len], fun j e he => by
  rcases set_cases he with ⟨rfl, q, hi⟩ | ⟨hj, q⟩
  · cases q
  · obtain ⟨w, h1, h2⟩ := r.fz j e q
    exact ⟨w, by rw [List.getElem?_set_ne hj]; exact h1, h2⟩, fun j t e he => by
  rcases set_cases he with ⟨rfl, q, hi⟩ | ⟨hj, q⟩
  · cases q
    exact ⟨p, by rw [List.getElem?_set, if_pos rfl, if_pos (by rw [r.len]; exact hi)], fp, bp, h⟩
  · obtain ⟨p', q1, q2, q3, q4⟩ := r.ow j _ e q
    exact ⟨p', by rw [List.getElem?_set_ne hj]; exact q1, q2, q3, q4⟩, fun j k t u d1 d2 p' h1 h2 h3 h4 => by
  rcases set_cases h1 with ⟨rfl, q, hi⟩ | ⟨hj, q⟩
  · rcases set_cases h2 with ⟨rfl, q', hi'⟩ | ⟨hk, q'⟩
    · rfl
    · rw [List.getElem?_set, if_pos rfl, if_pos (by rw [r.len]; exact hi)] at h3
      cases h3
      rw [List.getElem?_set_ne hk] at h4
      exact absurd (np k _ _ q' h4).symm hk
  · rcases set_cases h2 with ⟨rfl, q', hi'⟩ | ⟨hk, q'⟩
    · rw [List.getElem?_set, if_pos rfl, if_pos (by rw [r.len]; exact hi')] at h4
      cases h4
      rw [List.getElem?_set_ne hj] at h3
      exact absurd (np j _ _ q h3).symm hj
    · rw [List.getElem?_set_ne hj] at h3
      rw [List.getElem?_set_ne hk] at h4
      exact r.dj j k t u d1 d2 p' q q' h3 h4, fun j e p' h1 h2 => by
  rcases set_cases h1 with ⟨rfl, q, hi⟩ | ⟨hj, q⟩
  · cases q
  · rw [List.getElem?_set_ne hj] at h2
    exact r.pn j e p' q h2⟩
/-- an own thing is changed -/
theorem Rl.write (r : Rl K B σ H ρ F) {i : Nat} {t : Bool} {p : Addr} {d d' : D} {o : HO} (hi : ρ[i]? = some (some (.own t d))) (hp : σ[i]? = some (some (.ref p))) (h : Ow K F (upd H p o) p d') : Rl K B σ (upd H p o) (ρ.set i (some (.own t d'))) F := by
  obtain ⟨p', q1, q2, q3, q4⟩ := r.ow i _ d hi
  rw [hp] at q1
  cases q1
  refine ⟨fun a u e => ?_, fun a u e => ?_, r.zf, by rw [List.length_set, r.len], fun j e he => ?_, fun j t2 e he => ?_, fun j k t1 t2 d1 d2 p' h1 h2 h3 h4 => ?_, fun j e p' h1 h2 => ?_⟩
  · rw [upd_ne fun z => by rw [z, q2] at e; cases e]
    exact r.fh _ _ e
  · rw [upd_ne fun z => by rw [z, q3] at e; cases e]
    exact r.bh _ _ e
  · rcases set_cases he with ⟨rfl, q, _⟩ | ⟨hj, q⟩
    · cases q
    · exact r.fz j e q
  · rcases set_cases he with ⟨rfl, q, _⟩ | ⟨hj, q⟩
    · cases q
      exact ⟨p, hp, q2, q3, h⟩
    · obtain ⟨p', w1, w2, w3, w4⟩ := r.ow j _ e q
      refine ⟨p', w1, w2, w3, w4.mono (.refl _) fun u hu => ?_⟩
      rw [upd_ne fun z => hj (by
        subst z
        exact r.dj i j _ _ _ _ _ hi q hp w1)]
      exact hu
  · rcases set_cases h1 with ⟨rfl, q, _⟩ | ⟨hj, q⟩
    · rcases set_cases h2 with ⟨rfl, q', _⟩ | ⟨hk, q'⟩
      · rfl
      · exact r.dj _ k _ _ _ _ p' hi q' h3 h4
    · rcases set_cases h2 with ⟨rfl, q', _⟩ | ⟨hk, q'⟩
      · exact r.dj j _ _ _ _ _ p' q hi h3 h4
      · exact r.dj j k _ _ _ _ p' q q' h3 h4
  · rcases set_cases h1 with ⟨rfl, q, _⟩ | ⟨hj, q⟩
    · cases q
      exact r.pn _ _ _ hi h2
    · exact r.pn j e p' q h2
/-! ### small statements, blocks -/
def sPass : Env → Out := fun ρ => .nx ρ
def sBreak : Env → Out := fun ρ => .bk ρ
def sCont : Env → Out := fun ρ => .ct ρ
def sSeq (g h : Env → Out) : Env → Out := fun ρ => match g ρ with
  | .nx ρ' => h ρ'
  | o => o
theorem fss_nil : FSs K xm X [] sPass := PSs.to pss_nil fun Dn σ H ⟨B, ρ, F, r, k⟩ => k σ H F r
theorem fss_one {st : Stmt} {g : Env → Out} (h : FS K xm X st g) : FSs K xm X [st] g := pss_one h
theorem fss_cons {st : Stmt} {rest : List Stmt} {g h : Env → Out} (h1 : FS K xm X st g) (h2 : FSs K xm X rest h) : FSs K xm X (st :: rest) (sSeq g h) :=
  PSs.to (pss_cons h1 h2) fun Dn σ H ⟨B, ρ, F, r, k⟩ => ⟨B, ρ, F, r, by
    unfold sSeq at k
    cases e : g ρ with
    | nx ρ' =>
      rw [e] at k
      exact fun σ' H' F' r' => ⟨B, ρ', F', r', k⟩
    | bk ρ' => rw [e] at k; exact k
    | ct ρ' => rw [e] at k; exact k
    | rt d ρ' => rw [e] at k; exact k
    | ro d ρ' => rw [e] at k; exact k
    | ex x ρ' =>
      rw [e] at k
      cases xm with
      | none => exact k
      | some m => exact k
    | bad => rw [e] at k; exact k⟩
/-- x = e, a, b = e -/
def sAsg (L : List Nat) (f : VEnv → Res D) (tg : Tgt) : Env → Out := fun ρ => eAt L f ρ fun d => match tg d with
  | .ok as => .nx (setS (aft L d ρ) as)
  | _ => .bad
theorem fs_asg {tg e : Expr} {L : List Nat} {f : VEnv → Res D} {g : Tgt} {pos : Pos} (he : FE K xm X e f) (hg : FG K X tg g) (hs : swapsWithSole [tg] e pos.line X.env = pure false := by rfl) (hw : swappedStores [tg] e X.env = pure none := by rfl)
    (h1 : (assignEach [tg] X.env).map (·.2) = [assign tg X.env] := by rfl) : FS K xm X (.Assign [tg] e pos) (sAsg L f g) :=
  PS.to (ps_asg he hg hs hw h1) fun Dn σ H ⟨B, ρ, F, r, k⟩ => tF.at r k fun d v H' F' _ r' dv _ _ k' => by
    cases e : g d with
    | ok as =>
      rw [e] at k'
      exact ⟨F', d, as, r'.fh, dv, e, fun bs hb => k' _ _ _ (r'.setAll hb)⟩
    | exc x => rw [e] at k'; exact k'.elim
    | bad => rw [e] at k'; exact k'.elim
/-- e as a statement -/
def sExpr (L : List Nat) (f : VEnv → Res D) : Env → Out := fun ρ => eAt L f ρ fun d => .nx (aft L d ρ)
theorem fs_expr {e : Expr} {L : List Nat} {f : VEnv → Res D} {pos : Pos} (he : FE K xm X e f) (hs : swapsWith e none pos.line X.env = pure false := by rfl) : FS K xm X (.Expr e pos) (sExpr L f) :=
  PS.to (ps_expr he hs) fun Dn σ H ⟨B, ρ, F, r, k⟩ => tF.at r k fun d v H' F' _ r' dv _ _ k' => k' _ _ _ r'
def sRet (L : List Nat) (f : VEnv → Res D) : Env → Out := fun ρ => eAt L f ρ fun d => .rt d (aft L d ρ)
theorem fs_ret {e : Expr} {L : List Nat} {f : VEnv → Res D} {pos : Pos} (he : FE K xm X e f) : FS K xm X (.Return (some e) pos) (sRet L f) :=
  PS.to (ps_ret he) fun Dn σ H ⟨B, ρ, F, r, k⟩ => tF.at r k fun d v H' F' _ r' dv _ _ k' => k' _ _ _ _ r' dv
def sRetN : Env → Out := fun ρ => .rt .non ρ
def sIf (L : List Nat) (c : VEnv → Res Bool) (g h : Env → Out) : Env → Out := fun ρ => eAt L c ρ fun b => if b = true then g ρ else h ρ
theorem fs_if {c : Expr} {a b : List Stmt} {L : List Nat} {fc : VEnv → Res Bool} {g h : Env → Out} {pos : Pos} (hc : FT K xm X c fc) (ha : FSs K xm X a g) (hb : FSs K xm X b h) : FS K xm X (.If c a b pos) (sIf L fc g h) :=
  PS.to (ps_if hc ha hb) fun Dn σ H ⟨B, ρ, F, r, k⟩ => bF.at r k fun b H' F' _ r' k' => by
    cases b with
    | true => exact iteT ⟨B, ρ, F', r', by rwa [if_pos rfl] at k'⟩
    | false => exact iteF ⟨B, ρ, F', r', by rwa [if_neg Bool.false_ne_true] at k'⟩
/-! ### while -/
def loopO (k : Env → Out) : Out → Out
  | .nx ρ => k ρ
  | .ct ρ => k ρ
  | .bk ρ => .nx ρ
  | o => o
def whileN (L : List Nat) (c : VEnv → Res Bool) (g : Env → Out) : Nat → Env → Out
  | 0, _ => .bad
  | n + 1, ρ => eAt L c ρ fun b => if b = true then loopO (whileN L c g n) (g ρ) else .nx ρ
theorem whileN_mono (L : List Nat) (c : VEnv → Res Bool) (g : Env → Out) : ∀ (n : Nat) (ρ : Env), whileN L c g n ρ ≠ .bad → whileN L c g (n + 1) ρ = whileN L c g n ρ
  | 0, ρ, h => absurd rfl h
  | n + 1, ρ, h => by
    have ih := whileN_mono L c g n
    unfold whileN at h ⊢
    unfold eAt at h ⊢
    cases e : c (Du.view L ρ) with
    | ok b =>
      rw [e] at h
      dsimp only at h ⊢
      cases b with
      | true =>
        rw [if_pos rfl] at h ⊢
        rw [if_pos rfl]
        cases e2 : g ρ with
        | nx ρ' => rw [e2] at h; exact ih ρ' h
        | ct ρ' => rw [e2] at h; exact ih ρ' h
        | bk ρ' => rfl
        | rt d ρ' => rfl
        | ro d ρ' => rfl
        | ex x ρ' => rfl
        | bad => rfl
      | false => rfl
    | exc x => rfl
    | bad => rfl
theorem whileN_le (L : List Nat) (c : VEnv → Res Bool) (g : Env → Out) (n m : Nat) (ρ : Env) (h : whileN L c g n ρ ≠ .bad) (le : n ≤ m) : whileN L c g m ρ = whileN L c g n ρ := by
  induction m with
  | zero => rw [show n = 0 by omega]
  | succ m ih =>
    by_cases e : n = m + 1
    · rw [e]
    · have := ih (by omega)
      rw [whileN_mono L c g m ρ (by rw [this]; exact h), this]
open Classical in
noncomputable def sWhile (L : List Nat) (c : VEnv → Res Bool) (g : Env → Out) : Env → Out := fun ρ => if h : ∃ n, whileN L c g n ρ ≠ .bad then whileN L c g h.choose ρ else .bad
theorem sWhile_of {L : List Nat} {c : VEnv → Res Bool} {g : Env → Out} {n : Nat} {ρ : Env} (h : whileN L c g n ρ ≠ .bad) : sWhile L c g ρ = whileN L c g n ρ := by
  unfold sWhile
  have ex : ∃ n, whileN L c g n ρ ≠ .bad := ⟨n, h⟩
  rw [dif_pos ex]
  have q := ex.choose_spec
  rcases Nat.le_total n ex.choose with l | l
  · exact whileN_le L c g n _ ρ h l
  · exact (whileN_le L c g _ n ρ q l).symm
theorem sWhile_eq (L : List Nat) (c : VEnv → Res Bool) (g : Env → Out) (ρ : Env) : sWhile L c g ρ = eAt L c ρ fun b => if b = true then loopO (sWhile L c g) (g ρ) else .nx ρ := by
  have key : ∀ o : Out, o ≠ .bad → (sWhile L c g ρ = o ↔ (eAt L c ρ fun b => if b = true then loopO (sWhile L c g) (g ρ) else .nx ρ) = o) := fun o ho => by
    constructor
    · intro h
      have ex : ∃ n, whileN L c g n ρ ≠ .bad := by
        apply Classical.byContradiction
        intro q
        unfold sWhile at h
        rw [dif_neg q] at h
        exact ho h.symm
      obtain ⟨n, hn⟩ := ex
      rw [sWhile_of hn] at h
      cases n with
      | zero => exact absurd rfl hn
      | succ n =>
        unfold whileN at h hn
        unfold eAt at h hn ⊢
        cases e : c (Du.view L ρ) with
        | ok b =>
          rw [e] at h hn
          dsimp only at h hn ⊢
          cases b with
          | true =>
            rw [if_pos rfl] at h hn ⊢
            cases e2 : g ρ with
            | nx ρ' =>
              rw [e2] at h hn
              exact (sWhile_of hn).trans h
            | ct ρ' =>
              rw [e2] at h hn
              exact (sWhile_of hn).trans h
            | bk ρ' => rw [e2] at h; exact h
            | rt d ρ' => rw [e2] at h; exact h
            | ro d ρ' => rw [e2] at h; exact h
            | ex x ρ' => rw [e2] at h; exact h
            | bad => rw [e2] at h; exact h
          | false => exact h
        | exc x => rw [e] at h; exact h
        | bad => rw [e] at h; exact h
    · intro h
      have nb : ∀ ρ', sWhile L c g ρ' ≠ .bad → ∃ n, whileN L c g n ρ' ≠ .bad ∧ sWhile L c g ρ' = whileN L c g n ρ' := fun ρ' hb => by
        have ex : ∃ n, whileN L c g n ρ' ≠ .bad := by
          apply Classical.byContradiction
          intro q
          unfold sWhile at hb
          rw [dif_neg q] at hb
          exact hb rfl
        obtain ⟨n, hn⟩ := ex
        exact ⟨n, hn, sWhile_of hn⟩
      have ex : ∃ n, whileN L c g n ρ = o := by
        unfold eAt at h
        cases e : c (Du.view L ρ) with
        | ok b =>
          rw [e] at h
          dsimp only at h
          cases b with
          | true =>
            rw [if_pos rfl] at h
            have step : ∀ n, whileN L c g (n + 1) ρ = loopO (whileN L c g n) (g ρ) := fun n => by
              rw [whileN]
              unfold eAt
              rw [e]
              rfl
            cases e2 : g ρ with
            | nx ρ' =>
              rw [e2] at h
              obtain ⟨n, h1, h2⟩ := nb ρ' (by rw [show sWhile L c g ρ' = o from h]; exact ho)
              exact ⟨n + 1, by rw [step, e2]; exact h2.symm.trans h⟩
            | ct ρ' =>
              rw [e2] at h
              obtain ⟨n, h1, h2⟩ := nb ρ' (by rw [show sWhile L c g ρ' = o from h]; exact ho)
              exact ⟨n + 1, by rw [step, e2]; exact h2.symm.trans h⟩
            | bk ρ' => rw [e2] at h; exact ⟨1, by rw [step, e2]; exact h⟩
            | rt d ρ' => rw [e2] at h; exact ⟨1, by rw [step, e2]; exact h⟩
            | ro d ρ' => rw [e2] at h; exact ⟨1, by rw [step, e2]; exact h⟩
            | ex x ρ' => rw [e2] at h; exact ⟨1, by rw [step, e2]; exact h⟩
            | bad => rw [e2] at h; exact ⟨1, by rw [step, e2]; exact h⟩
          | false => exact ⟨1, by rw [whileN]; unfold eAt; rw [e]; exact h⟩
        | exc x => rw [e] at h; exact ⟨1, by rw [whileN]; unfold eAt; rw [e]; exact h⟩
        | bad => rw [e] at h; exact absurd h.symm ho
      obtain ⟨n, hn⟩ := ex
      rw [sWhile_of (n := n) (by rw [hn]; exact ho), hn]
  by_cases h : sWhile L c g ρ = .bad
  · by_cases h2 : (eAt L c ρ fun b => if b = true then loopO (sWhile L c g) (g ρ) else .nx ρ) = .bad
    · rw [h, h2]
    · exact ((key _ h2).mpr rfl)
  · exact ((key _ h).mp rfl).symm
theorem fs_while {c : Expr} {body : List Stmt} {L : List Nat} {fc : VEnv → Res Bool} {g : Env → Out} {pos : Pos} (hp : PassesOwn (model X.prog X.w) X.A X.env X.xe) (hc : FT K xm X c fc) (hb : FSs K xm X body g) : FS K xm X (.While c body [] pos) (sWhile L fc g) :=
  PS.to (ps_while hp hc hb) fun Dn σ H ⟨B, ρ, F, r, k⟩ => by
    have ex : ∃ n, whileN L fc g n ρ ≠ .bad := by
      apply Classical.byContradiction
      intro q
      unfold sWhile at k
      rw [dif_neg q] at k
      exact k
    obtain ⟨n, hn⟩ := ex
    rw [sWhile_of hn] at k
    refine ⟨fun m σ H => ∃ ρ F, Rl K B σ H ρ F ∧ So K xm B Dn (whileN L fc g m ρ), ⟨n, ρ, F, r, k⟩, ?_⟩
    rintro m σ H ⟨ρ, F, r, k⟩
    cases m with
    | zero => exact k.elim
    | succ m =>
      unfold whileN at k
      refine bF.at r k fun b H' F' _ r' k' => ?_
      cases b with
      | false => exact iteF (by rw [if_neg Bool.false_ne_true] at k'; exact k' _ _ _ r')
      | true =>
        rw [if_pos rfl] at k'
        refine iteT ⟨fun σ H => ∃ ρ F, Rl K B σ H ρ F ∧ So K xm B Dn (whileN L fc g m ρ), fun σ' H' q => ⟨m, Nat.lt_succ_self m, q⟩, B, ρ, F', r', ?_⟩
        cases e : g ρ with
        | nx ρ' => rw [e] at k'; exact fun σ H F r => ⟨ρ', F, r, k'⟩
        | ct ρ' => rw [e] at k'; exact fun σ H F r => ⟨ρ', F, r, k'⟩
        | bk ρ' => rw [e] at k'; exact k'
        | rt d ρ' => rw [e] at k'; exact k'
        | ro d ρ' => rw [e] at k'; exact k'
        | ex x ρ' =>
          rw [e] at k'
          cases xm with
          | none => exact k'
          | some m => exact k'
        | bad => rw [e] at k'; exact k'
/-! ### for -/
def forL (tg : Tgt) (g : Env → Out) (l : List Nat) : List D → Env → Out
  | [], ρ => .nx ρ
  | d :: ds, ρ => match tg d with
    | .ok as => loopO (fun ρ' => forL tg g l ds (clr l ρ')) (g (setS ρ as))
    | _ => .bad
def sFor (L : List Nat) (it : VEnv → Res (List D)) (tg : Tgt) (g : Env → Out) (l : List Nat) : Env → Out := fun ρ => eAt L it ρ fun ds => forL tg g l ds (shut L ρ)
theorem for_loop {gt : Tgt} {g : Env → Out} {l : List Nat} {tb : TS} {J : It} {ds : List D} (ht : tb = sF K xm g) (r : Rl K B σ H ρ F) (y : Yl K F J ds) (k : So K xm B Dn (forL gt g l ds ρ)) :
    ∃ W : Nat → Nat → St → Hp → Prop, (∃ m, W 0 m σ H) ∧ ∀ i m σ H, W i m σ H →
      (J.stop i H ∧ Dn.nx σ H) ∨ (J.go i H ∧ ∃ N : St → Hp → Prop, (∀ σ' H', N σ' H' → ∃ m', m' < m ∧ W (i + 1) m' σ' H') ∧ ∀ x H', J.yld i H x H' → gF K gt x σ H' fun σ2 H2 => tb { Dn with nx := N, ct := N, bk := Dn.nx } σ2 H2) := by
  subst ht
  obtain ⟨B1, sB, sF1, sF2, r1⟩ := r.base
  let St' : Nat → St → Hp → Prop := fun i σ2 H2 => ∃ ρ2 F2, Rl K B1 σ2 H2 ρ2 F2 ∧ So K xm B Dn (forL gt g l (ds.drop i) ρ2)
  refine ⟨fun i m σ2 H2 => m = ds.length - i ∧ i ≤ ds.length ∧ St' i σ2 H2, ⟨ds.length, by simp, Nat.zero_le _, ρ, F, r1, k⟩, ?_⟩
  rintro i m σ2 H2 ⟨rfl, hi, ρ2, F2, r2, k2⟩
  -- what was told of at the start is told of now
  obtain ⟨F3, s23, s13, r3⟩ : ∃ F3, Same F2 F3 ∧ Same F F3 ∧ Rl K B1 σ2 H2 ρ2 F3 := by
    have sFH : Same F H2 := sF1.trans r2.bh
    refine ⟨both F2 F, both_l, both_r r2.fh sFH, both_in r2.fh sFH, r2.bh, fun a o u e1 e2 => ?_, r2.len, fun j d e => ?_, fun j t d e => ?_, r2.dj, r2.pn⟩
    · rcases both_cases e2 with z | z
      · exact r2.zf _ _ _ e1 z
      · exact ⟨_, sF2 _ _ z⟩
    · obtain ⟨v, q1, q2⟩ := r2.fz j d e
      exact ⟨v, q1, q2.same both_l⟩
    · obtain ⟨p, q1, q2, q3, q4⟩ := r2.ow j _ d e
      exact ⟨p, q1, both_none q2 (sF1.free q3), q3, q4.mono both_l fun _ h => h⟩
  by_cases hlt : i < ds.length
  · refine .inr ⟨y.go i H2 hlt (s13.trans r3.fh), St' (i + 1), fun σ' H' p' => ⟨ds.length - (i + 1), by omega, rfl, hlt, p'⟩, fun x H3 yx => ?_⟩
    obtain ⟨F4, g4, dx⟩ := y.yld i ds[i] F3 H2 x H3 (List.getElem?_eq_getElem hlt) s13 r3.fh yx
    rw [List.drop_eq_getElem_cons hlt] at k2
    unfold forL at k2
    cases e1 : gt ds[i] with
    | exc x => rw [e1] at k2; exact k2.elim
    | bad => rw [e1] at k2; exact k2.elim
    | ok as =>
      rw [e1] at k2
      have k2 : So K xm B Dn (loopO (fun ρ' => forL gt g l (ds.drop (i + 1)) (clr l ρ')) (g (setS ρ2 as))) := k2
      have r4 := r3.grow g4
      refine ⟨F4, ds[i], as, r4.fh, dx, e1, fun bs hb => ⟨B1, setS ρ2 as, F4, r4.setAll hb, ?_⟩⟩
      cases e2 : g (setS ρ2 as) with
      | nx ρ' => rw [e2] at k2; exact fun σ H F r => ⟨_, F, r.clr l, k2⟩
      | ct ρ' => rw [e2] at k2; exact fun σ H F r => ⟨_, F, r.clr l, k2⟩
      | bk ρ' => rw [e2] at k2; exact fun σ H F r => k2 σ H F (r.unbase sB)
      | rt d ρ' => rw [e2] at k2; exact fun v σ H F r => k2 v σ H F (r.unbase sB)
      | ro d ρ' => rw [e2] at k2; exact fun p σ H F r f b => k2 p σ H F (r.unbase sB) f (sB.b.free b)
      | ex x ρ' =>
        rw [e2] at k2
        exact So.weak (o := .ex x ρ') (by cases xm with
          | none => exact k2
          | some m => exact k2) sB
      | bad => rw [e2] at k2; exact k2
  · have e : i = ds.length := by omega
    subst e
    rw [List.drop_length] at k2
    exact .inl ⟨y.stop H2 (s13.trans r3.fh), k2 _ _ _ (r2.unbase sB)⟩
theorem fs_for {tg iter : Expr} {body : List Stmt} {L : List Nat} {it : VEnv → Res (List D)} {gt : Tgt} {g : Env → Out} {pos : Pos} (l : List Nat) (hp : PassesOwn (model X.prog X.w) X.A X.env X.xe) (hi : FI K xm X tg iter it) (hg : FG K X tg gt) (hb : FSs K xm X body g) (hc : X.calm = true := by rfl)
    (hs : ∀ x, foldedSetIterable iter X.env x = pure x := by intro _; rfl) : FS K xm X (.For tg iter body [] pos) (sFor L it gt g l) :=
  PS.to (ps_for hp hc hi hg hb hs) fun Dn σ H ⟨B, ρ, F, r, k⟩ => by
    refine ⟨_, _, r.lend_fh L, r.view L, ?_⟩
    unfold sFor eAt at k
    cases e : it (view L ρ) with
    | ok ds =>
      rw [e] at k
      intro J F' H' g y
      exact for_loop rfl (r.shutted g) y k
    | exc x => rw [e] at k; exact exc_at r k
    | bad => rw [e] at k; exact k.elim
end
end Du

namespace Du
open PySem PySem.Spec PyProof.Rows L2
section
variable {K : PySem.W.Frag} {xm : XMo} {X : Cx} {B : Bs} {F H : Hp} {σ : St} {ρ : Env} {Dn : Ends}
/-! ### expressions that make a new list, a new dict: the def's own -/
def PoW (K : PySem.W.Frag) (xm : XMo) (σ : St) (F H : Hp) (r : Res D) (Q : VK) : Prop := match r with
  | .ok d => ∀ p F' H', Gr F H F' H' → H p = none → F' p = none → Ow K F' H' p d → Q (.ref p) H'
  | .exc x => Xw K xm σ F H x
  | .bad => False
def tW (K : PySem.W.Frag) (xm : XMo) (f : VEnv → Res D) : TE := fun σ H Q => ∃ F ρ, Same F H ∧ Vw K F σ ρ ∧ PoW K xm σ F H (f ρ) Q
abbrev FW' (K : PySem.W.Frag) (xm : XMo) (X : Cx) (e : Expr) (f : VEnv → Res D) : Prop := PE X e (tW K xm f)
theorem PoW.mono {F1 H1 : Hp} {r : Res D} {Q : VK} (h : PoW K xm σ F H r Q) (g : Gr F H F1 H1) : PoW K xm σ F1 H1 r Q := by
  cases r with
  | ok a => exact fun p F' H' g' hp => h p F' H' (g.trans g') (g.hh.free hp)
  | exc x => exact Xw.mono h g
  | bad => exact h
theorem PoW.seq {α ω : Type} {R : Hp → ω → α → Prop} {r : Res α} {f : α → Res D} {Q : VK} {W : ω → Hp → Prop} (k : PoW K xm σ F H (r.bind f) Q) (n : ∀ a w F1 H1, Gr F H F1 H1 → R F1 w a → PoW K xm σ F1 H1 (f a) Q → W w H1) : Po R K xm σ F H r W := by
  cases r with
  | ok a => exact fun w F1 H1 g d => n a w F1 H1 g d (PoW.mono k g)
  | exc x => exact k
  | bad => exact k
theorem PoW.ite {b : Bool} {r : Res D} {Q : VK} (k : PoW K xm σ F H (if b = true then r else .bad) Q) : b = true ∧ PoW K xm σ F H r Q := by
  cases b with
  | true => exact ⟨rfl, by rwa [if_pos rfl] at k⟩
  | false =>
    rw [if_neg Bool.false_ne_true] at k
    exact k.elim
theorem PoW.new {d : D} {Q : VK} {p : Addr} {o : HO} (k : PoW K xm σ F H (.ok d) Q) (s : Same F H) (hp : H p = none) (h : Ow K F (upd H p o) p d) : Q (.ref p) (upd H p o) := k p F _ (.hid s hp) hp (s.free hp) h
theorem fw_lst {es : List Expr} {pos : Pos} {f : VEnv → Res (List D)} (h : FA K xm X es f) : FW' K xm X (.List es pos) (eLst f) :=
  PE.to (pe_lst h) fun σ H Q ⟨F, ρ, sF, vw, k⟩ => ⟨F, ρ, sF, vw, PoW.seq k fun a xs F1 H1 g1 d1 k1 => by
    obtain ⟨f, k1⟩ := PoW.ite k1
    exact ⟨by rw [d1.length]; exact Nat.le_of_lt (fit_line f), fun p hp => k1.new g1.fh hp ⟨xs, upd_same, d1⟩⟩⟩
theorem fw_dct0 {pos : Pos} : FW' K xm X (.Dict [] [] pos) eDct0 := PE.to pe_dnewK fun σ H Q ⟨F, ρ, sF, vw, k⟩ p hp => PoW.new k sF hp ⟨[], upd_same, .nil, rfl⟩
def dCat : D → D → Res D
  | .lst a, .lst b => if fit (a.length + b.length) = true then .ok (.lst (a ++ b)) else .bad
  | _, _ => .bad
/-! ### x = e, e new -/
def immO : D → Bool
  | .lst ds => imms ds
  | .dct _ ds => imms (ds.map (·.2))
  | _ => false
def aftO (L : List Nat) (d : D) (ρ : Env) : Env := if immO d = true then ρ else shut L ρ
theorem Ow.tups {F' : Hp} {p : Addr} {d : D} (s : Tups F F') (i : immO d = true) (h : Ow K F H p d) : Ow K F' H p d := by
  unfold Ow at h ⊢
  split at h
  · obtain ⟨xs, h1, h2⟩ := h
    exact ⟨xs, h1, DtAll.tups s i h2⟩
  · obtain ⟨kvs, h1, h2, h3⟩ := h
    exact ⟨kvs, h1, DtAll.tups s i h2, h3⟩
  · obtain ⟨kvs, h1, h2, h3⟩ := h
    exact ⟨kvs, h1, DtAll.tups s i h2, h3⟩
  · exact h.elim
theorem Rl.aftO (r : Rl K B σ H ρ F) {L : List Nat} {F' H' : Hp} (g : Gr (lend σ ρ L F H) H F' H') {p : Addr} {d : D} (fp : F' p = none) (h : Ow K F' H' p d) : ∃ F2, Rl K B σ H' (aftO L d ρ) F2 ∧ Ow K F2 H' p d ∧ F2 p = none := by
  unfold Du.aftO
  by_cases i : immO d = true
  · rw [if_pos i]
    refine ⟨_, r.back g, Ow.tups (r.back_dts g) i h, ?_⟩
    unfold unlend
    split
    · rfl
    · exact fp
  · rw [if_neg i]
    exact ⟨_, r.shutted g, h, fp⟩
theorem aftO_own {L : List Nat} {d e : D} {t : Bool} {i : Nat} (h : (aftO L d ρ)[i]? = some (some (.own t e))) : ρ[i]? = some (some (.own t e)) := by
  unfold aftO at h
  split at h
  · exact h
  · rw [shut_get] at h
    obtain ⟨s, h1, h2⟩ := Option.map_eq_some_iff.mp h
    cases s with
    | none => cases h2
    | some s =>
      cases s with
      | frz e => cases h2
      | own t e =>
        unfold shutS at h2
        dsimp only at h2
        by_cases c : L.contains i = true
        · rw [if_pos c] at h2; cases h2
        · rw [if_neg c] at h2
          cases h2
          exact h1
theorem tW.at {L : List Nat} {f : VEnv → Res D} {k : D → Out} {Q : VK} (r : Rl K B σ H ρ F) (h : So K xm B Dn (eAt L f ρ k)) (n : ∀ d p H' F', H p = none → Rl K B σ H' (aftO L d ρ) F' → Ow K F' H' p d → F' p = none → So K xm B Dn (k d) → Q (.ref p) H') : tW K xm f σ H Q := by
  refine ⟨_, _, r.lend_fh L, r.view L, ?_⟩
  unfold eAt at h
  cases e : f (view L ρ) with
  | ok d =>
    rw [e] at h
    intro p F' H' g hp fp ow
    obtain ⟨F2, r2, h2, h3⟩ := r.aftO g fp ow
    exact n d p H' F2 hp r2 h2 h3 h
  | exc x =>
    rw [e] at h
    exact exc_at r h
  | bad => rw [e] at h; exact h.elim
def sOwn (i : Nat) (L : List Nat) (f : VEnv → Res D) : Env → Out := fun ρ => eAt L f ρ fun d => .nx ((aftO L d ρ).set i (some (.own false d)))
theorem own_set {L : List Nat} {d : D} {p : Addr} {F' H' : Hp} {i : Nat} (r0 : Rl K B σ H ρ F) (hp : H p = none) (r : Rl K B σ H' (aftO L d ρ) F') (ow : Ow K F' H' p d) (fp : F' p = none) : Rl K B (σ.set i (some (.ref p))) H' ((aftO L d ρ).set i (some (.own false d))) F' := by
  refine r.setOwn ow fp (r0.bh.free hp) fun j t e h1 h2 => ?_
  have h3 := aftO_own h1
  obtain ⟨p', q1, q2, q3, q4⟩ := r0.ow j _ e h3
  rw [h2] at q1
  cases q1
  obtain ⟨o, ho⟩ := q4.some
  rw [hp] at ho
  cases ho
theorem fs_own {x : Str} {e : Expr} {L : List Nat} {f : VEnv → Res D} {p1 pos : Pos} (i : Nat) (he : FW' K xm X e f) (hN : X.N.Nodup) (hi : X.N[i]? = some x := by rfl) (hx : Loc X.env.scope x := by first | exact Or.inl rfl | exact Or.inr rfl) (hf : X.fn x = true ∨ X.env.scope.names.lookup x = some .local := by first | exact .inl rfl | exact .inr rfl)
    (hs : swapsWithSole [.Name x p1] e pos.line X.env = pure false := by rfl) (hw : swappedStores [.Name x p1] e X.env = pure none := by rfl) (h1 : (assignEach [.Name x p1] X.env).map (·.2) = [assign (.Name x p1) X.env] := by rfl) : FS K xm X (.Assign [.Name x p1] e pos) (sOwn i L f) :=
  PS.to (ps_asg he (pg_name hN hi hx hf) hs hw h1) fun Dn σ H ⟨B, ρ, F, r, k⟩ => tW.at r k fun d p H' F' hp r' ow fp k' => k' _ _ _ (own_set r hp r' ow fp)
/-- return e, e new -/
def sRetO (L : List Nat) (f : VEnv → Res D) : Env → Out := fun ρ => eAt L f ρ fun d => .ro d (aftO L d ρ)
theorem fs_retO {e : Expr} {L : List Nat} {f : VEnv → Res D} {pos : Pos} (he : FW' K xm X e f) : FS K xm X (.Return (some e) pos) (sRetO L f) :=
  PS.to (ps_ret he) fun Dn σ H ⟨B, ρ, F, r, k⟩ => tW.at r k fun d p H' F' hp r' ow fp k' => k' p _ _ _ r' fp (r.bh.free hp) ow
/-- return x, x an own one -/
def sRetS (i : Nat) : Env → Out := fun ρ => match ρ[i]? with
  | some (some (.own _ d)) => .ro d (ρ.set i none)
  | _ => .bad
/-- x = [e for ..], on one line, x no cell -/
theorem fs_ownLc {y : Str} {py : Pos} {elt tg iter : Expr} {ifs : List Expr} {scope : Scope} {pos spos : Pos} {L : List Nat} {it : VEnv → Res (List D)} {g : Tgt} {c : VEnv → Res Bool} {f : VEnv → Res D} (i : Nat) (own : List (Str × Nat)) (hN : X.N.Nodup) (hi : FI K xm X tg iter it)
    (hg : ∀ (s : Shared) (H : Hp) (C : Addr) (cl : List (Str × Addr)) (fp : List Addr), FG K (X.blk s H scope (compEnvC scope cl C X.env) fp) tg g) (ht : ∀ (s : Shared) (H : Hp) (C : Addr) (cl : List (Str × Addr)) (fp : List Addr), FTs K (X.blk s H scope (compEnvC scope cl C X.env) fp) ifs c)
    (he : ∀ (s : Shared) (H : Hp) (C : Addr) (cl : List (Str × Addr)) (fp : List Addr), FE K none (X.blk s H scope (compEnvC scope cl C X.env) fp) elt f)
    (ok : BlkOk X.N X.env.scope scope own) (hsw : swapsWith (.ListComp elt [⟨tg, iter, ifs, 0⟩] scope pos) (some (.Name y py)) spos.line X.env = pure true) (hy : X.N[i]? = some y := by rfl) (hyl : X.env.scope.names.lookup y = some .local := by rfl) (hc : X.calm = true := by rfl) (hs : ∀ x, foldedSetIterable iter X.env x = pure x := by intro _; rfl) :
    FS K xm X (.Assign [.Name y py] (.ListComp elt [⟨tg, iter, ifs, 0⟩] scope pos) spos) (sOwn i L (eComp (own.map (·.2)) it g c f)) :=
  PS.to (ps_setLc (i := i) hc hN hy hyl hsw hi ok hg ht he hs) fun Dn σ H ⟨B, ρ, F, r, k⟩ => by
    have m : ∀ σ H Q, tW K xm (eComp (own.map (·.2)) it g c f) σ H Q → tLc (iF K xm it) (gF K g) (bF K none c) (tF K none f) (own.map (·.2)) σ H Q := fun σ H Q ⟨F, ρ, sF, vw, k⟩ => ⟨F, ρ, sF, vw, PoW.seq k fun ds J F1 H1 g1 y k1 p hp => by
      obtain ⟨hz, k2⟩ := PoW.ite k1
      cases e : compL g c f (wipeD ρ (own.map (·.2))) (own.map (·.2)) ds with
      | exc x => rw [e] at k2; exact k2.elim
      | bad => rw [e] at k2; exact k2.elim
      | ok es =>
        rw [e] at k2
        exact comp_loop g1.fh (vw.same g1.ff) y hp hz e fun F' H' acc g fp ep dd => k2 p F' H' g hp fp ⟨acc, ep, dd⟩⟩
    exact m _ _ _ (tW.at r k fun d p H' F' hp r' ow fp k' => k' _ _ _ (own_set r hp r' ow fp))
/-! ### methods that change an own list -/
def ownL (ρ : Env) (i : Nat) : Option (Bool × List D) := match ρ[i]? with
  | some (some (.own t (.lst ds))) => some (t, ds)
  | _ => none
theorem ownL_of {ρ : Env} {i : Nat} {t : Bool} {ds : List D} (h : ownL ρ i = some (t, ds)) : ρ[i]? = some (some (.own t (.lst ds))) := by
  unfold ownL at h
  split at h
  · rename_i e
    cases h
    exact e
  · cases h
def oNx (o : Option Env) : Out := match o with
  | some ρ => .nx ρ
  | none => .bad
/-- the own list at slot i becomes f of it -/
def chg (ρ : Env) (i : Nat) (f : List D → Option (List D)) : Out := match ownL ρ i with
  | some (t, ds) => match f ds with
    | some es => .nx (ρ.set i (some (.own t (.lst es))))
    | none => .bad
  | none => .bad
def sApp (i : Nat) (L : List Nat) (f : VEnv → Res D) : Env → Out := fun ρ => eAt L f ρ fun d => chg (aft L d ρ) i fun ds => if fit ds.length = true then some (ds ++ [d]) else none
theorem So.chgE {i : Nat} {f : List D → Option (List D)} (k : So K xm B Dn (chg ρ i f)) : ∃ t ds es, ρ[i]? = some (some (.own t (.lst ds))) ∧ f ds = some es ∧ So K xm B Dn (.nx (ρ.set i (some (.own t (.lst es))))) := by
  unfold chg at k
  cases e : ownL ρ i with
  | none => rw [e] at k; exact k.elim
  | some td =>
    obtain ⟨t, ds⟩ := td
    rw [e] at k
    dsimp only at k
    cases e2 : f ds with
    | none => rw [e2] at k; exact k.elim
    | some es => rw [e2] at k; exact ⟨t, ds, es, ownL_of e, e2, k⟩
/-- an own list at slot i, else nothing -/
def need (i : Nat) (g : Env → Out) : Env → Out := fun ρ => match ownL ρ i with
  | some _ => g ρ
  | none => .bad
theorem So.needE {i : Nat} {g : Env → Out} (k : So K xm B Dn (need i g ρ)) : (∃ t ds, ρ[i]? = some (some (.own t (.lst ds)))) ∧ So K xm B Dn (g ρ) := by
  unfold need at k
  cases e : ownL ρ i with
  | none => rw [e] at k; exact k.elim
  | some td => rw [e] at k; exact ⟨⟨td.1, td.2, ownL_of e⟩, k⟩
theorem Rl.ownAt (r : Rl K B σ H ρ F) {i : Nat} {t : Bool} {ds : List D} (h : ρ[i]? = some (some (.own t (.lst ds)))) : ∃ p xs, σ[i]? = some (some (.ref p)) ∧ H p = some (.lst xs) ∧ DtAll K F xs ds ∧ F p = none := by
  obtain ⟨p, q1, q2, q3, xs, q4, q5⟩ := r.ow i _ _ h
  exact ⟨p, xs, q1, q4, q5, q2⟩
theorem fs_app {x : Str} {e : Expr} {L : List Nat} {f : VEnv → Res D} {p1 apos cpos pos : Pos} (i : Nat) (he : FE K xm X e f) (hN : X.N[i]? = some x := by rfl) (hv : Vis X.env.scope x := by first | exact Or.inl rfl | exact Or.inr (Or.inl rfl) | exact Or.inr (Or.inr rfl)) (hd : (x == ("__debug__" : Str)) = false := by decide)
    (hcd : (x == ("__classdict__" : Str)) = false := by decide) (hbase : attributeBase (.Name x p1) "append" X.env (eval (.Name x p1) X.env) = eval (.Name x p1) X.env := by rfl)
    (hfew : ((backTo cpos (starEach [e] X.env)).all (fun x => !x.1) && (backToKw cpos (keywordEach [] X.env)).all (fun x => x.1.isSome) && decide (([e] : List Expr).length + ([] : List Keyword).length + (if ([] : List Keyword).isEmpty then 0 else 1) < 30)) = true := by rfl)
    (hline : (apos.endLine == cpos.line) = true := by rfl) (hs : starEach [e] X.env = (false, eval e X.env) :: starEach [] X.env := by rfl) (hplain : (backTo cpos (starEach [] X.env)).any (·.1) = false := by rfl)
    (hsw : swapsWith (.Call (.Attribute (.Name x p1) "append" apos) [e] [] cpos) none pos.line X.env = pure false := by rfl) : FS K xm X (.Expr (.Call (.Attribute (.Name x p1) "append" apos) [e] [] cpos) pos) (need i (sApp i L f)) :=
  PS.to (ps_expr (pe_bm PySem.F.plainAttrs_list PySem.F.slot_list_append PySem.F.type_list_append mt_append (pv i hN hv hd hcd) (pa_cons he pa_nil hs) hbase hfew hline hs hplain) hsw) fun Dn σ H ⟨B, ρ, F, r, k⟩ => by
    obtain ⟨⟨t, ds, hi⟩, k⟩ := k.needE
    obtain ⟨p, xs, q1, q2, q3, q4⟩ := r.ownAt hi
    refine ⟨.ref p, q1, .inl ⟨rfl, _, SqL.of q2⟩, tF.at r k fun d v H' F' _ r' dv ff hh k' => ?_⟩
    obtain ⟨t', ds', es, h1, h2, k2⟩ := k'.chgE
    obtain ⟨p', xs', w1, w2, w3, w4⟩ := r'.ownAt h1
    rw [q1] at w1
    cases w1
    by_cases f : fit ds'.length = true
    · rw [if_pos f] at h2
      cases h2
      refine ⟨p, xs', v, rfl, rfl, w2, by rw [w3.length]; exact fit_line f, k2 _ _ _ (r'.write h1 q1 ⟨_, upd_same, w3.app (.cons dv .nil)⟩)⟩
    · rw [if_neg f] at h2
      cases h2
end
end Du

namespace Du
open PySem PySem.Spec PyProof.Rows L2
section
variable {K : PySem.W.Frag} {xm : XMo} {X : Cx} {B : Bs} {F H : Hp} {σ : St} {ρ : Env} {Dn : Ends}
/-! ### x.extend(e) -/
def dLst : D → Res (List D)
  | .lst ds => .ok ds
  | _ => .bad
def eLs (f : VEnv → Res D) : VEnv → Res (List D) := fun ρ => (f ρ).bind dLst
/-- a list at a statement, taken apart -/
theorem tF.atL {L : List Nat} {f : VEnv → Res D} {k : List D → Out} {Q : VK} (r : Rl K B σ H ρ F) (h : So K xm B Dn (eAt L (eLs f) ρ k)) (n : ∀ ds p xs H' F', H' p = some (.lst xs) → Rl K B σ H' (aftL L ds ρ) F' → DtAll K F' xs ds → Same F F' → So K xm B Dn (k ds) → Q (.ref p) H') : tF K xm f σ H Q := by
  refine ⟨_, _, r.lend_fh L, r.view L, ?_⟩
  unfold eAt eLs at h
  cases e : f (view L ρ) with
  | ok d =>
    rw [e] at h
    cases d with
    | lst ds =>
      intro v F' H' g hd
      obtain ⟨p, xs, rfl, h1, h2⟩ := hd.lstE
      obtain ⟨F2, r2, h3, h4, _⟩ := r.aftL g h2
      exact n ds p xs H' F2 (g.fh _ _ h1) r2 h3 h4 h
    | _ => exact h.elim
  | exc x =>
    rw [e] at h
    exact exc_at r h
  | bad => rw [e] at h; exact h.elim
def sExt (i : Nat) (L : List Nat) (f : VEnv → Res D) : Env → Out := fun ρ => eAt L (eLs f) ρ fun es => chg (aftL L es ρ) i fun ds => if fit (ds.length + es.length) = true then some (ds ++ es) else none
theorem fs_ext {x : Str} {e : Expr} {L : List Nat} {f : VEnv → Res D} {p1 apos cpos pos : Pos} (i : Nat) (he : FE K xm X e f) (hN : X.N[i]? = some x := by rfl) (hv : Vis X.env.scope x := by first | exact Or.inl rfl | exact Or.inr (Or.inl rfl) | exact Or.inr (Or.inr rfl)) (hd : (x == ("__debug__" : Str)) = false := by decide)
    (hcd : (x == ("__classdict__" : Str)) = false := by decide) (hbase : attributeBase (.Name x p1) "extend" X.env (eval (.Name x p1) X.env) = eval (.Name x p1) X.env := by rfl)
    (hfew : ((backTo cpos (starEach [e] X.env)).all (fun x => !x.1) && (backToKw cpos (keywordEach [] X.env)).all (fun x => x.1.isSome) && decide (([e] : List Expr).length + ([] : List Keyword).length + (if ([] : List Keyword).isEmpty then 0 else 1) < 30)) = true := by rfl)
    (hline : (apos.endLine == cpos.line) = true := by rfl) (hs : starEach [e] X.env = (false, eval e X.env) :: starEach [] X.env := by rfl) (hplain : (backTo cpos (starEach [] X.env)).any (·.1) = false := by rfl)
    (hsw : swapsWith (.Call (.Attribute (.Name x p1) "extend" apos) [e] [] cpos) none pos.line X.env = pure false := by rfl) : FS K xm X (.Expr (.Call (.Attribute (.Name x p1) "extend" apos) [e] [] cpos) pos) (need i (sExt i L f)) :=
  PS.to (ps_expr (pe_bm PySem.F.plainAttrs_list PySem.F.slot_list_extend PySem.F.type_list_extend mt_extend (pv i hN hv hd hcd) (pa_cons he pa_nil hs) hbase hfew hline hs hplain) hsw) fun Dn σ H ⟨B, ρ, F, r, k⟩ => by
    obtain ⟨⟨t, ds, hi⟩, k⟩ := k.needE
    obtain ⟨p, xs, q1, q2, q3, q4⟩ := r.ownAt hi
    refine ⟨.ref p, q1, .inl ⟨rfl, _, SqL.of q2⟩, tF.atL r k fun es b zs H' F' hb r' dv ff k' => ?_⟩
    obtain ⟨t', ds', es', h1, h2, k2⟩ := k'.chgE
    obtain ⟨p', xs', w1, w2, w3, w4⟩ := r'.ownAt h1
    rw [q1] at w1
    cases w1
    by_cases f : fit (ds'.length + es.length) = true
    · rw [if_pos f] at h2
      cases h2
      exact ⟨p, b, xs', zs, rfl, rfl, w2, hb, by rw [w3.length, dv.length]; exact Nat.le_of_lt (fit_line f), k2 _ _ _ (r'.write h1 q1 ⟨_, upd_same, w3.app dv⟩)⟩
    · rw [if_neg f] at h2
      cases h2
/-! ### x.clear(), y = x.pop() -/
def sClr (i : Nat) : Env → Out := fun ρ => chg ρ i fun _ => some []
def sPop (i : Nat) (tg : Tgt) : Env → Out := fun ρ => match ownL ρ i with
  | some (t, ds) => match ds[ds.length - 1]? with
    | some d => match tg d with
      | .ok as => .nx (setS (ρ.set i (some (.own t (.lst ds.dropLast)))) as)
      | _ => .bad
    | none => .bad
  | none => .bad
theorem DtAll.dropLast {F : Hp} {vs : List V} {ds : List D} (h : DtAll K F vs ds) : DtAll K F vs.dropLast ds.dropLast := by
  rw [List.dropLast_eq_take, List.dropLast_eq_take, h.length]
  exact h.take _
/-! ### x.insert(i, e) -/
def sIns (i : Nat) (L : List Nat) (f : VEnv → Res (List D)) : Env → Out := fun ρ => eAt L f ρ fun as => match as with
  | [.int n, d] => chg (aftL L as ρ) i fun ds => if (fit ds.length && decide (0 ≤ n ∧ n ≤ ds.length)) = true then some (ds.take n.toNat ++ d :: ds.drop n.toNat) else none
  | _ => .bad
theorem aF.at {L : List Nat} {f : VEnv → Res (List D)} {k : List D → Out} {Q : List V → Hp → Prop} (r : Rl K B σ H ρ F) (h : So K xm B Dn (eAt L f ρ k)) (n : ∀ ds vs H' F', Rl K B σ H' (aftL L ds ρ) F' → DtAll K F' vs ds → Same F F' → So K xm B Dn (k ds) → Q vs H') : aF K xm f σ H Q := by
  refine ⟨_, _, r.lend_fh L, r.view L, ?_⟩
  unfold eAt at h
  cases e : f (view L ρ) with
  | ok d =>
    rw [e] at h
    intro v F' H' g hd
    obtain ⟨F2, r2, h2, h3, _⟩ := r.aftL g hd
    exact n d v H' F2 r2 h2 h3 h
  | exc x =>
    rw [e] at h
    exact exc_at r h
  | bad => rw [e] at h; exact h.elim
/-! ### a, b = e1, e2 -/
def sPar (i j : Nat) (L : List Nat) (f : VEnv → Res (List D)) : Env → Out := fun ρ => eAt L f ρ fun as => match as with
  | [a, b] => .nx (((aftL L as ρ).set i (some (.frz a))).set j (some (.frz b)))
  | _ => .bad
theorem fs_par {x y : Str} {a b : Expr} {L : List Nat} {f : VEnv → Res (List D)} {px py pt pos : Pos} {kt k2 pt2} (i j : Nat) (hN : X.N.Nodup) (ha : FA K xm X [a, b] f) (hi : X.N[i]? = some x := by rfl) (hj : X.N[j]? = some y := by rfl) (hij : i ≠ j := by decide) (hc : X.calm = true := by rfl)
    (hx : X.env.scope.names.lookup x = some .local := by rfl) (hy : X.env.scope.names.lookup y = some .local := by rfl) (hw : swappedStores [.Tuple [.Name x px, .Name y py] kt pt] (.Tuple [a, b] k2 pt2) X.env = pure (some [x, y]) := by rfl)
    (hs : swapsWithSole [.Tuple [.Name x px, .Name y py] kt pt] (.Tuple [a, b] k2 pt2) pos.line X.env = pure false := by rfl) : FS K xm X (.Assign [.Tuple [.Name x px, .Name y py] kt pt] (.Tuple [a, b] k2 pt2) pos) (sPar i j L f) :=
  PS.to (ps_par hc hN hi hj hij hx hy ha hw hs) fun Dn σ H ⟨B, ρ, F, r, k⟩ => aF.at r k fun ds vs H' F' r' dv _ k' => by
    split at k'
    · obtain ⟨v, w, rfl, d1, d2⟩ := dv.two
      exact ⟨v, w, rfl, k' _ _ _ ((r'.set d1).set d2)⟩
    · exact k'.elim
/-! ### x[k] = e: an own list, an own dict -/
def sPutL (i : Nat) (L : List Nat) (fv fk : VEnv → Res D) : Env → Out := fun ρ => eAt L fv ρ fun d => need i (fun ρ' => eAt [] fk ρ' fun n => match n with
  | .int n => chg ρ' i fun ds => match ixN ds.length n with
    | some j => some (ds.set j d)
    | none => none
  | _ => .bad) (aft L d ρ)
theorem shut_nil : ∀ (n : Nat) (ρ : Env), shutI [] n ρ = ρ
  | _, [] => rfl
  | n, none :: r => by rw [shutI, shut_nil (n + 1) r]; rfl
  | n, some (.frz d) :: r => by rw [shutI, shut_nil (n + 1) r]; rfl
  | n, some (.own t d) :: r => by rw [shutI, shut_nil (n + 1) r]; rfl
theorem aft_nil (d : D) (ρ : Env) : aft [] d ρ = ρ := by
  unfold aft shut
  rw [shut_nil, ite_self]
theorem fs_putL {x : Str} {e ik : Expr} {L : List Nat} {fv fk : VEnv → Res D} {p1 p2 pos : Pos} (i : Nat) (he : FE K xm X e fv) (hk : FE K xm X ik fk) (hN : X.N[i]? = some x := by rfl) (hv : Vis X.env.scope x := by first | exact Or.inl rfl | exact Or.inr (Or.inl rfl) | exact Or.inr (Or.inr rfl)) (hd : (x == ("__debug__" : Str)) = false := by decide)
    (hcd : (x == ("__classdict__" : Str)) = false := by decide) (ha : ∀ v, assign (.Subscript (.Name x p1) ik p2) X.env v = (do
      let ov ← holding [v] (eval (.Name x p1) X.env)
      let iv ← holding [v, ov] (eval ik X.env)
      standAt p2
      holding [v, ov, iv] (setItem ov iv v)
      release [v, ov, iv] []) := by intro _; rfl) (hs : swapsWithSole [.Subscript (.Name x p1) ik p2] e pos.line X.env = pure false := by rfl) (hw : swappedStores [.Subscript (.Name x p1) ik p2] e X.env = pure none := by rfl)
    (h1 : (assignEach [.Subscript (.Name x p1) ik p2] X.env).map (·.2) = [assign (.Subscript (.Name x p1) ik p2) X.env] := by rfl) : FS K xm X (.Assign [.Subscript (.Name x p1) ik p2] e pos) (sPutL i L fv fk) :=
  PS.to (ps_asg he (pg_sub (pv i hN hv hd hcd) hk set_list ha) hs hw h1) fun Dn σ H ⟨B, ρ, F, r, k⟩ => tF.at r k fun d v H' F' _ r' dv _ _ k' => by
    obtain ⟨⟨t, ds, hi⟩, k'⟩ := k'.needE
    obtain ⟨p, xs, q1, q2, q3, q4⟩ := r'.ownAt hi
    refine ⟨.ref p, q1, tF.at r' k' fun n w H2 F2 en r2 dw f2 h2 k2 => ?_⟩
    rw [aft_nil] at r2
    clear en
    split at k2
    · rename_i n
      obtain ⟨t', ds', es, h1, h3, k3⟩ := k2.chgE
      obtain ⟨p', xs', w1, w2, w3, w4⟩ := r2.ownAt h1
      rw [q1] at w1
      cases w1
      split at h3
      · rename_i j ej
        cases h3
        rw [dw.intE]
        exact ⟨p, xs', n, j, rfl, rfl, w2, by rw [w3.length]; exact ej, k3 _ _ _ (r2.write h1 q1 ⟨_, upd_same, DtAll.set (dv.same f2) _ w3⟩)⟩
      · cases h3
    · exact k2.elim
/-! dicts -/
noncomputable def dPut (kvs : List (D × D)) (k v : D) : List (D × D) := if (dGet kvs k).isSome = true then kvs.map (fun p => if p.1 = k then (p.1, v) else p) else kvs ++ [(k, v)]
def ownD (ρ : Env) (i : Nat) : Option (Bool × List (D × D)) := match ρ[i]? with
  | some (some (.own t (.dct false ds))) => some (t, ds)
  | _ => none
theorem ownD_of {ρ : Env} {i : Nat} {t : Bool} {ds : List (D × D)} (h : ownD ρ i = some (t, ds)) : ρ[i]? = some (some (.own t (.dct false ds))) := by
  unfold ownD at h
  split at h
  · rename_i e
    cases h
    exact e
  · cases h
def needD (i : Nat) (g : Env → Out) : Env → Out := fun ρ => match ownD ρ i with
  | some _ => g ρ
  | none => .bad
theorem So.needDE {i : Nat} {g : Env → Out} (k : So K xm B Dn (needD i g ρ)) : (∃ t ds, ρ[i]? = some (some (.own t (.dct false ds)))) ∧ So K xm B Dn (g ρ) := by
  unfold needD at k
  cases e : ownD ρ i with
  | none => rw [e] at k; exact k.elim
  | some td => rw [e] at k; exact ⟨⟨td.1, td.2, ownD_of e⟩, k⟩
def chgD (ρ : Env) (i : Nat) (f : List (D × D) → Option (List (D × D))) : Out := match ownD ρ i with
  | some (t, ds) => match f ds with
    | some es => .nx (ρ.set i (some (.own t (.dct false es))))
    | none => .bad
  | none => .bad
theorem So.chgDE {i : Nat} {f : List (D × D) → Option (List (D × D))} (k : So K xm B Dn (chgD ρ i f)) : ∃ t ds es, ρ[i]? = some (some (.own t (.dct false ds))) ∧ f ds = some es ∧ So K xm B Dn (.nx (ρ.set i (some (.own t (.dct false es))))) := by
  unfold chgD at k
  cases e : ownD ρ i with
  | none => rw [e] at k; exact k.elim
  | some td =>
    obtain ⟨t, ds⟩ := td
    rw [e] at k
    dsimp only at k
    cases e2 : f ds with
    | none => rw [e2] at k; exact k.elim
    | some es => rw [e2] at k; exact ⟨t, ds, es, ownD_of e, e2, k⟩
theorem Rl.ownDAt (r : Rl K B σ H ρ F) {i : Nat} {t : Bool} {ds : List (D × D)} (h : ρ[i]? = some (some (.own t (.dct false ds)))) : ∃ p kvs, σ[i]? = some (some (.ref p)) ∧ H p = some (.dK kvs) ∧ DtAll K F (kvs.map (·.2)) (ds.map (·.2)) ∧ ds.map (·.1) = kvs.map (fun p => keyD p.1) := by
  obtain ⟨p, q1, q2, q3, kvs, q4, q5, q6⟩ := r.ow i _ _ h
  exact ⟨p, kvs, q1, q4, q5, q6⟩
theorem repl_of {F : Hp} {k : Key} {v : V} {d : D} (hd : Dt K F v d) : ∀ {kvs : List (Key × V)} {ds : List (D × D)}, DtAll K F (kvs.map (·.2)) (ds.map (·.2)) → ds.map (·.1) = kvs.map (fun p => keyD p.1) →
    DtAll K F ((kvs.map fun kv => if kv.1 = k then (kv.1, v) else kv).map (·.2)) ((ds.map fun p => if p.1 = keyD k then (p.1, d) else p).map (·.2)) ∧ (ds.map fun p => if p.1 = keyD k then (p.1, d) else p).map (·.1) = (kvs.map fun kv => if kv.1 = k then (kv.1, v) else kv).map (fun p => keyD p.1)
  | [], [], _, _ => ⟨.nil, rfl⟩
  | [], _ :: _, _, e => by simp at e
  | _ :: _, [], _, e => by simp at e
  | p :: kvs, q :: ds, h, e => by
    simp only [List.map_cons] at h e
    cases h with
    | cons h1 h2 =>
      injection e with e1 e2
      obtain ⟨i1, i2⟩ := repl_of hd h2 e2
      simp only [List.map_cons]
      by_cases c : p.1 = k
      · have c' : q.1 = keyD k := by rw [e1, c]
        rw [if_pos c, if_pos c']
        exact ⟨.cons hd i1, by rw [i2, e1]⟩
      · have c' : ¬ q.1 = keyD k := fun z => c (keyD_inj (by rw [← e1, z]))
        rw [if_neg c, if_neg c']
        exact ⟨.cons h1 i1, by rw [i2, e1]⟩
theorem put_of {F : Hp} {k : Key} {v : V} {d : D} {kvs : List (Key × V)} {ds : List (D × D)} (hd : Dt K F v d) (h : DtAll K F (kvs.map (·.2)) (ds.map (·.2))) (e : ds.map (·.1) = kvs.map (fun p => keyD p.1)) :
    DtAll K F ((putK kvs k v).map (·.2)) ((dPut ds (keyD k) d).map (·.2)) ∧ (dPut ds (keyD k) d).map (·.1) = (putK kvs k v).map (fun p => keyD p.1) := by
  have g := (dGet_of (k := k) h e).2
  unfold dPut putK
  have v2 := valV_any k kvs
  by_cases c : (dGet ds (keyD k)).isSome = true
  · rw [if_pos c]
    rw [g, ← v2] at c
    rw [if_pos c]
    exact repl_of hd h e
  · rw [if_neg c]
    rw [g, ← v2] at c
    rw [if_neg c, List.map_append, List.map_append, List.map_append, List.map_append, e]
    exact ⟨h.app (.cons hd .nil), rfl⟩
noncomputable def sPutD (i : Nat) (L : List Nat) (fv fk : VEnv → Res D) : Env → Out := fun ρ => eAt L fv ρ fun d => needD i (fun ρ' => eAt [] fk ρ' fun n => chgD ρ' i fun ds => if (dKeyOk n && fit ds.length) = true then some (dPut ds n d) else none) (aft L d ρ)
theorem fs_putD {x : Str} {e ik : Expr} {L : List Nat} {fv fk : VEnv → Res D} {p1 p2 pos : Pos} (i : Nat) (hu : X.A.units + 1 < cLine) (he : FE K xm X e fv) (hk : FE K xm X ik fk) (hN : X.N[i]? = some x := by rfl) (hv : Vis X.env.scope x := by first | exact Or.inl rfl | exact Or.inr (Or.inl rfl) | exact Or.inr (Or.inr rfl)) (hd : (x == ("__debug__" : Str)) = false := by decide)
    (hcd : (x == ("__classdict__" : Str)) = false := by decide) (hs : swapsWith e (some (.Subscript (.Name x p1) ik p2)) pos.line X.env = pure false := by rfl) : FS K xm X (.Assign [.Subscript (.Name x p1) ik p2] e pos) (sPutD i L fv fk) :=
  PS.to (ps_dput hu (pv i hN hv hd hcd) hk he hs) fun Dn σ H ⟨B, ρ, F, r, k⟩ => tF.at r k fun d v H' F' _ r' dv _ _ k' => by
    obtain ⟨⟨t, ds, hi⟩, k'⟩ := k'.needDE
    obtain ⟨p, kvs, q1, q2, q3, q4⟩ := r'.ownDAt hi
    refine ⟨.ref p, q1, tF.at r' k' fun n w H2 F2 _ r2 dw f2 h2 k2 => ?_⟩
    rw [aft_nil] at r2
    obtain ⟨t', ds', es, h1, h3, k3⟩ := k2.chgDE
    obtain ⟨p', kvs', w1, w2, w3, w4⟩ := r2.ownDAt h1
    rw [q1] at w1
    cases w1
    by_cases c : (dKeyOk n && fit ds'.length) = true
    · rw [if_pos c] at h3
      cases h3
      rw [Bool.and_eq_true] at c
      obtain ⟨key, rfl, rfl⟩ := keyE dw c.1
      have lk : kvs'.length = ds'.length := by
        have := congrArg List.length w4
        rw [List.length_map, List.length_map] at this
        exact this.symm
      obtain ⟨z1, z2⟩ := put_of (k := key) (dv.same f2) w3 w4
      exact ⟨p, _, rfl, .k w2 (by rw [lk]; exact fit_line c.2), k3 _ _ _ (r2.write h1 q1 ⟨_, upd_same, z1, z2⟩)⟩
    · rw [if_neg c] at h3
      cases h3
/-! ### raise -/
def sRaise (x : Ex) : Env → Out := fun ρ => .ex x ρ
/-- raise C("..."), C an own class without an own __init__ -/
theorem fs_raiseN {mg : Str → Option Value} {W : WX} {c : Str} {C : Addr} {m : Str} {j : Nat} {p p2 pos ps : Pos} (tk : Takes X W) (T : Dear.ExOwn X.K X.mg c C) (hmg : X.mg = mg := by rfl) (hc : X.calm = true := by rfl) (hg : Gl X c := by rfl) (hdb : (c == ("__debug__" : Str)) = false := by decide) :
    FS K (some ⟨mg, W⟩) X (.Raise (some (.Call (.Name c p) [.Constant (.str m) j p2] [] pos)) none ps) (sRaise ⟨c, []⟩) :=
  PS.to (ps_raise hc tk (pmk_own PySem.F.excBase_ValueError T.x T.g T.k (raises_own T.b T.t) hg hdb)) fun Dn σ H ⟨B, ρ, F, r, k⟩ => k (.ref C) none σ H F r ⟨by rw [← hmg]; exact T.g, rfl⟩
/-- may stand in an exception's field -/
def fmtOk : D → Bool
  | .non => true
  | .str y => Nat.ble y.length 900
  | .int i => decide (i.natAbs < 2 ^ 64)
  | _ => false
theorem fmt_of {v : V} {d : D} (h : Dt K F v d) (o : fmtOk d = true) : Dear.FmtV v := by
  cases h with
  | non => exact .inl rfl
  | str y => exact .inr (.inl ⟨y, rfl, Nat.le_of_ble_eq_true o⟩)
  | int i => exact .inr (.inr ⟨i, rfl, of_decide_eq_true o⟩)
  | _ => cases o
def sRaiseI (c f : Str) (L : List Nat) (fa : VEnv → Res D) : Env → Out := fun ρ => eAt L fa ρ fun d => if fmtOk d = true then .ex ⟨c, [(f, d)]⟩ (aft L d ρ) else .bad
theorem fs_raiseI0 {st : Stmt} {c f : Str} {L : List Nat} {fa : VEnv → Res D} : FS K none X st (sRaiseI c f L fa) := PS.to ps_never fun Dn σ H ⟨B, ρ, F, r, k⟩ => by
  unfold sRaiseI eAt at k
  split at k
  · dsimp only at k
    split at k
    · exact k
    · exact k
  · exact k
  · exact k
theorem fs_raiseI {mg : Str → Option Value} {W : WX} {k' : Nat} {c f : Str} {C : Addr} {e : Expr} {L : List Nat} {fa : VEnv → Res D} {p pos ps : Pos} (tk : Takes X W) (O : Dear.OkI X.prog X.w X.K X.mg X.base c f C) (hr : Room k' X.A) (he : FE K (some ⟨mg, W⟩) X e fa) (hk : 2 ≤ k' := by decide) (hmg : X.mg = mg := by rfl) (hK : X.K = K := by rfl) (hc : X.calm = true := by rfl) (hg : Gl X c := by rfl) (hdb : (c == ("__debug__" : Str)) = false := by decide)
    (hs : starEach [e] X.env = (false, eval e X.env) :: starEach [] X.env := by rfl) (hpl : (backTo pos (starEach [] X.env)).any (·.1) = false := by rfl) : FS K (some ⟨mg, W⟩) X (.Raise (some (.Call (.Name c p) [e] [] pos)) none ps) (sRaiseI c f L fa) := by
  subst hK
  refine PS.to (ps_raise hc tk (Dear.pmk_i O hr (pa_cons he pa_nil hs) hk hg hdb hs hpl)) fun Dn σ H ⟨B, ρ, F, r, k⟩ => tF.at r k fun d v H' F' _ r' dv _ _ k2 => ?_
  by_cases o : fmtOk d = true
  · rw [if_pos o] at k2
    obtain ⟨fI, fd, h1, h2, F1, b, T⟩ := O
    refine Dear.mkx (H := H') (Q := fun cls d H' => W cls d σ H') T (fmt_of dv o) fun dd hd => ?_
    have g := Gr.new (o := .xd [(f, v)]) r'.fh hd
    exact k2 (.ref C) (some dd) σ _ _ (r'.grow g) ⟨by rw [← hmg]; exact T.g, dd, v, rfl, upd_same, dv.same g.ff⟩
  · rw [if_neg o] at k2
    exact k2.elim
end
end Du

namespace Du
open PySem PySem.Spec PyProof.Rows L2
/-! ### a def whose body computes g -/
def ent (n np : Nat) (ds : List D) : Env := ds.map (fun d => some (.frz d)) ++ List.replicate (n - np) none
def outR : Out → Res D
  | .nx _ => .ok .non
  | .rt d _ => .ok d
  | .ro d _ => .ok d
  | .ex x _ => .exc x
  | _ => .bad
def runD (np n : Nat) (g : Env → Out) (ds : List D) : Res D := if ds.length = np then outR (g (ent n np ds)) else .bad
section
variable {P : Program} {w : World} {K : PySem.W.Frag} {mg : Str → Option Value} {base : Heap}
theorem start_get {N : List Str} {vs : List V} {i : Nat} {v : V} (h : vs[i]? = some v) : (L2.start N vs)[i]? = some (some v) := by
  unfold L2.start
  rw [List.getElem?_append_left (by rw [List.length_map]; exact (List.getElem?_eq_some_iff.mp h).1), List.getElem?_map, h]
  rfl
theorem ent_get {n np : Nat} {ds : List D} {i : Nat} {s : Slot} (h : (ent n np ds)[i]? = some (some s)) : ∃ d, ds[i]? = some d ∧ s = .frz d := by
  unfold ent at h
  by_cases hi : i < ds.length
  · rw [List.getElem?_append_left (by rw [List.length_map]; exact hi), List.getElem?_map] at h
    obtain ⟨d, h1, h2⟩ := Option.map_eq_some_iff.mp h
    cases h2
    exact ⟨d, h1, rfl⟩
  · rw [List.getElem?_append_right (by rw [List.length_map]; omega)] at h
    have := List.mem_of_getElem? h
    rw [List.mem_replicate] at this
    cases this.2
theorem Rl.start {N : List Str} {vs : List V} {ds : List D} {G H : Hp} {np : Nat} (s : Same G H) (h : DtAll K G vs ds) (hn : ds.length = np) (hN : np ≤ N.length) : Rl K ⟨H, G, 0⟩ (L2.start N vs) H (ent N.length np ds) G := by
  refine ⟨s, .refl _, fun a o u _ e => ⟨u, e⟩, ?_, fun i d e => ?_, fun i t d e => ?_, fun i j t u d e p h1 h2 => ?_, fun i d p h1 h2 => ?_⟩
  · unfold L2.start ent
    rw [List.length_append, List.length_append, List.length_map, List.length_map, List.length_replicate, List.length_replicate, h.length]
    omega
  · obtain ⟨d', h1, h2⟩ := ent_get e
    cases h2
    obtain ⟨v, q1, q2⟩ := h.at h1
    exact ⟨v, start_get q1, q2⟩
  · obtain ⟨d', h1, h2⟩ := ent_get e
    cases h2
  · obtain ⟨d', _, h2⟩ := ent_get h1
    cases h2
  · obtain ⟨d', _, h2⟩ := ent_get h1
    cases h2
theorem ExIs.same {F G : Hp} {x : Ex} {C : Value} {dd : Option Addr} (h : ExIs K mg x F C dd) (s : Same F G) : ExIs K mg x G C dd := by
  obtain ⟨h1, h2⟩ := h
  refine ⟨h1, ?_⟩
  split at h2
  · exact h2
  · obtain ⟨a, v, e, e2, e3⟩ := h2
    exact ⟨a, v, e, s _ _ e2, e3.same s⟩
  · exact h2
/-- what the promise says of the end -/
theorem Rl.done {G H H' F' : Hp} {σ : St} {ρ : Env} (r : Rl K ⟨H, G, 0⟩ σ H' ρ F') (s : Same G H) : ∃ G', Gr G H G' H' ∧ Same F' G' := by
  refine ⟨both F' G, ⟨r.bh, both_r r.fh (s.trans r.bh), both_in r.fh (s.trans r.bh), fun a o e => ?_⟩, both_l⟩
  rcases both_cases e with z | z
  · cases q : H a with
    | none => exact .inr rfl
    | some u =>
      obtain ⟨v, hv⟩ := r.zf a u o q z
      have e1 := r.fh _ _ z
      have e2 := (s.trans r.bh) _ _ hv
      rw [e1] at e2
      cases e2
      exact .inl hv
  · exact .inl z
theorem Rl.done2 {G H H' F' : Hp} {σ : St} {ρ : Env} {p : Addr} {d : D} (r : Rl K ⟨H, G, 0⟩ σ H' ρ F') (s : Same G H) (fp : F' p = none) (bp : H p = none) (ow : Ow K F' H' p d) : ∃ G', Gr G H G' H' ∧ G' p = none ∧ Ow K G' H' p d := by
  refine ⟨both F' G, ⟨r.bh, both_r r.fh (s.trans r.bh), both_in r.fh (s.trans r.bh), fun a o e => ?_⟩, both_none fp (s.free bp), ow.mono both_l fun _ h => h⟩
  rcases both_cases e with z | z
  · cases q : H a with
    | none => exact .inr rfl
    | some u =>
      obtain ⟨v, hv⟩ := r.zf a u o q z
      have e1 := r.fh _ _ z
      have e2 := (s.trans r.bh) _ _ hv
      rw [e1] at e2
      cases e2
      exact .inl hv
  · exact .inl z
theorem Rl.freeze {G H H' F' : Hp} {σ : St} {ρ : Env} {p : Addr} {d : D} (r : Rl K ⟨H, G, 0⟩ σ H' ρ F') (s : Same G H) (fp : F' p = none) (bp : H p = none) (ow : Ow K F' H' p d) : ∃ G', Gr G H G' H' ∧ Dt K G' (.ref p) d := by
  obtain ⟨G', g, gp, ow'⟩ := r.done2 s fp bp ow
  obtain ⟨o, ho⟩ := ow'.some
  exact ⟨_, g.freeze bp gp ho, ow'.dt (sm_upd gp) fun u hu => by rw [upd_same, ← hu, ho]⟩
theorem sp0_len {f : List D → Res D} {np n : Nat} {g : Env → Out} {vs : List V} {H : Hp} {Q : VK} {E : XK} (h : sp0 K (runD np n g) vs H Q E) : vs.length = np := by
  obtain ⟨ds, G, s, hd, d, e, _⟩ := h
  unfold runD at e
  by_cases hn : ds.length = np
  · rw [hd.length, hn]
  · rw [if_neg hn] at e
    cases e
theorem spX_len {np n : Nat} {g : Env → Out} {vs : List V} {H : Hp} {Q : VK} {E : XK} (h : spX K mg (runD np n g) vs H Q E) : vs.length = np := by
  obtain ⟨ds, G, s, hd, h⟩ := h
  unfold runD at h
  by_cases hn : ds.length = np
  · rw [hd.length, hn]
  · rw [if_neg hn] at h
    exact h.elim
theorem ok0 {x : Str} {st : Stmt} {N ps : List Str} {k : Nat} {g : Env → Out} (D : Dear.Df K mg x st ps) (S : FnScope N ps (defScope st))
    (body : ∀ (f : Addr) (cdv : Value) (A : Around) (outer : List PySem.Env) (s : Shared) (H : Hp) (E : XK), Room k (A.deeper (envOfC x (defScope st) s.heap.objs.size f cdv)) → FSs K none (cxOf CX0 P w K mg base N x (defScope st) f cdv A outer s H E).nox (defBody st) g)
    (hN : ps.length ≤ N.length := by decide) : Dear.OkF P w K mg base CX0 (k + 1) x ps (sp0 K (runD ps.length N.length g)) :=
  D.ok S (fun vs H Q E h => sp0_len (f := runD ps.length N.length g) h) fun f cdv A outer s H vs Q E hr h => ⟨_, body f cdv A outer s H E hr, by
    obtain ⟨ds, G, sG, hd, d, e, q⟩ := h
    unfold runD at e
    by_cases hn : ds.length = ps.length
    · rw [if_pos hn] at e
      refine ⟨⟨H, G, 0⟩, _, G, Rl.start sG hd hn hN, ?_⟩
      unfold outR at e
      cases e2 : g (ent N.length ps.length ds) with
      | nx ρ =>
        rw [e2] at e
        cases e
        intro σ' H' F' r
        obtain ⟨G', g1, d1⟩ := r.done sG
        exact q _ _ _ g1 .non
      | rt d' ρ =>
        rw [e2] at e
        cases e
        intro v σ' H' F' r dv
        obtain ⟨G', g1, d1⟩ := r.done sG
        exact q _ _ _ g1 (dv.same d1)
      | ro d' ρ =>
        rw [e2] at e
        cases e
        intro p σ' H' F' r fp bp ow
        obtain ⟨G', g1, d1⟩ := r.freeze sG fp bp ow
        exact q _ _ _ g1 d1
      | bk ρ => rw [e2] at e; cases e
      | ct ρ => rw [e2] at e; cases e
      | ex x ρ => rw [e2] at e; cases e
      | bad => rw [e2] at e; cases e
    · rw [if_neg hn] at e
      cases e⟩
theorem okX {x : Str} {st : Stmt} {N ps : List Str} {k : Nat} {g : Env → Out} (D : Dear.Df K mg x st ps) (S : FnScope N ps (defScope st))
    (body : ∀ (f : Addr) (cdv : Value) (A : Around) (outer : List PySem.Env) (s : Shared) (H : Hp) (E : XK), Room k (A.deeper (envOfC x (defScope st) s.heap.objs.size f cdv)) → FSs K (some ⟨mg, fun c d _ H => E c d H⟩) (cxOf (L2.CX P w) P w K mg base N x (defScope st) f cdv A outer s H E) (defBody st) g)
    (hN : ps.length ≤ N.length := by decide) : Dear.OkF P w K mg base (L2.CX P w) (k + 1) x ps (spX K mg (runD ps.length N.length g)) :=
  D.okX S (fun vs H Q E h => spX_len h) fun f cdv A outer s H vs Q E hr h => ⟨_, body f cdv A outer s H E hr, by
    obtain ⟨ds, G, sG, hd, q⟩ := h
    unfold runD at q
    by_cases hn : ds.length = ps.length
    · rw [if_pos hn] at q
      refine ⟨⟨H, G, 0⟩, _, G, Rl.start sG hd hn hN, ?_⟩
      unfold outR at q
      cases e2 : g (ent N.length ps.length ds) with
      | nx ρ =>
        rw [e2] at q
        intro σ' H' F' r
        obtain ⟨G', g1, d1⟩ := r.done sG
        exact q _ _ _ g1 .non
      | rt d' ρ =>
        rw [e2] at q
        intro v σ' H' F' r dv
        obtain ⟨G', g1, d1⟩ := r.done sG
        exact q _ _ _ g1 (dv.same d1)
      | ex x ρ =>
        rw [e2] at q
        intro C dd σ' H' F' r hx
        obtain ⟨G', g1, d1⟩ := r.done sG
        exact q C dd _ _ g1 (hx.same d1)
      | ro d' ρ =>
        rw [e2] at q
        intro p σ' H' F' r fp bp ow
        obtain ⟨G', g1, d1⟩ := r.freeze sG fp bp ow
        exact q _ _ _ g1 d1
      | bk ρ => rw [e2] at q; exact q.elim
      | ct ρ => rw [e2] at q; exact q.elim
      | bad => rw [e2] at q; exact q.elim
    · rw [if_neg hn] at q
      exact q.elim⟩
end
end Du

namespace Du
open PySem PySem.Spec PyProof.Rows L2
/-! ### expressions that change the def's own things (a call that is handed one of them to be changed) -/
inductive MO (α : Type) where
  | ok (a : α) (ρ : Env)
  | ex (x : Ex) (ρ : Env)
  | bad
def MO.bind {α β : Type} (r : MO α) (f : α → Env → MO β) : MO β := match r with
  | .ok a ρ => f a ρ
  | .ex x ρ => .ex x ρ
  | .bad => .bad
section
variable {α β : Type}
@[simp] theorem MO.bind_ok (a : α) (ρ : Env) (f : α → Env → MO β) : (MO.ok a ρ).bind f = f a ρ := rfl
@[simp] theorem MO.bind_ex (x : Ex) (ρ : Env) (f : α → Env → MO β) : (MO.ex x ρ).bind f = .ex x ρ := rfl
@[simp] theorem MO.bind_bad (f : α → Env → MO β) : (MO.bad : MO α).bind f = .bad := rfl
end
/-- what a reading with state has to give -/
def Pm {α ω : Type} (R : Hp → ω → α → Prop) (K : PySem.W.Frag) (xm : XMo) (σ : St) (B : Bs) (F : Hp) (r : MO α) (Q : ω → Hp → Prop) : Prop := match r with
  | .ok a ρ => ∀ w H' F', Rl K B σ H' ρ F' → Same F F' → R F' w a → Q w H'
  | .ex x ρ => match xm with
    | none => False
    | some m => ∀ C dd H' F', Rl K B σ H' ρ F' → ExIs K m.mg x F' C dd → m.W C dd σ H'
  | .bad => False
section
variable {α β ω ω' : Type} {R : Hp → ω → α → Prop} {R' : Hp → ω' → β → Prop} {K : PySem.W.Frag} {xm : XMo} {σ : St} {B : Bs} {F F1 : Hp}
theorem Pm.mono {r : MO α} {Q : ω → Hp → Prop} (h : Pm R K xm σ B F r Q) (s : Same F F1) : Pm R K xm σ B F1 r Q := by
  cases r with
  | ok a ρ => exact fun w H' F' r' s' => h w H' F' r' (s.trans s')
  | ex x ρ => exact h
  | bad => exact h
theorem Pm.seq {r : MO α} {f : α → Env → MO β} {Q : ω' → Hp → Prop} {W : ω → Hp → Prop} (k : Pm R' K xm σ B F (r.bind f) Q) (n : ∀ a ρ w H1 F1, Rl K B σ H1 ρ F1 → Same F F1 → R F1 w a → Pm R' K xm σ B F1 (f a ρ) Q → W w H1) : Pm R K xm σ B F r W := by
  cases r with
  | ok a ρ => exact fun w H1 F1 r1 s d => n a ρ w H1 F1 r1 s d (Pm.mono k s)
  | ex x ρ => exact k
  | bad => exact k
theorem Pm.done {a : α} {ρ : Env} {w : ω} {H : Hp} {Q : ω → Hp → Prop} (k : Pm R K xm σ B F (.ok a ρ) Q) (r : Rl K B σ H ρ F) (h : R F w a) : Q w H := k w H F r (.refl _) h
end
def tM (K : PySem.W.Frag) (xm : XMo) (m : Env → MO D) : TE := fun σ H Q => ∃ B ρ F, Rl K B σ H ρ F ∧ Pm (RD K) K xm σ B F (m ρ) Q
def bM (K : PySem.W.Frag) (xm : XMo) (m : Env → MO Bool) : TT := fun σ H Q => ∃ B ρ F, Rl K B σ H ρ F ∧ Pm RB K xm σ B F (m ρ) Q
def aM (K : PySem.W.Frag) (xm : XMo) (m : Env → MO (List D)) : TA := fun σ H Q => ∃ B ρ F, Rl K B σ H ρ F ∧ Pm (RL K) K xm σ B F (m ρ) Q
abbrev ME (K : PySem.W.Frag) (xm : XMo) (X : Cx) (e : Expr) (m : Env → MO D) : Prop := PE X e (tM K xm m)
abbrev MT (K : PySem.W.Frag) (xm : XMo) (X : Cx) (e : Expr) (m : Env → MO Bool) : Prop := PT X e (bM K xm m)
abbrev MA (K : PySem.W.Frag) (xm : XMo) (X : Cx) (e : List Expr) (m : Env → MO (List D)) : Prop := PA X e (aM K xm m)
section
variable {K : PySem.W.Frag} {xm : XMo} {X : Cx} {B : Bs} {F H : Hp} {σ : St} {ρ : Env} {Dn : Ends}
/-! pure parts -/
def mP (L : List Nat) (f : VEnv → Res D) : Env → MO D := fun ρ => match f (view L ρ) with
  | .ok d => .ok d (aft L d ρ)
  | .exc x => .ex x (shut L ρ)
  | .bad => .bad
theorem exc_m {L : List Nat} {x : Ex} {α ω : Type} {R : Hp → ω → α → Prop} {Q : ω → Hp → Prop} (r : Rl K B σ H ρ F) (k : Pm R K xm σ B F (.ex x (shut L ρ)) Q) : Xw K xm σ (lend σ ρ L F H) H x := by
  cases xm with
  | none => exact k.elim
  | some m => exact fun C dd F' H' g e => k C dd H' F' (r.shutted g) e
theorem tM.p {L : List Nat} {f : VEnv → Res D} {Q : VK} (h : tM K xm (mP L f) σ H Q) : tF K xm f σ H Q := by
  obtain ⟨B, ρ, F, r, k⟩ := h
  refine ⟨_, _, r.lend_fh L, r.view L, ?_⟩
  unfold mP at k
  cases e : f (view L ρ) with
  | ok d =>
    rw [e] at k
    intro v F' H' g hd
    obtain ⟨F2, r2, h2, h3⟩ := r.aft g hd
    exact k v H' F2 r2 h3 h2
  | exc x =>
    rw [e] at k
    exact exc_m r k
  | bad => rw [e] at k; exact k.elim
theorem me_p {e : Expr} {L : List Nat} {f : VEnv → Res D} (h : FE K xm X e f) : ME K xm X e (mP L f) := PE.to h fun _ _ _ k => k.p
def mB (L : List Nat) (f : VEnv → Res Bool) : Env → MO Bool := fun ρ => match f (view L ρ) with
  | .ok d => .ok d ρ
  | .exc x => .ex x (shut L ρ)
  | .bad => .bad
theorem mt_p {e : Expr} {L : List Nat} {f : VEnv → Res Bool} (h : FT K xm X e f) : MT K xm X e (mB L f) := PT.to h fun σ H Q ⟨B, ρ, F, r, k⟩ => by
  refine ⟨_, _, r.lend_fh L, r.view L, ?_⟩
  unfold mB at k
  cases e : f (view L ρ) with
  | ok d =>
    rw [e] at k
    intro v F' H' g hd
    exact k v H' _ (r.back g) (r.back_ff g) hd
  | exc x =>
    rw [e] at k
    exact exc_m r k
  | bad => rw [e] at k; exact k.elim
/-! operators -/
def mOp (g : D → D → Res D) (ma mb : Env → MO D) : Env → MO D := fun ρ => (ma ρ).bind fun a ρ1 => (mb ρ1).bind fun b ρ2 => match g a b with
  | .ok d => .ok d ρ2
  | _ => .bad
/-- a pure rule behind parts with state -/
theorem Rl.pure (r : Rl K B σ H ρ F) {d : D} {Q : VK} (k : Pm (RD K) K xm σ B F (.ok d ρ) Q) : Po (RD K) K xm σ F H (.ok d) Q := fun v F' H' g hd => k v H' F' (r.grow g) g.ff hd
theorem tM.op {r : R2} {g : D → D → Res D} {ma mb : Env → MO D} (h : OpD K r g) {Q : VK} (k : tM K xm (mOp g ma mb) σ H Q) : tOp r (tM K xm ma) (tM K xm mb) σ H Q := by
  obtain ⟨B, ρ, F, r0, k⟩ := k
  refine ⟨B, ρ, F, r0, Pm.seq k fun a ρ1 x H1 F1 r1 s1 d1 k1 => ⟨B, ρ1, F1, r1, Pm.seq k1 fun b ρ2 y H2 F2 r2 s2 d2 k2 => ?_⟩⟩
  cases e : g a b with
  | ok d =>
    rw [e] at k2
    dsimp only at k2
    refine h xm σ F2 H2 x y a b Q r2.fh (d1.same s2) d2 ?_
    rw [e]
    exact r2.pure k2
  | exc x => rw [e] at k2; exact k2.elim
  | bad => rw [e] at k2; exact k2.elim
theorem me_op {a b : Expr} {op : Operator} {pos : Pos} {r : R2} {g : D → D → Res D} {ma mb : Env → MO D} (ho : OpR X (binaryOp op) r) (h : OpD K r g) (ha : ME K xm X a ma) (hb : ME K xm X b mb) : ME K xm X (.BinOp a op b pos) (mOp g ma mb) := PE.to (pe_op ho ha hb) fun _ _ _ k => k.op h
theorem me_ix {a b : Expr} {pos : Pos} {r : R2} {g : D → D → Res D} {ma mb : Env → MO D} (hr : IxR X r) (h : OpD K r g) (ha : ME K xm X a ma) (hb : ME K xm X b mb) (hs : PlainIx b := by intro _ _; rfl) : ME K xm X (.Subscript a b pos) (mOp g ma mb) := PE.to (pe_ix hr ha hb hs) fun _ _ _ k => k.op h
/-! arguments, displays -/
def mNil : Env → MO (List D) := fun ρ => .ok [] ρ
def mCons (m : Env → MO D) (n : Env → MO (List D)) : Env → MO (List D) := fun ρ => (m ρ).bind fun a ρ1 => (n ρ1).bind fun as ρ2 => .ok (a :: as) ρ2
theorem ma_nil : MA K xm X [] mNil := PA.to pa_nil fun σ H Q ⟨B, ρ, F, r, k⟩ => k.done r .nil
theorem ma_cons {e : Expr} {es : List Expr} {m : Env → MO D} {n : Env → MO (List D)} (h : ME K xm X e m) (q : MA K xm X es n) (hs : starEach (e :: es) X.env = (false, eval e X.env) :: starEach es X.env := by rfl) : MA K xm X (e :: es) (mCons m n) :=
  PA.to (pa_cons h q hs) fun σ H Q ⟨B, ρ, F, r, k⟩ => ⟨B, ρ, F, r, Pm.seq k fun a ρ1 x H1 F1 r1 s1 d1 k1 => ⟨B, ρ1, F1, r1, Pm.seq k1 fun b ρ2 y H2 F2 r2 s2 d2 k2 => k2.done r2 (.cons (d1.same s2) d2)⟩⟩
/-- pure arguments -/
def mAP (L : List Nat) (f : VEnv → Res (List D)) : Env → MO (List D) := fun ρ => match f (view L ρ) with
  | .ok d => .ok d (aftL L d ρ)
  | .exc x => .ex x (shut L ρ)
  | .bad => .bad
theorem ma_p {e : List Expr} {L : List Nat} {f : VEnv → Res (List D)} (h : FA K xm X e f) : MA K xm X e (mAP L f) := PA.to h fun σ H Q ⟨B, ρ, F, r, k⟩ => by
  refine ⟨_, _, r.lend_fh L, r.view L, ?_⟩
  unfold mAP at k
  cases e : f (view L ρ) with
  | ok d =>
    rw [e] at k
    intro v F' H' g hd
    obtain ⟨F2, r2, h2, h3, _⟩ := r.aftL g hd
    exact k v H' F2 r2 h3 h2
  | exc x =>
    rw [e] at k
    exact exc_m r k
  | bad => rw [e] at k; exact k.elim
def mTup (m : Env → MO (List D)) : Env → MO D := fun ρ => (m ρ).bind fun as ρ1 => if fit as.length = true then .ok (.tup as) ρ1 else .bad
def mLst (m : Env → MO (List D)) : Env → MO D := fun ρ => (m ρ).bind fun as ρ1 => if fit as.length = true then .ok (.lst as) ρ1 else .bad
theorem Pm.ite {α ω : Type} {R : Hp → ω → α → Prop} {b : Bool} {r : MO α} {Q : ω → Hp → Prop} (k : Pm R K xm σ B F (if b = true then r else .bad) Q) : b = true ∧ Pm R K xm σ B F r Q := by
  cases b with
  | true => exact ⟨rfl, by rwa [if_pos rfl] at k⟩
  | false =>
    rw [if_neg Bool.false_ne_true] at k
    exact k.elim
theorem me_tup {es : List Expr} {kk : Nat} {pos : Pos} {m : Env → MO (List D)} (h : MA K xm X es m) : ME K xm X (.Tuple es kk pos) (mTup m) :=
  PE.to (pe_tup h) fun σ H Q ⟨B, ρ, F, r, k⟩ => ⟨B, ρ, F, r, Pm.seq k fun a ρ1 xs H1 F1 r1 s1 d1 k1 => by
    obtain ⟨f, k1⟩ := Pm.ite k1
    refine ⟨by rw [d1.length]; exact Nat.le_of_lt (fit_line f), fun p hp => ?_⟩
    have g := Gr.new (o := .tup xs) r1.fh hp
    exact k1 _ _ _ (r1.grow g) g.ff (.tup upd_same (d1.same g.ff))⟩
theorem me_lst {es : List Expr} {pos : Pos} {m : Env → MO (List D)} (h : MA K xm X es m) : ME K xm X (.List es pos) (mLst m) :=
  PE.to (pe_lst h) fun σ H Q ⟨B, ρ, F, r, k⟩ => ⟨B, ρ, F, r, Pm.seq k fun a ρ1 xs H1 F1 r1 s1 d1 k1 => by
    obtain ⟨f, k1⟩ := Pm.ite k1
    refine ⟨by rw [d1.length]; exact Nat.le_of_lt (fit_line f), fun p hp => ?_⟩
    have g := Gr.new (o := .lst xs) r1.fh hp
    exact k1 _ _ _ (r1.grow g) g.ff (.lst upd_same (d1.same g.ff))⟩
/-! pure calls of arguments with state -/
def mApp (g : List D → Res D) (m : Env → MO (List D)) : Env → MO D := fun ρ => (m ρ).bind fun as ρ1 => match g as with
  | .ok d => .ok d ρ1
  | _ => .bad
theorem me_call {x : Str} {k k' : Nat} {ps : List Str} {f : List D → Res D} {e : Expr} {es : List Expr} {p pos : Pos} {m : Env → MO (List D)} (O : Dear.OkF X.prog X.w X.K X.mg X.base CX0 k x ps (sp0 K f)) (hr : Room k' X.A) (ha : MA K xm X (e :: es) m) (hk : k ≤ k' := by decide) (hg : Gl X x := by rfl)
    (hdb : (x == ("__debug__" : Str)) = false := by decide) (he : starEach (e :: es) X.env = (false, eval e X.env) :: starEach es X.env := by rfl) (hpl : (backTo pos (starEach es X.env)).any (·.1) = false := by rfl) : ME K xm X (.Call (.Name x p) (e :: es) [] pos) (mApp f m) :=
  PE.to (Dear.pe_c O hr ha hk hg hdb he hpl) fun σ H Q ⟨B, ρ, F, r, k⟩ => ⟨B, ρ, F, r, Pm.seq k fun ds ρ1 vs H1 F1 r1 s1 d1 k1 => by
    refine ⟨ds, F1, r1.fh, by rw [List.append_nil]; exact d1, ?_⟩
    cases e : f ds with
    | ok d =>
      rw [e] at k1
      exact ⟨d, rfl, fun v G' H' g hd => k1 v H' G' (r1.grow g) g.ff hd⟩
    | exc x => rw [e] at k1; exact k1.elim
    | bad => rw [e] at k1; exact k1.elim⟩
/-! tests -/
def mTest (m : Env → MO D) : Env → MO Bool := fun ρ => (m ρ).bind fun a ρ1 => match a with
  | .bl b => .ok b ρ1
  | _ => .bad
theorem mt_cmp {a b : Expr} {op : CmpOp} {pos : Pos} {r : R2} {g : D → D → Res D} {ma mb : Env → MO D} (ho : OpR X (compareOp op) r) (h : OpD K r g) (ha : ME K xm X a ma) (hb : ME K xm X b mb) (hm : behindInMarks op b = false := by first | exact nomark _ | rfl) :
    MT K xm X (.Compare a [op] [b] pos) (mTest (mOp g ma mb)) := PT.to (pt_cmpR ho ha hb hm) fun σ H Q ⟨B, ρ, F, r, k⟩ => tM.op h ⟨B, ρ, F, r, Pm.seq (R := RD K) k fun a ρ1 x H1 F1 r1 s1 d1 k1 => by
    cases a with
    | bl b =>
      refine ⟨b, d1.blE, ?_⟩
      exact Pm.done (R := RB) k1 r1 rfl
    | _ => exact k1.elim⟩
theorem mt_val {e : Expr} {m : Env → MO D} (h : ME K xm X e m) (he : ∀ whole, isTrue e X.env whole = (do let v ← whole; standAt e.pos; holding [v] (truthy v)) := by intro _; rfl) : MT K xm X e (mTest m) :=
  PT.to (pt_val h he) fun σ H Q ⟨B, ρ, F, r, k⟩ => ⟨B, ρ, F, r, Pm.seq (R := RD K) k fun a ρ1 x H1 F1 r1 s1 d1 k1 => by
    cases a with
    | bl b =>
      refine ⟨b, d1.blE, ?_⟩
      exact Pm.done (R := RB) k1 r1 rfl
    | _ => exact k1.elim⟩
def mNot (m : Env → MO Bool) : Env → MO Bool := fun ρ => (m ρ).bind fun b ρ1 => .ok (!b) ρ1
theorem mt_not {a : Expr} {pos : Pos} {m : Env → MO Bool} (h : MT K xm X a m) : MT K xm X (.UnaryOp .Not a pos) (mNot m) := PT.to (pt_not h) fun σ H Q ⟨B, ρ, F, r, k⟩ => ⟨B, ρ, F, r, Pm.seq (R := RB) k fun a ρ1 x H1 F1 r1 s1 d1 k1 => by
  subst d1
  exact k1.done r1 rfl⟩
def mAnd (m n : Env → MO Bool) : Env → MO Bool := fun ρ => (m ρ).bind fun b ρ1 => if b = true then n ρ1 else .ok false ρ1
def mOr (m n : Env → MO Bool) : Env → MO Bool := fun ρ => (m ρ).bind fun b ρ1 => if b = true then .ok true ρ1 else n ρ1
abbrev MW (K : PySem.W.Frag) (xm : XMo) (X : Cx) (e : Expr) (m : Env → MO Bool) : Prop := PW X e (bM K xm m)
theorem mw_and1 {a : Expr} {pos : Pos} {m : Env → MO Bool} (h : MT K xm X a m) : MW K xm X (.BoolOp .And [a] pos) m := pw_and1 h
theorem mw_and {a b : Expr} {rest : List Expr} {pos : Pos} {m n : Env → MO Bool} (h : MT K xm X a m) (q : MW K xm X (.BoolOp .And (b :: rest) pos) n) : MW K xm X (.BoolOp .And (a :: b :: rest) pos) (mAnd m n) :=
  PW.to (pw_and h q) fun σ H Q ⟨B, ρ, F, r, k⟩ => ⟨B, ρ, F, r, Pm.seq (R := RB) k fun a ρ1 x H1 F1 r1 s1 d1 k1 => by
    subst d1
    cases x with
    | true => exact iteT ⟨B, ρ1, F1, r1, by rwa [if_pos rfl] at k1⟩
    | false =>
      rw [if_neg Bool.false_ne_true] at k1
      exact iteF (k1.done r1 rfl)⟩
theorem mt_w {a : Expr} {m : Env → MO Bool} (h : MW K xm X a m) : MT K xm X a m := PW.pt h
end
end Du

namespace Du
open PySem PySem.Spec PyProof.Rows L2
/-! ### defs that return a new thing of the caller's own; defs that change a thing that is handed in -/
def outO : Out → Res D
  | .ro d _ => .ok d
  | .ex x _ => .exc x
  | _ => .bad
def runO (np n : Nat) (g : Env → Out) (ds : List D) : Res D := if ds.length = np then outO (g (ent n np ds)) else .bad
def spO (K : PySem.W.Frag) (f : List D → Res D) : Sp := fun vs H Q _ => ∃ ds G, Same G H ∧ DtAll K G vs ds ∧ ∃ d, f ds = .ok d ∧ ∀ p G' H', Gr G H G' H' → H p = none → G' p = none → Ow K G' H' p d → Q (.ref p) H'
section
variable {P : Program} {w : World} {K : PySem.W.Frag} {mg : Str → Option Value} {base : Heap}
theorem spO_len {np n : Nat} {g : Env → Out} {vs : List V} {H : Hp} {Q : VK} {E : XK} (h : spO K (runO np n g) vs H Q E) : vs.length = np := by
  obtain ⟨ds, G, s, hd, d, e, _⟩ := h
  unfold runO at e
  by_cases hn : ds.length = np
  · rw [hd.length, hn]
  · rw [if_neg hn] at e
    cases e
theorem okO {x : Str} {st : Stmt} {N ps : List Str} {k : Nat} {g : Env → Out} (D : Dear.Df K mg x st ps) (S : FnScope N ps (defScope st))
    (body : ∀ (f : Addr) (cdv : Value) (A : Around) (outer : List PySem.Env) (s : Shared) (H : Hp) (E : XK), Room k (A.deeper (envOfC x (defScope st) s.heap.objs.size f cdv)) → FSs K none (cxOf CX0 P w K mg base N x (defScope st) f cdv A outer s H E).nox (defBody st) g)
    (hN : ps.length ≤ N.length := by decide) : Dear.OkF P w K mg base CX0 (k + 1) x ps (spO K (runO ps.length N.length g)) :=
  D.ok S (fun vs H Q E h => spO_len h) fun f cdv A outer s H vs Q E hr h => ⟨_, body f cdv A outer s H E hr, by
    obtain ⟨ds, G, sG, hd, d, e, q⟩ := h
    unfold runO at e
    by_cases hn : ds.length = ps.length
    · rw [if_pos hn] at e
      refine ⟨⟨H, G, 0⟩, _, G, Rl.start sG hd hn hN, ?_⟩
      unfold outO at e
      cases e2 : g (ent N.length ps.length ds) with
      | ro d' ρ =>
        rw [e2] at e
        cases e
        intro p σ' H' F' r fp bp ow
        obtain ⟨G', g1, gp, ow'⟩ := r.done2 sG fp bp ow
        exact q p _ _ g1 bp gp ow'
      | nx ρ => rw [e2] at e; cases e
      | rt d ρ => rw [e2] at e; cases e
      | bk ρ => rw [e2] at e; cases e
      | ct ρ => rw [e2] at e; cases e
      | ex x ρ => rw [e2] at e; cases e
      | bad => rw [e2] at e; cases e
    · rw [if_neg hn] at e
      cases e⟩
/-- whoever wants no more than the value has it -/
theorem okO.ok0 {x : Str} {ps : List Str} {k : Nat} {f : List D → Res D} (h : Dear.OkF P w K mg base CX0 k x ps (spO K f)) : Dear.OkF P w K mg base CX0 k x ps (sp0 K f) := by
  obtain ⟨a, fd, h1, h2, h3, F⟩ := h
  refine ⟨a, fd, h1, h2, h3, F.imp fun vs H Q E ⟨ds, G, s, hd, d, e, q⟩ => ⟨ds, G, s, hd, d, e, fun p G' H' g hp gp ow => ?_⟩⟩
  obtain ⟨o, ho⟩ := ow.some
  exact q _ _ _ (g.freeze hp gp ho) (ow.dt (sm_upd gp) fun u hu => by rw [upd_same, ← hu, ho])
end
section
variable {K : PySem.W.Frag} {xm : XMo} {X : Cx} {B : Bs} {F H : Hp} {σ : St} {ρ : Env} {Dn : Ends}
theorem fw_call {x : Str} {k k' : Nat} {ps : List Str} {f : List D → Res D} {e : Expr} {es : List Expr} {p pos : Pos} {fa : VEnv → Res (List D)} (O : Dear.OkF X.prog X.w X.K X.mg X.base CX0 k x ps (spO K f)) (hr : Room k' X.A) (ha : FA K none X (e :: es) fa) (hk : k ≤ k' := by decide) (hg : Gl X x := by rfl)
    (hdb : (x == ("__debug__" : Str)) = false := by decide) (he : starEach (e :: es) X.env = (false, eval e X.env) :: starEach es X.env := by rfl) (hpl : (backTo pos (starEach es X.env)).any (·.1) = false := by rfl) : FW' K none X (.Call (.Name x p) (e :: es) [] pos) (eCall f fa) :=
  PE.to (Dear.pe_c O hr ha hk hg hdb he hpl) fun σ H Q ⟨F, ρ, sF, vw, k⟩ => ⟨F, ρ, sF, vw, PoW.seq k fun ds vs F1 H1 g1 d1 k1 => by
    refine ⟨ds, F1, g1.fh, by rw [List.append_nil]; exact d1, ?_⟩
    cases e : f ds with
    | ok d => rw [e] at k1; exact ⟨d, rfl, k1⟩
    | exc x => rw [e] at k1; exact k1.elim
    | bad => rw [e] at k1; exact k1.elim⟩
end
/-! a thing that is handed in is changed: the j-th one -/
structure Gx (p : Addr) (F H F' H' : Hp) : Prop where
  hh : ∀ a o, a ≠ p → H a = some o → H' a = some o
  ff : Same F F'
  fh : Same F' H'
  nw : ∀ a o, F' a = some o → F a = some o ∨ H a = none
def spIO (K : PySem.W.Frag) (j : Nat) (f : List D → Res (D × D)) : Sp := fun vs H Q _ => ∃ ds G p o, Same G H ∧ vs.length = ds.length ∧ (∀ i v, i ≠ j → vs[i]? = some v → ∃ d, ds[i]? = some d ∧ Dt K G v d) ∧ vs[j]? = some (.ref p) ∧ ds[j]? = some o ∧ G p = none ∧ Ow K G H p o ∧
  ∃ d o', f ds = .ok (d, o') ∧ ∀ v G' H', Gx p G H G' H' → Dt K G' v d → Ow K G' H' p o' → Q v H'
section
variable {K : PySem.W.Frag} {xm : XMo} {X : Cx} {B : Bs} {F H : Hp} {σ : St} {ρ : Env} {Dn : Ends}
/-- behind the change of an own thing -/
theorem Rl.changed (r : Rl K B σ H ρ F) {i : Nat} {t : Bool} {p : Addr} {d d' : D} {F' H' : Hp} (hi : ρ[i]? = some (some (.own t d))) (hp : σ[i]? = some (some (.ref p))) (g : Gx p F H F' H') (h : Ow K F' H' p d') : Rl K B σ H' (ρ.set i (some (.own t d'))) F' := by
  obtain ⟨p', q1, q2, q3, q4⟩ := r.ow i _ d hi
  rw [hp] at q1
  cases q1
  have fn : ∀ {a : Addr}, F a = none → (∃ o, H a = some o) → F' a = none := fun {a} fa ⟨o, ho⟩ => by
    cases e : F' a with
    | none => rfl
    | some u =>
      rcases g.nw _ _ e with z | z
      · rw [fa] at z; cases z
      · rw [ho] at z; cases z
  refine ⟨g.fh, fun a u e => g.hh a u (fun z => by rw [z, q3] at e; cases e) (r.bh _ _ e), fun a o u e1 e2 => ?_, by rw [List.length_set, r.len], fun j e he => ?_, fun j t2 e he => ?_, fun j k t1 t2 d1 d2 p' h1 h2 h3 h4 => ?_, fun j e p' h1 h2 => ?_⟩
  · rcases g.nw _ _ e2 with z | z
    · exact r.zf _ _ _ e1 z
    · rw [r.bh _ _ e1] at z; cases z
  · rcases set_cases he with ⟨rfl, q, _⟩ | ⟨hj, q⟩
    · cases q
    · obtain ⟨v, w1, w2⟩ := r.fz j e q
      exact ⟨v, w1, w2.same g.ff⟩
  · rcases set_cases he with ⟨rfl, q, _⟩ | ⟨hj, q⟩
    · cases q
      exact ⟨p, hp, fn q2 q4.some, q3, h⟩
    · obtain ⟨p', w1, w2, w3, w4⟩ := r.ow j _ e q
      refine ⟨p', w1, fn w2 w4.some, w3, w4.mono g.ff fun u hu => g.hh _ _ (fun z => hj ?_) hu⟩
      subst z
      exact r.dj i j _ _ _ _ _ hi q hp w1
  · rcases set_cases h1 with ⟨rfl, q, _⟩ | ⟨hj, q⟩
    · rcases set_cases h2 with ⟨rfl, q', _⟩ | ⟨hk, q'⟩
      · rfl
      · exact r.dj _ k _ _ _ _ p' hi q' h3 h4
    · rcases set_cases h2 with ⟨rfl, q', _⟩ | ⟨hk, q'⟩
      · exact r.dj j _ _ _ _ _ p' q hi h3 h4
      · exact r.dj j k _ _ _ _ p' q q' h3 h4
  · rcases set_cases h1 with ⟨rfl, q, _⟩ | ⟨hj, q⟩
    · cases q
      exact r.pn _ _ _ hi h2
    · exact r.pn j e p' q h2
/-- arguments of which the j-th is the thing at slot i, the others computed -/
def RIO (K : PySem.W.Frag) (j : Nat) (p : Addr) : Hp → List V → List D → Prop := fun F' vs ds => ∃ ws, DtAll K F' ws ds ∧ j ≤ ws.length ∧ vs = ws.insertIdx j (.ref p)
def aIO (K : PySem.W.Frag) (xm : XMo) (j i : Nat) (m : Env → MO (List D)) : TA := fun σ H Q => ∃ B ρ F p, Rl K B σ H ρ F ∧ σ[i]? = some (some (.ref p)) ∧ Pm (RIO K j p) K xm σ B F (m ρ) Q
theorem mio_here {x : Str} {p1 : Pos} {es : List Expr} {m : Env → MO (List D)} (i : Nat) (h : MA K xm X es m) (hN : X.N[i]? = some x := by rfl) (hv : Vis X.env.scope x := by first | exact Or.inl rfl | exact Or.inr (Or.inl rfl) | exact Or.inr (Or.inr rfl)) (hd : (x == ("__debug__" : Str)) = false := by decide)
    (hcd : (x == ("__classdict__" : Str)) = false := by decide) (hs : starEach (.Name x p1 :: es) X.env = (false, eval (.Name x p1) X.env) :: starEach es X.env := by rfl) : PA X (.Name x p1 :: es) (aIO K xm 0 i m) :=
  PA.to (pa_cons (pv i hN hv hd hcd) h hs) fun σ H Q ⟨B, ρ, F, p, r, hp, k⟩ => ⟨.ref p, hp, B, ρ, F, r, Pm.seq (R' := RIO K 0 p) (f := fun a ρ => .ok a ρ) (by
    cases e : m ρ with
    | ok a ρ1 => rw [e] at k; exact k
    | ex x ρ1 => rw [e] at k; exact k
    | bad => rw [e] at k; exact k) fun a ρ1 vs H1 F1 r1 s1 d1 k1 => k1.done r1 ⟨vs, d1, Nat.zero_le _, rfl⟩⟩
theorem mio_cons {e : Expr} {es : List Expr} {j i : Nat} {n : Env → MO D} {m : Env → MO (List D)} (h : ME K xm X e n) (q : PA X es (aIO K xm j i m)) (hs : starEach (e :: es) X.env = (false, eval e X.env) :: starEach es X.env := by rfl) : PA X (e :: es) (aIO K xm (j + 1) i (mCons n m)) :=
  PA.to (pa_cons h q hs) fun σ H Q ⟨B, ρ, F, p, r, hp, k⟩ => ⟨B, ρ, F, r, Pm.seq k fun a ρ1 v H1 F1 r1 s1 d1 k1 => ⟨B, ρ1, F1, p, r1, hp, Pm.seq k1 fun as ρ2 vs H2 F2 r2 s2 ⟨ws, d2, lw, e2⟩ k2 =>
    k2.done r2 ⟨v :: ws, .cons (d1.same s2) d2, by rw [List.length_cons]; omega, by rw [e2]; rfl⟩⟩⟩
/-- f(.., x, ..), x changed -/
def ownS (ρ : Env) (i : Nat) : Option (Bool × D) := match ρ[i]? with
  | some (some (.own t o)) => some (t, o)
  | _ => none
theorem ownS_of {ρ : Env} {i : Nat} {t : Bool} {o : D} (h : ownS ρ i = some (t, o)) : ρ[i]? = some (some (.own t o)) := by
  unfold ownS at h
  split at h
  · rename_i e
    cases h
    exact e
  · cases h
def mIO (j i : Nat) (f : List D → Res (D × D)) (m : Env → MO (List D)) : Env → MO D := fun ρ => match ownS ρ i with
  | some _ => (m ρ).bind fun as ρ1 => match ownS ρ1 i with
    | some (t, o) => match f (as.insertIdx j o) with
      | .ok r => .ok r.1 (ρ1.set i (some (.own t r.2)))
      | _ => .bad
    | none => .bad
  | none => .bad
theorem me_io {x : Str} {k k' : Nat} {ps : List Str} {j i : Nat} {f : List D → Res (D × D)} {e : Expr} {es : List Expr} {p pos : Pos} {m : Env → MO (List D)} (O : Dear.OkF X.prog X.w X.K X.mg X.base CX0 k x ps (spIO K j f)) (hr : Room k' X.A) (ha : PA X (e :: es) (aIO K xm j i m)) (hk : k ≤ k' := by decide) (hg : Gl X x := by rfl)
    (hdb : (x == ("__debug__" : Str)) = false := by decide) (he : starEach (e :: es) X.env = (false, eval e X.env) :: starEach es X.env := by rfl) (hpl : (backTo pos (starEach es X.env)).any (·.1) = false := by rfl) : ME K xm X (.Call (.Name x p) (e :: es) [] pos) (mIO j i f m) :=
  PE.to (Dear.pe_c O hr ha hk hg hdb he hpl) fun σ H Q ⟨B, ρ, F, r, k⟩ => by
    unfold mIO at k
    cases e0 : ownS ρ i with
    | none => rw [e0] at k; exact k.elim
    | some o0 =>
      obtain ⟨t0, o0⟩ := o0
      rw [e0] at k
      obtain ⟨p, hp, _⟩ := r.ow i _ _ (ownS_of e0)
      refine ⟨B, ρ, F, p, r, hp, Pm.seq (R' := RD K) k fun as ρ1 vs H1 F1 r1 s1 ⟨ws, d1, lw, ev⟩ k1 => ?_⟩
      cases e1 : ownS ρ1 i with
      | none => rw [e1] at k1; exact k1.elim
      | some o =>
        obtain ⟨t, o⟩ := o
        rw [e1] at k1
        dsimp only at k1
        obtain ⟨p', hp', q2, q3, q4⟩ := r1.ow i _ _ (ownS_of e1)
        rw [hp] at hp'
        cases hp'
        cases e2 : f (as.insertIdx j o) with
        | exc x => rw [e2] at k1; exact k1.elim
        | bad => rw [e2] at k1; exact k1.elim
        | ok rr =>
          rw [e2] at k1
          dsimp only at k1
          have la := d1.length
          refine ⟨as.insertIdx j o, F1, p, o, r1.fh, ?_, fun n v hn hv => ?_, ?_, ?_, q2, q4, rr.1, rr.2, e2, fun v G' H' g dv ow => k1 v H' G' (r1.changed (ownS_of e1) hp g ow) g.ff dv⟩
          · rw [ev, List.append_nil, List.length_insertIdx, List.length_insertIdx, la]
          · rw [ev, List.append_nil, List.getElem?_insertIdx] at hv
            rw [List.getElem?_insertIdx]
            by_cases c1 : n < j
            · rw [if_pos c1] at hv ⊢
              exact d1.get hv
            · rw [if_neg c1, if_neg hn] at hv ⊢
              exact d1.get hv
          · rw [ev, List.append_nil, List.getElem?_insertIdx, if_neg (Nat.lt_irrefl _), if_pos rfl, if_pos lw]
          · rw [List.getElem?_insertIdx, if_neg (Nat.lt_irrefl _), if_pos rfl, if_pos (by omega)]
end
/-! such a def -/
def entIO (n np j : Nat) (ds : List D) : Env := match ds[j]? with
  | some o => (ent n np ds).set j (some (.own true o))
  | none => []
def outIO (j : Nat) : Out → Res (D × D)
  | .nx ρ => match ownS ρ j with
    | some (true, o) => .ok (.non, o)
    | _ => .bad
  | .rt d ρ => match ownS ρ j with
    | some (true, o) => .ok (d, o)
    | _ => .bad
  | _ => .bad
def runIO (np n j : Nat) (g : Env → Out) (ds : List D) : Res (D × D) := if ds.length = np then outIO j (g (entIO n np j ds)) else .bad
section
variable {P : Program} {w : World} {K : PySem.W.Frag} {mg : Str → Option Value} {base : Heap}
theorem Rl.startIO {N : List Str} {vs : List V} {ds : List D} {G H : Hp} {np j : Nat} {p : Addr} {o : D} (s : Same G H) (hl : vs.length = ds.length) (h : ∀ i v, i ≠ j → vs[i]? = some v → ∃ d, ds[i]? = some d ∧ Dt K G v d) (hp : vs[j]? = some (.ref p)) (ho : ds[j]? = some o) (gp : G p = none) (ow : Ow K G H p o) (hn : ds.length = np) (hN : np ≤ N.length) :
    Rl K ⟨fun a => if a = p then none else H a, G, p⟩ (L2.start N vs) H (entIO N.length np j ds) G := by
  have ee : entIO N.length np j ds = (ent N.length np ds).set j (some (.own true o)) := by unfold entIO; rw [ho]
  rw [ee]
  refine ⟨s, fun a u e => ?_, fun a o u _ e => ⟨u, e⟩, ?_, fun i d e => ?_, fun i t d e => ?_, fun i j' t u d e q h1 h2 h3 h4 => ?_, fun i d q h1 h2 => ?_⟩
  · have e : (if a = p then none else H a) = some u := e
    split at e
    · cases e
    · exact e
  · unfold L2.start ent
    rw [List.length_set, List.length_append, List.length_append, List.length_map, List.length_map, List.length_replicate, List.length_replicate, hl]
    omega
  · rcases set_cases e with ⟨rfl, q, _⟩ | ⟨hi, q⟩
    · cases q
    · obtain ⟨d', h1, h2⟩ := ent_get q
      cases h2
      have hi2 : i < vs.length := by rw [hl]; exact (List.getElem?_eq_some_iff.mp h1).1
      obtain ⟨d2, q1, q2⟩ := h i vs[i] (Ne.symm hi) (List.getElem?_eq_getElem hi2)
      rw [h1] at q1
      cases q1
      exact ⟨_, start_get (List.getElem?_eq_getElem hi2), q2⟩
  · rcases set_cases e with ⟨rfl, q, _⟩ | ⟨hi, q⟩
    · cases q
      exact ⟨p, start_get hp, gp, if_pos rfl, ow⟩
    · obtain ⟨d', _, h2⟩ := ent_get q
      cases h2
  · rcases set_cases h1 with ⟨rfl, q, _⟩ | ⟨hi, q⟩
    · rcases set_cases h2 with ⟨rfl, q, _⟩ | ⟨hi, q⟩
      · rfl
      · obtain ⟨d', _, h2⟩ := ent_get q
        cases h2
    · obtain ⟨d', _, h2⟩ := ent_get q
      cases h2
  · rcases set_cases h1 with ⟨rfl, q', _⟩ | ⟨hi, q'⟩
    · rw [start_get hp] at h2
      cases h2
      rfl
    · obtain ⟨d', _, h2⟩ := ent_get q'
      cases h2
theorem Rl.doneIO {G H H' F' : Hp} {σ : St} {ρ : Env} {p : Addr} {o : D} (r : Rl K ⟨fun a => if a = p then none else H a, G, p⟩ σ H' ρ F') (s : Same G H) (gp : G p = none) (hp : ∃ u, H p = some u) (fp : F' p = none) (ow : Ow K F' H' p o) : ∃ G', Gx p G H G' H' ∧ Same F' G' ∧ Ow K G' H' p o := by
  have sG : Same G H' := fun a u e => by
    have ne : a ≠ p := fun z => by rw [z, gp] at e; cases e
    refine r.bh a u ?_
    show (if a = p then none else H a) = some u
    rw [if_neg ne]
    exact s _ _ e
  refine ⟨both F' G, ⟨fun a u ne e => r.bh a u (by show (if a = p then none else H a) = some u; rw [if_neg ne]; exact e), both_r r.fh sG, both_in r.fh sG, fun a u e => ?_⟩, both_l, ow.mono both_l fun _ h => h⟩
  rcases both_cases e with z | z
  · cases q : H a with
    | none => exact .inr rfl
    | some t =>
      have ne : a ≠ p := fun y => by rw [y, fp] at z; cases z
      obtain ⟨v, hv⟩ := r.zf a t u (by show (if a = p then none else H a) = some t; rw [if_neg ne]; exact q) z
      have e1 := r.fh _ _ z
      have e2 := sG _ _ hv
      rw [e1] at e2
      cases e2
      exact .inl hv
  · exact .inl z
theorem okIO {x : Str} {st : Stmt} {N ps : List Str} {k : Nat} {g : Env → Out} (j : Nat) (D : Dear.Df K mg x st ps) (S : FnScope N ps (defScope st))
    (body : ∀ (f : Addr) (cdv : Value) (A : Around) (outer : List PySem.Env) (s : Shared) (H : Hp) (E : XK), Room k (A.deeper (envOfC x (defScope st) s.heap.objs.size f cdv)) → FSs K none (cxOf CX0 P w K mg base N x (defScope st) f cdv A outer s H E).nox (defBody st) g)
    (hN : ps.length ≤ N.length := by decide) : Dear.OkF P w K mg base CX0 (k + 1) x ps (spIO K j (runIO ps.length N.length j g)) :=
  D.ok S (fun vs H Q E h => by
    obtain ⟨ds, G, p, o, s, hl, _, _, _, _, _, d, o', e, _⟩ := h
    unfold runIO at e
    by_cases hn : ds.length = ps.length
    · rw [hl, hn]
    · rw [if_neg hn] at e
      cases e) fun f cdv A outer s H vs Q E hr h => ⟨_, body f cdv A outer s H E hr, by
    obtain ⟨ds, G, p, o, sG, hl, hd, hp, ho, gp, ow, d, o', e, q⟩ := h
    unfold runIO at e
    by_cases hn : ds.length = ps.length
    · rw [if_pos hn] at e
      refine ⟨_, _, G, Rl.startIO sG hl hd hp ho gp ow hn hN, ?_⟩
      obtain ⟨u, hu⟩ := ow.some
      unfold outIO at e
      cases e2 : g (entIO N.length ps.length j ds) with
      | nx ρ =>
        rw [e2] at e
        dsimp only at e
        intro σ' H' F' r
        cases e3 : ownS ρ j with
        | none => rw [e3] at e; cases e
        | some tq =>
          obtain ⟨t, o2⟩ := tq
          cases t with
          | false => rw [e3] at e; cases e
          | true =>
            rw [e3] at e
            cases e
            obtain ⟨p', w1, w2, w3, w4⟩ := r.ow j _ _ (ownS_of e3)
            have := r.pn j _ _ (ownS_of e3) w1
            subst this
            obtain ⟨G', g1, s1, ow1⟩ := r.doneIO sG gp ⟨u, hu⟩ w2 w4
            exact q _ _ _ g1 .non ow1
      | rt d' ρ =>
        rw [e2] at e
        dsimp only at e
        intro v σ' H' F' r dv
        cases e3 : ownS ρ j with
        | none => rw [e3] at e; cases e
        | some tq =>
          obtain ⟨t, o2⟩ := tq
          cases t with
          | false => rw [e3] at e; cases e
          | true =>
            rw [e3] at e
            cases e
            obtain ⟨p', w1, w2, w3, w4⟩ := r.ow j _ _ (ownS_of e3)
            have := r.pn j _ _ (ownS_of e3) w1
            subst this
            obtain ⟨G', g1, s1, ow1⟩ := r.doneIO sG gp ⟨u, hu⟩ w2 w4
            exact q _ _ _ g1 (dv.same s1) ow1
      | ro d ρ => rw [e2] at e; cases e
      | bk ρ => rw [e2] at e; cases e
      | ct ρ => rw [e2] at e; cases e
      | ex x ρ => rw [e2] at e; cases e
      | bad => rw [e2] at e; cases e
    · rw [if_neg hn] at e
      cases e⟩
end
end Du

namespace Du
open PySem PySem.Spec PyProof.Rows L2
section
variable {K : PySem.W.Frag} {xm : XMo} {X : Cx} {B : Bs} {F H : Hp} {σ : St} {ρ : Env} {Dn : Ends}
/-! ### statements over expressions with state -/
def mAt {α : Type} (m : Env → MO α) (ρ : Env) (k : α → Env → Out) : Out := match m ρ with
  | .ok a ρ1 => k a ρ1
  | .ex x ρ1 => .ex x ρ1
  | .bad => .bad
theorem pm_at {α ω : Type} {R : Hp → ω → α → Prop} {m : Env → MO α} {k : α → Env → Out} {Q : ω → Hp → Prop} (r : Rl K B σ H ρ F) (h : So K xm B Dn (mAt m ρ k)) (n : ∀ a ρ1 w H' F', Rl K B σ H' ρ1 F' → R F' w a → Same F F' → So K xm B Dn (k a ρ1) → Q w H') : Pm R K xm σ B F (m ρ) Q := by
  unfold mAt at h
  cases e : m ρ with
  | ok a ρ1 =>
    rw [e] at h
    exact fun w H' F' r' s d => n a ρ1 w H' F' r' d s h
  | ex x ρ1 =>
    rw [e] at h
    cases xm with
    | none => exact h
    | some m => exact fun C dd H' F' r' hx => h C dd σ H' F' r' hx
  | bad => rw [e] at h; exact h
def sAsgM (m : Env → MO D) (tg : Tgt) : Env → Out := fun ρ => mAt m ρ fun d ρ1 => match tg d with
  | .ok as => .nx (setS ρ1 as)
  | _ => .bad
theorem fs_asgM {tg e : Expr} {m : Env → MO D} {g : Tgt} {pos : Pos} (he : ME K xm X e m) (hg : FG K X tg g) (hs : swapsWithSole [tg] e pos.line X.env = pure false := by rfl) (hw : swappedStores [tg] e X.env = pure none := by rfl)
    (h1 : (assignEach [tg] X.env).map (·.2) = [assign tg X.env] := by rfl) : FS K xm X (.Assign [tg] e pos) (sAsgM m g) :=
  PS.to (ps_asg he hg hs hw h1) fun Dn σ H ⟨B, ρ, F, r, k⟩ => ⟨B, ρ, F, r, pm_at r k fun d ρ1 v H' F' r' dv _ k' => by
    cases e : g d with
    | ok as =>
      rw [e] at k'
      exact ⟨F', d, as, r'.fh, dv, e, fun bs hb => k' _ _ _ (r'.setAll hb)⟩
    | exc x => rw [e] at k'; exact k'.elim
    | bad => rw [e] at k'; exact k'.elim⟩
def sExprM (m : Env → MO D) : Env → Out := fun ρ => mAt m ρ fun _ ρ1 => .nx ρ1
theorem fs_exprM {e : Expr} {m : Env → MO D} {pos : Pos} (he : ME K xm X e m) (hs : swapsWith e none pos.line X.env = pure false := by rfl) : FS K xm X (.Expr e pos) (sExprM m) :=
  PS.to (ps_expr he hs) fun Dn σ H ⟨B, ρ, F, r, k⟩ => ⟨B, ρ, F, r, pm_at r k fun d ρ1 v H' F' r' dv _ k' => k' _ _ _ r'⟩
def sRetM (m : Env → MO D) : Env → Out := fun ρ => mAt m ρ fun d ρ1 => .rt d ρ1
theorem fs_retM {e : Expr} {m : Env → MO D} {pos : Pos} (he : ME K xm X e m) : FS K xm X (.Return (some e) pos) (sRetM m) :=
  PS.to (ps_ret he) fun Dn σ H ⟨B, ρ, F, r, k⟩ => ⟨B, ρ, F, r, pm_at r k fun d ρ1 v H' F' r' dv _ k' => k' _ _ _ _ r' dv⟩
def sIfM (m : Env → MO Bool) (g h : Env → Out) : Env → Out := fun ρ => mAt m ρ fun b ρ1 => if b = true then g ρ1 else h ρ1
theorem fs_ifM {c : Expr} {a b : List Stmt} {m : Env → MO Bool} {g h : Env → Out} {pos : Pos} (hc : MT K xm X c m) (ha : FSs K xm X a g) (hb : FSs K xm X b h) : FS K xm X (.If c a b pos) (sIfM m g h) :=
  PS.to (ps_if hc ha hb) fun Dn σ H ⟨B, ρ, F, r, k⟩ => ⟨B, ρ, F, r, pm_at (R := RB) r k fun b ρ1 w H' F' r' e _ k' => by
    subst e
    cases w with
    | true => exact iteT ⟨B, ρ1, F', r', by rwa [if_pos rfl] at k'⟩
    | false => exact iteF ⟨B, ρ1, F', r', by rwa [if_neg Bool.false_ne_true] at k'⟩⟩
def sAppM (i : Nat) (m : Env → MO D) : Env → Out := fun ρ => mAt m ρ fun d ρ1 => chg ρ1 i fun ds => if fit ds.length = true then some (ds ++ [d]) else none
/-! x[k] = e, e with state -/
def sPutLM (i : Nat) (m : Env → MO D) (fk : VEnv → Res D) : Env → Out := fun ρ => mAt m ρ fun d ρ1 => need i (fun ρ' => eAt [] fk ρ' fun n => match n with
  | .int n => chg ρ' i fun ds => match ixN ds.length n with
    | some j => some (ds.set j d)
    | none => none
  | _ => .bad) ρ1
/-! ### comprehensions whose parts have state -/
def wipeS (ρ : Env) : List Nat → Env
  | [] => ρ
  | v :: vs => (wipeS ρ vs).set v none
theorem wipeS_get (σ : Env) (j : Nat) : ∀ vs : List Nat, (wipeS σ vs)[j]? = if j ∈ vs then σ[j]?.map (fun _ => none) else σ[j]?
  | [] => by simp [wipeS]
  | v :: vs => by
    unfold wipeS
    have wl : ∀ vs : List Nat, (wipeS σ vs).length = σ.length := by
      intro vs
      induction vs with
      | nil => rfl
      | cons a r ih => unfold wipeS; rw [List.length_set, ih]
    rw [List.getElem?_set]
    by_cases h : v = j
    · subst h
      rw [if_pos rfl, if_pos List.mem_cons_self, wl]
      by_cases hl : v < σ.length
      · rw [if_pos hl, List.getElem?_eq_getElem hl]; rfl
      · rw [if_neg hl, List.getElem?_eq_none (by omega)]; rfl
    · rw [if_neg h, wipeS_get σ j vs]
      have : (j ∈ v :: vs) ↔ j ∈ vs := ⟨fun q => (List.mem_cons.mp q).elim (fun e => absurd e.symm h) id, List.mem_cons_of_mem _⟩
      by_cases hj : j ∈ vs
      · rw [if_pos hj, if_pos (this.mpr hj)]
      · rw [if_neg hj, if_neg fun q => hj (this.mp q)]
theorem wipeS_len (σ : Env) : ∀ vs : List Nat, (wipeS σ vs).length = σ.length
  | [] => rfl
  | a :: r => by unfold wipeS; rw [List.length_set, wipeS_len σ r]
/-- slots of other values outside of those that are forgotten -/
theorem Rl.other {σ' : St} (r : Rl K B σ H ρ F) {vs : List Nat} (hw : wipe σ' vs = wipe σ vs) : Rl K B σ' H (wipeS ρ vs) F := by
  have g : ∀ {i : Nat} {s : Slot}, (wipeS ρ vs)[i]? = some (some s) → ρ[i]? = some (some s) ∧ σ'[i]? = σ[i]? := fun {i s} e => by
    rw [wipeS_get] at e
    by_cases hj : i ∈ vs
    · rw [if_pos hj] at e
      obtain ⟨a, h1, h2⟩ := Option.map_eq_some_iff.mp e
      cases h2
    · rw [if_neg hj] at e
      have := congrArg (fun l => l[i]?) hw
      simp only [wipe_get, if_neg hj] at this
      exact ⟨e, this⟩
  have hl : σ'.length = σ.length := by
    have := congrArg List.length hw
    rwa [wipe_length, wipe_length] at this
  refine ⟨r.fh, r.bh, r.zf, by rw [hl, wipeS_len, r.len], fun i d e => ?_, fun i t d e => ?_, fun i j t u d e p h1 h2 h3 h4 => ?_, fun i d p h1 h2 => ?_⟩
  · obtain ⟨h1, h2⟩ := g e
    rw [h2]
    exact r.fz i d h1
  · obtain ⟨h1, h2⟩ := g e
    rw [h2]
    exact r.ow i t d h1
  · obtain ⟨a1, a2⟩ := g h1
    obtain ⟨b1, b2⟩ := g h2
    rw [a2] at h3
    rw [b2] at h4
    exact r.dj i j t u d e p a1 b1 h3 h4
  · obtain ⟨a1, a2⟩ := g h1
    rw [a2] at h2
    exact r.pn i d p a1 h2
def compM (tg : Tgt) (c : Env → MO Bool) (f : Env → MO D) (vs : List Nat) : List D → Env → MO (List D)
  | [], ρ => .ok [] ρ
  | d :: ds, ρ => match tg d with
    | .ok as => if as.all (fun p => vs.contains p.1) = true then (c (setS (wipeS ρ vs) as)).bind fun b ρ1 => if b = true then (f ρ1).bind fun e ρ2 => (compM tg c f vs ds (wipeS ρ2 vs)).bind fun es ρ3 => .ok (e :: es) ρ3 else compM tg c f vs ds (wipeS ρ1 vs) else .bad
    | _ => .bad
def mComp (vs : List Nat) (L : List Nat) (it : VEnv → Res (List D)) (tg : Tgt) (c : Env → MO Bool) (f : Env → MO D) : Env → MO D := fun ρ => match it (view L ρ) with
  | .ok ds => if fit ds.length = true then match compM tg c f vs ds (wipeS (shut L ρ) vs) with
    | .ok es ρ1 => .ok (.lst es) ρ1
    | _ => .bad else .bad
  | .exc x => .ex x (shut L ρ)
  | .bad => .bad
abbrev MTs (K : PySem.W.Frag) (X : Cx) (ifs : List Expr) (c : Env → MO Bool) : Prop := PTs X ifs (bM K none c)
def mYes : Env → MO Bool := fun ρ => .ok true ρ
theorem mts_one {c : Expr} {m : Env → MO Bool} (h : MT K none X c m) : MTs K X [c] m := pts_one h
theorem BM.ok {α β : Type} {r : MO α} {f : α → Env → MO β} {b : β} {ρ : Env} (h : r.bind f = .ok b ρ) : ∃ a ρ1, r = .ok a ρ1 ∧ f a ρ1 = .ok b ρ := by
  cases r with
  | ok a ρ1 => exact ⟨a, ρ1, rfl, h⟩
  | ex x ρ1 => cases h
  | bad => cases h
/-- the base while the list at p is being made -/
def making (B : Bs) (p : Addr) (acc : List V) : Bs := ⟨upd B.b p (.lst acc), fun a => if a = p then none else B.g a, B.pin⟩
theorem making_up {p : Addr} {acc acc' : List V} {F' H' : Hp} (r : Rl K (making B p acc) σ H' ρ F') : Rl K (making B p acc') σ (upd H' p (.lst acc')) ρ F' := by
  have fp : F' p = none := by
    cases e : F' p with
    | none => rfl
    | some u =>
      obtain ⟨v, hv⟩ := r.zf p _ u upd_same e
      have : (if p = p then none else B.g p) = some v := hv
      rw [if_pos rfl] at this
      cases this
  refine ⟨fun a o e => ?_, fun a o e => ?_, fun a o u e1 e2 => ?_, r.len, r.fz, fun i t d e => ?_, r.dj, r.pn⟩
  · rw [upd_ne fun z => by rw [z, fp] at e; cases e]
    exact r.fh _ _ e
  · by_cases z : a = p
    · subst z
      have e : upd B.b a (.lst acc') a = some o := e
      rw [upd_same] at e ⊢
      exact e
    · have e : upd B.b p (.lst acc') a = some o := e
      rw [upd_ne z] at e ⊢
      exact r.bh a o (by show upd B.b p (.lst acc) a = some o; rw [upd_ne z]; exact e)
  · by_cases z : a = p
    · subst z
      rw [fp] at e2; cases e2
    · have e1 : upd B.b p (.lst acc') a = some o := e1
      rw [upd_ne z] at e1
      exact r.zf a o u (by show upd B.b p (.lst acc) a = some o; rw [upd_ne z]; exact e1) e2
  · obtain ⟨q, w1, w2, w3, w4⟩ := r.ow i t d e
    have ne : q ≠ p := fun z => by
      subst z
      have w3 : upd B.b q (.lst acc) q = none := w3
      rw [upd_same] at w3
      cases w3
    have w3 : upd B.b p (.lst acc) q = none := w3
    refine ⟨q, w1, w2, ?_, w4.mono (.refl _) fun o ho => by rw [upd_ne ne]; exact ho⟩
    show upd B.b p (.lst acc') q = none
    rw [upd_ne ne] at w3 ⊢
    exact w3
theorem making_p {p : Addr} {acc : List V} {F' H' : Hp} (r : Rl K (making B p acc) σ H' ρ F') : F' p = none ∧ H' p = some (.lst acc) := by
  refine ⟨?_, r.bh p _ upd_same⟩
  cases e : F' p with
  | none => rfl
  | some u =>
    obtain ⟨v, hv⟩ := r.zf p _ u upd_same e
    have : (if p = p then none else B.g p) = some v := hv
    rw [if_pos rfl] at this
    cases this
theorem compM_loop {J : It} {tg : Tgt} {c : Env → MO Bool} {f : Env → MO D} {vs : List Nat} {ds es : List D} {ρe : Env} {p : Addr} {Q : VK} (r : Rl K B σ H ρ F) (y : Yl K F J ds) (hp : H p = none) (hz : fit ds.length = true)
    (hc : compM tg c f vs ds (wipeS ρ vs) = .ok es ρe) (k : ∀ F' H' acc, Rl K B σ H' ρe F' → Same F F' → F' p = none → B.b p = none → H' p = some (.lst acc) → DtAll K F' acc es → (∀ (j : Nat) (t : Bool) (e : D), ρe[j]? = some (some (.own t e)) → σ[j]? ≠ some (some (.ref p))) → Q (.ref p) H') :
    ∃ W : Nat → Nat → Hp → Prop, (∃ m, W 0 m (upd H p (.lst []))) ∧ ∀ i m H, W i m H →
      (J.stop i H ∧ Q (.ref p) H) ∨ (J.go i H ∧ ∃ Nx : Hp → Prop, (∀ H', Nx H' → ∃ m', m' < m ∧ W (i + 1) m' H') ∧ ∀ x H', J.yld i H x H' → gF K tg x (wipe σ vs) H' fun σ2 H2 => wipe σ2 vs = wipe σ vs ∧ bM K none c σ2 H2 fun b H3 =>
        if b = true then tM K none f σ2 H3 fun y H4 => ∃ acc, H4 p = some (.lst acc) ∧ acc.length < sizeLine ∧ Nx (upd H4 p (.lst (acc ++ [y]))) else Nx H3) := by
  obtain ⟨B1, sB, sF1, sF2, r1⟩ := r.base
  have bp : B.b p = none := r.bh.free hp
  have b1p : B1.b p = none := r1.bh.free hp
  let St' : Nat → Hp → Prop := fun i H2 => ∃ ρ2 F2 acc da rest, Rl K (making B1 p acc) σ H2 ρ2 F2 ∧ Same F F2 ∧ DtAll K F2 acc da ∧ acc.length ≤ i ∧ compM tg c f vs (ds.drop i) ρ2 = .ok rest ρe ∧ da ++ rest = es
  have start : St' 0 (upd H p (.lst [])) := by
    have ro : Rl K B1 σ H (wipeS ρ vs) F := r1.other (σ' := σ) (vs := vs) rfl
    have fp : F p = none := r.fh.free hp
    refine ⟨wipeS ρ vs, F, [], [], es, ⟨r.fh.trans (sm_upd hp), fun a o e => ?_, fun a o u e1 e2 => ?_, ro.len, ro.fz, fun i t d e => ?_, ro.dj, ro.pn⟩, .refl _, .nil, Nat.le_refl _, hc, rfl⟩
    · by_cases z : a = p
      · subst z
        have e : upd B1.b a (.lst []) a = some o := e
        rw [upd_same] at e ⊢
        exact e
      · have e : upd B1.b p (.lst []) a = some o := e
        rw [upd_ne z] at e ⊢
        exact ro.bh _ _ e
    · by_cases z : a = p
      · subst z
        rw [fp] at e2; cases e2
      · have e1 : upd B1.b p (.lst []) a = some o := e1
        rw [upd_ne z] at e1
        obtain ⟨v, hv⟩ := ro.zf a o u e1 e2
        exact ⟨v, by show (if a = p then none else B1.g a) = some v; rw [if_neg z]; exact hv⟩
    · obtain ⟨q, w1, w2, w3, w4⟩ := ro.ow i t d e
      have ne : q ≠ p := fun z => by
        subst z
        obtain ⟨o, ho⟩ := w4.some
        rw [hp] at ho; cases ho
      refine ⟨q, w1, w2, ?_, w4.mono (.refl _) fun o ho => by rw [upd_ne ne]; exact ho⟩
      show upd B1.b p (.lst []) q = none
      rw [upd_ne ne]
      exact w3
  refine ⟨fun i m H2 => m = ds.length - i ∧ i ≤ ds.length ∧ St' i H2, ⟨ds.length, by simp, Nat.zero_le _, start⟩, ?_⟩
  rintro i m H2 ⟨rfl, hi, ρ2, F2, acc, da, rest, r2, s2, dd, la, hr, he⟩
  by_cases hlt : i < ds.length
  · refine .inr ⟨y.go i H2 hlt (s2.trans r2.fh), St' (i + 1), fun H' p' => ⟨ds.length - (i + 1), by omega, rfl, hlt, p'⟩, fun x H3 yx => ?_⟩
    obtain ⟨F3, g3, dx⟩ := y.yld i ds[i] F2 H2 x H3 (List.getElem?_eq_getElem hlt) s2 r2.fh yx
    rw [List.drop_eq_getElem_cons hlt] at hr
    unfold compM at hr
    cases e1 : tg ds[i] with
    | exc x => rw [e1] at hr; cases hr
    | bad => rw [e1] at hr; cases hr
    | ok as =>
      rw [e1] at hr
      dsimp only at hr
      by_cases ha : as.all (fun p => vs.contains p.1) = true
      · rw [if_pos ha] at hr
        obtain ⟨b, ρ3, ec, hr⟩ := BM.ok hr
        have r3 := r2.grow g3
        refine ⟨F3, ds[i], as, g3.fh, dx, e1, fun bs hb => ⟨by rw [wipe_setAll (hb.slots ha), wipe_wipe], ?_⟩⟩
        have hw : wipe (Du.setAll (wipe σ vs) bs) vs = wipe σ vs := by rw [wipe_setAll (hb.slots ha), wipe_wipe]
        have r4 : Rl K (making B1 p acc) (Du.setAll (wipe σ vs) bs) H3 (setS (wipeS ρ2 vs) as) F3 := (r3.other (σ' := wipe σ vs) (vs := vs) (wipe_wipe σ vs)).setAll hb
        refine ⟨_, _, F3, r4, ?_⟩
        rw [ec]
        intro b' H4 F4 r5 s5 hb'
        subst hb'
        cases b' with
        | false =>
          rw [if_neg Bool.false_ne_true] at hr
          refine iteF ⟨_, F4, acc, da, rest, r5.other (vs := vs) hw.symm, (s2.trans g3.ff).trans s5, dd.same (g3.ff.trans s5), by omega, hr, he⟩
        | true =>
          rw [if_pos rfl] at hr
          obtain ⟨e, ρ4, ef, hr⟩ := BM.ok hr
          obtain ⟨rs, ρ5, er, hr⟩ := BM.ok hr
          cases hr
          refine iteT ⟨_, _, F4, r5, ?_⟩
          rw [ef]
          intro v H5 F5 r6 s6 dv
          obtain ⟨fp, ep⟩ := making_p r6
          have lz : acc.length < sizeLine := Nat.lt_of_lt_of_le (by omega) (Nat.le_of_lt (fit_line hz))
          have s05 : Same F2 F5 := (g3.ff.trans s5).trans s6
          exact ⟨acc, ep, lz, _, F5, acc ++ [v], da ++ [e], rs, making_up (r6.other (vs := vs) hw.symm), s2.trans s05, (dd.same s05).app (.cons dv .nil), by rw [List.length_append, List.length_singleton]; omega, er, by rw [List.append_assoc]; exact he⟩
      · rw [if_neg ha] at hr; cases hr
  · have e : i = ds.length := by omega
    subst e
    rw [List.drop_length] at hr
    cases hr
    rw [List.append_nil] at he
    subst he
    obtain ⟨fp, ep⟩ := making_p r2
    have le : B.Le (making B1 p acc) := ⟨fun a o e => ?_, fun a o u e1 e2 => ?_, sB.pin⟩
    · refine .inl ⟨y.stop H2 (s2.trans r2.fh), k F2 H2 acc (r2.unbase le) s2 fp bp ep dd fun j t e hj hs => ?_⟩
      obtain ⟨q, w1, w2, w3, w4⟩ := r2.ow j t e hj
      rw [hs] at w1
      cases w1
      have w3 : upd B1.b p (.lst acc) p = none := w3
      rw [upd_same] at w3
      cases w3
    · have ne : a ≠ p := fun z => by rw [z, bp] at e; cases e
      show upd B1.b p (.lst acc) a = some o
      rw [upd_ne ne]
      exact sB.b _ _ e
    · have ne : a ≠ p := fun z => by rw [z, bp] at e1; cases e1
      have e2 : (if a = p then none else B1.g a) = some u := e2
      rw [if_neg ne] at e2
      exact sB.g a o u e1 e2
/-! as a value, as an own list -/
theorem me_comp {elt tg iter : Expr} {ifs : List Expr} {scope : Scope} {pos : Pos} (own : List (Str × Nat)) {L : List Nat} {it : VEnv → Res (List D)} {g : Tgt} {c : Env → MO Bool} {f : Env → MO D} (hN : X.N.Nodup) (hi : FI K xm X tg iter it)
    (hg : ∀ (s : Shared) (H : Hp) (C : Addr) (cl : List (Str × Addr)) (fp : List Addr), FG K (X.blk s H scope (compEnvC scope cl C X.env) fp) tg g) (ht : ∀ (s : Shared) (H : Hp) (C : Addr) (cl : List (Str × Addr)) (fp : List Addr), MTs K (X.blk s H scope (compEnvC scope cl C X.env) fp) ifs c)
    (he : ∀ (s : Shared) (H : Hp) (C : Addr) (cl : List (Str × Addr)) (fp : List Addr), ME K none (X.blk s H scope (compEnvC scope cl C X.env) fp) elt f)
    (ok : BlkOk X.N X.env.scope scope own) (hc : X.calm = true := by rfl) (hs : ∀ x, foldedSetIterable iter X.env x = pure x := by intro _; rfl) :
    ME K xm X (.ListComp elt [⟨tg, iter, ifs, 0⟩] scope pos) (mComp (own.map (·.2)) L it g c f) :=
  PE.to (pe_lc hc hN hi ok hg ht he hs) fun σ H Q ⟨B, ρ, F, r, k⟩ => by
    refine ⟨_, _, r.lend_fh L, r.view L, ?_⟩
    unfold mComp at k
    cases e : it (view L ρ) with
    | exc x => rw [e] at k; exact exc_m r k
    | bad => rw [e] at k; exact k.elim
    | ok ds =>
      rw [e] at k
      dsimp only at k
      obtain ⟨hz, k2⟩ := Pm.ite k
      intro J F1 H1 g1 y p hp
      cases e2 : compM g c f (own.map (·.2)) ds (wipeS (shut L ρ) (own.map (·.2))) with
      | ex x ρ1 => rw [e2] at k2; exact k2.elim
      | bad => rw [e2] at k2; exact k2.elim
      | ok es ρ1 =>
        rw [e2] at k2
        dsimp only at k2
        have r1 := r.shutted g1
        refine compM_loop r1 y hp hz e2 fun F' H' acc r2 s2 fp bp ep dd nj => ?_
        refine k2 (.ref p) H' (upd F' p (.lst acc)) ⟨fun a o ea => ?_, r2.bh, fun a o u e1 e2 => ?_, r2.len, fun i d ei => ?_, fun i t d ei => ?_, r2.dj, r2.pn⟩ (((r.lend_ff L).trans g1.ff).trans (s2.trans (sm_upd fp))) (.lst upd_same (dd.same (sm_upd fp)))
        · by_cases z : a = p
          · subst z
            rw [upd_same] at ea
            cases ea
            exact ep
          · rw [upd_ne z] at ea
            exact r2.fh _ _ ea
        · by_cases z : a = p
          · subst z
            rw [bp] at e1; cases e1
          · rw [upd_ne z] at e2
            exact r2.zf a o u e1 e2
        · obtain ⟨v, h1, h2⟩ := r2.fz i d ei
          exact ⟨v, h1, h2.same (sm_upd fp)⟩
        · obtain ⟨q, w1, w2, w3, w4⟩ := r2.ow i t d ei
          have ne : q ≠ p := fun z => nj i t d ei (by rw [← z]; exact w1)
          exact ⟨q, w1, by rw [upd_ne ne]; exact w2, w3, w4.mono (sm_upd fp) fun _ h => h⟩
/-- a new thing, behind state -/
def PmW (K : PySem.W.Frag) (xm : XMo) (σ : St) (B : Bs) (r : MO D) (Q : VK) : Prop := match r with
  | .ok d ρ => ∀ p H' F', Rl K B σ H' ρ F' → F' p = none → B.b p = none → Ow K F' H' p d → (∀ (j : Nat) (t : Bool) (e : D), ρ[j]? = some (some (.own t e)) → σ[j]? ≠ some (some (.ref p))) → Q (.ref p) H'
  | .ex x ρ => match xm with
    | none => False
    | some m => ∀ C dd H' F', Rl K B σ H' ρ F' → ExIs K m.mg x F' C dd → m.W C dd σ H'
  | .bad => False
def tMW (K : PySem.W.Frag) (xm : XMo) (m : Env → MO D) : TE := fun σ H Q => ∃ B ρ F, Rl K B σ H ρ F ∧ PmW K xm σ B (m ρ) Q
abbrev MEW (K : PySem.W.Frag) (xm : XMo) (X : Cx) (e : Expr) (m : Env → MO D) : Prop := PE X e (tMW K xm m)
theorem mComp_w {elt tg iter : Expr} {L : List Nat} {it : VEnv → Res (List D)} {g : Tgt} {c : Env → MO Bool} {f : Env → MO D} {vs : List Nat} {σ : St} {H : Hp} {Q : VK} (k : tMW K xm (mComp vs L it g c f) σ H Q) : tLc (iF K xm it) (gF K g) (bM K none c) (tM K none f) vs σ H Q := by
  obtain ⟨B, ρ, F, r, k⟩ := k
  refine ⟨_, _, r.lend_fh L, r.view L, ?_⟩
  unfold mComp at k
  cases e : it (view L ρ) with
  | exc x =>
    rw [e] at k
    cases xm with
    | none => exact k.elim
    | some m => exact fun C dd F' H' g e => k C dd H' F' (r.shutted g) e
  | bad => rw [e] at k; exact k.elim
  | ok ds =>
    rw [e] at k
    dsimp only at k
    by_cases hz : fit ds.length = true
    · rw [if_pos hz] at k
      intro J F1 H1 g1 y p hp
      cases e2 : compM g c f vs ds (wipeS (shut L ρ) vs) with
      | ex x ρ1 => rw [e2] at k; exact k.elim
      | bad => rw [e2] at k; exact k.elim
      | ok es ρ1 =>
        rw [e2] at k
        exact compM_loop (r.shutted g1) y hp hz e2 fun F' H' acc r2 s2 fp bp ep dd nj => k p H' F' r2 fp bp ⟨acc, ep, dd⟩ nj
    · rw [if_neg hz] at k; exact k.elim
def sOwnM (i : Nat) (m : Env → MO D) : Env → Out := fun ρ => mAt m ρ fun d ρ1 => .nx (ρ1.set i (some (.own false d)))
theorem ownM_at {i : Nat} {m : Env → MO D} (r : Rl K B σ H ρ F) (k : So K xm B Dn (sOwnM i m ρ)) : PmW K xm σ B (m ρ) fun v H' => Dn.nx (σ.set i (some v)) H' := by
  unfold sOwnM mAt at k
  cases e : m ρ with
  | ok d ρ1 =>
    rw [e] at k
    exact fun p H' F' r' fp bp ow nj => k _ _ _ (r'.setOwn ow fp bp fun j t e h1 h2 => absurd h2 (nj j t e h1))
  | ex x ρ1 =>
    rw [e] at k
    cases xm with
    | none => exact k
    | some m => exact fun C dd H' F' r' hx => k C dd σ H' F' r' hx
  | bad => rw [e] at k; exact k
theorem fs_ownLcM {y : Str} {py : Pos} {elt tg iter : Expr} {ifs : List Expr} {scope : Scope} {pos spos : Pos} {L : List Nat} {it : VEnv → Res (List D)} {g : Tgt} {c : Env → MO Bool} {f : Env → MO D} (i : Nat) (own : List (Str × Nat)) (hN : X.N.Nodup) (hi : FI K xm X tg iter it)
    (hg : ∀ (s : Shared) (H : Hp) (C : Addr) (cl : List (Str × Addr)) (fp : List Addr), FG K (X.blk s H scope (compEnvC scope cl C X.env) fp) tg g) (ht : ∀ (s : Shared) (H : Hp) (C : Addr) (cl : List (Str × Addr)) (fp : List Addr), MTs K (X.blk s H scope (compEnvC scope cl C X.env) fp) ifs c)
    (he : ∀ (s : Shared) (H : Hp) (C : Addr) (cl : List (Str × Addr)) (fp : List Addr), ME K none (X.blk s H scope (compEnvC scope cl C X.env) fp) elt f)
    (ok : BlkOk X.N X.env.scope scope own) (hsw : swapsWith (.ListComp elt [⟨tg, iter, ifs, 0⟩] scope pos) (some (.Name y py)) spos.line X.env = pure true) (hy : X.N[i]? = some y := by rfl) (hyl : X.env.scope.names.lookup y = some .local := by rfl) (hc : X.calm = true := by rfl) (hs : ∀ x, foldedSetIterable iter X.env x = pure x := by intro _; rfl) :
    FS K xm X (.Assign [.Name y py] (.ListComp elt [⟨tg, iter, ifs, 0⟩] scope pos) spos) (sOwnM i (mComp (own.map (·.2)) L it g c f)) :=
  PS.to (ps_setLc (i := i) hc hN hy hyl hsw hi ok hg ht he hs) fun Dn σ H ⟨B, ρ, F, r, k⟩ => mComp_w (elt := elt) (tg := tg) (iter := iter) (Q := fun v H' => Dn.nx (σ.set i (some v)) H') ⟨B, ρ, F, r, ownM_at r k⟩
end
end Du

namespace Du
open PySem PySem.Spec PyProof.Rows L2
section
variable {K : PySem.W.Frag} {xm : XMo} {X : Cx}
/-! ### len, abs, min, max, sum, all, any -/
def rLenA (K : PySem.W.Frag) : List V → Hp → VK → Prop := fun xs H Q => (fun xs H Q => ∃ x n, xs = [x] ∧ LenV K x H n ∧ Q (.int n) H) xs H Q ∨ (fun xs H Q => ∃ a kvs, xs = [V.ref a] ∧ Rd H a (.dK kvs) ∧ Q (.int kvs.length) H) xs H Q
theorem call_lenR {X : Cx} : CallR X (.builtin "len") (fun xs H Q => ∃ a kvs, xs = [V.ref a] ∧ Rd H a (.dK kvs) ∧ Q (.int kvs.length) H) := by
  intro pins s σ H xs us Q I r h
  obtain ⟨a, kvs, rfl, ha, q⟩ := h
  obtain ⟨u, rfl, ru⟩ := vals1 r
  cases ru
  exact d_len I ha fun t s' I' => ⟨.int kvs.length, H, I', ⟨t, rfl⟩, q⟩
theorem cr_len (h : X.K = K := by rfl) : CallR X (.builtin "len") (rLenA K) := by
  subst h
  exact CallR.or call_len call_lenR
def dLen : List D → Res D
  | [.str z] => if fit z.length = true then .ok (.int z.length) else .bad
  | [.lst ds] => .ok (.int ds.length)
  | [.tup ds] => .ok (.int ds.length)
  | [.scr ns] => .ok (.int ns.length)
  | [.dct false kvs] => .ok (.int kvs.length)
  | _ => .bad
theorem cd_len : CallD K (rLenA K) dLen := by
  intro xm σ F H xs ds Q s hd k
  unfold dLen at k
  split at k
  · obtain ⟨v, rfl, h⟩ := hd.one
    obtain ⟨f, k⟩ := Po.ite k
    rw [h.strE]
    exact .inl ⟨_, _, rfl, ⟨Nat.le_of_lt (fit_line f), rfl⟩, k.done s (.int _)⟩
  · obtain ⟨v, rfl, h⟩ := hd.one
    obtain ⟨p, ys, rfl, h1, h2⟩ := h.lstE
    exact .inl ⟨_, _, rfl, .inl ⟨ys, SqL.of (s _ _ h1), rfl⟩, by rw [h2.length]; exact k.done s (.int _)⟩
  · obtain ⟨v, rfl, h⟩ := hd.one
    obtain ⟨p, ys, rfl, h1, h2⟩ := h.tupE
    exact .inl ⟨_, _, rfl, .inr ⟨ys, (Below.of s).sqt h1, rfl⟩, by rw [h2.length]; exact k.done s (.int _)⟩
  · obtain ⟨v, rfl, h⟩ := hd.one
    cases h with
    | scr h1 => exact .inl ⟨_, _, rfl, .inl ⟨_, (Below.of s).sql h1, rfl⟩, by rw [List.length_map]; exact k.done s (.int _)⟩
  · obtain ⟨v, rfl, h⟩ := hd.one
    cases h with
    | @dk a kvs _ h1 h2 h3 =>
      exact .inr ⟨a, kvs, rfl, (Below.of s).rd h1, by
        have e := congrArg List.length h3
        rw [List.length_map, List.length_map] at e
        rw [← e]
        exact k.done s (.int _)⟩
  · exact k.elim
def dAbs : List D → Res D
  | [.int i] => .ok (.int (if i < 0 then -i else i))
  | _ => .bad
theorem cd_abs : CallD K (fun xs H Q => ∃ i, xs = [.int i] ∧ Q (.int (if i < 0 then -i else i)) H) dAbs := by
  intro xm σ F H xs ds Q s hd k
  unfold dAbs at k
  split at k
  · obtain ⟨v, rfl, h⟩ := hd.one
    rw [h.intE]
    exact ⟨_, rfl, k.done s (.int _)⟩
  · exact k.elim
def dMax2 : List D → Res D
  | [.int i, .int j] => .ok (.int (if j > i then j else i))
  | _ => .bad
theorem cd_max2 : CallD K (fun xs H Q => ∃ i j, xs = [.int i, .int j] ∧ Q (.int (if j > i then j else i)) H) dMax2 := by
  intro xm σ F H xs ds Q s hd k
  unfold dMax2 at k
  split at k
  · obtain ⟨v, w, rfl, h, h'⟩ := hd.two
    rw [h.intE, h'.intE]
    exact ⟨_, _, rfl, k.done s (.int _)⟩
  · exact k.elim
def dMin2 : List D → Res D
  | [.int i, .int j] => .ok (.int (if j < i then j else i))
  | _ => .bad
theorem cd_min2 : CallD K (fun xs H Q => ∃ i j, xs = [.int i, .int j] ∧ Q (.int (if j < i then j else i)) H) dMin2 := by
  intro xm σ F H xs ds Q s hd k
  unfold dMin2 at k
  split at k
  · obtain ⟨v, w, rfl, h, h'⟩ := hd.two
    rw [h.intE, h'.intE]
    exact ⟨_, _, rfl, k.done s (.int _)⟩
  · exact k.elim
/-- a list of whole numbers, of truths -/
def asInts : List D → Option (List Int)
  | [] => some []
  | .int i :: r => (asInts r).map (i :: ·)
  | _ :: _ => none
def asBls : List D → Option (List Bool)
  | [] => some []
  | .bl i :: r => (asBls r).map (i :: ·)
  | _ :: _ => none
def asStrs : List D → Option (List Str)
  | [] => some []
  | .str i :: r => (asStrs r).map (i :: ·)
  | _ :: _ => none
theorem asBls_of : ∀ {ds : List D} {ns : List Bool}, asBls ds = some ns → ds = ns.map D.bl
  | [], _, h => by cases h; rfl
  | .bl i :: r, ns, h => by
    unfold asBls at h
    obtain ⟨m, h1, rfl⟩ := Option.map_eq_some_iff.mp h
    rw [asBls_of h1]
    rfl
  | .non :: _, _, h => by cases h
  | .int _ :: _, _, h => by cases h
  | .str _ :: _, _, h => by cases h
  | .lst _ :: _, _, h => by cases h
  | .tup _ :: _, _, h => by cases h
  | .scr _ :: _, _, h => by cases h
  | .dct _ _ :: _, _, h => by cases h
  | .exc _ _ :: _, _, h => by cases h
theorem asStrs_of : ∀ {ds : List D} {ns : List Str}, asStrs ds = some ns → ds = ns.map D.str
  | [], _, h => by cases h; rfl
  | .str i :: r, ns, h => by
    unfold asStrs at h
    obtain ⟨m, h1, rfl⟩ := Option.map_eq_some_iff.mp h
    rw [asStrs_of h1]
    rfl
  | .non :: _, _, h => by cases h
  | .int _ :: _, _, h => by cases h
  | .bl _ :: _, _, h => by cases h
  | .lst _ :: _, _, h => by cases h
  | .tup _ :: _, _, h => by cases h
  | .scr _ :: _, _, h => by cases h
  | .dct _ _ :: _, _, h => by cases h
  | .exc _ _ :: _, _, h => by cases h
@[simp] theorem asInts_map (ns : List Int) : asInts (ns.map D.int) = some ns := by
  induction ns with
  | nil => rfl
  | cons n r ih => rw [List.map_cons, asInts, ih]; rfl
@[simp] theorem asBls_map (ns : List Bool) : asBls (ns.map D.bl) = some ns := by
  induction ns with
  | nil => rfl
  | cons n r ih => rw [List.map_cons, asBls, ih]; rfl
@[simp] theorem asStrs_map (ns : List Str) : asStrs (ns.map D.str) = some ns := by
  induction ns with
  | nil => rfl
  | cons n r ih => rw [List.map_cons, asStrs, ih]; rfl
theorem DtAll.blsE {F : Hp} : ∀ {vs : List V} {ns : List Bool}, DtAll K F vs (ns.map D.bl) → vs = ns.map V.bl
  | _, [], .nil => rfl
  | _, n :: ns, .cons a b => by
    rw [a.blE, DtAll.blsE b]
    rfl
def dSum : List D → Res D
  | [.lst ds] => match asInts ds with
    | some ns => .ok (.int ns.sum)
    | none => .bad
  | _ => .bad
def dMaxL : List D → Res D
  | [.lst ds] => match asInts ds with
    | some (n :: ns) => .ok (.int (ns.foldl max n))
    | _ => .bad
  | _ => .bad
def dMinL : List D → Res D
  | [.lst ds] => match asInts ds with
    | some (n :: ns) => .ok (.int (ns.foldl min n))
    | _ => .bad
  | _ => .bad
def dAll : List D → Res D
  | [.lst ds] => match asBls ds with
    | some bs => .ok (.bl (bs.all id))
    | none => .bad
  | _ => .bad
def dAny : List D → Res D
  | [.lst ds] => match asBls ds with
    | some bs => .ok (.bl (bs.any id))
    | none => .bad
  | _ => .bad
theorem cd_all : CallD K (rAll K) dAll := by
  intro xm σ F H xs ds Q s hd k
  unfold dAll at k
  split at k
  · obtain ⟨v, rfl, h⟩ := hd.one
    obtain ⟨p, ys, rfl, h1, h2⟩ := h.lstE
    split at k
    · rename_i bs e
      rw [asBls_of e] at h2
      rw [h2.blsE] at h1
      exact ⟨p, bs, rfl, SqL.of (s _ _ h1), k.done s (.bl _)⟩
    · exact k.elim
  · exact k.elim
/-! ### int, str, list, tuple, dict -/
def dInt : List D → Res D
  | [.int i] => .ok (.int i)
  | [.bl b] => .ok (.int (if b then 1 else 0))
  | _ => .bad
theorem cd_int : CallD K (fun xs H Q => (∃ i, xs = [.int i] ∧ Q (.int i) H) ∨ ∃ k, xs = [.bl k] ∧ Q (.int (if k then 1 else 0)) H) dInt := by
  intro xm σ F H xs ds Q s hd k
  unfold dInt at k
  split at k
  · obtain ⟨v, rfl, h⟩ := hd.one
    rw [h.intE]
    exact .inl ⟨_, rfl, k.done s (.int _)⟩
  · obtain ⟨v, rfl, h⟩ := hd.one
    rw [h.blE]
    exact .inr ⟨_, rfl, k.done s (.int _)⟩
  · exact k.elim
def dStr : List D → Res D
  | [.int i] => if i.natAbs.log2 < 1920 then .ok (.str (toString i)) else .bad
  | _ => .bad
def dList : List D → Res D
  | [.lst ds] => .ok (.lst ds)
  | [.tup ds] => .ok (.lst ds)
  | [.scr ns] => .ok (.lst (ns.map D.int))
  | _ => .bad
theorem cd_list : CallD K (Dear.rListOf K) dList := by
  intro xm σ F H xs ds Q s hd k
  unfold dList at k
  split at k
  · obtain ⟨v, rfl, h⟩ := hd.one
    obtain ⟨p, ys, rfl, h1, h2⟩ := h.lstE
    exact ⟨p, ys, rfl, .inl (SqL.of (s _ _ h1)), fun l hl => k.new s hl (.lst upd_same (h2.same (sm_upd (s.free hl))))⟩
  · obtain ⟨v, rfl, h⟩ := hd.one
    obtain ⟨p, ys, rfl, h1, h2⟩ := h.tupE
    exact ⟨p, ys, rfl, .inr ((Below.of s).sqt h1), fun l hl => k.new s hl (.lst upd_same (h2.same (sm_upd (s.free hl))))⟩
  · obtain ⟨v, rfl, h⟩ := hd.one
    cases h with
    | scr h1 => exact ⟨_, _, rfl, .inl ((Below.of s).sql h1), fun l hl => k.new s hl (.lst upd_same (Dt.ints _))⟩
  · exact k.elim
def dTuple : List D → Res D
  | [.lst ds] => .ok (.tup ds)
  | [.tup ds] => .ok (.tup ds)
  | _ => .bad
theorem cd_tuple : CallD K (Dear.rTupOf K) dTuple := by
  intro xm σ F H xs ds Q s hd k
  unfold dTuple at k
  split at k
  · obtain ⟨v, rfl, h⟩ := hd.one
    obtain ⟨p, ys, rfl, h1, h2⟩ := h.lstE
    exact ⟨p, ys, rfl, .inl ⟨SqL.of (s _ _ h1), fun l hl => k.new s hl (.tup upd_same (h2.same (sm_upd (s.free hl))))⟩⟩
  · obtain ⟨v, rfl, h⟩ := hd.one
    obtain ⟨p, ys, rfl, h1, h2⟩ := id h.tupE
    exact ⟨p, ys, rfl, .inr ⟨(Below.of s).sqt h1, k.done s h⟩⟩
  · exact k.elim
/-! ### isinstance -/
def kind : D → String
  | .non => "NoneType" | .bl _ => "bool" | .int _ => "int" | .str _ => "str" | .lst _ => "list" | .tup _ => "tuple" | .dct _ _ => "dict" | .scr _ => "" | .exc _ _ => ""
def isKind (t : String) (d : D) : Res D := match d with
  | .scr _ => .bad
  | .exc _ _ => .bad
  | d => .ok (.bl (kind d == t || (kind d == "bool" && t == "int")))
theorem tyX_of {F H : Hp} {v : V} {d : D} (s : Same F H) (h : Dt K F v d) (h1 : ∀ ns, d ≠ .scr ns) (h2 : ∀ c f, d ≠ .exc c f) : TyX K H v (.type (kind d)) := by
  cases h with
  | non => exact .base .non
  | bl b => exact .base (.bl b)
  | int i => exact .base (.int i)
  | str z => exact .base (.str z)
  | lst h _ => exact .base (.lst (s _ _ h))
  | tup h _ => exact .base (.tup (s _ _ h))
  | tk h _ =>
    obtain ⟨_, _, _, h1, h2, _⟩ := h
    exact .kTuple h1 h2
  | scr _ => exact absurd rfl (h1 _)
  | dk h _ _ =>
    rcases h with h | ⟨o, h⟩
    · exact .base (.dK (s _ _ h))
    · exact .fDict (s _ _ h)
  | dt h _ _ => exact .base (.dT (s _ _ h))
def TyNames : List String := ["int", "bool", "str", "list", "tuple", "dict"]
theorem kitB_all : (TyNames.all fun t => ["NoneType", "bool", "int", "str", "list", "tuple", "dict"].all fun k => kitB k t == some (k == t || (k == "bool" && t == "int"))) = true := by decide +kernel
theorem kit_kind {t : String} (ht : t ∈ TyNames) {d : D} (h1 : ∀ ns, d ≠ .scr ns) (h2 : ∀ c f, d ≠ .exc c f) : PySem.W.kitOne K (.type (kind d)) (.type t) = some (kind d == t || (kind d == "bool" && t == "int")) := by
  refine kit_ty ?_
  have a := List.all_eq_true.mp kitB_all t ht
  have hm : kind d ∈ ["NoneType", "bool", "int", "str", "list", "tuple", "dict"] := by
    cases d with
    | scr ns => exact absurd rfl (h1 ns)
    | exc c f => exact absurd rfl (h2 c f)
    | _ => simp [kind]
  have b := List.all_eq_true.mp a _ hm
  exact eq_of_beq b
def eIsi (t : String) (f : VEnv → Res D) : VEnv → Res D := fun ρ => (f ρ).bind (isKind t)
theorem fe_isi {t : String} {ts : Str} {e : Expr} {f : VEnv → Res D} {p p2 pos : Pos} (ht : t ∈ TyNames) (he : FE K xm X e f) (h2 : PE X (.Name ts p2) (tC (.ty t))) (hm : X.mg "isinstance" = none) (hk : X.K = K := by rfl) (hg : Gl X "isinstance" := by rfl)
    (hs : starEach [e, .Name ts p2] X.env = (false, eval e X.env) :: starEach [.Name ts p2] X.env := by rfl) (hs2 : starEach [.Name ts p2] X.env = (false, eval (.Name ts p2) X.env) :: starEach [] X.env := by rfl) (hpl : (backTo pos (starEach [.Name ts p2] X.env)).any (·.1) = false := by rfl) :
    FE K xm X (.Call (.Name "isinstance" p) [e, .Name ts p2] [] pos) (eIsi t f) :=
  PE.to (pe_callB (Dear.call_isi_k K hk) hg hm (by decide +kernel) (pa_cons he (pa_cons h2 pa_nil hs2) hs) (by decide) (by decide) hs hpl) fun σ H Q ⟨F, ρ, sF, vw, k⟩ => ⟨F, ρ, sF, vw, Po.seq k fun d v F1 H1 g1 d1 k1 => by
    have key : (∀ ns, d ≠ .scr ns) → (∀ c f, d ≠ .exc c f) → Po (RD K) K xm σ F1 H1 (.ok (.bl (kind d == t || (kind d == "bool" && t == "int")))) Q → rIsi K [v, .ty t] H1 Q := fun h1 h2 k1 =>
      ⟨v, .ty t, _, _, _, rfl, .ty t, tyX_of g1.fh d1 h1 h2, kit_kind ht h1 h2, k1.done g1.fh (.bl _)⟩
    cases d with
    | scr ns => exact k1.elim
    | exc c f => exact k1.elim
    | non => exact key (fun _ => nofun) (fun _ _ => nofun) k1
    | bl _ => exact key (fun _ => nofun) (fun _ _ => nofun) k1
    | int _ => exact key (fun _ => nofun) (fun _ _ => nofun) k1
    | str _ => exact key (fun _ => nofun) (fun _ _ => nofun) k1
    | lst _ => exact key (fun _ => nofun) (fun _ _ => nofun) k1
    | tup _ => exact key (fun _ => nofun) (fun _ _ => nofun) k1
    | dct _ _ => exact key (fun _ => nofun) (fun _ _ => nofun) k1⟩
/-! ### len(set(e)), e a list of texts -/
def eLenSet (f : VEnv → Res D) : VEnv → Res D := fun ρ => (f ρ).bind fun d => match d with
  | .lst ds => match asStrs ds with
    | some zs => if Nat.ble zs.length 1000 = true then .ok (.int (Dear.dd zs).length) else .bad
    | none => .bad
  | _ => .bad
theorem fe_lenSet {a : Expr} {f : VEnv → Res D} {p p2 q pos : Pos} (hm : X.mg "len" = none) (hm2 : X.mg "set" = none) (ha : FE K xm X a f) (hc : X.calm = true := by rfl) (hk : X.K = K := by rfl) (hg : Gl X "len" := by rfl) (hg2 : Gl X "set" := by rfl)
    (na : starEach [a] X.env = (false, eval a X.env) :: starEach [] X.env := by rfl) : FE K xm X (.Call (.Name "len" p) [.Call (.Name "set" p2) [a] [] q] [] pos) (eLenSet f) :=
  PE.to (Dear.pe_lenSetS K hc hm hm2 ha hk hg hg2 na) fun σ H Q ⟨F, ρ, sF, vw, k⟩ => ⟨F, ρ, sF, vw, Po.seq k fun d v F1 H1 g1 d1 k1 => by
    split at k1
    · obtain ⟨p, ys, rfl, h1, h2⟩ := d1.lstE
      split at k1
      · rename_i zs e
        obtain ⟨f, k1⟩ := Po.ite k1
        rw [asStrs_of e] at h2
        rw [h2.strsE] at h1
        exact ⟨p, zs, rfl, SqL.of (g1.fh _ _ h1), Nat.le_of_ble_eq_true f, k1.done g1.fh (.int _)⟩
      · exact k1.elim
    · exact k1.elim⟩
/-! ### own lists: list(e), sorted(e); dict(pairs) -/
/-- pairs of a key and a thing -/
def asPairs : List D → Option (List (D × D))
  | [] => some []
  | .tup [k, v] :: r => if dKeyOk k = true then (asPairs r).map ((k, v) :: ·) else none
  | _ :: _ => none
noncomputable def mergeD (acc : List (D × D)) (ps : List (D × D)) : List (D × D) := ps.foldl (fun a p => dPut a p.1 p.2) acc
noncomputable def dDict : List D → Res D
  | [.lst ds] => match asPairs ds with
    | some ps => .ok (.dct false (mergeD [] ps))
    | none => .bad
  | _ => .bad
/-! ### methods -/
def MtD (K : PySem.W.Frag) (T : String) (r : V → List V → Hp → VK → Prop) (ty : D → Bool) (g : D → List D → Res D) : Prop :=
  (∀ F H x a, Same F H → Dt K F x a → ty a = true → tyV K T x H) ∧ ∀ (xm : XMo) σ F H x a xs ds Q, Same F H → Dt K F x a → ty a = true → DtAll K F xs ds → Po (RD K) K xm σ F H (g a ds) Q → r x xs H Q
def eM (ty : D → Bool) (g : D → List D → Res D) (fo : VEnv → Res D) (fa : VEnv → Res (List D)) : VEnv → Res D := fun ρ => (fo ρ).bind fun a => if ty a = true then (fa ρ).bind fun as => g a as else .bad
theorem fe_m {T id : String} {name : Str} {r : V → List V → Hp → VK → Prop} {ty : D → Bool} {g : D → List D → Res D} {o e : Expr} {es : List Expr} {apos cpos : Pos} {fo : VEnv → Res D} {fa : VEnv → Res (List D)} (pa : PlainAttrs T) (slot : PySem.Slot T name id) (hty : typeOf (.builtin id) = pure (.type "method_descriptor")) (hm : MtR X id r) (h : MtD K T r ty g) (ho : FE K xm X o fo) (ha : FA K xm X (e :: es) fa) (hk : X.K = K := by rfl)
    (hbase : attributeBase o name X.env (eval o X.env) = eval o X.env := by rfl)
    (hfew : ((backTo cpos (starEach (e :: es) X.env)).all (fun x => !x.1) && (backToKw cpos (keywordEach [] X.env)).all (fun x => x.1.isSome)
      && decide ((e :: es).length + ([] : List Keyword).length + (if ([] : List Keyword).isEmpty then 0 else 1) < 30)) = true := by rfl)
    (hline : (apos.endLine == cpos.line) = true := by rfl) (hs : starEach (e :: es) X.env = (false, eval e X.env) :: starEach es X.env := by rfl) (hplain : (backTo cpos (starEach es X.env)).any (·.1) = false := by rfl) :
    FE K xm X (.Call (.Attribute o name apos) (e :: es) [] cpos) (eM ty g fo fa) := by
  subst hk
  exact PE.to (pe_bm pa slot hty hm ho ha hbase hfew hline hs hplain) fun σ H Q ⟨F, ρ, sF, vw, k⟩ => ⟨F, ρ, sF, vw, Po.seq k fun a x F1 H1 g1 d1 k1 => by
    obtain ⟨t, k1⟩ := Po.ite k1
    exact ⟨h.1 F1 H1 x a g1.fh d1 t, F1, ρ, g1.fh, vw.same g1.ff, Po.seq k1 fun as xs F2 H2 g2 d2 k2 => h.2 xm σ F2 H2 x a xs as Q g2.fh (d1.same g2.ff) t d2 k2⟩⟩
def isStr : D → Bool
  | .str _ => true
  | _ => false
def isLst : D → Bool
  | .lst _ => true
  | _ => false
theorem ty_str {F H : Hp} {x : V} {a : D} (h : Dt K F x a) (t : isStr a = true) : tyV K "str" x H := by
  cases h <;> first | rfl | cases t
theorem ty_lst {F H : Hp} {x : V} {a : D} (s : Same F H) (h : Dt K F x a) (t : isLst a = true) : tyV K "list" x H := by
  cases h with
  | lst h _ => exact .inl ⟨rfl, _, SqL.of (s _ _ h)⟩
  | _ => cases t
def dStarts : D → List D → Res D
  | .str a, [.str b] => .ok (.bl (Txt.startswith a b))
  | _, _ => .bad
theorem md_starts : MtD K "str" (fun x xs H Q => ∃ a b, x = .str a ∧ xs = [.str b] ∧ Q (.bl (Txt.startswith a b)) H) isStr dStarts := ⟨fun F H x a s h t => ty_str h t, by
  intro xm σ F H x a xs ds Q s h t hd k
  unfold dStarts at k
  split at k
  · obtain ⟨v, rfl, q⟩ := hd.one
    rw [h.strE, q.strE]
    exact ⟨_, _, rfl, rfl, k.done s (.bl _)⟩
  · exact k.elim⟩
def dUpper : D → List D → Res D
  | .str a, [] => if Nat.ble a.length 5592405 = true then .ok (.str (Txt.upper a)) else .bad
  | _, _ => .bad
/-- the first place of a flat thing -/
def dIndex : D → List D → Res D
  | .lst ds, [d] => if (flatD d && ds.all flatD) = true then match ds.findIdx? (fun e => pyEq e d) with
    | some j => .ok (.int j)
    | none => .bad else .bad
  | _, _ => .bad
theorem md_index : MtD K "list" (rIndex K) isLst dIndex := ⟨fun F H x a s h t => ty_lst s h t, by
  intro xm σ F H x a xs ds Q s h t hd k
  unfold dIndex at k
  split at k
  · rename_i es d
    obtain ⟨f, k⟩ := Po.ite k
    obtain ⟨v, rfl, q⟩ := hd.one
    obtain ⟨p, ys, rfl, h1, h2⟩ := h.lstE
    rw [Bool.and_eq_true] at f
    split at k
    · rename_i j e
      obtain ⟨hj, e1, e2⟩ := List.findIdx?_eq_some_iff_getElem.mp e
      obtain ⟨z, w1, w2⟩ := h2.at (List.getElem?_eq_getElem hj)
      have fz : flatD es[j] = true := List.all_eq_true.mp f.2 _ (List.getElem_mem hj)
      refine ⟨p, ys, v, j, z, rfl, rfl, SqL.of (s _ _ h1), flat_of q f.1, flats_of h2 f.2, w1, by rw [eqV_of w2 q fz f.1]; exact e1, fun m z' hm hz => ?_, k.done s (.int _)⟩
      obtain ⟨d', w3, w4⟩ := h2.get hz
      obtain ⟨hm', e3⟩ := List.getElem?_eq_some_iff.mp w3
      rw [eqV_of w4 q (List.all_eq_true.mp f.2 _ (List.mem_of_getElem? w3)) f.1, ← e3]
      exact Bool.eq_false_iff.mpr (e2 m hm)
    · exact k.elim
  · exact k.elim⟩
end
end Du

namespace Du
open PySem PySem.Spec PyProof.Rows L2
section
variable {K : PySem.W.Frag} {xm : XMo} {X : Cx}
/-! ### sep.join(texts), text.split(sep) -/
def dJoin : D → D → Res D
  | .str a, .lst ds => match asStrs ds with
    | some zs => if Nat.ble ((zs.map (·.length)).sum + zs.length * a.length) 16777216 = true then .ok (.str (Txt.join a zs)) else .bad
    | none => .bad
  | _, _ => .bad
def eJoin (fo fa : VEnv → Res D) : VEnv → Res D := fun ρ => (fo ρ).bind fun a => if isStr a = true then (fa ρ).bind fun d => dJoin a d else .bad
def dSplit : D → List D → Res D
  | .str a, [.str b] => if (!(b.length == 0) && Nat.ble (a.length + 2) 16777216) = true then .ok (.lst ((Txt.split a b).map D.str)) else .bad
  | _, _ => .bad
/-! ### d.get(k), d.get(k, e) -/
def isDct : D → Bool
  | .dct false _ => true
  | _ => false
noncomputable def eGet1 (fo fk : VEnv → Res D) : VEnv → Res D := fun ρ => (fo ρ).bind fun a => match a with
  | .dct false kvs => (fk ρ).bind fun n => if dKeyOk n = true then .ok ((dGet kvs n).getD .non) else .bad
  | _ => .bad
noncomputable def eGet2 (fo fk fd : VEnv → Res D) : VEnv → Res D := fun ρ => (fo ρ).bind fun a => match a with
  | .dct false kvs => (fk ρ).bind fun n => (fd ρ).bind fun e => if dKeyOk n = true then .ok ((dGet kvs n).getD e) else .bad
  | _ => .bad
/-! ### sorted(e), e whole numbers, few -/
def insI (n : Int) : List Int → List Int
  | [] => [n]
  | m :: r => if n ≤ m then n :: m :: r else m :: insI n r
def sortI : List Int → List Int
  | [] => []
  | n :: r => insI n (sortI r)
/-! ### the law's own end -/
end
section
variable {P : Program} {w : World} {K : PySem.W.Frag} {mg : Str → Option Value} {base : Heap}
theorem law_of {k : Nat} {f : Addr} {fd : FuncData} {g : List D → Res D} (h : FnOk P w K mg base CX0 k f fd ["_law_script"] (sp0 K g)) (e : ∀ ns : List Int, ns.length ≤ 63 → g [.scr ns] = .ok (.bl true)) :
    FnOk P w K mg base CX0 k f fd ["_law_script"] (fun vs H Q _ => ∃ (a : Addr) (ns : List Int), vs = [.ref a] ∧ SqL K H a (ns.map V.int) ∧ ns.length ≤ 63 ∧ ∀ H', Q (.bl true) H') :=
  h.imp fun vs H Q E ⟨a, ns, ev, hS, hl, q⟩ => ⟨[.scr ns], H, .refl _, by rw [ev]; exact .cons (.scr hS) .nil, _, e ns hl, fun v G' H' _ d => by rw [d.blE]; exact q H'⟩
end
end Du

namespace Du
open PySem PySem.Spec PyProof.Rows L2
/-! ### what a comparison tells is a truth -/
theorem gb_eq : ∀ x y d, dEq x y = .ok d → ∃ b, d = .bl b := fun x y d h => by
  unfold dEq at h
  split at h
  · cases h; exact ⟨_, rfl⟩
  · cases h
theorem gb_ne : ∀ x y d, dNe x y = .ok d → ∃ b, d = .bl b := fun x y d h => by
  unfold dNe at h
  split at h
  · cases h; exact ⟨_, rfl⟩
  · cases h
theorem gb_cmp {p : Int → Int → Bool} : ∀ x y d, dCmp p x y = .ok d → ∃ b, d = .bl b := fun x y d h => by
  unfold dCmp at h
  split at h
  · cases h; exact ⟨_, rfl⟩
  · cases h
theorem gb_in {n : Bool} : ∀ x y d, dIn n x y = .ok d → ∃ b, d = .bl b := fun x y d h => by
  unfold dIn at h
  split at h
  · split at h
    · cases h; exact ⟨_, rfl⟩
    · cases h
  · split at h
    · cases h; exact ⟨_, rfl⟩
    · cases h
  · split at h
    · cases h; exact ⟨_, rfl⟩
    · cases h
  · split at h
    · cases h; exact ⟨_, rfl⟩
    · cases h
  · cases h
theorem gb_notN : ∀ x y d, dNotN x y = .ok d → ∃ b, d = .bl b := fun x y d h => by
  unfold dNotN at h
  split at h
  · cases h; exact ⟨_, rfl⟩
  · cases h
section
variable {K : PySem.W.Frag} {xm : XMo} {X : Cx}
/-! ### f(e, ..), e a new thing that f changes: what f tells of it -/
def eIOT (f : List D → Res (D × D)) (f0 : VEnv → Res D) (fa : VEnv → Res (List D)) : VEnv → Res D := fun ρ => (f0 ρ).bind fun o => (fa ρ).bind fun as => match f (o :: as) with
  | .ok r => .ok r.1
  | _ => .bad
end
end Du

namespace Du
open PySem PySem.Spec PyProof.Rows L2
theorem u65 {k : Nat} {A : Around} (r : Room k A) : A.units + 64 + 1 < cLine := by have := r.un; omega
def dNeg : D → Res D
  | .int i => .ok (.int (-i))
  | _ => .bad
theorem und_neg {K : PySem.W.Frag} : UnD K (rU fun i => .int (-i)) dNeg := by
  intro xm σ F H x a Q s h k
  unfold dNeg at k
  split at k
  · rw [h.intE]
    exact ⟨_, rfl, k.done s (.int _)⟩
  · exact k.elim
theorem tn_int : "int" ∈ TyNames := by unfold TyNames; exact .head _
theorem tn_bool : "bool" ∈ TyNames := by unfold TyNames; exact .tail _ (.head _)
theorem tn_str : "str" ∈ TyNames := by unfold TyNames; exact .tail _ (.tail _ (.head _))
theorem tn_list : "list" ∈ TyNames := by unfold TyNames; exact .tail _ (.tail _ (.tail _ (.head _)))
theorem tn_tuple : "tuple" ∈ TyNames := by unfold TyNames; exact .tail _ (.tail _ (.tail _ (.tail _ (.head _))))
end Du
namespace Du
open PySem PySem.Spec PyProof.Rows L2
end Du

namespace Du
open PySem PySem.Spec PyProof.Rows L2
/-! ### a dict that is gone through is locked meanwhile -/
section
variable {K : PySem.W.Frag} {F G : Hp}
structure Abv (F G : Hp) : Prop where
  rd : ∀ a u, (∀ ob w, u ≠ .frz ob w) → Rd F a u → Rd G a u
  ls : ∀ a xs, F a = some (.lst xs) → G a = some (.lst xs)
  tp : ∀ a xs, F a = some (.tup xs) → G a = some (.tup xs)
  dt : ∀ a xs, F a = some (.dT xs) → G a = some (.dT xs)
theorem Abv.sql {a : Addr} {xs : List V} (s : Abv F G) (h : SqL K F a xs) : SqL K G a xs := h.imp (s.rd _ _ fun _ _ e => nomatch e) id
theorem Abv.sqt {a : Addr} {xs : List V} (s : Abv F G) (h : SqT K F a xs) : SqT K G a xs := h.imp (s.rd _ _ fun _ _ e => nomatch e) id
theorem Abv.rdk {a : Addr} {xs : List (Key × V)} (s : Abv F G) (h : Rd F a (.dK xs)) : Rd G a (.dK xs) := s.rd _ _ (fun _ _ e => nomatch e) h
mutual
theorem Dt.ab (s : Abv F G) : ∀ {v : V} {d : D}, Dt K F v d → Dt K G v d
  | _, _, .non => .non
  | _, _, .bl b => .bl b
  | _, _, .int i => .int i
  | _, _, .str z => .str z
  | _, _, .lst h a => .lst (s.ls _ _ h) (DtAll.ab s a)
  | _, _, .scr h => .scr (s.sql h)
  | _, _, .tup h a => .tup (s.tp _ _ h) (DtAll.ab s a)
  | _, _, .tk h a => .tk h (DtAll.ab s a)
  | _, _, .dk h a e => .dk (s.rdk h) (DtAll.ab s a) e
  | _, _, .dt h a e => .dt (s.dt _ _ h) (DtAll.ab s a) e
theorem DtAll.ab (s : Abv F G) : ∀ {vs : List V} {ds : List D}, DtAll K F vs ds → DtAll K G vs ds
  | _, _, .nil => .nil
  | _, _, .cons a b => .cons (Dt.ab s a) (DtAll.ab s b)
end
theorem abv_unlock {a0 : Addr} {kvs : List (Key × V)} {od : Obj} (h : F a0 = none ∨ F a0 = some (.frz od (.dK kvs))) : Abv F (upd F a0 (.dK kvs)) := by
  have st : ∀ (a : Addr) (u : HO), (∀ ob w, u ≠ .frz ob w) → (∀ w, u ≠ .dK w) → F a = some u → (upd F a0 (.dK kvs)) a = some u := fun a u n n2 e => by
    by_cases z : a = a0
    · subst z
      rcases h with h | h
      · rw [h] at e; cases e
      · rw [h] at e; cases e; exact absurd rfl (n _ _)
    · rw [upd_ne z]; exact e
  refine ⟨fun a u n r => ?_, fun a xs e => ?_, fun a xs => st a _ (fun _ _ e => nomatch e) (fun _ e => nomatch e), fun a xs => st a _ (fun _ _ e => nomatch e) (fun _ e => nomatch e)⟩
  · by_cases z : a = a0
    · subst z
      rcases h with h | h
      · rcases r with r | ⟨ob, r⟩
        · rw [h] at r; cases r
        · rw [h] at r; cases r
      · rcases r with r | ⟨ob, r⟩
        · rw [h] at r; cases r; exact absurd rfl (n _ _)
        · rw [h] at r; cases r; exact .inl upd_same
    · rcases r with r | ⟨ob, r⟩
      · exact .inl (by rw [upd_ne z]; exact r)
      · exact .inr ⟨ob, by rw [upd_ne z]; exact r⟩
  · by_cases z : a = a0
    · subst z
      rcases h with h | h
      · rw [h] at e; cases e
      · rw [h] at e; cases e
    · rw [upd_ne z]; exact e
theorem bel_lock {a0 : Addr} {kvs : List (Key × V)} {od : Obj} (h : F a0 = some (.dK kvs)) : Below F (upd F a0 (.frz od (.dK kvs))) := fun a o e => by
  by_cases z : a = a0
  · subst z
    rw [h] at e
    cases e
    exact .inr ⟨_, _, rfl, upd_same⟩
  · exact .inl (by rw [upd_ne z]; exact e)
theorem Ow.mv' {F' H H' : Hp} {p : Addr} {d : D} (h : Ow K F H p d) (m : ∀ vs ds, DtAll K F vs ds → DtAll K F' vs ds) (e : ∀ o, H p = Option.some o → H' p = Option.some o) : Ow K F' H' p d := by
  unfold Ow at h ⊢
  split at h
  · obtain ⟨xs, h1, h2⟩ := h
    exact ⟨xs, e _ h1, m _ _ h2⟩
  · obtain ⟨kvs, h1, h2, h3⟩ := h
    exact ⟨kvs, e _ h1, m _ _ h2, h3⟩
  · obtain ⟨kvs, h1, h2, h3⟩ := h
    exact ⟨kvs, e _ h1, m _ _ h2, h3⟩
  · exact h.elim
def Bs.lock (B : Bs) (a : Addr) (o : HO) : Bs := ⟨upd B.b a o, B.g, B.pin⟩
variable {B : Bs} {H : Hp} {σ : St} {ρ : Env} {Dn : Ends} {a : Addr} {kvs : List (Key × V)} {od : Obj}
theorem Rl.lock (r : Rl K B σ H ρ F) (hf : F a = some (.dK kvs)) (hb : B.b a = some (.dK kvs)) (hg : ∃ v, B.g a = some v) : Rl K (B.lock a (.frz od (.dK kvs))) σ (upd H a (.frz od (.dK kvs))) ρ (upd F a (.frz od (.dK kvs))) := by
  refine ⟨sm_upd2 r.fh, sm_upd2 r.bh, fun c o u e1 e2 => ?_, r.len, fun i d e => ?_, fun i t d e => ?_, r.dj, r.pn⟩
  · by_cases z : c = a
    · subst z; exact hg
    · refine r.zf c o u ?_ (by rw [upd_ne z] at e2; exact e2)
      have : (upd B.b a (.frz od (.dK kvs))) c = some o := e1
      rw [upd_ne z] at this
      exact this
  · obtain ⟨v, q1, q2⟩ := r.fz i d e
    exact ⟨v, q1, q2.mv (bel_lock hf)⟩
  · obtain ⟨p, q1, q2, q3, q4⟩ := r.ow i t d e
    have z : p ≠ a := fun z => by rw [z, hf] at q2; cases q2
    refine ⟨p, q1, by rw [upd_ne z]; exact q2, ?_, Ow.mv' q4 (fun _ _ q => q.mv (bel_lock hf)) fun o ho => by rw [upd_ne z]; exact ho⟩
    show (upd B.b a (.frz od (.dK kvs))) p = none
    rw [upd_ne z]
    exact q3
theorem Rl.lockAt (r : Rl K (B.lock a (.frz od (.dK kvs))) σ H ρ F) : H a = some (.frz od (.dK kvs)) := r.bh a _ upd_same
theorem Rl.abv (r : Rl K (B.lock a (.frz od (.dK kvs))) σ H ρ F) : Abv F (upd F a (.dK kvs)) := abv_unlock (by
  cases e : F a with
  | none => exact .inl rfl
  | some o =>
    have := r.fh _ _ e
    rw [r.lockAt] at this
    cases this
    exact .inr rfl)
theorem Rl.unlock (r : Rl K (B.lock a (.frz od (.dK kvs))) σ H ρ F) (hb : B.b a = some (.dK kvs)) (hg : ∃ v, B.g a = some v) : Rl K B σ (upd H a (.dK kvs)) ρ (upd F a (.dK kvs)) := by
  refine ⟨sm_upd2 r.fh, fun c o e => ?_, fun c o u e1 e2 => ?_, r.len, fun i d e => ?_, fun i t d e => ?_, r.dj, r.pn⟩
  · by_cases z : c = a
    · subst z; rw [hb] at e; cases e; exact upd_same
    · rw [upd_ne z]
      refine r.bh c o ?_
      show (upd B.b a (.frz od (.dK kvs))) c = some o
      rw [upd_ne z]
      exact e
  · by_cases z : c = a
    · subst z; exact hg
    · refine r.zf c o u ?_ (by rw [upd_ne z] at e2; exact e2)
      show (upd B.b a (.frz od (.dK kvs))) c = some o
      rw [upd_ne z]
      exact e1
  · obtain ⟨v, q1, q2⟩ := r.fz i d e
    exact ⟨v, q1, q2.ab r.abv⟩
  · obtain ⟨p, q1, q2, q3, q4⟩ := r.ow i t d e
    have z : p ≠ a := fun z => by
      have : (upd B.b a (.frz od (.dK kvs))) p = none := q3
      rw [z, upd_same] at this
      cases this
    refine ⟨p, q1, by rw [upd_ne z]; exact q2, ?_, Ow.mv' q4 (fun _ _ q => q.ab r.abv) fun o ho => by rw [upd_ne z]; exact ho⟩
    have : (upd B.b a (.frz od (.dK kvs))) p = none := q3
    rw [upd_ne z] at this
    exact this
/-- the ends of a statement that runs while the dict is locked (tLock) -/
def Lkd (Dn : Ends) (a : Addr) (od : Obj) (u : HO) : Ends := ⟨fun σ' H' => H' a = some (.frz od u) ∧ Dn.nx σ' (upd H' a u), fun v H' => H' a = some (.frz od u) ∧ Dn.rt v (upd H' a u), fun σ' H' => H' a = some (.frz od u) ∧ Dn.bk σ' (upd H' a u), fun σ' H' => H' a = some (.frz od u) ∧ Dn.ct σ' (upd H' a u)⟩
theorem So.lock {o : Out} (k : So K none B Dn o) (hb : B.b a = some (.dK kvs)) (hg : ∃ v, B.g a = some v) : So K none (B.lock a (.frz od (.dK kvs))) (Lkd Dn a od (.dK kvs)) o := by
  cases o with
  | nx ρ => exact fun σ H F r => ⟨r.lockAt, k _ _ _ (r.unlock hb hg)⟩
  | bk ρ => exact fun σ H F r => ⟨r.lockAt, k _ _ _ (r.unlock hb hg)⟩
  | ct ρ => exact fun σ H F r => ⟨r.lockAt, k _ _ _ (r.unlock hb hg)⟩
  | rt d ρ => exact fun v σ H F r dv => ⟨r.lockAt, k _ _ _ _ (r.unlock hb hg) (dv.ab r.abv)⟩
  | ro d ρ =>
    refine fun p σ H F r fp bp ow => ?_
    have z : p ≠ a := fun z => by
      have : (upd B.b a (.frz od (.dK kvs))) p = none := bp
      rw [z, upd_same] at this
      cases this
    refine ⟨r.lockAt, k p _ _ _ (r.unlock hb hg) (by rw [upd_ne z]; exact fp) ?_ (Ow.mv' ow (fun _ _ q => q.ab r.abv) fun o ho => by rw [upd_ne z]; exact ho)⟩
    have : (upd B.b a (.frz od (.dK kvs))) p = none := bp
    rw [upd_ne z] at this
    exact this
  | ex x ρ => exact k.elim
  | bad => exact k.elim
/-! ### for k in d, d.items(), d.values() -/
def iDict (i : Nat) (J : Addr → Obj → List (Key × V) → It) : TI := fun σ H R => tVar i σ H fun x H1 => ∃ d o kvs, x = .ref d ∧ H1 d = some (.frz o (.dK kvs)) ∧ R (J d o kvs) H1
/-- J walks the pairs of a dict as q -/
def Walks (K : PySem.W.Frag) (J : Addr → Obj → List (Key × V) → It) (q : List (D × D) → List D) : Prop := ∀ F a od kvs ds, F a = some (.frz od (.dK kvs)) → DtAll K F (kvs.map (·.2)) (ds.map (·.2)) → ds.map (·.1) = kvs.map (fun p => keyD p.1) → Yl K F (J a od kvs) (q ds)
def dDct (q : List (D × D) → List D) : D → Res (List D)
  | .dct false ds => .ok (q ds)
  | _ => .bad
def iDct (q : List (D × D) → List D) (i : Nat) : VEnv → Res (List D) := fun ρ => (eVar i ρ).bind (dDct q)
def qKeys (ds : List (D × D)) : List D := ds.map (·.1)
def qVals (ds : List (D × D)) : List D := ds.map (·.2)
def qItems (ds : List (D × D)) : List D := ds.map fun p => .tup [p.1, p.2]
variable {X : Cx} {xm : XMo}
theorem PS.or {st : Stmt} {t t' : TS} (h : PS X st t) (h' : PS X st t') : PS X st fun D σ H => t D σ H ∨ t' D σ H := ⟨fun pins s σ H D I q => q.elim (h.run pins s σ H D I) (h'.run pins s σ H D I)⟩
end
end Du

namespace Du
open PySem PySem.Spec PyProof.Rows L2
section
variable {K : PySem.W.Frag} {xm : XMo} {X : Cx} {B : Bs} {F H : Hp} {σ : St} {ρ : Env} {Dn : Ends}
/-! ### iterators, slices, .. with state -/
def iM (K : PySem.W.Frag) (xm : XMo) (m : Env → MO (List D)) : TI := fun σ H R => ∃ B ρ F, Rl K B σ H ρ F ∧ Pm (fun F' J ds => Yl K F' J ds) K xm σ B F (m ρ) R
abbrev MI (K : PySem.W.Frag) (xm : XMo) (X : Cx) (tg e : Expr) (m : Env → MO (List D)) : Prop := PI X tg e (iM K xm m)
def mRange1 (m : Env → MO D) : Env → MO (List D) := fun ρ => (m ρ).bind fun d ρ1 => match d with
  | .int j => if inR j = true then .ok (rangeD 0 j.toNat) ρ1 else .bad
  | _ => .bad
theorem mi_range1 {tg a : Expr} {p pos : Pos} {m : Env → MO D} (hm : X.mg "range" = none) (h : ME K xm X a m) (hg : Gl X "range" := by rfl) (hs : starEach [a] X.env = [(false, eval a X.env)] := by rfl) :
    MI K xm X tg (.Call (.Name "range" p) [a] [] pos) (mRange1 m) := PI.to (pi_range1 hg hm (ma_cons h ma_nil hs) hs) fun σ H R ⟨B, ρ, F, r, k⟩ => by
  unfold mRange1 at k
  refine ⟨B, ρ, F, r, ?_⟩
  unfold mCons mNil
  cases e : m ρ with
  | ex x ρ1 => rw [e] at k; exact k
  | bad => rw [e] at k; exact k.elim
  | ok d ρ1 =>
    rw [e] at k
    intro vs H' F' r' s' dd
    obtain ⟨v, rfl, q⟩ := DtAll.one dd
    cases d with
    | int j =>
      have k : Pm (fun F' J ds => Yl K F' J ds) K xm σ B F (if inR j = true then MO.ok (rangeD 0 j.toNat) ρ1 else .bad) R := k
      obtain ⟨f, k⟩ := Pm.ite k
      have f := of_decide_eq_true f
      exact ⟨j, by rw [q.intE], f.1, f.2, k _ H' F' r' s' (yl_rng 0 _)⟩
    | _ => exact k.elim
/-- over a list that is made with state -/
def mAny (m : Env → MO D) : Env → MO (List D) := fun ρ => (m ρ).bind fun d ρ1 => match d with
  | .lst ds => .ok ds ρ1
  | _ => .bad
def sForM (m : Env → MO (List D)) (tg : Tgt) (g : Env → Out) (l : List Nat) : Env → Out := fun ρ => mAt m ρ fun ds ρ1 => forL tg g l ds ρ1
theorem fs_forM {tg iter : Expr} {body : List Stmt} {m : Env → MO (List D)} {gt : Tgt} {g : Env → Out} {pos : Pos} (l : List Nat) (hp : PassesOwn (model X.prog X.w) X.A X.env X.xe) (hi : MI K xm X tg iter m) (hg : FG K X tg gt) (hb : FSs K xm X body g) (hc : X.calm = true := by rfl)
    (hs : ∀ x, foldedSetIterable iter X.env x = pure x := by intro _; rfl) : FS K xm X (.For tg iter body [] pos) (sForM m gt g l) :=
  PS.to (ps_for hp hc hi hg hb hs) fun Dn σ H ⟨B, ρ, F, r, k⟩ => ⟨B, ρ, F, r, pm_at (R := fun F' J ds => Yl K F' J ds) r k fun ds ρ1 J H' F' r' y _ k' => for_loop rfl r' y k'⟩
/-! comprehensions over such ones -/
def mCompI (vs : List Nat) (m : Env → MO (List D)) (tg : Tgt) (c : Env → MO Bool) (f : Env → MO D) : Env → MO D := fun ρ => (m ρ).bind fun ds ρ1 => if fit ds.length = true then match compM tg c f vs ds (wipeS ρ1 vs) with
    | .ok es ρ2 => .ok (.lst es) ρ2
    | _ => .bad else .bad
/-! x.extend(e) with state -/
def sExtM (i : Nat) (m : Env → MO D) : Env → Out := fun ρ => mAt m ρ fun d ρ1 => match d with
  | .lst es => chg ρ1 i fun ds => if fit (ds.length + es.length) = true then some (ds ++ es) else none
  | _ => .bad
theorem fs_extM {x : Str} {e : Expr} {m : Env → MO D} {p1 apos cpos pos : Pos} (i : Nat) (he : ME K xm X e m) (hN : X.N[i]? = some x := by rfl) (hv : Vis X.env.scope x := by first | exact Or.inl rfl | exact Or.inr (Or.inl rfl) | exact Or.inr (Or.inr rfl)) (hd : (x == ("__debug__" : Str)) = false := by decide)
    (hcd : (x == ("__classdict__" : Str)) = false := by decide) (hbase : attributeBase (.Name x p1) "extend" X.env (eval (.Name x p1) X.env) = eval (.Name x p1) X.env := by rfl)
    (hfew : ((backTo cpos (starEach [e] X.env)).all (fun x => !x.1) && (backToKw cpos (keywordEach [] X.env)).all (fun x => x.1.isSome) && decide (([e] : List Expr).length + ([] : List Keyword).length + (if ([] : List Keyword).isEmpty then 0 else 1) < 30)) = true := by rfl)
    (hline : (apos.endLine == cpos.line) = true := by rfl) (hs : starEach [e] X.env = (false, eval e X.env) :: starEach [] X.env := by rfl) (hplain : (backTo cpos (starEach [] X.env)).any (·.1) = false := by rfl)
    (hsw : swapsWith (.Call (.Attribute (.Name x p1) "extend" apos) [e] [] cpos) none pos.line X.env = pure false := by rfl) : FS K xm X (.Expr (.Call (.Attribute (.Name x p1) "extend" apos) [e] [] cpos) pos) (need i (sExtM i m)) :=
  PS.to (ps_expr (pe_bm PySem.F.plainAttrs_list PySem.F.slot_list_extend PySem.F.type_list_extend mt_extend (pv i hN hv hd hcd) (pa_cons he pa_nil hs) hbase hfew hline hs hplain) hsw) fun Dn σ H ⟨B, ρ, F, r, k⟩ => by
    obtain ⟨⟨t, ds, hi⟩, k⟩ := k.needE
    obtain ⟨p, xs, q1, q2, q3, q4⟩ := r.ownAt hi
    refine ⟨.ref p, q1, .inl ⟨rfl, _, SqL.of q2⟩, B, ρ, F, r, pm_at (R := RD K) r k fun d ρ1 v H' F' r' dv _ k' => ?_⟩
    cases d with
    | lst es =>
      obtain ⟨b, zs, rfl, hb, dz⟩ := dv.lstE
      obtain ⟨t', ds', es', h1, h2, k2⟩ := So.chgE k'
      obtain ⟨p', xs', w1, w2, w3, w4⟩ := r'.ownAt h1
      rw [q1] at w1
      cases w1
      by_cases f : fit (ds'.length + es.length) = true
      · rw [if_pos f] at h2
        cases h2
        exact ⟨p, b, xs', zs, rfl, rfl, w2, r'.fh _ _ hb, by rw [w3.length, dz.length]; exact Nat.le_of_lt (fit_line f), k2 _ _ _ (r'.write h1 q1 ⟨_, upd_same, w3.app dz⟩)⟩
      · rw [if_neg f] at h2
        cases h2
    | _ => exact k'.elim
/-! slices -/
def oM (K : PySem.W.Frag) (xm : XMo) (m : Env → MO (Option Int)) : TO := fun σ H Q => ∃ B ρ F, Rl K B σ H ρ F ∧ Pm RO K xm σ B F (m ρ) Q
abbrev MO' (K : PySem.W.Frag) (xm : XMo) (X : Cx) (e : Option Expr) (m : Env → MO (Option Int)) : Prop := PO X e (oM K xm m)
def mNo : Env → MO (Option Int) := fun ρ => .ok none ρ
def mYesO (m : Env → MO D) : Env → MO (Option Int) := fun ρ => (m ρ).bind fun d ρ1 => match d with
  | .int i => .ok (some i) ρ1
  | _ => .bad
def mSl (m : Env → MO D) (lo hi : Env → MO (Option Int)) : Env → MO D := fun ρ => (m ρ).bind fun a ρ1 => (lo ρ1).bind fun l ρ2 => (hi ρ2).bind fun h ρ3 => match dSl a l h with
  | .ok d => .ok d ρ3
  | _ => .bad
theorem Pm.new {d : D} {ρ : Env} {Q : VK} {p : Addr} {o : HO} (k : Pm (RD K) K xm σ B F (.ok d ρ) Q) (r : Rl K B σ H ρ F) (hp : H p = none) (hd : Dt K (upd F p o) (.ref p) d) : Q (.ref p) (upd H p o) :=
  k _ _ _ (r.grow (.new r.fh hp)) (sm_upd (r.fh.free hp)) hd
end
end Du

namespace Du
open PySem PySem.Spec PyProof.Rows L2
section
variable {K : PySem.W.Frag} {xm : XMo} {X : Cx} {B : Bs} {F H : Hp} {σ : St} {ρ : Env} {Dn : Ends}
/-! ### what is made new may be read at once -/
theorem PoW.po {r : Res D} {Q : VK} (k : Po (RD K) K xm σ F H r Q) : PoW K xm σ F H r Q := by
  cases r with
  | ok d =>
    intro p F' H' g hp fp ow
    obtain ⟨o, ho⟩ := ow.some
    exact k _ _ _ (g.freeze hp fp ho) (ow.dt (sm_upd fp) fun u hu => by rw [upd_same, ← hu, ho])
  | exc x => exact k
  | bad => exact k
theorem fe_w {e : Expr} {f : VEnv → Res D} (h : FW' K xm X e f) : FE K xm X e f := PE.to h fun σ H Q ⟨F, ρ, sF, vw, k⟩ => ⟨F, ρ, sF, vw, PoW.po k⟩
/-! ### {k: v} -/
noncomputable def eDct1 (fk fv : VEnv → Res D) : VEnv → Res D := fun ρ => (fk ρ).bind fun k => (fv ρ).bind fun v => if dKeyOk k = true then .ok (.dct false [(k, v)]) else .bad
/-! ### for k in d, list(d) -/
def dListD : List D → Res D
  | [.dct false ds] => .ok (.lst (qKeys ds))
  | _ => .bad
/-! ### e[::-1] -/
def dRev : D → Res D
  | .lst ds => .ok (.lst ds.reverse)
  | .scr ns => .ok (.lst (ns.map D.int).reverse)
  | _ => .bad
theorem fw_rev {e : Expr} {f : VEnv → Res D} {k : Nat} {p1 p2 p3 pos : Pos} (he : FE K xm X e f) (hk : X.K = K := by rfl) : FW' K xm X (.Subscript e (.Slice none none (some (.UnaryOp .USub (.Constant (.int 1) k p1) p2)) p3) pos) (eUn dRev f) := by
  subst hk
  refine PE.to (pe_revL he) fun σ H Q ⟨F, ρ, sF, vw, k⟩ => ⟨F, ρ, sF, vw, PoW.seq k fun d v F1 H1 g1 d1 k1 => ?_⟩
  unfold dRev at k1
  split at k1
  · obtain ⟨p, xs, rfl, h1, h2⟩ := d1.lstE
    exact ⟨p, xs, rfl, SqL.of (g1.fh _ _ h1), fun q hq => k1.new g1.fh hq ⟨_, upd_same, h2.rev⟩⟩
  · cases d1 with
    | scr h1 => exact ⟨_, _, rfl, (Below.of g1.fh).sql h1, fun q hq => k1.new g1.fh hq ⟨_, upd_same, (Dt.ints _).rev⟩⟩
  · exact k1.elim
/-! ### list(range(..)) -/
def okR (a b : Int) : Bool := decide (-(2 ^ 62) ≤ a ∧ a < 2 ^ 62 ∧ -(2 ^ 62) ≤ b ∧ b < 2 ^ 62 ∧ (b - a).toNat ≤ 2 ^ 24)
def dLrg (lo hi : D) : Res D := match lo, hi with
  | .int a, .int b => if okR a b = true then .ok (.lst (rangeD a (b - a).toNat)) else .bad
  | _, _ => .bad
/-! ### sorted(e): few whole numbers -/
def dSorted : List D → Res D
  | [.lst ds] => match asInts ds with
    | some ns => if decide (ns.length < 64) = true then .ok (.lst ((sortI ns).map D.int)) else .bad
    | none => .bad
  | _ => .bad
/-! ### is True, is False -/
def dIsB (neg : Bool) : D → D → Res D
  | .bl a, .bl b => .ok (.bl (if neg then !decide (a = b) else decide (a = b)))
  | _, _ => .bad
/-! ### range(a, b, 2) -/
/-! ### state: list(x.items()), x own; the own dict's change at a place reckoned with state -/
def mItems (i : Nat) : Env → MO D := fun ρ => match ownD ρ i with
  | some (_, ds) => if fit ds.length = true then .ok (.lst (qItems ds)) ρ else .bad
  | none => .bad
end
section
variable {P : Program} {w : World} {K : PySem.W.Frag} {mg : Str → Option Value} {base : Heap}
end
section
variable {K : PySem.W.Frag} {xm : XMo} {X : Cx}
end
end Du
namespace Du
open PySem PySem.Spec PyProof.Rows L2
section
variable {K : PySem.W.Frag} {xm : XMo} {X : Cx}
end
end Du

namespace Dear
open PySem PySem.Spec PyProof.Rows L2
/-! ### xs[::e], e one or minus one -/
def tRevE (K : PySem.W.Frag) (te ts : TE) : TE := fun σ H Q => te σ H fun x H1 => tPart ts σ H1 fun o H2 => ∃ (a : Addr) (xs : List V) (b : Bool), x = .ref a ∧ o = some (if b then -1 else 1) ∧ SqL K H2 a xs ∧ ∀ p, H2 p = none → Q (.ref p) (upd H2 p (.lst (if b then xs.reverse else xs)))
end Dear

namespace Du
open PySem PySem.Spec PyProof.Rows L2
section
variable {K : PySem.W.Frag} {xm : XMo} {X : Cx} {B : Bs} {F H : Hp} {σ : St} {ρ : Env} {Dn : Ends}
/-! ### xs[::e], e one or minus one, with state -/
def mRevE (m n : Env → MO D) : Env → MO D := fun ρ => (m ρ).bind fun a ρ1 => (n ρ1).bind fun b ρ2 => match a, b with
  | .lst ds, .int i => if decide (i = -1) = true then .ok (.lst ds.reverse) ρ2 else if decide (i = 1) = true then .ok (.lst ds) ρ2 else .bad
  | _, _ => .bad
/-! ### list(x.items()), x own -/
/-! ### x[k] = e, k and e with state -/
noncomputable def sPutDM (i : Nat) (m n : Env → MO D) : Env → Out := fun ρ => mAt m ρ fun d ρ1 => needD i (fun ρ' => mAt n ρ' fun n ρ2 => chgD ρ2 i fun ds => if (dKeyOk n && fit ds.length) = true then some (dPut ds n d) else none) ρ1
def sPutLN (i : Nat) (m n : Env → MO D) : Env → Out := fun ρ => mAt m ρ fun d ρ1 => need i (fun ρ' => mAt n ρ' fun n ρ2 => match n with
  | .int n => chg ρ2 i fun ds => match ixN ds.length n with
    | some j => some (ds.set j d)
    | none => none
  | _ => .bad) ρ1
end
end Du

namespace Du
open PySem PySem.Spec PyProof.Rows L2
section
variable {P : Program} {w : World} {K : PySem.W.Frag} {mg : Str → Option Value} {base : Heap}
/-- the law itself, at the function that the top holds -/
theorem okL {x y : Str} {st : Stmt} {N ps : List Str} {k : Nat} {g : Env → Out} {f : Addr} {fd : FuncData} (F : L2.Fun K x y st f fd) (S : FnScope N ps (defScope st))
    (body : ∀ (f : Addr) (cdv : Value) (A : Around) (outer : List PySem.Env) (s : Shared) (H : Hp) (E : XK), Room k (A.deeper (envOfC y (defScope st) s.heap.objs.size f cdv)) → FSs K none (cxOf CX0 P w K mg base N y (defScope st) f cdv A outer s H E).nox (defBody st) g)
    (hN : ps.length ≤ N.length := by decide) : FnOk P w K mg base CX0 (k + 1) f fd ps (sp0 K (runD ps.length N.length g)) :=
  F.ok S (fun vs H Q E h => sp0_len (f := runD ps.length N.length g) h) fun cdv A outer s H vs Q E hr h => ⟨_, body f cdv A outer s H E hr, by
    obtain ⟨ds, G, sG, hd, d, e, q⟩ := h
    unfold runD at e
    by_cases hn : ds.length = ps.length
    · rw [if_pos hn] at e
      refine ⟨⟨H, G, 0⟩, _, G, Rl.start sG hd hn hN, ?_⟩
      unfold outR at e
      cases e2 : g (ent N.length ps.length ds) with
      | nx ρ =>
        rw [e2] at e
        cases e
        intro σ' H' F' r
        obtain ⟨G', g1, d1⟩ := r.done sG
        exact q _ _ _ g1 .non
      | rt d' ρ =>
        rw [e2] at e
        cases e
        intro v σ' H' F' r dv
        obtain ⟨G', g1, d1⟩ := r.done sG
        exact q _ _ _ g1 (dv.same d1)
      | ro d' ρ =>
        rw [e2] at e
        cases e
        intro p σ' H' F' r fp bp ow
        obtain ⟨G', g1, d1⟩ := r.freeze sG fp bp ow
        exact q _ _ _ g1 d1
      | bk ρ => rw [e2] at e; cases e
      | ct ρ => rw [e2] at e; cases e
      | ex x ρ => rw [e2] at e; cases e
      | bad => rw [e2] at e; cases e
    · rw [if_neg hn] at e
      cases e⟩
end
end Du

namespace Du
open PySem PySem.Spec PyProof.Rows L2
section
variable {K : PySem.W.Frag} {X : Cx} {xm : XMo}
/-! ### dicts whose keys are tuples of texts and whole numbers -/
def tKeyOk : D → Bool
  | .tup ds => ds.all dKeyOk
  | _ => false
/-! {} -/
def eDct0T : VEnv → Res D := fun _ => .ok (.dct true [])
/-! d.get(k, e) -/
noncomputable def eGet2T (fo fk fd : VEnv → Res D) : VEnv → Res D := fun ρ => (fo ρ).bind fun a => match a with
  | .dct true kvs => (fk ρ).bind fun n => (fd ρ).bind fun e => if tKeyOk n = true then .ok ((dGet kvs n).getD e) else .bad
  | _ => .bad
/-! d[k] = e, d an own one -/
def ownT (ρ : Env) (i : Nat) : Option (Bool × List (D × D)) := match ρ[i]? with
  | some (some (.own t (.dct true ds))) => some (t, ds)
  | _ => none
def needT (i : Nat) (g : Env → Out) : Env → Out := fun ρ => match ownT ρ i with
  | some _ => g ρ
  | none => .bad
variable {B : Bs} {Dn : Ends} {ρ : Env} {σ : St} {H F : Hp}
def chgT' (ρ : Env) (i : Nat) (f : List (D × D) → Option (List (D × D))) : Out := match ownT ρ i with
  | some (t, ds) => match f ds with
    | some es => .nx (ρ.set i (some (.own t (.dct true es))))
    | none => .bad
  | none => .bad
noncomputable def sPutT (i : Nat) (L : List Nat) (fv fk : VEnv → Res D) : Env → Out := fun ρ => eAt L fv ρ fun d => needT i (fun ρ' => eAt [] fk ρ' fun n => chgT' ρ' i fun ds => if (tKeyOk n && fit ds.length) = true then some (dPut ds n d) else none) (aft L d ρ)
/-! len(d) -/
def dLenT : List D → Res D
  | [.dct true ds] => .ok (.int ds.length)
  | _ => .bad
/-! ### l.count(x), things told all the way -/
def rCountD (K : PySem.W.Frag) : V → List V → Hp → VK → Prop := fun x xs H Q => ∃ (a : Addr) (y : V) (d : PyData) (ds : List PyData), x = V.ref a ∧ xs = [y] ∧ Dp K H (V.ref a) (.list ds) ∧ Dp K H y d ∧
  SeqAt.shaped (.list ds) = true ∧ SeqAt.shaped d = true ∧ Q (.int (ds.countP fun z => PyData.eqv z d : Nat)) H
def dCount : D → List D → Res D
  | .lst es, [d] => if (lay d && lay (.lst es)) = true then .ok (.int (es.countP fun e => pyEq e d : Nat)) else .bad
  | _, _ => .bad
end
end Du

namespace Du
open PySem PySem.Spec PyProof.Rows L2
section
variable {K : PySem.W.Frag} {X : Cx} {B : Bs} {Dn : Ends} {ρ : Env} {σ : St} {H F : Hp}
/-! ### for x in l, l an own list that stays own -/
def unS : Option Slot → Option Slot
  | some (.own _ d) => some (.own false d)
  | s => s
def unp (ρ : Env) : Env := ρ.map unS
def unO : Out → Out
  | .nx ρ => .nx (unp ρ)
  | .bk ρ => .bk (unp ρ)
  | .ct ρ => .ct (unp ρ)
  | .rt d ρ => .rt d (unp ρ)
  | .ro d ρ => .ro d (unp ρ)
  | .ex x ρ => .ex x (unp ρ)
  | .bad => .bad
def noT : Env → Bool
  | [] => true
  | some (.own true _) :: _ => false
  | _ :: r => noT r
def ownAt (ρ : Env) (i : Nat) : Option (List D) := match ρ[i]? with
  | some (some (.own true (.lst ds))) => some ds
  | _ => none
open Classical in
noncomputable def forO (i : Nat) (ds0 : List D) (tg : Tgt) (g : Env → Out) (l : List Nat) : List D → Env → Out
  | [], ρ => if ownAt ρ i = some ds0 then .nx ρ else .bad
  | d :: ds, ρ => if ownAt ρ i = some ds0 then (match tg d with
    | .ok as => loopO (fun ρ' => forO i ds0 tg g l ds (clr l ρ')) (g (setS ρ as))
    | _ => .bad) else .bad
noncomputable def sForO (i : Nat) (tg : Tgt) (g : Env → Out) (l : List Nat) : Env → Out := fun ρ => match ρ[i]? with
  | some (some (.own false (.lst ds))) => if noT ρ = true then unO (forO i ds tg g l ds (ρ.set i (some (.own true (.lst ds))))) else .bad
  | _ => .bad
theorem unp_get (ρ : Env) (i : Nat) : (unp ρ)[i]? = (ρ[i]?).map unS := by
  unfold unp
  rw [List.getElem?_map]
theorem Rl.unp {p : Addr} (r : Rl K ⟨B.b, B.g, p⟩ σ H ρ F) : Rl K B σ H (Du.unp ρ) F := by
  refine ⟨r.fh, r.bh, r.zf, by rw [r.len]; unfold Du.unp; rw [List.length_map], fun i d e => ?_, fun i t d e => ?_, fun i j t u d e p h1 h2 h3 h4 => ?_, fun i d p h1 h2 => ?_⟩
  · rw [unp_get] at e
    obtain ⟨s, h1, h2⟩ := Option.map_eq_some_iff.mp e
    cases s with
    | none => cases h2
    | some s =>
      cases s with
      | frz d' => cases h2; exact r.fz i _ h1
      | own t d' => cases h2
  · rw [unp_get] at e
    obtain ⟨s, h1, h2⟩ := Option.map_eq_some_iff.mp e
    cases s with
    | none => cases h2
    | some s =>
      cases s with
      | frz d' => cases h2
      | own t' d' => cases h2; exact r.ow i _ _ h1
  · rw [unp_get] at h1 h2
    obtain ⟨s, a1, a2⟩ := Option.map_eq_some_iff.mp h1
    obtain ⟨s', b1, b2⟩ := Option.map_eq_some_iff.mp h2
    cases s with
    | none => cases a2
    | some s =>
      cases s with
      | frz d' => cases a2
      | own t' d' =>
        cases s' with
        | none => cases b2
        | some s' =>
          cases s' with
          | frz d' => cases b2
          | own t'' d'' => exact r.dj i j _ _ _ _ p a1 b1 h3 h4
  · rw [unp_get] at h1
    obtain ⟨s, a1, a2⟩ := Option.map_eq_some_iff.mp h1
    cases s with
    | none => cases a2
    | some s =>
      cases s with
      | frz d' => cases a2
      | own t' d' => cases a2
theorem So.unp {p : Addr} : ∀ {o : Out}, So K none B Dn (unO o) → So K none ⟨B.b, B.g, p⟩ Dn o
  | .nx ρ, k => fun σ H F r => k σ H F r.unp
  | .bk ρ, k => fun σ H F r => k σ H F r.unp
  | .ct ρ, k => fun σ H F r => k σ H F r.unp
  | .rt d ρ, k => fun v σ H F r => k v σ H F r.unp
  | .ro d ρ, k => fun q σ H F r => k q σ H F r.unp
  | .ex x ρ, k => k
  | .bad, k => k
theorem noT_at : ∀ {ρ : Env} {j : Nat} {d : D}, noT ρ = true → ρ[j]? = some (some (.own true d)) → False
  | [], _, _, _, e => by simp at e
  | none :: r, 0, _, _, e => by simp at e
  | some (.frz _) :: r, 0, _, _, e => by simp at e
  | some (.own false _) :: r, 0, _, _, e => by simp at e
  | some (.own true _) :: r, _, _, h, _ => by cases h
  | none :: r, j + 1, _, h, e => noT_at (ρ := r) (j := j) h (by simpa using e)
  | some (.frz _) :: r, j + 1, _, h, e => noT_at (ρ := r) (j := j) h (by simpa using e)
  | some (.own false _) :: r, j + 1, _, h, e => noT_at (ρ := r) (j := j) h (by simpa using e)
theorem Rl.pinned {i : Nat} {d : D} {p : Addr} (r : Rl K B σ H ρ F) (hn : noT ρ = true) (hi : ρ[i]? = some (some (.own false d))) (hp : σ[i]? = some (some (.ref p))) : Rl K ⟨B.b, B.g, p⟩ σ H (ρ.set i (some (.own true d))) F := by
  have li : i < ρ.length := (List.getElem?_eq_some_iff.mp hi).1
  have back : ∀ {j : Nat} {t : Bool} {e : D}, (ρ.set i (some (.own true d)))[j]? = some (some (.own t e)) → ∃ t', ρ[j]? = some (some (.own t' e)) := by
    intro j t e h
    by_cases z : i = j
    · subst z
      rw [List.getElem?_set_self li] at h
      cases h
      exact ⟨_, hi⟩
    · rw [List.getElem?_set_ne z] at h
      exact ⟨_, h⟩
  refine ⟨r.fh, r.bh, r.zf, by rw [List.length_set]; exact r.len, fun j e h => ?_, fun j t e h => ?_, fun j j' t u e e' q h1 h2 h3 h4 => ?_, fun j e q h1 h2 => ?_⟩
  · by_cases z : i = j
    · subst z
      rw [List.getElem?_set_self li] at h
      cases h
    · rw [List.getElem?_set_ne z] at h
      exact r.fz j e h
  · obtain ⟨t', h'⟩ := back h
    exact r.ow j t' e h'
  · obtain ⟨t', h1'⟩ := back h1
    obtain ⟨u', h2'⟩ := back h2
    exact r.dj j j' _ _ _ _ q h1' h2' h3 h4
  · by_cases z : i = j
    · subst z
      rw [hp] at h2
      cases h2
      rfl
    · rw [List.getElem?_set_ne z] at h1
      exact (noT_at hn h1).elim
end
end Du

namespace Dear
open PySem PySem.Spec PyProof.Rows L2
abbrev Asc (z : Str) : Prop := ∀ c ∈ z.cps.toList, c < 128
end Dear

namespace Dear
open PySem PySem.Spec PyProof.Rows L2
/-! ### zip(text, text), two texts of plain signs -/
def ascB (x : Str) : Bool := x.cps.all (· < 128)
abbrev zsI (x : Str) (t : Tok) : Obj := { cls := .type "str_ascii_iterator", data := .fields #[.str x t, .int 0 0] }
abbrev zs1 (h : Heap) (x : Str) (t : Tok) : Heap := h.push (zsI x t)
abbrev zs2 (h : Heap) (x : Str) (t : Tok) (y : Str) (u : Tok) : Heap := (zs1 h x t).push (zsI y u)
abbrev zs3 (h : Heap) (x : Str) (t : Tok) (y : Str) (u : Tok) : Heap := (zs2 h x t y u).push { cls := .type "tuple", data := .seq #[.ref h.objs.size, .ref (zs1 h x t).objs.size] }
abbrev zs4 (h : Heap) (x : Str) (t : Tok) (y : Str) (u : Tok) : Heap := (zs3 h x t y u).push { cls := .type "tuple", data := .seq #[.none, .none] }
abbrev zs5 (h : Heap) (x : Str) (t : Tok) (y : Str) (u : Tok) : Heap := (zs4 h x t y u).push { cls := .type "zip", data := .fields #[.none, .bool false, .bool false, .ref (zs2 h x t y u).objs.size, .ref (zs3 h x t y u).objs.size] }
section
variable {prog : Program} {w : World} {A : Around} {E : Value → Shared → Prop} {s : Shared}
end
/-- the signs of both, pair by pair, each pair a new tuple -/
def ItzS (x y : Str) : It :=
  ⟨fun i _ => i < x.cps.size ∧ i < y.cps.size,
    fun i H v H' => ∃ (T : Addr) (c d : Nat), v = .ref T ∧ H T = none ∧ H' = upd H T (.tup [.str ⟨#[c]⟩, .str ⟨#[d]⟩]) ∧ x.cps[i]? = some c ∧ y.cps[i]? = some d,
    fun i _ => i ≤ x.cps.size ∧ i ≤ y.cps.size ∧ (i = x.cps.size ∨ i = y.cps.size)⟩
def iZipS (ta : TA) : TI := fun σ H R => ta σ H fun vs H1 => ∃ x y : Str, vs = [.str x, .str y] ∧ Asc x ∧ Asc y ∧ R (ItzS x y) H1
end Dear

namespace Dear
open PySem PySem.Spec PyProof.Rows L2
/-! ### enumerate(zip(list, list)): the pair stands within enumerate's own tuple, so zip finds it still out -/
section
variable {prog : Program} {w : World} {A : Around} {E : Value → Shared → Prop} {s : Shared} {q U V j1 j2 m1 m2 : Addr} {n1 n2 : Nat} {as bs : Array Value}
/-- the zip's state: nothing out yet, or the tuple at T once given out -/
def ZSt (h : Heap) (q U V : Addr) : Prop := IsZip h q U V .none ∨ ∃ T f, IsZipHeld h q U V T f
theorem ZSt.type {h : Heap} (z : ZSt h q U V) : ∃ o, h.get? q = some o ∧ o.cls = .type "zip" ∧ ∀ v, o.data ≠ .cell v := by
  rcases z with z | ⟨T, f, z⟩
  · exact ⟨_, z, rfl, fun v e => nomatch e⟩
  · exact ⟨_, z, rfl, fun v e => nomatch e⟩
theorem ZSt.at {h h' : Heap} (z : ZSt h q U V) (e : ∀ o, h.get? q = some o → h'.get? q = some o) : ZSt h' q U V := by
  rcases z with z | ⟨T, f, z⟩
  · exact .inl (e _ z)
  · exact .inr ⟨T, f, e _ z⟩
abbrev ZGone (h : Heap) (q U V : Addr) (x : Value) (f : Bool) : Prop :=
  h.get? q = some { cls := .type "zip", dict := none, data := .fields #[x, .bool f, .bool false, .ref U, .ref V], slots := #[] }
end
/-- both lists as they stand at each turn; each pair, and the tuple of its number and it, are new -/
def Itez (K : PySem.W.Frag) (a b : Addr) : It :=
  ⟨fun i H => ∃ (xs ys : List V) (x y : V), SqL K H a xs ∧ SqL K H b ys ∧ xs[i]? = some x ∧ ys[i]? = some y,
    fun i H v H' => ∃ Z T x y, v = .ref T ∧ H Z = none ∧ T ≠ Z ∧ H T = none ∧ H' = upd (upd H Z (.tup [x, y])) T (.tup [.int (i : Nat), .ref Z]) ∧ (∀ xs, SqL K H a xs → xs[i]? = some x) ∧ ∀ ys, SqL K H b ys → ys[i]? = some y,
    fun i H => ∃ xs ys : List V, SqL K H a xs ∧ SqL K H b ys ∧ (xs.length ≤ i ∨ ys.length ≤ i)⟩
def iEnumZ (K : PySem.W.Frag) (ta : TA) : TI := fun σ H R => ta σ H fun vs H1 => ∃ a b xs ys, vs = [.ref a, .ref b] ∧ SqL K H1 a xs ∧ SqL K H1 b ys ∧ R (Itez K a b) H1
end Dear

namespace Du
open PySem PySem.Spec PyProof.Rows L2
section
variable {K : PySem.W.Frag} {xm : XMo} {X : Cx}
/-! ### enumerate(zip(list, list)) -/
def dEnumZ : List D → Res (List D)
  | [.lst as, .lst bs] => .ok (numbered 0 (pairs as bs))
  | _ => .bad
def iEnumZD (f : VEnv → Res (List D)) : VEnv → Res (List D) := fun ρ => (f ρ).bind dEnumZ
theorem Gr.thn {F1 H1 F2 H2 F3 H3 : Hp} (a : Gr F1 H1 F2 H2) (b : Gr F2 H2 F3 H3) : Gr F1 H1 F3 H3 := a.trans b
/-! ### zip(text, text) -/
def dZipS : List D → Res (List D)
  | [.str a, .str b] => if (a.cps.toList.all (fun c => decide (c < 128)) && b.cps.toList.all (fun c => decide (c < 128))) = true then .ok (pairs (signs a) (signs b)) else .bad
  | _ => .bad
def iZipSD (f : VEnv → Res (List D)) : VEnv → Res (List D) := fun ρ => (f ρ).bind dZipS
/-! ### x.pop(i), x own -/
def popK (i : Nat) (d : D) (ρ : Env) : MO D := match d with
  | .int n => match ownL ρ i with
    | some (t, ds) => if inR n = true then match seqIndex? n ds.length with
      | some j => match ds[j]? with
        | some e => .ok e (ρ.set i (some (.own t (.lst (ds.eraseIdx j)))))
        | none => .bad
      | none => .bad else .bad
    | none => .bad
  | _ => .bad
def mPopAt (i : Nat) (m : Env → MO D) : Env → MO D := fun ρ => if (ownL ρ i).isSome = true then (m ρ).bind (popK i) else .bad
theorem DtAll.eraseIdx {F : Hp} {vs : List V} {ds : List D} (h : DtAll K F vs ds) (j : Nat) : DtAll K F (vs.eraseIdx j) (ds.eraseIdx j) := by
  rw [List.eraseIdx_eq_take_drop_succ, List.eraseIdx_eq_take_drop_succ]
  exact (h.take j).app (h.drop (j + 1))
end
end Du

namespace Dear
open PySem PySem.Spec PyProof.Rows L2
/-! ### xs[a::s], s above nought -/
def pickD {α : Type} (xs : List α) (i c : Int) : List α := (sliceRange (sliceBounds (some i) none (some c) xs.length).1 (sliceBounds (some i) none (some c) xs.length).2.1 (sliceBounds (some i) none (some c) xs.length).2.2).filterMap (xs[·]?)
def tSlS (K : PySem.W.Frag) (te tl ts : TE) : TE := fun σ H Q => te σ H fun x H1 => tPart tl σ H1 fun l H2 => tPart ts σ H2 fun o H3 => ∃ (a : Addr) (xs : List V) (i c : Int), x = .ref a ∧ l = some i ∧ o = some c ∧ 0 < c ∧ SqL K H3 a xs ∧ ∀ p, H3 p = none → Q (.ref p) (upd H3 p (.lst (pickD xs i c)))
end Dear
namespace Du
open PySem PySem.Spec PyProof.Rows L2
section
variable {K : PySem.W.Frag} {xm : XMo} {X : Cx}
def eSlS (fe fl fs : VEnv → Res D) : VEnv → Res D := fun ρ => (fe ρ).bind fun a => (fl ρ).bind fun l => match l with
  | .int i => (fs ρ).bind fun s => match a, s with
    | .lst ds, .int c => if decide (0 < c) = true then .ok (.lst (Dear.pickD ds i c)) else .bad
    | _, _ => .bad
  | _ => .bad
end
end Du

namespace Du
open PySem PySem.Spec PyProof.Rows L2
/-! ### a def that the text calls by another name -/
section
variable {P : Program} {w : World} {K : PySem.W.Frag} {mg : Str → Option Value} {base : Heap}
end
end Du

namespace Dear
open PySem PySem.Spec PyProof.Rows L2
/-! ### xs <= ys, lists of whole numbers -/
def lexLe : List Int → List Int → Bool
  | [], _ => true
  | _ :: _, [] => false
  | x :: xs, y :: ys => if x = y then lexLe xs ys else decide (x ≤ y)
def rLeL (K : PySem.W.Frag) : R2 := fun x y H Q => ∃ (a b : Addr) (ns ms : List Int), x = .ref a ∧ y = .ref b ∧ SqL K H a (ns.map V.int) ∧ SqL K H b (ms.map V.int) ∧ Q (.bl (lexLe ns ms)) H
end Dear
namespace Du
open PySem PySem.Spec PyProof.Rows L2
section
variable {K : PySem.W.Frag} {xm : XMo} {X : Cx}
def intsD : List D → Option (List Int)
  | [] => some []
  | .int i :: ds => (intsD ds).map (i :: ·)
  | _ :: _ => none
def dLeX : D → D → Res D
  | .int a, .int b => .ok (.bl (decide (a ≤ b)))
  | .lst as, .lst bs => match intsD as, intsD bs with
    | some ns, some ms => .ok (.bl (Dear.lexLe ns ms))
    | _, _ => .bad
  | _, _ => .bad
def rLeX (K : PySem.W.Frag) : R2 := fun x y H Q => rI0 (fun i j => .bl (decide (i ≤ j))) x y H Q ∨ Dear.rLeL K x y H Q
end
end Du

namespace Du
open PySem PySem.Spec PyProof.Rows L2
/-! ### a def that changes what is handed in, and that may raise -/
inductive RsX where
  | ok (d o : D)
  | ex (x : Ex) (o : D)
  | bad
def spIOX (K : PySem.W.Frag) (mg : Str → Option Value) (j : Nat) (f : List D → RsX) : Sp := fun vs H Q E => ∃ ds G p o, Same G H ∧ vs.length = ds.length ∧ (∀ i v, i ≠ j → vs[i]? = some v → ∃ d, ds[i]? = some d ∧ Dt K G v d) ∧ vs[j]? = some (.ref p) ∧ ds[j]? = some o ∧ G p = none ∧ Ow K G H p o ∧
  match f ds with
  | .ok d o' => ∀ v G' H', Gx p G H G' H' → Dt K G' v d → Ow K G' H' p o' → Q v H'
  | .ex x o' => ∀ C dd G' H', Gx p G H G' H' → Ow K G' H' p o' → ExIs K mg x G' C dd → E C dd H'
  | .bad => False
section
variable {K : PySem.W.Frag} {xm : XMo} {X : Cx} {B : Bs} {F H : Hp} {σ : St} {ρ : Env} {Dn : Ends}
def mIOX (j i : Nat) (f : List D → RsX) (m : Env → MO (List D)) : Env → MO D := fun ρ => match ownS ρ i with
  | some _ => (m ρ).bind fun as ρ1 => match ownS ρ1 i with
    | some (t, o) => match f (as.insertIdx j o) with
      | .ok d o' => .ok d (ρ1.set i (some (.own t o')))
      | .ex x o' => .ex x (ρ1.set i (some (.own t o')))
      | .bad => .bad
    | none => .bad
  | none => .bad
theorem me_ioX {mg : Str → Option Value} {W : WX} {x : Str} {k k' : Nat} {ps : List Str} {j i : Nat} {f : List D → RsX} {e : Expr} {es : List Expr} {p pos : Pos} {m : Env → MO (List D)} (O : Dear.OkF X.prog X.w X.K X.mg X.base (L2.CX X.prog X.w) k x ps (spIOX K mg j f)) (hr : Room k' X.A) (tk : Takes X W) (ha : PA X (e :: es) (aIO K (some ⟨mg, W⟩) j i m)) (hk : k ≤ k' := by decide) (hg : Gl X x := by rfl)
    (hdb : (x == ("__debug__" : Str)) = false := by decide) (he : starEach (e :: es) X.env = (false, eval e X.env) :: starEach es X.env := by rfl) (hpl : (backTo pos (starEach es X.env)).any (·.1) = false := by rfl) : ME K (some ⟨mg, W⟩) X (.Call (.Name x p) (e :: es) [] pos) (mIOX j i f m) :=
  PE.to (Dear.pe_cx O hr tk ha hk hg hdb he hpl) fun σ H Q ⟨B, ρ, F, r, k⟩ => by
    unfold mIOX at k
    cases e0 : ownS ρ i with
    | none => rw [e0] at k; exact k.elim
    | some o0 =>
      obtain ⟨t0, o0⟩ := o0
      rw [e0] at k
      obtain ⟨p, hp, _⟩ := r.ow i _ _ (ownS_of e0)
      refine ⟨B, ρ, F, p, r, hp, Pm.seq (R' := RD K) k fun as ρ1 vs H1 F1 r1 s1 ⟨ws, d1, lw, ev⟩ k1 => ?_⟩
      cases e1 : ownS ρ1 i with
      | none => rw [e1] at k1; exact k1.elim
      | some o =>
        obtain ⟨t, o⟩ := o
        rw [e1] at k1
        dsimp only at k1
        obtain ⟨p', hp', q2, q3, q4⟩ := r1.ow i _ _ (ownS_of e1)
        rw [hp] at hp'
        cases hp'
        have la := d1.length
        refine ⟨as.insertIdx j o, F1, p, o, r1.fh, ?_, fun n v hn hv => ?_, ?_, ?_, q2, q4, ?_⟩
        · rw [ev, List.length_insertIdx, List.length_insertIdx, la]
        · rw [ev, List.getElem?_insertIdx] at hv
          rw [List.getElem?_insertIdx]
          by_cases c1 : n < j
          · rw [if_pos c1] at hv ⊢
            exact d1.get hv
          · rw [if_neg c1, if_neg hn] at hv ⊢
            exact d1.get hv
        · rw [ev, List.getElem?_insertIdx, if_neg (Nat.lt_irrefl _), if_pos rfl, if_pos lw]
        · rw [List.getElem?_insertIdx, if_neg (Nat.lt_irrefl _), if_pos rfl, if_pos (by omega)]
        · cases e2 : f (as.insertIdx j o) with
          | bad => rw [e2] at k1; exact k1.elim
          | ok d o' =>
            rw [e2] at k1
            exact fun v G' H' g dv ow => k1 v H' G' (r1.changed (ownS_of e1) hp g ow) g.ff dv
          | ex x o' =>
            rw [e2] at k1
            exact fun C dd G' H' g ow hx => k1 C dd H' G' (r1.changed (ownS_of e1) hp g ow) hx
end
def outIOX (j : Nat) : Out → RsX
  | .nx ρ => match ownS ρ j with
    | some (true, o) => .ok .non o
    | _ => .bad
  | .rt d ρ => match ownS ρ j with
    | some (true, o) => .ok d o
    | _ => .bad
  | .ex x ρ => match ownS ρ j with
    | some (true, o) => .ex x o
    | _ => .bad
  | _ => .bad
def runIOX (np n j : Nat) (g : Env → Out) (ds : List D) : RsX := if ds.length = np then outIOX j (g (entIO n np j ds)) else .bad
section
variable {P : Program} {w : World} {K : PySem.W.Frag} {mg : Str → Option Value} {base : Heap}
theorem okIOX {x : Str} {st : Stmt} {N ps : List Str} {k : Nat} {g : Env → Out} (j : Nat) (D : Dear.Df K mg x st ps) (S : FnScope N ps (defScope st))
    (body : ∀ (f : Addr) (cdv : Value) (A : Around) (outer : List PySem.Env) (s : Shared) (H : Hp) (E : XK), Room k (A.deeper (envOfC x (defScope st) s.heap.objs.size f cdv)) → FSs K (some ⟨mg, fun c d _ H => E c d H⟩) (cxOf (L2.CX P w) P w K mg base N x (defScope st) f cdv A outer s H E) (defBody st) g)
    (hN : ps.length ≤ N.length := by decide) : Dear.OkF P w K mg base (L2.CX P w) (k + 1) x ps (spIOX K mg j (runIOX ps.length N.length j g)) :=
  D.okX S (fun vs H Q E h => by
    obtain ⟨ds, G, p, o, s, hl, _, _, _, _, _, e⟩ := h
    unfold runIOX at e
    by_cases hn : ds.length = ps.length
    · rw [hl, hn]
    · rw [if_neg hn] at e
      exact e.elim) fun f cdv A outer s H vs Q E hr h => ⟨_, body f cdv A outer s H E hr, by
    obtain ⟨ds, G, p, o, sG, hl, hd, hp, ho, gp, ow, e⟩ := h
    unfold runIOX at e
    by_cases hn : ds.length = ps.length
    · rw [if_pos hn] at e
      refine ⟨_, _, G, Rl.startIO sG hl hd hp ho gp ow hn hN, ?_⟩
      obtain ⟨u, hu⟩ := ow.some
      unfold outIOX at e
      cases e2 : g (entIO N.length ps.length j ds) with
      | nx ρ =>
        rw [e2] at e
        dsimp only at e
        intro σ' H' F' r
        cases e3 : ownS ρ j with
        | none => rw [e3] at e; exact e.elim
        | some tq =>
          obtain ⟨t, o2⟩ := tq
          cases t with
          | false => rw [e3] at e; exact e.elim
          | true =>
            rw [e3] at e
            obtain ⟨p', w1, w2, w3, w4⟩ := r.ow j _ _ (ownS_of e3)
            have := r.pn j _ _ (ownS_of e3) w1
            subst this
            obtain ⟨G', g1, s1, ow1⟩ := r.doneIO sG gp ⟨u, hu⟩ w2 w4
            exact e _ _ _ g1 .non ow1
      | rt d' ρ =>
        rw [e2] at e
        dsimp only at e
        intro v σ' H' F' r dv
        cases e3 : ownS ρ j with
        | none => rw [e3] at e; exact e.elim
        | some tq =>
          obtain ⟨t, o2⟩ := tq
          cases t with
          | false => rw [e3] at e; exact e.elim
          | true =>
            rw [e3] at e
            obtain ⟨p', w1, w2, w3, w4⟩ := r.ow j _ _ (ownS_of e3)
            have := r.pn j _ _ (ownS_of e3) w1
            subst this
            obtain ⟨G', g1, s1, ow1⟩ := r.doneIO sG gp ⟨u, hu⟩ w2 w4
            exact e _ _ _ g1 (dv.same s1) ow1
      | ex x ρ =>
        rw [e2] at e
        dsimp only at e
        intro C dd σ' H' F' r hx
        cases e3 : ownS ρ j with
        | none => rw [e3] at e; exact e.elim
        | some tq =>
          obtain ⟨t, o2⟩ := tq
          cases t with
          | false => rw [e3] at e; exact e.elim
          | true =>
            rw [e3] at e
            obtain ⟨p', w1, w2, w3, w4⟩ := r.ow j _ _ (ownS_of e3)
            have := r.pn j _ _ (ownS_of e3) w1
            subst this
            obtain ⟨G', g1, s1, ow1⟩ := r.doneIO sG gp ⟨u, hu⟩ w2 w4
            exact e C dd _ _ g1 ow1 (hx.same s1)
      | ro d ρ => rw [e2] at e; exact e.elim
      | bk ρ => rw [e2] at e; exact e.elim
      | ct ρ => rw [e2] at e; exact e.elim
      | bad => rw [e2] at e; exact e.elim
    · rw [if_neg hn] at e
      exact e.elim⟩
/-- fuel nought: never called -/
theorem okIOX_0 {x : Str} {st : Stmt} {N ps : List Str} {k : Nat} (j : Nat) (D : Dear.Df K mg x st ps) (S : FnScope N ps (defScope st)) : Dear.OkF P w K mg base (L2.CX P w) (k + 1) x ps (spIOX K mg j (fun _ => .bad)) :=
  D.okX S (fun vs H Q E h => by
    obtain ⟨ds, G, p, o, s, hl, _, _, _, _, _, e⟩ := h
    exact e.elim) fun f cdv A outer s H vs Q E hr h => by
    obtain ⟨ds, G, p, o, sG, hl, hd, hp, ho, gp, ow, e⟩ := h
    exact e.elim
end
end Du

namespace Dear
open PySem PySem.Spec PyProof.Rows L2
def top (i : Nat) : Stmt := PySem.Challenge.pw_dearsigns_k17_whole_whatever_tree.main.body.getD i (.Pass ⟨0, 0, 0, 0⟩)
abbrev s_NoTongue___init__ : Stmt := inClass (top 11) 0
abbrev s_NoWants___init__ : Stmt := inClass (top 12) 0
abbrev s_NoThing___init__ : Stmt := inClass (top 13) 0
abbrev s_BadSign___init__ : Stmt := inClass (top 14) 0
abbrev s_NoText___init__ : Stmt := inClass (top 15) 0
abbrev s_is_whole : Stmt := top 17
abbrev s_divisor : Stmt := top 18
abbrev s_is_fraction : Stmt := top 19
abbrev s_is_price : Stmt := top 25
abbrev s_is_letter : Stmt := top 26
abbrev s_is_sign : Stmt := top 27
abbrev s_are_signs : Stmt := top 28
abbrev s_are_unlike_texts : Stmt := top 29
abbrev s_look_at_tongue : Stmt := top 30
abbrev s_grown : Stmt := top 32
abbrev s_tree_of : Stmt := top 33
abbrev s_can_come : Stmt := top 34
abbrev s_look_at_branch : Stmt := top 35
abbrev s_look_at_tree : Stmt := top 36
abbrev s_book_of : Stmt := top 37
abbrev s__law_cell : Stmt := top 39
abbrev s__law_source : Stmt := top 40
abbrev s__law_draw : Stmt := top 41
abbrev s__law_lowest : Stmt := top 42
abbrev s__law_price : Stmt := top 43
abbrev s__law_signs : Stmt := top 44
abbrev s__law_tongue : Stmt := top 45
abbrev s__law_copy : Stmt := top 46
abbrev s__law_comes : Stmt := top 47
abbrev s__law_stands : Stmt := top 48
abbrev s__law_is_word : Stmt := top 49
abbrev s__law_words : Stmt := top 50
abbrev s__law_clashes : Stmt := top 51
abbrev s__law_world : Stmt := top 52
abbrev s__law_grown : Stmt := top 53
abbrev s__law_tree : Stmt := top 54
abbrev s__law_copied : Stmt := top 55
abbrev s__law_is_refusal : Stmt := top 56
abbrev s__law_turned : Stmt := top 57
abbrev s__law_bent_here : Stmt := top 58
abbrev s__law_bent : Stmt := top 59
abbrev s__law_reads : Stmt := top 60
abbrev s__law_right : Stmt := top 61
abbrev s_law : Stmt := top 62
abbrev n_NoTongue___init__ : List Str := ["self", "part"]
theorem c_NoTongue___init__ : FnScope n_NoTongue___init__ ["self", "part"] (defScope s_NoTongue___init__) := ⟨rfl, rfl, rfl, by decide +kernel, rfl, by decide +kernel, by decide +kernel⟩
abbrev n_NoWants___init__ : List Str := ["self", "number"]
abbrev n_NoThing___init__ : List Str := ["self", "place"]
abbrev n_BadSign___init__ : List Str := ["self", "place"]
abbrev n_NoText___init__ : List Str := ["self", "row"]
abbrev n_is_whole : List Str := ["thing"]
theorem c_is_whole : FnScope n_is_whole ["thing"] (defScope s_is_whole) := ⟨rfl, rfl, rfl, by decide +kernel, rfl, by decide +kernel, by decide +kernel⟩
abbrev n_divisor : List Str := ["one", "other"]
theorem c_divisor : FnScope n_divisor ["one", "other"] (defScope s_divisor) := ⟨rfl, rfl, rfl, by decide +kernel, rfl, by decide +kernel, by decide +kernel⟩
abbrev n_is_fraction : List Str := ["thing", "top", "bottom"]
theorem c_is_fraction : FnScope n_is_fraction ["thing"] (defScope s_is_fraction) := ⟨rfl, rfl, rfl, by decide +kernel, rfl, by decide +kernel, by decide +kernel⟩
abbrev n_is_price : List Str := ["thing"]
theorem c_is_price : FnScope n_is_price ["thing"] (defScope s_is_price) := ⟨rfl, rfl, rfl, by decide +kernel, rfl, by decide +kernel, by decide +kernel⟩
abbrev n_is_letter : List Str := ["thing"]
theorem c_is_letter : FnScope n_is_letter ["thing"] (defScope s_is_letter) := ⟨rfl, rfl, rfl, by decide +kernel, rfl, by decide +kernel, by decide +kernel⟩
abbrev n_is_sign : List Str := ["thing", "sign", "price", "last"]
theorem c_is_sign : FnScope n_is_sign ["thing"] (defScope s_is_sign) := ⟨rfl, rfl, rfl, by decide +kernel, rfl, by decide +kernel, by decide +kernel⟩
abbrev n_are_signs : List Str := ["thing", "one"]
theorem c_are_signs : FnScope n_are_signs ["thing"] (defScope s_are_signs) := ⟨rfl, rfl, rfl, by decide +kernel, rfl, by decide +kernel, by decide +kernel⟩
abbrev n_are_unlike_texts : List Str := ["thing", "size", "letters", "at", "one", "sign"]
theorem c_are_unlike_texts : FnScope n_are_unlike_texts ["thing", "size", "letters"] (defScope s_are_unlike_texts) := ⟨rfl, rfl, rfl, by decide +kernel, rfl, by decide +kernel, by decide +kernel⟩
abbrev n_look_at_tongue : List Str := ["thing", "signs", "firsts", "pairs", "longest", "letters", "one"]
theorem c_look_at_tongue : FnScope n_look_at_tongue ["thing"] (defScope s_look_at_tongue) := ⟨rfl, rfl, rfl, by decide +kernel, rfl, by decide +kernel, by decide +kernel⟩
abbrev n_grown : List Str := ["letters", "ends", "found", "sign", "some", "rest", "number"]
theorem c_grown : FnScope n_grown ["letters", "ends"] (defScope s_grown) := ⟨rfl, rfl, rfl, by decide +kernel, rfl, by decide +kernel, by decide +kernel⟩
abbrev n_tree_of : List Str := ["tongue", "book", "letters", "one", "number", "word"]
theorem c_tree_of : FnScope n_tree_of ["tongue", "book"] (defScope s_tree_of) := ⟨rfl, rfl, rfl, by decide +kernel, rfl, by decide +kernel, by decide +kernel⟩
abbrev n_can_come : List Str := ["tongue", "begin", "sign"]
theorem c_can_come : FnScope n_can_come ["tongue", "begin", "sign"] (defScope s_can_come) := ⟨rfl, rfl, rfl, by decide +kernel, rfl, by decide +kernel, by decide +kernel⟩
abbrev n_look_at_branch : List Str := ["tongue", "begin", "thing", "last", "letters", "place", "one"]
theorem c_look_at_branch : FnScope n_look_at_branch ["tongue", "begin", "thing", "last"] (defScope s_look_at_branch) := ⟨rfl, rfl, rfl, by decide +kernel, rfl, by decide +kernel, by decide +kernel⟩
abbrev n_look_at_tree : List Str := ["tongue", "many", "found", "begin", "thing", "last", "branch", "sign", "node"]
theorem c_look_at_tree : FnScope n_look_at_tree ["tongue", "many", "found", "begin", "thing"] (defScope s_look_at_tree) := ⟨rfl, rfl, rfl, by decide +kernel, rfl, by decide +kernel, by decide +kernel⟩
abbrev n_book_of : List Str := ["tongue", "many", "thing", "found", "number"]
theorem c_book_of : FnScope n_book_of ["tongue", "many", "thing"] (defScope s_book_of) := ⟨rfl, rfl, rfl, by decide +kernel, rfl, by decide +kernel, by decide +kernel⟩
abbrev n__law_cell : List Str := ["_law_script", "_law_k"]
theorem c__law_cell : FnScope n__law_cell ["_law_script", "_law_k"] (defScope s__law_cell) := ⟨rfl, rfl, rfl, by decide +kernel, rfl, by decide +kernel, by decide +kernel⟩
abbrev n__law_source : List Str := ["_law_cell_here", "_law_k", "_law_number", "_law_seed"]
theorem c__law_source : FnScope n__law_source ["_law_cell_here", "_law_k"] (defScope s__law_source) := ⟨rfl, rfl, rfl, by decide +kernel, rfl, by decide +kernel, by decide +kernel⟩
abbrev n__law_draw : List Str := ["_law_source_here", "_law_many", "_law_digit"]
theorem c__law_draw : FnScope n__law_draw ["_law_source_here", "_law_many"] (defScope s__law_draw) := ⟨rfl, rfl, rfl, by decide +kernel, rfl, by decide +kernel, by decide +kernel⟩
abbrev n__law_lowest : List Str := ["_law_top", "_law_bottom", "_law_one", "_law_other"]
theorem c__law_lowest : FnScope n__law_lowest ["_law_top", "_law_bottom"] (defScope s__law_lowest) := ⟨rfl, rfl, rfl, by decide +kernel, rfl, by decide +kernel, by decide +kernel⟩
abbrev n__law_price : List Str := ["_law_source_here", "_law_way", "_law_wide", "_law_top"]
theorem c__law_price : FnScope n__law_price ["_law_source_here"] (defScope s__law_price) := ⟨rfl, rfl, rfl, by decide +kernel, rfl, by decide +kernel, by decide +kernel⟩
abbrev n__law_signs : List Str := ["_law_source_here", "_law_many", "_law_letters", "_law_start", "_law_step", "_law_signs_here", "_law_k", "_law_price_here", "_law_last", "_law_way"]
theorem c__law_signs : FnScope n__law_signs ["_law_source_here", "_law_many"] (defScope s__law_signs) := ⟨rfl, rfl, rfl, by decide +kernel, rfl, by decide +kernel, by decide +kernel⟩
abbrev n__law_tongue : List Str := ["_law_script", "_law_base", "_law_most", "_law_longs", "_law_source_here", "_law_many", "_law_signs_here", "_law_names", "_law_longest", "_law_rare", "_law_firsts", "_law_pairs", "_law_one", "_law_sign", "_law_other"]
theorem c__law_tongue : FnScope n__law_tongue ["_law_script", "_law_base", "_law_most", "_law_longs"] (defScope s__law_tongue) := ⟨rfl, rfl, rfl, by decide +kernel, rfl, by decide +kernel, by decide +kernel⟩
abbrev n__law_copy : List Str := ["_law_tongue_here"]
theorem c__law_copy : FnScope n__law_copy ["_law_tongue_here"] (defScope s__law_copy) := ⟨rfl, rfl, rfl, by decide +kernel, rfl, by decide +kernel, by decide +kernel⟩
abbrev n__law_comes : List Str := ["_law_tongue_here", "_law_ahead", "_law_sign"]
theorem c__law_comes : FnScope n__law_comes ["_law_tongue_here", "_law_ahead", "_law_sign"] (defScope s__law_comes) := ⟨rfl, rfl, rfl, by decide +kernel, rfl, by decide +kernel, by decide +kernel⟩
abbrev n__law_stands : List Str := ["_law_tongue_here", "_law_thing", "_law_names", "_law_k", "_law_one"]
theorem c__law_stands : FnScope n__law_stands ["_law_tongue_here", "_law_thing"] (defScope s__law_stands) := ⟨rfl, rfl, rfl, by decide +kernel, rfl, by decide +kernel, by decide +kernel⟩
abbrev n__law_is_word : List Str := ["_law_tongue_here", "_law_thing", "_law_sign", "_law_price_here", "_law_last"]
theorem c__law_is_word : FnScope n__law_is_word ["_law_tongue_here", "_law_thing"] (defScope s__law_is_word) := ⟨rfl, rfl, rfl, by decide +kernel, rfl, by decide +kernel, by decide +kernel⟩
abbrev n__law_words : List Str := ["_law_tongue_here", "_law_level", "_law_found", "_law_length", "_law_longer", "_law_text", "_law_one"]
theorem c__law_words : FnScope n__law_words ["_law_tongue_here"] (defScope s__law_words) := ⟨rfl, rfl, rfl, by decide +kernel, rfl, by decide +kernel, by decide +kernel⟩
abbrev n__law_clashes : List Str := ["_law_book", "_law_word", "_law_one"]
theorem c__law_clashes : FnScope n__law_clashes ["_law_book", "_law_word"] (defScope s__law_clashes) := ⟨rfl, rfl, rfl, by decide +kernel, rfl, by decide +kernel, by decide +kernel⟩
abbrev n__law_world : List Str := ["_law_script", "_law_tongue_here", "_law_words_here", "_law_book", "_law_k", "_law_source_here", "_law_near", "_law_word", "_law_sign", "_law_price_here", "_law_last"]
theorem c__law_world : FnScope n__law_world ["_law_script"] (defScope s__law_world) := ⟨rfl, rfl, rfl, by decide +kernel, rfl, by decide +kernel, by decide +kernel⟩
abbrev n__law_grown : List Str := ["_law_names", "_law_ends", "_law_found", "_law_sign", "_law_some", "_law_rest", "_law_number"]
theorem c__law_grown : FnScope n__law_grown ["_law_names", "_law_ends"] (defScope s__law_grown) := ⟨rfl, rfl, rfl, by decide +kernel, rfl, by decide +kernel, by decide +kernel⟩
abbrev n__law_tree : List Str := ["_law_tongue_here", "_law_book", "_law_one", "_law_number", "_law_word"]
theorem c__law_tree : FnScope n__law_tree ["_law_tongue_here", "_law_book"] (defScope s__law_tree) := ⟨rfl, rfl, rfl, by decide +kernel, rfl, by decide +kernel, by decide +kernel⟩
abbrev n__law_copied : List Str := ["_law_thing", "_law_part"]
theorem c__law_copied : FnScope n__law_copied ["_law_thing"] (defScope s__law_copied) := ⟨rfl, rfl, rfl, by decide +kernel, rfl, by decide +kernel, by decide +kernel⟩
abbrev n__law_is_refusal : List Str := ["_law_kept"]
theorem c__law_is_refusal : FnScope n__law_is_refusal ["_law_kept"] (defScope s__law_is_refusal) := ⟨rfl, rfl, rfl, by decide +kernel, rfl, by decide +kernel, by decide +kernel⟩
abbrev n__law_turned : List Str := ["_law_rows", "_law_many", "_law_by", "_law_found", "_law_sign", "_law_node"]
theorem c__law_turned : FnScope n__law_turned ["_law_rows", "_law_many", "_law_by"] (defScope s__law_turned) := ⟨rfl, rfl, rfl, by decide +kernel, rfl, by decide +kernel, by decide +kernel⟩
abbrev n__law_bent_here : List Str := ["_law_rows", "_law_at", "_law_names", "_law_many", "_law_source_here", "_law_sign", "_law_node", "_law_other", "_law_number", "_law_way", "_law_place", "_law_more", "_law_some", "_law_made"]
theorem c__law_bent_here : FnScope n__law_bent_here ["_law_rows", "_law_at", "_law_names", "_law_many", "_law_source_here"] (defScope s__law_bent_here) := ⟨rfl, rfl, rfl, by decide +kernel, rfl, by decide +kernel, by decide +kernel⟩
abbrev n__law_bent : List Str := ["_law_rows", "_law_names", "_law_many", "_law_source_here", "_law_at", "_law_sign", "_law_node"]
theorem c__law_bent : FnScope n__law_bent ["_law_rows", "_law_names", "_law_many", "_law_source_here"] (defScope s__law_bent) := ⟨rfl, rfl, rfl, by decide +kernel, rfl, by decide +kernel, by decide +kernel⟩
abbrev n__law_reads : List Str := ["_law_tongue_here", "_law_many", "_law_thing", "_law_begin", "_law_found", "_law_names", "_law_last", "_law_sign", "_law_node", "_law_text", "_law_one"]
theorem c__law_reads : FnScope n__law_reads ["_law_tongue_here", "_law_many", "_law_thing", "_law_begin", "_law_found"] (defScope s__law_reads) := ⟨rfl, rfl, rfl, by decide +kernel, rfl, by decide +kernel, by decide +kernel⟩
abbrev n__law_right : List Str := ["_law_tongue_here", "_law_many", "_law_thing", "_law_kept", "_law_told", "_law_copied_here", "e", "_law_found", "_law_number"]
theorem c__law_right : FnScope n__law_right ["_law_tongue_here", "_law_many", "_law_thing"] (defScope s__law_right) := ⟨rfl, rfl, rfl, by decide +kernel, rfl, by decide +kernel, by decide +kernel⟩
abbrev n_law : List Str := ["_law_script", "_law_tongue_here", "_law_book", "_law_kept", "_law_names", "_law_many", "_law_tree_here", "_law_k", "_law_source_here", "_law_thing", "_law_turn", "_law_one"]
theorem c_law : FnScope n_law ["_law_script"] (defScope s_law) := ⟨rfl, rfl, rfl, by decide +kernel, rfl, by decide +kernel, by decide +kernel⟩
structure Ads where
  DearError : Addr
  NoNumber : Addr
  NoBook : Addr
  NoTree : Addr
  TooMany : Addr
  NoCount : Addr
  NoUndo : Addr
  NoTurn : Addr
  NoRow : Addr
  Unknown : Addr
  NoTongue : Addr
  NoWants : Addr
  NoThing : Addr
  BadSign : Addr
  NoText : Addr
/-- what the top has left -/
structure Txt (K : PySem.W.Frag) (mg : Str → Option Value) where
  A : Ads
  C_DearError : mg "DearError" = some (.ref A.DearError)
  C_NoNumber : mg "NoNumber" = some (.ref A.NoNumber)
  C_NoBook : mg "NoBook" = some (.ref A.NoBook)
  C_NoTree : mg "NoTree" = some (.ref A.NoTree)
  C_TooMany : mg "TooMany" = some (.ref A.TooMany)
  C_NoCount : mg "NoCount" = some (.ref A.NoCount)
  C_NoUndo : mg "NoUndo" = some (.ref A.NoUndo)
  C_NoTurn : mg "NoTurn" = some (.ref A.NoTurn)
  C_NoRow : mg "NoRow" = some (.ref A.NoRow)
  C_Unknown : mg "Unknown" = some (.ref A.Unknown)
  C_NoTongue : mg "NoTongue" = some (.ref A.NoTongue)
  C_NoWants : mg "NoWants" = some (.ref A.NoWants)
  C_NoThing : mg "NoThing" = some (.ref A.NoThing)
  C_BadSign : mg "BadSign" = some (.ref A.BadSign)
  C_NoText : mg "NoText" = some (.ref A.NoText)
  X_NoTree : ExOwn K mg "NoTree" A.NoTree
  D_DearError : DrI K mg "DearError" A.DearError
  X_NoTongue : ExInit K mg "NoTongue" "part" A.NoTongue
  F_NoTongue : DfI K A.NoTongue "NoTongue.__init__" s_NoTongue___init__ "part"
  q_NoTree_NoNumber : PySem.W.kitOne K (.ref A.NoTree) (.ref A.NoNumber) = some false
  q_NoTree_NoBook : PySem.W.kitOne K (.ref A.NoTree) (.ref A.NoBook) = some false
  q_NoTree_NoTree : PySem.W.kitOne K (.ref A.NoTree) (.ref A.NoTree) = some true
  q_NoTree_TooMany : PySem.W.kitOne K (.ref A.NoTree) (.ref A.TooMany) = some false
  q_NoTree_NoCount : PySem.W.kitOne K (.ref A.NoTree) (.ref A.NoCount) = some false
  q_NoTree_NoUndo : PySem.W.kitOne K (.ref A.NoTree) (.ref A.NoUndo) = some false
  q_NoTree_NoTurn : PySem.W.kitOne K (.ref A.NoTree) (.ref A.NoTurn) = some false
  q_NoTree_NoRow : PySem.W.kitOne K (.ref A.NoTree) (.ref A.NoRow) = some false
  q_NoTree_Unknown : PySem.W.kitOne K (.ref A.NoTree) (.ref A.Unknown) = some false
  q_NoTree_NoTongue : PySem.W.kitOne K (.ref A.NoTree) (.ref A.NoTongue) = some false
  q_NoTree_NoWants : PySem.W.kitOne K (.ref A.NoTree) (.ref A.NoWants) = some false
  q_NoTree_NoThing : PySem.W.kitOne K (.ref A.NoTree) (.ref A.NoThing) = some false
  q_NoTree_BadSign : PySem.W.kitOne K (.ref A.NoTree) (.ref A.BadSign) = some false
  q_NoTree_NoText : PySem.W.kitOne K (.ref A.NoTree) (.ref A.NoText) = some false
  q_NoTree_ValueError : PySem.W.kitOne K (.ref A.NoTree) (.type "ValueError") = some true
  m_NoTree : PySem.W.exmOne K (.ref A.NoTree) (.ref A.DearError) = some true
  f_is_whole : Df K mg "is_whole" s_is_whole ["thing"]
  f_divisor : Df K mg "divisor" s_divisor ["one", "other"]
  f_is_fraction : Df K mg "is_fraction" s_is_fraction ["thing"]
  f_is_price : Df K mg "is_price" s_is_price ["thing"]
  f_is_letter : Df K mg "is_letter" s_is_letter ["thing"]
  f_is_sign : Df K mg "is_sign" s_is_sign ["thing"]
  f_are_signs : Df K mg "are_signs" s_are_signs ["thing"]
  f_are_unlike_texts : Df K mg "are_unlike_texts" s_are_unlike_texts ["thing", "size", "letters"]
  f_look_at_tongue : Df K mg "look_at_tongue" s_look_at_tongue ["thing"]
  f_grown : Df K mg "grown" s_grown ["letters", "ends"]
  f_tree_of : Df K mg "tree_of" s_tree_of ["tongue", "book"]
  f_can_come : Df K mg "can_come" s_can_come ["tongue", "begin", "sign"]
  f_look_at_branch : Df K mg "look_at_branch" s_look_at_branch ["tongue", "begin", "thing", "last"]
  f_look_at_tree : Df K mg "look_at_tree" s_look_at_tree ["tongue", "many", "found", "begin", "thing"]
  f_book_of : Df K mg "book_of" s_book_of ["tongue", "many", "thing"]
  f__law_cell : Df K mg "_law_cell" s__law_cell ["_law_script", "_law_k"]
  f__law_source : Df K mg "_law_source" s__law_source ["_law_cell_here", "_law_k"]
  f__law_draw : Df K mg "_law_draw" s__law_draw ["_law_source_here", "_law_many"]
  f__law_lowest : Df K mg "_law_lowest" s__law_lowest ["_law_top", "_law_bottom"]
  f__law_price : Df K mg "_law_price" s__law_price ["_law_source_here"]
  f__law_signs : Df K mg "_law_signs" s__law_signs ["_law_source_here", "_law_many"]
  f__law_tongue : Df K mg "_law_tongue" s__law_tongue ["_law_script", "_law_base", "_law_most", "_law_longs"]
  f__law_copy : Df K mg "_law_copy" s__law_copy ["_law_tongue_here"]
  f__law_comes : Df K mg "_law_comes" s__law_comes ["_law_tongue_here", "_law_ahead", "_law_sign"]
  f__law_stands : Df K mg "_law_stands" s__law_stands ["_law_tongue_here", "_law_thing"]
  f__law_is_word : Df K mg "_law_is_word" s__law_is_word ["_law_tongue_here", "_law_thing"]
  f__law_words : Df K mg "_law_words" s__law_words ["_law_tongue_here"]
  f__law_clashes : Df K mg "_law_clashes" s__law_clashes ["_law_book", "_law_word"]
  f__law_world : Df K mg "_law_world" s__law_world ["_law_script"]
  f__law_grown : Df K mg "_law_grown" s__law_grown ["_law_names", "_law_ends"]
  f__law_tree : Df K mg "_law_tree" s__law_tree ["_law_tongue_here", "_law_book"]
  f__law_copied : Df K mg "_law_copied" s__law_copied ["_law_thing"]
  f__law_is_refusal : Df K mg "_law_is_refusal" s__law_is_refusal ["_law_kept"]
  f__law_turned : Df K mg "_law_turned" s__law_turned ["_law_rows", "_law_many", "_law_by"]
  f__law_bent_here : Df K mg "_law_bent_here" s__law_bent_here ["_law_rows", "_law_at", "_law_names", "_law_many", "_law_source_here"]
  f__law_bent : Df K mg "_law_bent" s__law_bent ["_law_rows", "_law_names", "_law_many", "_law_source_here"]
  f__law_reads : Df K mg "_law_reads" s__law_reads ["_law_tongue_here", "_law_many", "_law_thing", "_law_begin", "_law_found"]
  f__law_right : Df K mg "_law_right" s__law_right ["_law_tongue_here", "_law_many", "_law_thing"]
  f_law : Df K mg "law" s_law ["_law_script"]
  g_LETTERS : ∃ t, mg "LETTERS" = some (.str "abcdefghijklmnopqrstuvwxyz" t)
  g_FEWEST_SIGNS : ∃ t, mg "FEWEST_SIGNS" = some (.int 2 t)
  g_MOST_SIGNS : ∃ t, mg "MOST_SIGNS" = some (.int 6 t)
  g_LONGEST : ∃ t, mg "LONGEST" = some (.int 8 t)
  b_ValueError : mg "ValueError" = none
  b_abs : mg "abs" = none
  b_all : mg "all" = none
  b_bool : mg "bool" = none
  b_enumerate : mg "enumerate" = none
  b_int : mg "int" = none
  b_isinstance : mg "isinstance" = none
  b_len : mg "len" = none
  b_list : mg "list" = none
  b_max : mg "max" = none
  b_min : mg "min" = none
  b_range : mg "range" = none
  b_set : mg "set" = none
  b_str : mg "str" = none
  b_tuple : mg "tuple" = none
def txt_mk {K : PySem.W.Frag} {h : Heap} {mg : Str → Option Value} (X : K.In h) (G : h.Ns mainGlobals mg)
    {C_DearError : Addr} {C_NoNumber : Addr} {C_NoBook : Addr} {C_NoTree : Addr} {C_TooMany : Addr} {C_NoCount : Addr} {C_NoUndo : Addr} {C_NoTurn : Addr} {C_NoRow : Addr} {C_Unknown : Addr} {C_NoTongue : Addr} {C_NoWants : Addr} {C_NoThing : Addr} {C_BadSign : Addr} {C_NoText : Addr} 
    {nm_NoTongue qn_NoTongue : Str} {N_NoTongue I_NoTongue : Addr} {bs_NoTongue sb_NoTongue : List Value} {sn_NoTongue : List Str} {ab_NoTongue : Bool} {col_NoTongue : Option Bool} {dd_NoTongue odI_NoTongue anI_NoTongue : Option Addr} {m0_NoTongue m1_NoTongue m2_NoTongue m3_NoTongue m5_NoTongue : Option Value} {slI_NoTongue : Array (Option Value)} {ocI_NoTongue kVI_NoTongue dcI_NoTongue pmI_NoTongue cdI_NoTongue ctI_NoTongue : Value}
    {f1 : Addr} {od1 an1 : Option Addr} {sl1 : Array (Option Value)} {oc1 kV1 dc1 pm1 cd1 ct1 : Value}
    {f2 : Addr} {od2 an2 : Option Addr} {sl2 : Array (Option Value)} {oc2 kV2 dc2 pm2 cd2 ct2 : Value}
    {f3 : Addr} {od3 an3 : Option Addr} {sl3 : Array (Option Value)} {oc3 kV3 dc3 pm3 cd3 ct3 : Value}
    {f4 : Addr} {od4 an4 : Option Addr} {sl4 : Array (Option Value)} {oc4 kV4 dc4 pm4 cd4 ct4 : Value}
    {f5 : Addr} {od5 an5 : Option Addr} {sl5 : Array (Option Value)} {oc5 kV5 dc5 pm5 cd5 ct5 : Value}
    {f6 : Addr} {od6 an6 : Option Addr} {sl6 : Array (Option Value)} {oc6 kV6 dc6 pm6 cd6 ct6 : Value}
    {f7 : Addr} {od7 an7 : Option Addr} {sl7 : Array (Option Value)} {oc7 kV7 dc7 pm7 cd7 ct7 : Value}
    {f8 : Addr} {od8 an8 : Option Addr} {sl8 : Array (Option Value)} {oc8 kV8 dc8 pm8 cd8 ct8 : Value}
    {f9 : Addr} {od9 an9 : Option Addr} {sl9 : Array (Option Value)} {oc9 kV9 dc9 pm9 cd9 ct9 : Value}
    {f10 : Addr} {od10 an10 : Option Addr} {sl10 : Array (Option Value)} {oc10 kV10 dc10 pm10 cd10 ct10 : Value}
    {f11 : Addr} {od11 an11 : Option Addr} {sl11 : Array (Option Value)} {oc11 kV11 dc11 pm11 cd11 ct11 : Value}
    {f12 : Addr} {od12 an12 : Option Addr} {sl12 : Array (Option Value)} {oc12 kV12 dc12 pm12 cd12 ct12 : Value}
    {f13 : Addr} {od13 an13 : Option Addr} {sl13 : Array (Option Value)} {oc13 kV13 dc13 pm13 cd13 ct13 : Value}
    {f14 : Addr} {od14 an14 : Option Addr} {sl14 : Array (Option Value)} {oc14 kV14 dc14 pm14 cd14 ct14 : Value}
    {f15 : Addr} {od15 an15 : Option Addr} {sl15 : Array (Option Value)} {oc15 kV15 dc15 pm15 cd15 ct15 : Value}
    {f16 : Addr} {od16 an16 : Option Addr} {sl16 : Array (Option Value)} {oc16 kV16 dc16 pm16 cd16 ct16 : Value}
    {f17 : Addr} {od17 an17 : Option Addr} {sl17 : Array (Option Value)} {oc17 kV17 dc17 pm17 cd17 ct17 : Value}
    {f18 : Addr} {od18 an18 : Option Addr} {sl18 : Array (Option Value)} {oc18 kV18 dc18 pm18 cd18 ct18 : Value}
    {f19 : Addr} {od19 an19 : Option Addr} {sl19 : Array (Option Value)} {oc19 kV19 dc19 pm19 cd19 ct19 : Value}
    {f20 : Addr} {od20 an20 : Option Addr} {sl20 : Array (Option Value)} {oc20 kV20 dc20 pm20 cd20 ct20 : Value}
    {f21 : Addr} {od21 an21 : Option Addr} {sl21 : Array (Option Value)} {oc21 kV21 dc21 pm21 cd21 ct21 : Value}
    {f22 : Addr} {od22 an22 : Option Addr} {sl22 : Array (Option Value)} {oc22 kV22 dc22 pm22 cd22 ct22 : Value}
    {f23 : Addr} {od23 an23 : Option Addr} {sl23 : Array (Option Value)} {oc23 kV23 dc23 pm23 cd23 ct23 : Value}
    {f24 : Addr} {od24 an24 : Option Addr} {sl24 : Array (Option Value)} {oc24 kV24 dc24 pm24 cd24 ct24 : Value}
    {f25 : Addr} {od25 an25 : Option Addr} {sl25 : Array (Option Value)} {oc25 kV25 dc25 pm25 cd25 ct25 : Value}
    {f26 : Addr} {od26 an26 : Option Addr} {sl26 : Array (Option Value)} {oc26 kV26 dc26 pm26 cd26 ct26 : Value}
    {f27 : Addr} {od27 an27 : Option Addr} {sl27 : Array (Option Value)} {oc27 kV27 dc27 pm27 cd27 ct27 : Value}
    {f28 : Addr} {od28 an28 : Option Addr} {sl28 : Array (Option Value)} {oc28 kV28 dc28 pm28 cd28 ct28 : Value}
    {f29 : Addr} {od29 an29 : Option Addr} {sl29 : Array (Option Value)} {oc29 kV29 dc29 pm29 cd29 ct29 : Value}
    {f30 : Addr} {od30 an30 : Option Addr} {sl30 : Array (Option Value)} {oc30 kV30 dc30 pm30 cd30 ct30 : Value}
    {f31 : Addr} {od31 an31 : Option Addr} {sl31 : Array (Option Value)} {oc31 kV31 dc31 pm31 cd31 ct31 : Value}
    {f32 : Addr} {od32 an32 : Option Addr} {sl32 : Array (Option Value)} {oc32 kV32 dc32 pm32 cd32 ct32 : Value}
    {f33 : Addr} {od33 an33 : Option Addr} {sl33 : Array (Option Value)} {oc33 kV33 dc33 pm33 cd33 ct33 : Value}
    {f34 : Addr} {od34 an34 : Option Addr} {sl34 : Array (Option Value)} {oc34 kV34 dc34 pm34 cd34 ct34 : Value}
    {f35 : Addr} {od35 an35 : Option Addr} {sl35 : Array (Option Value)} {oc35 kV35 dc35 pm35 cd35 ct35 : Value}
    {f36 : Addr} {od36 an36 : Option Addr} {sl36 : Array (Option Value)} {oc36 kV36 dc36 pm36 cd36 ct36 : Value}
    {f37 : Addr} {od37 an37 : Option Addr} {sl37 : Array (Option Value)} {oc37 kV37 dc37 pm37 cd37 ct37 : Value}
    {f38 : Addr} {od38 an38 : Option Addr} {sl38 : Array (Option Value)} {oc38 kV38 dc38 pm38 cd38 ct38 : Value}
    {f39 : Addr} {od39 an39 : Option Addr} {sl39 : Array (Option Value)} {oc39 kV39 dc39 pm39 cd39 ct39 : Value}
    {t40 : Tok}
    {t41 : Tok}
    {t42 : Tok}
    {t43 : Tok}
    (g_DearError : PySem.W.nsIn K mainGlobals "DearError" = some (some (.ref C_DearError)))
    (i_DearError : PySem.W.isClsIn K C_DearError = true) (t_DearError : PySem.W.typeIn K (.ref C_DearError) = some (.type "type"))
    (g_NoNumber : PySem.W.nsIn K mainGlobals "NoNumber" = some (some (.ref C_NoNumber)))
    (i_NoNumber : PySem.W.isClsIn K C_NoNumber = true) (t_NoNumber : PySem.W.typeIn K (.ref C_NoNumber) = some (.type "type"))
    (g_NoBook : PySem.W.nsIn K mainGlobals "NoBook" = some (some (.ref C_NoBook)))
    (i_NoBook : PySem.W.isClsIn K C_NoBook = true) (t_NoBook : PySem.W.typeIn K (.ref C_NoBook) = some (.type "type"))
    (g_NoTree : PySem.W.nsIn K mainGlobals "NoTree" = some (some (.ref C_NoTree)))
    (i_NoTree : PySem.W.isClsIn K C_NoTree = true) (t_NoTree : PySem.W.typeIn K (.ref C_NoTree) = some (.type "type"))
    (g_TooMany : PySem.W.nsIn K mainGlobals "TooMany" = some (some (.ref C_TooMany)))
    (i_TooMany : PySem.W.isClsIn K C_TooMany = true) (t_TooMany : PySem.W.typeIn K (.ref C_TooMany) = some (.type "type"))
    (g_NoCount : PySem.W.nsIn K mainGlobals "NoCount" = some (some (.ref C_NoCount)))
    (i_NoCount : PySem.W.isClsIn K C_NoCount = true) (t_NoCount : PySem.W.typeIn K (.ref C_NoCount) = some (.type "type"))
    (g_NoUndo : PySem.W.nsIn K mainGlobals "NoUndo" = some (some (.ref C_NoUndo)))
    (i_NoUndo : PySem.W.isClsIn K C_NoUndo = true) (t_NoUndo : PySem.W.typeIn K (.ref C_NoUndo) = some (.type "type"))
    (g_NoTurn : PySem.W.nsIn K mainGlobals "NoTurn" = some (some (.ref C_NoTurn)))
    (i_NoTurn : PySem.W.isClsIn K C_NoTurn = true) (t_NoTurn : PySem.W.typeIn K (.ref C_NoTurn) = some (.type "type"))
    (g_NoRow : PySem.W.nsIn K mainGlobals "NoRow" = some (some (.ref C_NoRow)))
    (i_NoRow : PySem.W.isClsIn K C_NoRow = true) (t_NoRow : PySem.W.typeIn K (.ref C_NoRow) = some (.type "type"))
    (g_Unknown : PySem.W.nsIn K mainGlobals "Unknown" = some (some (.ref C_Unknown)))
    (i_Unknown : PySem.W.isClsIn K C_Unknown = true) (t_Unknown : PySem.W.typeIn K (.ref C_Unknown) = some (.type "type"))
    (g_NoTongue : PySem.W.nsIn K mainGlobals "NoTongue" = some (some (.ref C_NoTongue)))
    (i_NoTongue : PySem.W.isClsIn K C_NoTongue = true) (t_NoTongue : PySem.W.typeIn K (.ref C_NoTongue) = some (.type "type"))
    (g_NoWants : PySem.W.nsIn K mainGlobals "NoWants" = some (some (.ref C_NoWants)))
    (i_NoWants : PySem.W.isClsIn K C_NoWants = true) (t_NoWants : PySem.W.typeIn K (.ref C_NoWants) = some (.type "type"))
    (g_NoThing : PySem.W.nsIn K mainGlobals "NoThing" = some (some (.ref C_NoThing)))
    (i_NoThing : PySem.W.isClsIn K C_NoThing = true) (t_NoThing : PySem.W.typeIn K (.ref C_NoThing) = some (.type "type"))
    (g_BadSign : PySem.W.nsIn K mainGlobals "BadSign" = some (some (.ref C_BadSign)))
    (i_BadSign : PySem.W.isClsIn K C_BadSign = true) (t_BadSign : PySem.W.typeIn K (.ref C_BadSign) = some (.type "type"))
    (g_NoText : PySem.W.nsIn K mainGlobals "NoText" = some (some (.ref C_NoText)))
    (i_NoText : PySem.W.isClsIn K C_NoText = true) (t_NoText : PySem.W.typeIn K (.ref C_NoText) = some (.type "type"))
    (b_DearError : PySem.W.subIn K (.ref C_DearError) (.type "BaseException") = some true)
    (x1_NoTree : PySem.W.excIn K C_NoTree [.type "ValueError", .type "Exception", .type "BaseException", .type "object"] "ValueError.__new__" = true)
    (x2_NoTree : PySem.W.keepIn K (.ref C_NoTree) = true)
    (x3_NoTree : PySem.W.subIn K (.ref C_NoTree) (.type "BaseException") = some true)
    (x4_NoTree : PySem.W.typeIn K (.ref C_NoTree) = some (.type "type"))
    (x5_NoTree : PySem.W.findIn K (.ref C_NoTree) "__getattribute__" = some (some (.builtin "BaseException.__getattribute__")))
    (x6_NoTree : PySem.W.findIn K (.ref C_NoTree) "__getattr__" = some none)
    (x7_NoTree : PySem.W.hasDictIn K C_NoTree = true)
    (x8_NoTree : PySem.W.findIn K (.ref C_NoTree) "__class__" = some (some (.builtin "object.__class__")))
    (x9_NoTree : PySem.W.specialIn K (.builtin "object.__class__") "__get__" = some (some (.builtin "getset_descriptor.__get__")))
    (x10_NoTree : PySem.W.takesIn K (.builtin "object.__class__") = some true)
    (x11_NoTree : PySem.W.mroIn K C_NoTree (.type "object") = some true)
    (d1 : PySem.W.specialIn K (.ref C_DearError) "__getattribute__" = some (some (.builtin "type.__getattribute__")))
    (d2 : PySem.W.readsIn K C_DearError (.type "type") = true)
    (d3 : PySem.W.findCls K (.ref C_DearError) (.type "type") "__init__" = some (.val (.builtin "ValueError.__init__")))
    (xl_NoTongue : K.lookup C_NoTongue = some (excClassObj nm_NoTongue qn_NoTongue C_NoTongue N_NoTongue bs_NoTongue [.ref C_DearError, .type "ValueError", .type "Exception", .type "BaseException", .type "object"] true sn_NoTongue sb_NoTongue ab_NoTongue col_NoTongue dd_NoTongue m0_NoTongue m1_NoTongue m2_NoTongue m3_NoTongue m5_NoTongue "ValueError.__new__"))
    (sa_NoTongue : PySem.W.findIn K (.ref C_NoTongue) "__setattr__" = some (some (.builtin "object.__setattr__")))
    (x2_NoTongue : PySem.W.keepIn K (.ref C_NoTongue) = true)
    (x3_NoTongue : PySem.W.subIn K (.ref C_NoTongue) (.type "BaseException") = some true)
    (x4_NoTongue : PySem.W.typeIn K (.ref C_NoTongue) = some (.type "type"))
    (x5_NoTongue : PySem.W.findIn K (.ref C_NoTongue) "__getattribute__" = some (some (.builtin "BaseException.__getattribute__")))
    (x6_NoTongue : PySem.W.findIn K (.ref C_NoTongue) "__getattr__" = some none)
    (x7_NoTongue : PySem.W.hasDictIn K C_NoTongue = true)
    (x8_NoTongue : PySem.W.findIn K (.ref C_NoTongue) "__class__" = some (some (.builtin "object.__class__")))
    (x9_NoTongue : PySem.W.specialIn K (.builtin "object.__class__") "__get__" = some (some (.builtin "getset_descriptor.__get__")))
    (x10_NoTongue : PySem.W.takesIn K (.builtin "object.__class__") = some true)
    (x11_NoTongue : PySem.W.mroIn K C_NoTongue (.type "object") = some true)
    (fn_NoTongue : PySem.W.findIn K (.ref C_NoTongue) "part" = some none)
    (i1_NoTongue : PySem.W.findIn K (.ref C_NoTongue) "__init__" = some (some (.ref I_NoTongue)))
    (i2_NoTongue : PySem.W.typeIn K (.ref I_NoTongue) = some (.type "function"))
    (i3_NoTongue : K.lookup I_NoTongue = some ⟨ocI_NoTongue, odI_NoTongue, .func (PySem.W.fnOf "__init__" "NoTongue.__init__" (defArgs s_NoTongue___init__) (defBody s_NoTongue___init__) (defScope s_NoTongue___init__) .none kVI_NoTongue dcI_NoTongue pmI_NoTongue anI_NoTongue cdI_NoTongue ctI_NoTongue), slI_NoTongue⟩)
    (i4_NoTongue : PySem.W.codeIn K cdI_NoTongue "NoTongue.__init__" = true)
    (i5_NoTongue : PySem.W.keepIn K (.ref I_NoTongue) = true)
    (q_NoTree_DearError : PySem.W.subIn K (.ref C_NoTree) (.ref C_DearError) = some true)
    (q_NoTree_NoNumber : PySem.W.subIn K (.ref C_NoTree) (.ref C_NoNumber) = some false)
    (n_NoTree_NoNumber : (Value.ref C_NoTree == Value.ref C_NoNumber) = false)
    (q_NoTree_NoBook : PySem.W.subIn K (.ref C_NoTree) (.ref C_NoBook) = some false)
    (n_NoTree_NoBook : (Value.ref C_NoTree == Value.ref C_NoBook) = false)
    (q_NoTree_NoTree : PySem.W.subIn K (.ref C_NoTree) (.ref C_NoTree) = some true)
    (q_NoTree_TooMany : PySem.W.subIn K (.ref C_NoTree) (.ref C_TooMany) = some false)
    (n_NoTree_TooMany : (Value.ref C_NoTree == Value.ref C_TooMany) = false)
    (q_NoTree_NoCount : PySem.W.subIn K (.ref C_NoTree) (.ref C_NoCount) = some false)
    (n_NoTree_NoCount : (Value.ref C_NoTree == Value.ref C_NoCount) = false)
    (q_NoTree_NoUndo : PySem.W.subIn K (.ref C_NoTree) (.ref C_NoUndo) = some false)
    (n_NoTree_NoUndo : (Value.ref C_NoTree == Value.ref C_NoUndo) = false)
    (q_NoTree_NoTurn : PySem.W.subIn K (.ref C_NoTree) (.ref C_NoTurn) = some false)
    (n_NoTree_NoTurn : (Value.ref C_NoTree == Value.ref C_NoTurn) = false)
    (q_NoTree_NoRow : PySem.W.subIn K (.ref C_NoTree) (.ref C_NoRow) = some false)
    (n_NoTree_NoRow : (Value.ref C_NoTree == Value.ref C_NoRow) = false)
    (q_NoTree_Unknown : PySem.W.subIn K (.ref C_NoTree) (.ref C_Unknown) = some false)
    (n_NoTree_Unknown : (Value.ref C_NoTree == Value.ref C_Unknown) = false)
    (q_NoTree_NoTongue : PySem.W.subIn K (.ref C_NoTree) (.ref C_NoTongue) = some false)
    (n_NoTree_NoTongue : (Value.ref C_NoTree == Value.ref C_NoTongue) = false)
    (q_NoTree_NoWants : PySem.W.subIn K (.ref C_NoTree) (.ref C_NoWants) = some false)
    (n_NoTree_NoWants : (Value.ref C_NoTree == Value.ref C_NoWants) = false)
    (q_NoTree_NoThing : PySem.W.subIn K (.ref C_NoTree) (.ref C_NoThing) = some false)
    (n_NoTree_NoThing : (Value.ref C_NoTree == Value.ref C_NoThing) = false)
    (q_NoTree_BadSign : PySem.W.subIn K (.ref C_NoTree) (.ref C_BadSign) = some false)
    (n_NoTree_BadSign : (Value.ref C_NoTree == Value.ref C_BadSign) = false)
    (q_NoTree_NoText : PySem.W.subIn K (.ref C_NoTree) (.ref C_NoText) = some false)
    (n_NoTree_NoText : (Value.ref C_NoTree == Value.ref C_NoText) = false)
    (q_NoTree_ValueError : PySem.W.subIn K (.ref C_NoTree) (.type "ValueError") = some true)
    (a1 : PySem.W.nsIn K mainGlobals "is_whole" = some (some (.ref f1))) (l1 : K.lookup f1 = some ⟨oc1, od1, .func (PySem.W.fnOf "is_whole" "is_whole" (defArgs s_is_whole) (defBody s_is_whole) (defScope s_is_whole) .none kV1 dc1 pm1 an1 cd1 ct1), sl1⟩) (c1 : PySem.W.codeIn K cd1 "is_whole" = true) (k1 : PySem.W.keepIn K (.ref f1) = true)
    (a2 : PySem.W.nsIn K mainGlobals "divisor" = some (some (.ref f2))) (l2 : K.lookup f2 = some ⟨oc2, od2, .func (PySem.W.fnOf "divisor" "divisor" (defArgs s_divisor) (defBody s_divisor) (defScope s_divisor) .none kV2 dc2 pm2 an2 cd2 ct2), sl2⟩) (c2 : PySem.W.codeIn K cd2 "divisor" = true) (k2 : PySem.W.keepIn K (.ref f2) = true)
    (a3 : PySem.W.nsIn K mainGlobals "is_fraction" = some (some (.ref f3))) (l3 : K.lookup f3 = some ⟨oc3, od3, .func (PySem.W.fnOf "is_fraction" "is_fraction" (defArgs s_is_fraction) (defBody s_is_fraction) (defScope s_is_fraction) .none kV3 dc3 pm3 an3 cd3 ct3), sl3⟩) (c3 : PySem.W.codeIn K cd3 "is_fraction" = true) (k3 : PySem.W.keepIn K (.ref f3) = true)
    (a4 : PySem.W.nsIn K mainGlobals "is_price" = some (some (.ref f4))) (l4 : K.lookup f4 = some ⟨oc4, od4, .func (PySem.W.fnOf "is_price" "is_price" (defArgs s_is_price) (defBody s_is_price) (defScope s_is_price) .none kV4 dc4 pm4 an4 cd4 ct4), sl4⟩) (c4 : PySem.W.codeIn K cd4 "is_price" = true) (k4 : PySem.W.keepIn K (.ref f4) = true)
    (a5 : PySem.W.nsIn K mainGlobals "is_letter" = some (some (.ref f5))) (l5 : K.lookup f5 = some ⟨oc5, od5, .func (PySem.W.fnOf "is_letter" "is_letter" (defArgs s_is_letter) (defBody s_is_letter) (defScope s_is_letter) .none kV5 dc5 pm5 an5 cd5 ct5), sl5⟩) (c5 : PySem.W.codeIn K cd5 "is_letter" = true) (k5 : PySem.W.keepIn K (.ref f5) = true)
    (a6 : PySem.W.nsIn K mainGlobals "is_sign" = some (some (.ref f6))) (l6 : K.lookup f6 = some ⟨oc6, od6, .func (PySem.W.fnOf "is_sign" "is_sign" (defArgs s_is_sign) (defBody s_is_sign) (defScope s_is_sign) .none kV6 dc6 pm6 an6 cd6 ct6), sl6⟩) (c6 : PySem.W.codeIn K cd6 "is_sign" = true) (k6 : PySem.W.keepIn K (.ref f6) = true)
    (a7 : PySem.W.nsIn K mainGlobals "are_signs" = some (some (.ref f7))) (l7 : K.lookup f7 = some ⟨oc7, od7, .func (PySem.W.fnOf "are_signs" "are_signs" (defArgs s_are_signs) (defBody s_are_signs) (defScope s_are_signs) .none kV7 dc7 pm7 an7 cd7 ct7), sl7⟩) (c7 : PySem.W.codeIn K cd7 "are_signs" = true) (k7 : PySem.W.keepIn K (.ref f7) = true)
    (a8 : PySem.W.nsIn K mainGlobals "are_unlike_texts" = some (some (.ref f8))) (l8 : K.lookup f8 = some ⟨oc8, od8, .func (PySem.W.fnOf "are_unlike_texts" "are_unlike_texts" (defArgs s_are_unlike_texts) (defBody s_are_unlike_texts) (defScope s_are_unlike_texts) .none kV8 dc8 pm8 an8 cd8 ct8), sl8⟩) (c8 : PySem.W.codeIn K cd8 "are_unlike_texts" = true) (k8 : PySem.W.keepIn K (.ref f8) = true)
    (a9 : PySem.W.nsIn K mainGlobals "look_at_tongue" = some (some (.ref f9))) (l9 : K.lookup f9 = some ⟨oc9, od9, .func (PySem.W.fnOf "look_at_tongue" "look_at_tongue" (defArgs s_look_at_tongue) (defBody s_look_at_tongue) (defScope s_look_at_tongue) .none kV9 dc9 pm9 an9 cd9 ct9), sl9⟩) (c9 : PySem.W.codeIn K cd9 "look_at_tongue" = true) (k9 : PySem.W.keepIn K (.ref f9) = true)
    (a10 : PySem.W.nsIn K mainGlobals "grown" = some (some (.ref f10))) (l10 : K.lookup f10 = some ⟨oc10, od10, .func (PySem.W.fnOf "grown" "grown" (defArgs s_grown) (defBody s_grown) (defScope s_grown) .none kV10 dc10 pm10 an10 cd10 ct10), sl10⟩) (c10 : PySem.W.codeIn K cd10 "grown" = true) (k10 : PySem.W.keepIn K (.ref f10) = true)
    (a11 : PySem.W.nsIn K mainGlobals "tree_of" = some (some (.ref f11))) (l11 : K.lookup f11 = some ⟨oc11, od11, .func (PySem.W.fnOf "tree_of" "tree_of" (defArgs s_tree_of) (defBody s_tree_of) (defScope s_tree_of) .none kV11 dc11 pm11 an11 cd11 ct11), sl11⟩) (c11 : PySem.W.codeIn K cd11 "tree_of" = true) (k11 : PySem.W.keepIn K (.ref f11) = true)
    (a12 : PySem.W.nsIn K mainGlobals "can_come" = some (some (.ref f12))) (l12 : K.lookup f12 = some ⟨oc12, od12, .func (PySem.W.fnOf "can_come" "can_come" (defArgs s_can_come) (defBody s_can_come) (defScope s_can_come) .none kV12 dc12 pm12 an12 cd12 ct12), sl12⟩) (c12 : PySem.W.codeIn K cd12 "can_come" = true) (k12 : PySem.W.keepIn K (.ref f12) = true)
    (a13 : PySem.W.nsIn K mainGlobals "look_at_branch" = some (some (.ref f13))) (l13 : K.lookup f13 = some ⟨oc13, od13, .func (PySem.W.fnOf "look_at_branch" "look_at_branch" (defArgs s_look_at_branch) (defBody s_look_at_branch) (defScope s_look_at_branch) .none kV13 dc13 pm13 an13 cd13 ct13), sl13⟩) (c13 : PySem.W.codeIn K cd13 "look_at_branch" = true) (k13 : PySem.W.keepIn K (.ref f13) = true)
    (a14 : PySem.W.nsIn K mainGlobals "look_at_tree" = some (some (.ref f14))) (l14 : K.lookup f14 = some ⟨oc14, od14, .func (PySem.W.fnOf "look_at_tree" "look_at_tree" (defArgs s_look_at_tree) (defBody s_look_at_tree) (defScope s_look_at_tree) .none kV14 dc14 pm14 an14 cd14 ct14), sl14⟩) (c14 : PySem.W.codeIn K cd14 "look_at_tree" = true) (k14 : PySem.W.keepIn K (.ref f14) = true)
    (a15 : PySem.W.nsIn K mainGlobals "book_of" = some (some (.ref f15))) (l15 : K.lookup f15 = some ⟨oc15, od15, .func (PySem.W.fnOf "book_of" "book_of" (defArgs s_book_of) (defBody s_book_of) (defScope s_book_of) .none kV15 dc15 pm15 an15 cd15 ct15), sl15⟩) (c15 : PySem.W.codeIn K cd15 "book_of" = true) (k15 : PySem.W.keepIn K (.ref f15) = true)
    (a16 : PySem.W.nsIn K mainGlobals "_law_cell" = some (some (.ref f16))) (l16 : K.lookup f16 = some ⟨oc16, od16, .func (PySem.W.fnOf "_law_cell" "_law_cell" (defArgs s__law_cell) (defBody s__law_cell) (defScope s__law_cell) .none kV16 dc16 pm16 an16 cd16 ct16), sl16⟩) (c16 : PySem.W.codeIn K cd16 "_law_cell" = true) (k16 : PySem.W.keepIn K (.ref f16) = true)
    (a17 : PySem.W.nsIn K mainGlobals "_law_source" = some (some (.ref f17))) (l17 : K.lookup f17 = some ⟨oc17, od17, .func (PySem.W.fnOf "_law_source" "_law_source" (defArgs s__law_source) (defBody s__law_source) (defScope s__law_source) .none kV17 dc17 pm17 an17 cd17 ct17), sl17⟩) (c17 : PySem.W.codeIn K cd17 "_law_source" = true) (k17 : PySem.W.keepIn K (.ref f17) = true)
    (a18 : PySem.W.nsIn K mainGlobals "_law_draw" = some (some (.ref f18))) (l18 : K.lookup f18 = some ⟨oc18, od18, .func (PySem.W.fnOf "_law_draw" "_law_draw" (defArgs s__law_draw) (defBody s__law_draw) (defScope s__law_draw) .none kV18 dc18 pm18 an18 cd18 ct18), sl18⟩) (c18 : PySem.W.codeIn K cd18 "_law_draw" = true) (k18 : PySem.W.keepIn K (.ref f18) = true)
    (a19 : PySem.W.nsIn K mainGlobals "_law_lowest" = some (some (.ref f19))) (l19 : K.lookup f19 = some ⟨oc19, od19, .func (PySem.W.fnOf "_law_lowest" "_law_lowest" (defArgs s__law_lowest) (defBody s__law_lowest) (defScope s__law_lowest) .none kV19 dc19 pm19 an19 cd19 ct19), sl19⟩) (c19 : PySem.W.codeIn K cd19 "_law_lowest" = true) (k19 : PySem.W.keepIn K (.ref f19) = true)
    (a20 : PySem.W.nsIn K mainGlobals "_law_price" = some (some (.ref f20))) (l20 : K.lookup f20 = some ⟨oc20, od20, .func (PySem.W.fnOf "_law_price" "_law_price" (defArgs s__law_price) (defBody s__law_price) (defScope s__law_price) .none kV20 dc20 pm20 an20 cd20 ct20), sl20⟩) (c20 : PySem.W.codeIn K cd20 "_law_price" = true) (k20 : PySem.W.keepIn K (.ref f20) = true)
    (a21 : PySem.W.nsIn K mainGlobals "_law_signs" = some (some (.ref f21))) (l21 : K.lookup f21 = some ⟨oc21, od21, .func (PySem.W.fnOf "_law_signs" "_law_signs" (defArgs s__law_signs) (defBody s__law_signs) (defScope s__law_signs) .none kV21 dc21 pm21 an21 cd21 ct21), sl21⟩) (c21 : PySem.W.codeIn K cd21 "_law_signs" = true) (k21 : PySem.W.keepIn K (.ref f21) = true)
    (a22 : PySem.W.nsIn K mainGlobals "_law_tongue" = some (some (.ref f22))) (l22 : K.lookup f22 = some ⟨oc22, od22, .func (PySem.W.fnOf "_law_tongue" "_law_tongue" (defArgs s__law_tongue) (defBody s__law_tongue) (defScope s__law_tongue) .none kV22 dc22 pm22 an22 cd22 ct22), sl22⟩) (c22 : PySem.W.codeIn K cd22 "_law_tongue" = true) (k22 : PySem.W.keepIn K (.ref f22) = true)
    (a23 : PySem.W.nsIn K mainGlobals "_law_copy" = some (some (.ref f23))) (l23 : K.lookup f23 = some ⟨oc23, od23, .func (PySem.W.fnOf "_law_copy" "_law_copy" (defArgs s__law_copy) (defBody s__law_copy) (defScope s__law_copy) .none kV23 dc23 pm23 an23 cd23 ct23), sl23⟩) (c23 : PySem.W.codeIn K cd23 "_law_copy" = true) (k23 : PySem.W.keepIn K (.ref f23) = true)
    (a24 : PySem.W.nsIn K mainGlobals "_law_comes" = some (some (.ref f24))) (l24 : K.lookup f24 = some ⟨oc24, od24, .func (PySem.W.fnOf "_law_comes" "_law_comes" (defArgs s__law_comes) (defBody s__law_comes) (defScope s__law_comes) .none kV24 dc24 pm24 an24 cd24 ct24), sl24⟩) (c24 : PySem.W.codeIn K cd24 "_law_comes" = true) (k24 : PySem.W.keepIn K (.ref f24) = true)
    (a25 : PySem.W.nsIn K mainGlobals "_law_stands" = some (some (.ref f25))) (l25 : K.lookup f25 = some ⟨oc25, od25, .func (PySem.W.fnOf "_law_stands" "_law_stands" (defArgs s__law_stands) (defBody s__law_stands) (defScope s__law_stands) .none kV25 dc25 pm25 an25 cd25 ct25), sl25⟩) (c25 : PySem.W.codeIn K cd25 "_law_stands" = true) (k25 : PySem.W.keepIn K (.ref f25) = true)
    (a26 : PySem.W.nsIn K mainGlobals "_law_is_word" = some (some (.ref f26))) (l26 : K.lookup f26 = some ⟨oc26, od26, .func (PySem.W.fnOf "_law_is_word" "_law_is_word" (defArgs s__law_is_word) (defBody s__law_is_word) (defScope s__law_is_word) .none kV26 dc26 pm26 an26 cd26 ct26), sl26⟩) (c26 : PySem.W.codeIn K cd26 "_law_is_word" = true) (k26 : PySem.W.keepIn K (.ref f26) = true)
    (a27 : PySem.W.nsIn K mainGlobals "_law_words" = some (some (.ref f27))) (l27 : K.lookup f27 = some ⟨oc27, od27, .func (PySem.W.fnOf "_law_words" "_law_words" (defArgs s__law_words) (defBody s__law_words) (defScope s__law_words) .none kV27 dc27 pm27 an27 cd27 ct27), sl27⟩) (c27 : PySem.W.codeIn K cd27 "_law_words" = true) (k27 : PySem.W.keepIn K (.ref f27) = true)
    (a28 : PySem.W.nsIn K mainGlobals "_law_clashes" = some (some (.ref f28))) (l28 : K.lookup f28 = some ⟨oc28, od28, .func (PySem.W.fnOf "_law_clashes" "_law_clashes" (defArgs s__law_clashes) (defBody s__law_clashes) (defScope s__law_clashes) .none kV28 dc28 pm28 an28 cd28 ct28), sl28⟩) (c28 : PySem.W.codeIn K cd28 "_law_clashes" = true) (k28 : PySem.W.keepIn K (.ref f28) = true)
    (a29 : PySem.W.nsIn K mainGlobals "_law_world" = some (some (.ref f29))) (l29 : K.lookup f29 = some ⟨oc29, od29, .func (PySem.W.fnOf "_law_world" "_law_world" (defArgs s__law_world) (defBody s__law_world) (defScope s__law_world) .none kV29 dc29 pm29 an29 cd29 ct29), sl29⟩) (c29 : PySem.W.codeIn K cd29 "_law_world" = true) (k29 : PySem.W.keepIn K (.ref f29) = true)
    (a30 : PySem.W.nsIn K mainGlobals "_law_grown" = some (some (.ref f30))) (l30 : K.lookup f30 = some ⟨oc30, od30, .func (PySem.W.fnOf "_law_grown" "_law_grown" (defArgs s__law_grown) (defBody s__law_grown) (defScope s__law_grown) .none kV30 dc30 pm30 an30 cd30 ct30), sl30⟩) (c30 : PySem.W.codeIn K cd30 "_law_grown" = true) (k30 : PySem.W.keepIn K (.ref f30) = true)
    (a31 : PySem.W.nsIn K mainGlobals "_law_tree" = some (some (.ref f31))) (l31 : K.lookup f31 = some ⟨oc31, od31, .func (PySem.W.fnOf "_law_tree" "_law_tree" (defArgs s__law_tree) (defBody s__law_tree) (defScope s__law_tree) .none kV31 dc31 pm31 an31 cd31 ct31), sl31⟩) (c31 : PySem.W.codeIn K cd31 "_law_tree" = true) (k31 : PySem.W.keepIn K (.ref f31) = true)
    (a32 : PySem.W.nsIn K mainGlobals "_law_copied" = some (some (.ref f32))) (l32 : K.lookup f32 = some ⟨oc32, od32, .func (PySem.W.fnOf "_law_copied" "_law_copied" (defArgs s__law_copied) (defBody s__law_copied) (defScope s__law_copied) .none kV32 dc32 pm32 an32 cd32 ct32), sl32⟩) (c32 : PySem.W.codeIn K cd32 "_law_copied" = true) (k32 : PySem.W.keepIn K (.ref f32) = true)
    (a33 : PySem.W.nsIn K mainGlobals "_law_is_refusal" = some (some (.ref f33))) (l33 : K.lookup f33 = some ⟨oc33, od33, .func (PySem.W.fnOf "_law_is_refusal" "_law_is_refusal" (defArgs s__law_is_refusal) (defBody s__law_is_refusal) (defScope s__law_is_refusal) .none kV33 dc33 pm33 an33 cd33 ct33), sl33⟩) (c33 : PySem.W.codeIn K cd33 "_law_is_refusal" = true) (k33 : PySem.W.keepIn K (.ref f33) = true)
    (a34 : PySem.W.nsIn K mainGlobals "_law_turned" = some (some (.ref f34))) (l34 : K.lookup f34 = some ⟨oc34, od34, .func (PySem.W.fnOf "_law_turned" "_law_turned" (defArgs s__law_turned) (defBody s__law_turned) (defScope s__law_turned) .none kV34 dc34 pm34 an34 cd34 ct34), sl34⟩) (c34 : PySem.W.codeIn K cd34 "_law_turned" = true) (k34 : PySem.W.keepIn K (.ref f34) = true)
    (a35 : PySem.W.nsIn K mainGlobals "_law_bent_here" = some (some (.ref f35))) (l35 : K.lookup f35 = some ⟨oc35, od35, .func (PySem.W.fnOf "_law_bent_here" "_law_bent_here" (defArgs s__law_bent_here) (defBody s__law_bent_here) (defScope s__law_bent_here) .none kV35 dc35 pm35 an35 cd35 ct35), sl35⟩) (c35 : PySem.W.codeIn K cd35 "_law_bent_here" = true) (k35 : PySem.W.keepIn K (.ref f35) = true)
    (a36 : PySem.W.nsIn K mainGlobals "_law_bent" = some (some (.ref f36))) (l36 : K.lookup f36 = some ⟨oc36, od36, .func (PySem.W.fnOf "_law_bent" "_law_bent" (defArgs s__law_bent) (defBody s__law_bent) (defScope s__law_bent) .none kV36 dc36 pm36 an36 cd36 ct36), sl36⟩) (c36 : PySem.W.codeIn K cd36 "_law_bent" = true) (k36 : PySem.W.keepIn K (.ref f36) = true)
    (a37 : PySem.W.nsIn K mainGlobals "_law_reads" = some (some (.ref f37))) (l37 : K.lookup f37 = some ⟨oc37, od37, .func (PySem.W.fnOf "_law_reads" "_law_reads" (defArgs s__law_reads) (defBody s__law_reads) (defScope s__law_reads) .none kV37 dc37 pm37 an37 cd37 ct37), sl37⟩) (c37 : PySem.W.codeIn K cd37 "_law_reads" = true) (k37 : PySem.W.keepIn K (.ref f37) = true)
    (a38 : PySem.W.nsIn K mainGlobals "_law_right" = some (some (.ref f38))) (l38 : K.lookup f38 = some ⟨oc38, od38, .func (PySem.W.fnOf "_law_right" "_law_right" (defArgs s__law_right) (defBody s__law_right) (defScope s__law_right) .none kV38 dc38 pm38 an38 cd38 ct38), sl38⟩) (c38 : PySem.W.codeIn K cd38 "_law_right" = true) (k38 : PySem.W.keepIn K (.ref f38) = true)
    (a39 : PySem.W.nsIn K mainGlobals "law" = some (some (.ref f39))) (l39 : K.lookup f39 = some ⟨oc39, od39, .func (PySem.W.fnOf "law" "law" (defArgs s_law) (defBody s_law) (defScope s_law) .none kV39 dc39 pm39 an39 cd39 ct39), sl39⟩) (c39 : PySem.W.codeIn K cd39 "law" = true) (k39 : PySem.W.keepIn K (.ref f39) = true)
    (a40 : PySem.W.nsIn K mainGlobals "LETTERS" = some (some (.str "abcdefghijklmnopqrstuvwxyz" t40)))
    (a41 : PySem.W.nsIn K mainGlobals "FEWEST_SIGNS" = some (some (.int 2 t41)))
    (a42 : PySem.W.nsIn K mainGlobals "MOST_SIGNS" = some (some (.int 6 t42)))
    (a43 : PySem.W.nsIn K mainGlobals "LONGEST" = some (some (.int 8 t43)))
    (a44 : PySem.W.nsIn K mainGlobals "ValueError" = some none)
    (a45 : PySem.W.nsIn K mainGlobals "abs" = some none)
    (a46 : PySem.W.nsIn K mainGlobals "all" = some none)
    (a47 : PySem.W.nsIn K mainGlobals "bool" = some none)
    (a48 : PySem.W.nsIn K mainGlobals "enumerate" = some none)
    (a49 : PySem.W.nsIn K mainGlobals "int" = some none)
    (a50 : PySem.W.nsIn K mainGlobals "isinstance" = some none)
    (a51 : PySem.W.nsIn K mainGlobals "len" = some none)
    (a52 : PySem.W.nsIn K mainGlobals "list" = some none)
    (a53 : PySem.W.nsIn K mainGlobals "max" = some none)
    (a54 : PySem.W.nsIn K mainGlobals "min" = some none)
    (a55 : PySem.W.nsIn K mainGlobals "range" = some none)
    (a56 : PySem.W.nsIn K mainGlobals "set" = some none)
    (a57 : PySem.W.nsIn K mainGlobals "str" = some none)
    (a58 : PySem.W.nsIn K mainGlobals "tuple" = some none)
    : Txt K mg :=
  ⟨⟨C_DearError, C_NoNumber, C_NoBook, C_NoTree, C_TooMany, C_NoCount, C_NoUndo, C_NoTurn, C_NoRow, C_Unknown, C_NoTongue, C_NoWants, C_NoThing, C_BadSign, C_NoText⟩,
   PySem.W.mg_of X G g_DearError,
   PySem.W.mg_of X G g_NoNumber,
   PySem.W.mg_of X G g_NoBook,
   PySem.W.mg_of X G g_NoTree,
   PySem.W.mg_of X G g_TooMany,
   PySem.W.mg_of X G g_NoCount,
   PySem.W.mg_of X G g_NoUndo,
   PySem.W.mg_of X G g_NoTurn,
   PySem.W.mg_of X G g_NoRow,
   PySem.W.mg_of X G g_Unknown,
   PySem.W.mg_of X G g_NoTongue,
   PySem.W.mg_of X G g_NoWants,
   PySem.W.mg_of X G g_NoThing,
   PySem.W.mg_of X G g_BadSign,
   PySem.W.mg_of X G g_NoText,
   ⟨PySem.W.mg_of X G g_NoTree, x1_NoTree, x2_NoTree, x3_NoTree, x4_NoTree, ⟨x5_NoTree, x6_NoTree, x3_NoTree, x7_NoTree, x8_NoTree, x9_NoTree, x10_NoTree, x11_NoTree⟩⟩,
   ⟨PySem.W.mg_of X G g_DearError, d1, d2, d3⟩,
   ⟨PySem.W.mg_of X G g_NoTongue, ⟨⟨nm_NoTongue, qn_NoTongue, N_NoTongue, bs_NoTongue, _, sn_NoTongue, sb_NoTongue, ab_NoTongue, col_NoTongue, dd_NoTongue, m0_NoTongue, m1_NoTongue, m2_NoTongue, m3_NoTongue, m5_NoTongue, xl_NoTongue, rfl⟩, sa_NoTongue, x3_NoTongue, x4_NoTongue, x2_NoTongue⟩, fn_NoTongue, ⟨x5_NoTongue, x6_NoTongue, x3_NoTongue, x7_NoTongue, x8_NoTongue, x9_NoTongue, x10_NoTongue, x11_NoTongue⟩⟩,
   ⟨I_NoTongue, _, i1_NoTongue, i2_NoTongue, fun_mk (st := s_NoTongue___init__) i3_NoTongue i4_NoTongue i5_NoTongue, (fun_mk (st := s_NoTongue___init__) i3_NoTongue i4_NoTongue i5_NoTongue).binds (ps := ["self", "part"]) fun _ _ _ _ _ _ us hl => match us, hl with | [_, _], _ => rfl⟩,
   kit_ref n_NoTree_NoNumber i_NoNumber t_NoNumber q_NoTree_NoNumber,
   kit_ref n_NoTree_NoBook i_NoBook t_NoBook q_NoTree_NoBook,
   kit_self,
   kit_ref n_NoTree_TooMany i_TooMany t_TooMany q_NoTree_TooMany,
   kit_ref n_NoTree_NoCount i_NoCount t_NoCount q_NoTree_NoCount,
   kit_ref n_NoTree_NoUndo i_NoUndo t_NoUndo q_NoTree_NoUndo,
   kit_ref n_NoTree_NoTurn i_NoTurn t_NoTurn q_NoTree_NoTurn,
   kit_ref n_NoTree_NoRow i_NoRow t_NoRow q_NoTree_NoRow,
   kit_ref n_NoTree_Unknown i_Unknown t_Unknown q_NoTree_Unknown,
   kit_ref n_NoTree_NoTongue i_NoTongue t_NoTongue q_NoTree_NoTongue,
   kit_ref n_NoTree_NoWants i_NoWants t_NoWants q_NoTree_NoWants,
   kit_ref n_NoTree_NoThing i_NoThing t_NoThing q_NoTree_NoThing,
   kit_ref n_NoTree_BadSign i_BadSign t_BadSign q_NoTree_BadSign,
   kit_ref n_NoTree_NoText i_NoText t_NoText q_NoTree_NoText,
   kit_val q_NoTree_ValueError,
   exm_ref2 b_DearError i_DearError t_DearError q_NoTree_DearError,
   ⟨f1, _, PySem.W.mg_of X G a1, fun_mk (st := s_is_whole) l1 c1 k1, (fun_mk (st := s_is_whole) l1 c1 k1).binds (ps := ["thing"]) fun _ _ _ _ _ _ us hl => match us, hl with | [_], _ => rfl⟩,
   ⟨f2, _, PySem.W.mg_of X G a2, fun_mk (st := s_divisor) l2 c2 k2, (fun_mk (st := s_divisor) l2 c2 k2).binds (ps := ["one", "other"]) fun _ _ _ _ _ _ us hl => match us, hl with | [_, _], _ => rfl⟩,
   ⟨f3, _, PySem.W.mg_of X G a3, fun_mk (st := s_is_fraction) l3 c3 k3, (fun_mk (st := s_is_fraction) l3 c3 k3).binds (ps := ["thing"]) fun _ _ _ _ _ _ us hl => match us, hl with | [_], _ => rfl⟩,
   ⟨f4, _, PySem.W.mg_of X G a4, fun_mk (st := s_is_price) l4 c4 k4, (fun_mk (st := s_is_price) l4 c4 k4).binds (ps := ["thing"]) fun _ _ _ _ _ _ us hl => match us, hl with | [_], _ => rfl⟩,
   ⟨f5, _, PySem.W.mg_of X G a5, fun_mk (st := s_is_letter) l5 c5 k5, (fun_mk (st := s_is_letter) l5 c5 k5).binds (ps := ["thing"]) fun _ _ _ _ _ _ us hl => match us, hl with | [_], _ => rfl⟩,
   ⟨f6, _, PySem.W.mg_of X G a6, fun_mk (st := s_is_sign) l6 c6 k6, (fun_mk (st := s_is_sign) l6 c6 k6).binds (ps := ["thing"]) fun _ _ _ _ _ _ us hl => match us, hl with | [_], _ => rfl⟩,
   ⟨f7, _, PySem.W.mg_of X G a7, fun_mk (st := s_are_signs) l7 c7 k7, (fun_mk (st := s_are_signs) l7 c7 k7).binds (ps := ["thing"]) fun _ _ _ _ _ _ us hl => match us, hl with | [_], _ => rfl⟩,
   ⟨f8, _, PySem.W.mg_of X G a8, fun_mk (st := s_are_unlike_texts) l8 c8 k8, (fun_mk (st := s_are_unlike_texts) l8 c8 k8).binds (ps := ["thing", "size", "letters"]) fun _ _ _ _ _ _ us hl => match us, hl with | [_, _, _], _ => rfl⟩,
   ⟨f9, _, PySem.W.mg_of X G a9, fun_mk (st := s_look_at_tongue) l9 c9 k9, (fun_mk (st := s_look_at_tongue) l9 c9 k9).binds (ps := ["thing"]) fun _ _ _ _ _ _ us hl => match us, hl with | [_], _ => rfl⟩,
   ⟨f10, _, PySem.W.mg_of X G a10, fun_mk (st := s_grown) l10 c10 k10, (fun_mk (st := s_grown) l10 c10 k10).binds (ps := ["letters", "ends"]) fun _ _ _ _ _ _ us hl => match us, hl with | [_, _], _ => rfl⟩,
   ⟨f11, _, PySem.W.mg_of X G a11, fun_mk (st := s_tree_of) l11 c11 k11, (fun_mk (st := s_tree_of) l11 c11 k11).binds (ps := ["tongue", "book"]) fun _ _ _ _ _ _ us hl => match us, hl with | [_, _], _ => rfl⟩,
   ⟨f12, _, PySem.W.mg_of X G a12, fun_mk (st := s_can_come) l12 c12 k12, (fun_mk (st := s_can_come) l12 c12 k12).binds (ps := ["tongue", "begin", "sign"]) fun _ _ _ _ _ _ us hl => match us, hl with | [_, _, _], _ => rfl⟩,
   ⟨f13, _, PySem.W.mg_of X G a13, fun_mk (st := s_look_at_branch) l13 c13 k13, (fun_mk (st := s_look_at_branch) l13 c13 k13).binds (ps := ["tongue", "begin", "thing", "last"]) fun _ _ _ _ _ _ us hl => match us, hl with | [_, _, _, _], _ => rfl⟩,
   ⟨f14, _, PySem.W.mg_of X G a14, fun_mk (st := s_look_at_tree) l14 c14 k14, (fun_mk (st := s_look_at_tree) l14 c14 k14).binds (ps := ["tongue", "many", "found", "begin", "thing"]) fun _ _ _ _ _ _ us hl => match us, hl with | [_, _, _, _, _], _ => rfl⟩,
   ⟨f15, _, PySem.W.mg_of X G a15, fun_mk (st := s_book_of) l15 c15 k15, (fun_mk (st := s_book_of) l15 c15 k15).binds (ps := ["tongue", "many", "thing"]) fun _ _ _ _ _ _ us hl => match us, hl with | [_, _, _], _ => rfl⟩,
   ⟨f16, _, PySem.W.mg_of X G a16, fun_mk (st := s__law_cell) l16 c16 k16, (fun_mk (st := s__law_cell) l16 c16 k16).binds (ps := ["_law_script", "_law_k"]) fun _ _ _ _ _ _ us hl => match us, hl with | [_, _], _ => rfl⟩,
   ⟨f17, _, PySem.W.mg_of X G a17, fun_mk (st := s__law_source) l17 c17 k17, (fun_mk (st := s__law_source) l17 c17 k17).binds (ps := ["_law_cell_here", "_law_k"]) fun _ _ _ _ _ _ us hl => match us, hl with | [_, _], _ => rfl⟩,
   ⟨f18, _, PySem.W.mg_of X G a18, fun_mk (st := s__law_draw) l18 c18 k18, (fun_mk (st := s__law_draw) l18 c18 k18).binds (ps := ["_law_source_here", "_law_many"]) fun _ _ _ _ _ _ us hl => match us, hl with | [_, _], _ => rfl⟩,
   ⟨f19, _, PySem.W.mg_of X G a19, fun_mk (st := s__law_lowest) l19 c19 k19, (fun_mk (st := s__law_lowest) l19 c19 k19).binds (ps := ["_law_top", "_law_bottom"]) fun _ _ _ _ _ _ us hl => match us, hl with | [_, _], _ => rfl⟩,
   ⟨f20, _, PySem.W.mg_of X G a20, fun_mk (st := s__law_price) l20 c20 k20, (fun_mk (st := s__law_price) l20 c20 k20).binds (ps := ["_law_source_here"]) fun _ _ _ _ _ _ us hl => match us, hl with | [_], _ => rfl⟩,
   ⟨f21, _, PySem.W.mg_of X G a21, fun_mk (st := s__law_signs) l21 c21 k21, (fun_mk (st := s__law_signs) l21 c21 k21).binds (ps := ["_law_source_here", "_law_many"]) fun _ _ _ _ _ _ us hl => match us, hl with | [_, _], _ => rfl⟩,
   ⟨f22, _, PySem.W.mg_of X G a22, fun_mk (st := s__law_tongue) l22 c22 k22, (fun_mk (st := s__law_tongue) l22 c22 k22).binds (ps := ["_law_script", "_law_base", "_law_most", "_law_longs"]) fun _ _ _ _ _ _ us hl => match us, hl with | [_, _, _, _], _ => rfl⟩,
   ⟨f23, _, PySem.W.mg_of X G a23, fun_mk (st := s__law_copy) l23 c23 k23, (fun_mk (st := s__law_copy) l23 c23 k23).binds (ps := ["_law_tongue_here"]) fun _ _ _ _ _ _ us hl => match us, hl with | [_], _ => rfl⟩,
   ⟨f24, _, PySem.W.mg_of X G a24, fun_mk (st := s__law_comes) l24 c24 k24, (fun_mk (st := s__law_comes) l24 c24 k24).binds (ps := ["_law_tongue_here", "_law_ahead", "_law_sign"]) fun _ _ _ _ _ _ us hl => match us, hl with | [_, _, _], _ => rfl⟩,
   ⟨f25, _, PySem.W.mg_of X G a25, fun_mk (st := s__law_stands) l25 c25 k25, (fun_mk (st := s__law_stands) l25 c25 k25).binds (ps := ["_law_tongue_here", "_law_thing"]) fun _ _ _ _ _ _ us hl => match us, hl with | [_, _], _ => rfl⟩,
   ⟨f26, _, PySem.W.mg_of X G a26, fun_mk (st := s__law_is_word) l26 c26 k26, (fun_mk (st := s__law_is_word) l26 c26 k26).binds (ps := ["_law_tongue_here", "_law_thing"]) fun _ _ _ _ _ _ us hl => match us, hl with | [_, _], _ => rfl⟩,
   ⟨f27, _, PySem.W.mg_of X G a27, fun_mk (st := s__law_words) l27 c27 k27, (fun_mk (st := s__law_words) l27 c27 k27).binds (ps := ["_law_tongue_here"]) fun _ _ _ _ _ _ us hl => match us, hl with | [_], _ => rfl⟩,
   ⟨f28, _, PySem.W.mg_of X G a28, fun_mk (st := s__law_clashes) l28 c28 k28, (fun_mk (st := s__law_clashes) l28 c28 k28).binds (ps := ["_law_book", "_law_word"]) fun _ _ _ _ _ _ us hl => match us, hl with | [_, _], _ => rfl⟩,
   ⟨f29, _, PySem.W.mg_of X G a29, fun_mk (st := s__law_world) l29 c29 k29, (fun_mk (st := s__law_world) l29 c29 k29).binds (ps := ["_law_script"]) fun _ _ _ _ _ _ us hl => match us, hl with | [_], _ => rfl⟩,
   ⟨f30, _, PySem.W.mg_of X G a30, fun_mk (st := s__law_grown) l30 c30 k30, (fun_mk (st := s__law_grown) l30 c30 k30).binds (ps := ["_law_names", "_law_ends"]) fun _ _ _ _ _ _ us hl => match us, hl with | [_, _], _ => rfl⟩,
   ⟨f31, _, PySem.W.mg_of X G a31, fun_mk (st := s__law_tree) l31 c31 k31, (fun_mk (st := s__law_tree) l31 c31 k31).binds (ps := ["_law_tongue_here", "_law_book"]) fun _ _ _ _ _ _ us hl => match us, hl with | [_, _], _ => rfl⟩,
   ⟨f32, _, PySem.W.mg_of X G a32, fun_mk (st := s__law_copied) l32 c32 k32, (fun_mk (st := s__law_copied) l32 c32 k32).binds (ps := ["_law_thing"]) fun _ _ _ _ _ _ us hl => match us, hl with | [_], _ => rfl⟩,
   ⟨f33, _, PySem.W.mg_of X G a33, fun_mk (st := s__law_is_refusal) l33 c33 k33, (fun_mk (st := s__law_is_refusal) l33 c33 k33).binds (ps := ["_law_kept"]) fun _ _ _ _ _ _ us hl => match us, hl with | [_], _ => rfl⟩,
   ⟨f34, _, PySem.W.mg_of X G a34, fun_mk (st := s__law_turned) l34 c34 k34, (fun_mk (st := s__law_turned) l34 c34 k34).binds (ps := ["_law_rows", "_law_many", "_law_by"]) fun _ _ _ _ _ _ us hl => match us, hl with | [_, _, _], _ => rfl⟩,
   ⟨f35, _, PySem.W.mg_of X G a35, fun_mk (st := s__law_bent_here) l35 c35 k35, (fun_mk (st := s__law_bent_here) l35 c35 k35).binds (ps := ["_law_rows", "_law_at", "_law_names", "_law_many", "_law_source_here"]) fun _ _ _ _ _ _ us hl => match us, hl with | [_, _, _, _, _], _ => rfl⟩,
   ⟨f36, _, PySem.W.mg_of X G a36, fun_mk (st := s__law_bent) l36 c36 k36, (fun_mk (st := s__law_bent) l36 c36 k36).binds (ps := ["_law_rows", "_law_names", "_law_many", "_law_source_here"]) fun _ _ _ _ _ _ us hl => match us, hl with | [_, _, _, _], _ => rfl⟩,
   ⟨f37, _, PySem.W.mg_of X G a37, fun_mk (st := s__law_reads) l37 c37 k37, (fun_mk (st := s__law_reads) l37 c37 k37).binds (ps := ["_law_tongue_here", "_law_many", "_law_thing", "_law_begin", "_law_found"]) fun _ _ _ _ _ _ us hl => match us, hl with | [_, _, _, _, _], _ => rfl⟩,
   ⟨f38, _, PySem.W.mg_of X G a38, fun_mk (st := s__law_right) l38 c38 k38, (fun_mk (st := s__law_right) l38 c38 k38).binds (ps := ["_law_tongue_here", "_law_many", "_law_thing"]) fun _ _ _ _ _ _ us hl => match us, hl with | [_, _, _], _ => rfl⟩,
   ⟨f39, _, PySem.W.mg_of X G a39, fun_mk (st := s_law) l39 c39 k39, (fun_mk (st := s_law) l39 c39 k39).binds (ps := ["_law_script"]) fun _ _ _ _ _ _ us hl => match us, hl with | [_], _ => rfl⟩,
   ⟨_, PySem.W.mg_of X G a40⟩,
   ⟨_, PySem.W.mg_of X G a41⟩,
   ⟨_, PySem.W.mg_of X G a42⟩,
   ⟨_, PySem.W.mg_of X G a43⟩,
   PySem.W.mg_none_of X G a44,
   PySem.W.mg_none_of X G a45,
   PySem.W.mg_none_of X G a46,
   PySem.W.mg_none_of X G a47,
   PySem.W.mg_none_of X G a48,
   PySem.W.mg_none_of X G a49,
   PySem.W.mg_none_of X G a50,
   PySem.W.mg_none_of X G a51,
   PySem.W.mg_none_of X G a52,
   PySem.W.mg_none_of X G a53,
   PySem.W.mg_none_of X G a54,
   PySem.W.mg_none_of X G a55,
   PySem.W.mg_none_of X G a56,
   PySem.W.mg_none_of X G a57,
   PySem.W.mg_none_of X G a58⟩
theorem oi_NoTongue {P : Program} {w : World} {K : PySem.W.Frag} {mg : Str → Option Value} {base : Heap} (T : Txt K mg) : OkI P w K mg base "NoTongue" "part" T.A.NoTongue := by
  obtain ⟨fI, fd, h1, h2, F, b⟩ := T.F_NoTongue
  refine ⟨fI, fd, h1, h2, F.ok c_NoTongue___init__ (fun vs H Q E h => ?_) (fun cdv A outer s H vs Q E hr h => ?_), b, T.X_NoTongue⟩
  · obtain ⟨a, C, v, rfl, _⟩ := h
    rfl
  · obtain ⟨a, C, v, rfl, o, n, ha, fv, k⟩ := h
    refine ⟨_, (pss_cons (ps_expr (pe_drinit T.D_DearError (pa_cons (pv 0) (pa_cons (pe_joined (.cons pe_str (.cons (pe_fmtN (pv 1)) .nil))) pa_nil)))) (pss_one (ps_ost (pv 0) (pv 1)))), ?_⟩
    refine ⟨_, rfl, _, rfl, (by decide +kernel), _, rfl, fv, fun z hz => ⟨z, rfl, ?_, ?_⟩⟩
    · rw [str_len]
      exact Nat.le_trans (Nat.add_le_add_right (show _ ≤ 100 by decide +kernel) _) (sz_lit (by omega))
    · exact ⟨a, C, _, rfl, (by decide : 1 ≤ 1000), o, ha, _, rfl, _, rfl, a, C, rfl, o, n, .inl ⟨ha, fun dx hd ne => k dx hd ne⟩⟩

end Dear


namespace Du
open PySem PySem.Spec PyProof.Rows L2 Dear
noncomputable def B_is_whole : Env → Out := (sRet [] (eAnd (eIsi "int" (eVar 0)) (eNot (eIsi "bool" (eVar 0)))))
theorem B_is_whole_u (ρ : Env) : B_is_whole ρ = (sRet [] (eAnd (eIsi "int" (eVar 0)) (eNot (eIsi "bool" (eVar 0))))) ρ := rfl
noncomputable def F_is_whole : List D → Res D := runD (["thing"] : List Str).length n_is_whole.length B_is_whole
theorem ok_is_whole {P : Program} {w : World} {K : PySem.W.Frag} {mg : Str → Option Value} {base : Heap} (T : Txt K mg) : OkF P w K mg base CX0 (0 + 1) "is_whole" ["thing"] (sp0 K F_is_whole) :=
  ok0 (g := B_is_whole) T.f_is_whole c_is_whole fun f cdv A outer s H E hr => 
(fss_one (fs_ret (L := []) (fe_and (fe_isi (t := "int") tn_int (fe_var 0) (pe_bltn (v := .ty "int") (by rfl) T.b_int (by decide +kernel) rfl) T.b_isinstance) (fe_one (fe_not (fe_isi (t := "bool") tn_bool (fe_var 0) (pe_bltn (v := .ty "bool") (by rfl) T.b_bool (by decide +kernel) rfl) T.b_isinstance))))))

noncomputable def B_divisor_1 : Env → Out := (sPar 0 1 [] (aCons (eVar 1) (aCons (eOp dMod (eVar 0) (eVar 1)) aNil)))
theorem B_divisor_1_u (ρ : Env) : B_divisor_1 ρ = (sPar 0 1 [] (aCons (eVar 1) (aCons (eOp dMod (eVar 0) (eVar 1)) aNil))) ρ := rfl
noncomputable def B_divisor : Env → Out := (sSeq (sWhile [] (bT (eOp dGt (eVar 1) (eC (.int 0))))
B_divisor_1)
(sRet [] (eVar 0)))
noncomputable def F_divisor : List D → Res D := runD (["one", "other"] : List Str).length n_divisor.length B_divisor
theorem ok_divisor {P : Program} {w : World} {K : PySem.W.Frag} {mg : Str → Option Value} {base : Heap} (T : Txt K mg) : OkF P w K mg base CX0 (0 + 1) "divisor" ["one", "other"] (sp0 K F_divisor) :=
  ok0 (g := B_divisor) T.f_divisor c_divisor fun f cdv A outer s H E hr => 
(fss_cons (fs_while (L := []) PassesOwn.never (ft_cmp op_gt opd_gt gb_cmp (fe_var 1) fe_int)
(fss_one (fs_par (L := []) 0 1 c_divisor.nd (fa_cons (fe_var 1) (fa_cons (fe_op op_mod opd_mod (fe_var 0) (fe_var 1)) fa_nil)))))
(fss_one (fs_ret (L := []) (fe_var 0))))

noncomputable def B_is_fraction : Env → Out := (sSeq (sIf [] (bOr (bNot (bT (eIsi "tuple" (eVar 0)))) (bT (eOp dNe (eCall dLen (aCons (eVar 0) aNil)) (eC (.int 2)))))
(sRet [] (eC (.bl false)))
sPass)
(sSeq (sAsg [] (eVar 0) (tgT [(tgN 1), (tgN 2)]))
(sSeq (sIf [] (bOr (bNot (bT (eCall F_is_whole (aCons (eVar 1) aNil)))) (bOr (bNot (bT (eCall F_is_whole (aCons (eVar 2) aNil)))) (bT (eOp dLt (eVar 2) (eC (.int 1))))))
(sRet [] (eC (.bl false)))
sPass)
(sRet [] (eOp dEq (eCall F_divisor (aCons (eVar 2) (aCons (eCall dAbs (aCons (eVar 1) aNil)) aNil))) (eC (.int 1)))))))
noncomputable def F_is_fraction : List D → Res D := runD (["thing"] : List Str).length n_is_fraction.length B_is_fraction
theorem ok_is_fraction {P : Program} {w : World} {K : PySem.W.Frag} {mg : Str → Option Value} {base : Heap} (T : Txt K mg) : OkF P w K mg base CX0 (1 + 1) "is_fraction" ["thing"] (sp0 K F_is_fraction) :=
  ok0 (g := B_is_fraction) T.f_is_fraction c_is_fraction fun f cdv A outer s H E hr => 
(fss_cons (fs_if (L := []) (ft_w (fw_or (ft_not (ft_tru (fe_isi (t := "tuple") tn_tuple (fe_var 0) (pe_bltn (v := .ty "tuple") (by rfl) T.b_tuple (by decide +kernel) rfl) T.b_isinstance))) (fw_or1 (ft_cmp (op_neA (K := K) hr.units) opd_ne gb_ne (fe_callB (cr_len (K := K)) cd_len T.b_len (fa_cons (fe_var 0) fa_nil)) fe_int))))
(fss_one (fs_ret (L := []) fe_bl))
fss_nil)
(fss_cons (fs_asg (L := []) (fe_var 0) (fg_tup (fgs_cons (fg_name 1 c_is_fraction.nd) (fgs_cons (fg_name 2 c_is_fraction.nd) fgs_nil))))
(fss_cons (fs_if (L := []) (ft_w (fw_or (ft_not (ft_tru (fe_call (ok_is_whole T) hr (fa_cons (fe_var 1) fa_nil)))) (fw_or (ft_not (ft_tru (fe_call (ok_is_whole T) hr (fa_cons (fe_var 2) fa_nil)))) (fw_or1 (ft_cmp op_lt opd_lt gb_cmp (fe_var 2) fe_int)))))
(fss_one (fs_ret (L := []) fe_bl))
fss_nil)
(fss_one (fs_ret (L := []) (fe_cmp (op_eqA (K := K) hr.units) opd_eq (fe_call (ok_divisor T) hr (fa_cons (fe_var 2) (fa_cons (fe_callB call_abs cd_abs T.b_abs (fa_cons (fe_var 1) fa_nil)) fa_nil))) fe_int))))))

noncomputable def B_is_price : Env → Out := (sRet [] (eAnd (eCall F_is_fraction (aCons (eVar 0) aNil)) (eOp dGt (eOp dIx (eVar 0) (eC (.int 0))) (eC (.int 0)))))
theorem B_is_price_u (ρ : Env) : B_is_price ρ = (sRet [] (eAnd (eCall F_is_fraction (aCons (eVar 0) aNil)) (eOp dGt (eOp dIx (eVar 0) (eC (.int 0))) (eC (.int 0))))) ρ := rfl
noncomputable def F_is_price : List D → Res D := runD (["thing"] : List Str).length n_is_price.length B_is_price
theorem ok_is_price {P : Program} {w : World} {K : PySem.W.Frag} {mg : Str → Option Value} {base : Heap} (T : Txt K mg) : OkF P w K mg base CX0 (2 + 1) "is_price" ["thing"] (sp0 K F_is_price) :=
  ok0 (g := B_is_price) T.f_is_price c_is_price fun f cdv A outer s H E hr => 
(fss_one (fs_ret (L := []) (fe_and (fe_call (ok_is_fraction T) hr (fa_cons (fe_var 0) fa_nil)) (fe_one (fe_cmp op_gt opd_gt (fe_ix (ix_A (K := K) (u1 hr.units)) opd_ix (fe_var 0) fe_int) fe_int)))))

noncomputable def B_is_letter : Env → Out := (sRet [] (eAnd (eIsi "str" (eVar 0)) (eAnd (eOp dEq (eCall dLen (aCons (eVar 0) aNil)) (eC (.int 1))) (eOp (dIn false) (eVar 0) (eC (.str "abcdefghijklmnopqrstuvwxyz"))))))
theorem B_is_letter_u (ρ : Env) : B_is_letter ρ = (sRet [] (eAnd (eIsi "str" (eVar 0)) (eAnd (eOp dEq (eCall dLen (aCons (eVar 0) aNil)) (eC (.int 1))) (eOp (dIn false) (eVar 0) (eC (.str "abcdefghijklmnopqrstuvwxyz")))))) ρ := rfl
noncomputable def F_is_letter : List D → Res D := runD (["thing"] : List Str).length n_is_letter.length B_is_letter
theorem ok_is_letter {P : Program} {w : World} {K : PySem.W.Frag} {mg : Str → Option Value} {base : Heap} (T : Txt K mg) : OkF P w K mg base CX0 (0 + 1) "is_letter" ["thing"] (sp0 K F_is_letter) :=
  ok0 (g := B_is_letter) T.f_is_letter c_is_letter fun f cdv A outer s H E hr => have hu65 := u65 hr; 
(fss_one (fs_ret (L := []) (fe_and (fe_isi (t := "str") tn_str (fe_var 0) (pe_bltn (v := .ty "str") (by rfl) T.b_str (by decide +kernel) rfl) T.b_isinstance) (fe_and (fe_cmp (op_eqA (K := K) hr.units) opd_eq (fe_callB (cr_len (K := K)) cd_len T.b_len (fa_cons (fe_var 0) fa_nil)) fe_int) (fe_one (fe_cmp (op_inA (K := K) hu65) opd_inF (fe_var 0) (fe_gs T.g_LETTERS)))))))

noncomputable def B_is_sign : Env → Out := (sSeq (sIf [] (bOr (bNot (bT (eIsi "tuple" (eVar 0)))) (bT (eOp dNe (eCall dLen (aCons (eVar 0) aNil)) (eC (.int 3)))))
(sRet [] (eC (.bl false)))
sPass)
(sSeq (sAsg [] (eVar 0) (tgT [(tgN 1), (tgN 2), (tgN 3)]))
(sRet [] (eAnd (eCall F_is_letter (aCons (eVar 1) aNil)) (eAnd (eCall F_is_price (aCons (eVar 2) aNil)) (eOr (eOp dIsN (eVar 3) (eC .non)) (eCall F_is_price (aCons (eVar 3) aNil))))))))
theorem B_is_sign_u (ρ : Env) : B_is_sign ρ = (sSeq (sIf [] (bOr (bNot (bT (eIsi "tuple" (eVar 0)))) (bT (eOp dNe (eCall dLen (aCons (eVar 0) aNil)) (eC (.int 3)))))
(sRet [] (eC (.bl false)))
sPass)
(sSeq (sAsg [] (eVar 0) (tgT [(tgN 1), (tgN 2), (tgN 3)]))
(sRet [] (eAnd (eCall F_is_letter (aCons (eVar 1) aNil)) (eAnd (eCall F_is_price (aCons (eVar 2) aNil)) (eOr (eOp dIsN (eVar 3) (eC .non)) (eCall F_is_price (aCons (eVar 3) aNil)))))))) ρ := rfl
noncomputable def F_is_sign : List D → Res D := runD (["thing"] : List Str).length n_is_sign.length B_is_sign
theorem ok_is_sign {P : Program} {w : World} {K : PySem.W.Frag} {mg : Str → Option Value} {base : Heap} (T : Txt K mg) : OkF P w K mg base CX0 (3 + 1) "is_sign" ["thing"] (sp0 K F_is_sign) :=
  ok0 (g := B_is_sign) T.f_is_sign c_is_sign fun f cdv A outer s H E hr => 
(fss_cons (fs_if (L := []) (ft_w (fw_or (ft_not (ft_tru (fe_isi (t := "tuple") tn_tuple (fe_var 0) (pe_bltn (v := .ty "tuple") (by rfl) T.b_tuple (by decide +kernel) rfl) T.b_isinstance))) (fw_or1 (ft_cmp (op_neA (K := K) hr.units) opd_ne gb_ne (fe_callB (cr_len (K := K)) cd_len T.b_len (fa_cons (fe_var 0) fa_nil)) fe_int))))
(fss_one (fs_ret (L := []) fe_bl))
fss_nil)
(fss_cons (fs_asg (L := []) (fe_var 0) (fg_tup (fgs_cons (fg_name 1 c_is_sign.nd) (fgs_cons (fg_name 2 c_is_sign.nd) (fgs_cons (fg_name 3 c_is_sign.nd) fgs_nil)))))
(fss_one (fs_ret (L := []) (fe_and (fe_call (ok_is_letter T) hr (fa_cons (fe_var 1) fa_nil)) (fe_and (fe_call (ok_is_price T) hr (fa_cons (fe_var 2) fa_nil)) (fe_one (fe_or (fe_cmp op_isN opd_isN (fe_var 3) fe_non) (fe_one (fe_call (ok_is_price T) hr (fa_cons (fe_var 3) fa_nil)))))))))))

noncomputable def B_are_signs : Env → Out := (sSeq (sIf [] (bOr (bNot (bT (eIsi "list" (eVar 0)))) (bNot (bT (eChain dLe dLe (eC (.int 2)) (eCall dLen (aCons (eVar 0) aNil)) (eC (.int 6))))))
(sRet [] (eC (.bl false)))
sPass)
(sSeq (sIf [] (bNot (bT (eCall dAll (aCons (eComp [1] (iAny (eVar 0)) (tgN 1) bYes (eCall F_is_sign (aCons (eVar 1) aNil))) aNil))))
(sRet [] (eC (.bl false)))
sPass)
(sRet [] (eOp dEq (eLenSet (eComp [1] (iAny (eVar 0)) (tgN 1) bYes (eOp dIx (eVar 1) (eC (.int 0))))) (eCall dLen (aCons (eVar 0) aNil))))))
theorem B_are_signs_u (ρ : Env) : B_are_signs ρ = (sSeq (sIf [] (bOr (bNot (bT (eIsi "list" (eVar 0)))) (bNot (bT (eChain dLe dLe (eC (.int 2)) (eCall dLen (aCons (eVar 0) aNil)) (eC (.int 6))))))
(sRet [] (eC (.bl false)))
sPass)
(sSeq (sIf [] (bNot (bT (eCall dAll (aCons (eComp [1] (iAny (eVar 0)) (tgN 1) bYes (eCall F_is_sign (aCons (eVar 1) aNil))) aNil))))
(sRet [] (eC (.bl false)))
sPass)
(sRet [] (eOp dEq (eLenSet (eComp [1] (iAny (eVar 0)) (tgN 1) bYes (eOp dIx (eVar 1) (eC (.int 0))))) (eCall dLen (aCons (eVar 0) aNil)))))) ρ := rfl
noncomputable def F_are_signs : List D → Res D := runD (["thing"] : List Str).length n_are_signs.length B_are_signs
theorem ok_are_signs {P : Program} {w : World} {K : PySem.W.Frag} {mg : Str → Option Value} {base : Heap} (T : Txt K mg) : OkF P w K mg base CX0 (4 + 1) "are_signs" ["thing"] (sp0 K F_are_signs) :=
  ok0 (g := B_are_signs) T.f_are_signs c_are_signs fun f cdv A outer s H E hr => 
(fss_cons (fs_if (L := []) (ft_w (fw_or (ft_not (ft_tru (fe_isi (t := "list") tn_list (fe_var 0) (pe_bltn (v := .ty "list") (by rfl) T.b_list (by decide +kernel) rfl) T.b_isinstance))) (fw_or1 (ft_not (ft_chain op_le opd_le op_le opd_le gb_cmp (fe_gi T.g_FEWEST_SIGNS) (fe_callB (cr_len (K := K)) cd_len T.b_len (fa_cons (fe_var 0) fa_nil)) (fe_gi T.g_MOST_SIGNS))))))
(fss_one (fs_ret (L := []) fe_bl))
fss_nil)
(fss_cons (fs_if (L := []) (ft_not (ft_tru (fe_callB (cr_all_k K rfl) cd_all T.b_all (fa_cons (fe_comp [("one", 1)] c_are_signs.nd (fi_any (fe_var 0)) (fun _ _ _ _ _ => (fg_name 1 c_are_signs.nd)) (fun _ _ _ _ _ => fts_nil) (fun _ _ _ _ _ => (fe_call (ok_is_sign T) hr (fa_cons (fe_var 1) fa_nil))) (blkOk_by (own := [("one", 1)]) (N := n_are_signs) (sc := defScope s_are_signs) (by decide +kernel))) fa_nil))))
(fss_one (fs_ret (L := []) fe_bl))
fss_nil)
(fss_one (fs_ret (L := []) (fe_cmp (op_eqA (K := K) hr.units) opd_eq (fe_lenSet T.b_len T.b_set (fe_comp [("one", 1)] c_are_signs.nd (fi_any (fe_var 0)) (fun _ _ _ _ _ => (fg_name 1 c_are_signs.nd)) (fun _ _ _ _ _ => fts_nil) (fun _ _ _ _ _ => (fe_ix (ix_A (K := K) (u1 hr.units)) opd_ix (fe_var 1) fe_int)) (blkOk_by (own := [("one", 1)]) (N := n_are_signs) (sc := defScope s_are_signs) (by decide +kernel)))) (fe_callB (cr_len (K := K)) cd_len T.b_len (fa_cons (fe_var 0) fa_nil)))))))

noncomputable def B_are_unlike_texts_1 : Env → Out := (sSeq (sIf [] (bOr (bNot (bT (eIsi "str" (eVar 4)))) (bOr (bT (eOp dNe (eCall dLen (aCons (eVar 4) aNil)) (eVar 1))) (bT (eOp (dIn false) (eVar 4) (eSl (eVar 0) pNo (pYes (eVar 3)))))))
(sRet [] (eC (.bl false)))
sPass)
(sIf [] (bNot (bT (eCall dAll (aCons (eComp [5] (iAny (eVar 4)) (tgN 5) bYes (eOp (dIn false) (eVar 5) (eVar 2))) aNil))))
(sRet [] (eC (.bl false)))
sPass))
theorem B_are_unlike_texts_1_u (ρ : Env) : B_are_unlike_texts_1 ρ = (sSeq (sIf [] (bOr (bNot (bT (eIsi "str" (eVar 4)))) (bOr (bT (eOp dNe (eCall dLen (aCons (eVar 4) aNil)) (eVar 1))) (bT (eOp (dIn false) (eVar 4) (eSl (eVar 0) pNo (pYes (eVar 3)))))))
(sRet [] (eC (.bl false)))
sPass)
(sIf [] (bNot (bT (eCall dAll (aCons (eComp [5] (iAny (eVar 4)) (tgN 5) bYes (eOp (dIn false) (eVar 5) (eVar 2))) aNil))))
(sRet [] (eC (.bl false)))
sPass)) ρ := rfl
noncomputable def B_are_unlike_texts : Env → Out := (sSeq (sIf [] (bNot (bT (eIsi "list" (eVar 0))))
(sRet [] (eC (.bl false)))
sPass)
(sSeq (sFor [] (iEnumD (aCons (eVar 0) aNil)) (tgT [(tgN 3), (tgN 4)])
B_are_unlike_texts_1
[3, 4, 5])
(sRet [] (eC (.bl true)))))
theorem B_are_unlike_texts_u (ρ : Env) : B_are_unlike_texts ρ = (sSeq (sIf [] (bNot (bT (eIsi "list" (eVar 0))))
(sRet [] (eC (.bl false)))
sPass)
(sSeq (sFor [] (iEnumD (aCons (eVar 0) aNil)) (tgT [(tgN 3), (tgN 4)])
B_are_unlike_texts_1
[3, 4, 5])
(sRet [] (eC (.bl true))))) ρ := rfl
noncomputable def F_are_unlike_texts : List D → Res D := runD (["thing", "size", "letters"] : List Str).length n_are_unlike_texts.length B_are_unlike_texts
theorem ok_are_unlike_texts {P : Program} {w : World} {K : PySem.W.Frag} {mg : Str → Option Value} {base : Heap} (T : Txt K mg) : OkF P w K mg base CX0 (0 + 1) "are_unlike_texts" ["thing", "size", "letters"] (sp0 K F_are_unlike_texts) :=
  ok0 (g := B_are_unlike_texts) T.f_are_unlike_texts c_are_unlike_texts fun f cdv A outer s H E hr => have hu65 := u65 hr; 
(fss_cons (fs_if (L := []) (ft_not (ft_tru (fe_isi (t := "list") tn_list (fe_var 0) (pe_bltn (v := .ty "list") (by rfl) T.b_list (by decide +kernel) rfl) T.b_isinstance)))
(fss_one (fs_ret (L := []) fe_bl))
fss_nil)
(fss_cons (fs_for (L := []) [3, 4, 5] PassesOwn.never (fi_enum T.b_enumerate (fa_cons (fe_var 0) fa_nil) len1) (fg_tup (fgs_cons (fg_name 3 c_are_unlike_texts.nd) (fgs_cons (fg_name 4 c_are_unlike_texts.nd) fgs_nil)))
(fss_cons (fs_if (L := []) (ft_w (fw_or (ft_not (ft_tru (fe_isi (t := "str") tn_str (fe_var 4) (pe_bltn (v := .ty "str") (by rfl) T.b_str (by decide +kernel) rfl) T.b_isinstance))) (fw_or (ft_cmp (op_neA (K := K) hr.units) opd_ne gb_ne (fe_callB (cr_len (K := K)) cd_len T.b_len (fa_cons (fe_var 4) fa_nil)) (fe_var 1)) (fw_or1 (ft_cmp (op_inA (K := K) hu65) opd_inF gb_in (fe_var 4) (fe_sl (fe_var 0) fo_no (fo_yes (fe_var 3))))))))
(fss_one (fs_ret (L := []) fe_bl))
fss_nil)
(fss_one (fs_if (L := []) (ft_not (ft_tru (fe_callB (cr_all_k K rfl) cd_all T.b_all (fa_cons (fe_comp [("sign", 5)] c_are_unlike_texts.nd (fi_any (fe_var 4)) (fun _ _ _ _ _ => (fg_name 5 c_are_unlike_texts.nd)) (fun _ _ _ _ _ => fts_nil) (fun _ _ _ _ _ => (fe_cmp (op_inA (K := K) hu65) opd_inF (fe_var 5) (fe_var 2))) (blkOk_by (own := [("sign", 5)]) (N := n_are_unlike_texts) (sc := defScope s_are_unlike_texts) (by decide +kernel))) fa_nil))))
(fss_one (fs_ret (L := []) fe_bl))
fss_nil))))
(fss_one (fs_ret (L := []) fe_bl))))

noncomputable def B_look_at_tongue : Env → Out := (sSeq (sIf [] (bOr (bNot (bT (eIsi "tuple" (eVar 0)))) (bT (eOp dNe (eCall dLen (aCons (eVar 0) aNil)) (eC (.int 4)))))
(sRaiseI "NoTongue" "part" [] (eC .non))
sPass)
(sSeq (sAsg [] (eVar 0) (tgT [(tgN 1), (tgN 2), (tgN 3), (tgN 4)]))
(sSeq (sIf [] (bNot (bT (eCall F_are_signs (aCons (eVar 1) aNil))))
(sRaiseI "NoTongue" "part" [] (eC (.str "signs")))
sPass)
(sSeq (sOwn 5 [] (eComp [6] (iAny (eVar 1)) (tgN 6) bYes (eOp dIx (eVar 6) (eC (.int 0)))))
(sSeq (sIf [5] (bNot (bT (eCall F_are_unlike_texts (aCons (eVar 2) (aCons (eC (.int 1)) (aCons (eVar 5) aNil))))))
(sRaiseI "NoTongue" "part" [] (eC (.str "firsts")))
sPass)
(sSeq (sIf [5] (bNot (bT (eCall F_are_unlike_texts (aCons (eVar 3) (aCons (eC (.int 2)) (aCons (eVar 5) aNil))))))
(sRaiseI "NoTongue" "part" [] (eC (.str "pairs")))
sPass)
(sIf [] (bOr (bNot (bT (eCall F_is_whole (aCons (eVar 4) aNil)))) (bNot (bT (eChain dLe dLe (eC (.int 1)) (eVar 4) (eC (.int 8))))))
(sRaiseI "NoTongue" "part" [] (eC (.str "longest")))
sPass)))))))
theorem B_look_at_tongue_u (ρ : Env) : B_look_at_tongue ρ = (sSeq (sIf [] (bOr (bNot (bT (eIsi "tuple" (eVar 0)))) (bT (eOp dNe (eCall dLen (aCons (eVar 0) aNil)) (eC (.int 4)))))
(sRaiseI "NoTongue" "part" [] (eC .non))
sPass)
(sSeq (sAsg [] (eVar 0) (tgT [(tgN 1), (tgN 2), (tgN 3), (tgN 4)]))
(sSeq (sIf [] (bNot (bT (eCall F_are_signs (aCons (eVar 1) aNil))))
(sRaiseI "NoTongue" "part" [] (eC (.str "signs")))
sPass)
(sSeq (sOwn 5 [] (eComp [6] (iAny (eVar 1)) (tgN 6) bYes (eOp dIx (eVar 6) (eC (.int 0)))))
(sSeq (sIf [5] (bNot (bT (eCall F_are_unlike_texts (aCons (eVar 2) (aCons (eC (.int 1)) (aCons (eVar 5) aNil))))))
(sRaiseI "NoTongue" "part" [] (eC (.str "firsts")))
sPass)
(sSeq (sIf [5] (bNot (bT (eCall F_are_unlike_texts (aCons (eVar 3) (aCons (eC (.int 2)) (aCons (eVar 5) aNil))))))
(sRaiseI "NoTongue" "part" [] (eC (.str "pairs")))
sPass)
(sIf [] (bOr (bNot (bT (eCall F_is_whole (aCons (eVar 4) aNil)))) (bNot (bT (eChain dLe dLe (eC (.int 1)) (eVar 4) (eC (.int 8))))))
(sRaiseI "NoTongue" "part" [] (eC (.str "longest")))
sPass))))))) ρ := rfl
noncomputable def F_look_at_tongue : List D → Res D := runD (["thing"] : List Str).length n_look_at_tongue.length B_look_at_tongue
theorem ok_look_at_tongue {P : Program} {w : World} {K : PySem.W.Frag} {mg : Str → Option Value} {base : Heap} (T : Txt K mg) : OkF P w K mg base CX0 (5 + 1) "look_at_tongue" ["thing"] (sp0 K F_look_at_tongue) :=
  ok0 (g := B_look_at_tongue) T.f_look_at_tongue c_look_at_tongue fun f cdv A outer s H E hr => 
(fss_cons (fs_if (L := []) (ft_w (fw_or (ft_not (ft_tru (fe_isi (t := "tuple") tn_tuple (fe_var 0) (pe_bltn (v := .ty "tuple") (by rfl) T.b_tuple (by decide +kernel) rfl) T.b_isinstance))) (fw_or1 (ft_cmp (op_neA (K := K) hr.units) opd_ne gb_ne (fe_callB (cr_len (K := K)) cd_len T.b_len (fa_cons (fe_var 0) fa_nil)) fe_int))))
(fss_one (fs_raiseI0 (L := []) (c := "NoTongue") (f := "part") (fa := (eC .non))))
fss_nil)
(fss_cons (fs_asg (L := []) (fe_var 0) (fg_tup (fgs_cons (fg_name 1 c_look_at_tongue.nd) (fgs_cons (fg_name 2 c_look_at_tongue.nd) (fgs_cons (fg_name 3 c_look_at_tongue.nd) (fgs_cons (fg_name 4 c_look_at_tongue.nd) fgs_nil))))))
(fss_cons (fs_if (L := []) (ft_not (ft_tru (fe_call (ok_are_signs T) hr (fa_cons (fe_var 1) fa_nil))))
(fss_one (fs_raiseI0 (L := []) (c := "NoTongue") (f := "part") (fa := (eC (.str "signs")))))
fss_nil)
(fss_cons (fs_ownLc (L := []) 5 [("one", 6)] c_look_at_tongue.nd (fi_any (fe_var 1)) (fun _ _ _ _ _ => (fg_name 6 c_look_at_tongue.nd)) (fun _ _ _ _ _ => fts_nil) (fun _ _ _ _ _ => (fe_ix (ix_A (K := K) (u1 hr.units)) opd_ix (fe_var 6) fe_int)) (blkOk_by (own := [("one", 6)]) (N := n_look_at_tongue) (sc := defScope s_look_at_tongue) (by decide +kernel)) (sw_true rfl rfl rfl (by decide +kernel)))
(fss_cons (fs_if (L := [5]) (ft_not (ft_tru (fe_call (ok_are_unlike_texts T) hr (fa_cons (fe_var 2) (fa_cons fe_int (fa_cons (fe_var 5) fa_nil))))))
(fss_one (fs_raiseI0 (L := []) (c := "NoTongue") (f := "part") (fa := (eC (.str "firsts")))))
fss_nil)
(fss_cons (fs_if (L := [5]) (ft_not (ft_tru (fe_call (ok_are_unlike_texts T) hr (fa_cons (fe_var 3) (fa_cons fe_int (fa_cons (fe_var 5) fa_nil))))))
(fss_one (fs_raiseI0 (L := []) (c := "NoTongue") (f := "part") (fa := (eC (.str "pairs")))))
fss_nil)
(fss_one (fs_if (L := []) (ft_w (fw_or (ft_not (ft_tru (fe_call (ok_is_whole T) hr (fa_cons (fe_var 4) fa_nil)))) (fw_or1 (ft_not (ft_chain op_le opd_le op_le opd_le gb_cmp fe_int (fe_var 4) (fe_gi T.g_LONGEST))))))
(fss_one (fs_raiseI0 (L := []) (c := "NoTongue") (f := "part") (fa := (eC (.str "longest")))))
fss_nil))))))))

noncomputable def BX_look_at_tongue : Env → Out := (sSeq (sIf [] (bOr (bNot (bT (eIsi "tuple" (eVar 0)))) (bT (eOp dNe (eCall dLen (aCons (eVar 0) aNil)) (eC (.int 4)))))
(sRaiseI "NoTongue" "part" [] (eC .non))
sPass)
(sSeq (sAsg [] (eVar 0) (tgT [(tgN 1), (tgN 2), (tgN 3), (tgN 4)]))
(sSeq (sIf [] (bNot (bT (eCall (nx F_are_signs) (aCons (eVar 1) aNil))))
(sRaiseI "NoTongue" "part" [] (eC (.str "signs")))
sPass)
(sSeq (sOwn 5 [] (eComp [6] (iAny (eVar 1)) (tgN 6) bYes (eOp dIx (eVar 6) (eC (.int 0)))))
(sSeq (sIf [5] (bNot (bT (eCall (nx F_are_unlike_texts) (aCons (eVar 2) (aCons (eC (.int 1)) (aCons (eVar 5) aNil))))))
(sRaiseI "NoTongue" "part" [] (eC (.str "firsts")))
sPass)
(sSeq (sIf [5] (bNot (bT (eCall (nx F_are_unlike_texts) (aCons (eVar 3) (aCons (eC (.int 2)) (aCons (eVar 5) aNil))))))
(sRaiseI "NoTongue" "part" [] (eC (.str "pairs")))
sPass)
(sIf [] (bOr (bNot (bT (eCall (nx F_is_whole) (aCons (eVar 4) aNil)))) (bNot (bT (eChain dLe dLe (eC (.int 1)) (eVar 4) (eC (.int 8))))))
(sRaiseI "NoTongue" "part" [] (eC (.str "longest")))
sPass)))))))
theorem BX_look_at_tongue_u (ρ : Env) : BX_look_at_tongue ρ = (sSeq (sIf [] (bOr (bNot (bT (eIsi "tuple" (eVar 0)))) (bT (eOp dNe (eCall dLen (aCons (eVar 0) aNil)) (eC (.int 4)))))
(sRaiseI "NoTongue" "part" [] (eC .non))
sPass)
(sSeq (sAsg [] (eVar 0) (tgT [(tgN 1), (tgN 2), (tgN 3), (tgN 4)]))
(sSeq (sIf [] (bNot (bT (eCall (nx F_are_signs) (aCons (eVar 1) aNil))))
(sRaiseI "NoTongue" "part" [] (eC (.str "signs")))
sPass)
(sSeq (sOwn 5 [] (eComp [6] (iAny (eVar 1)) (tgN 6) bYes (eOp dIx (eVar 6) (eC (.int 0)))))
(sSeq (sIf [5] (bNot (bT (eCall (nx F_are_unlike_texts) (aCons (eVar 2) (aCons (eC (.int 1)) (aCons (eVar 5) aNil))))))
(sRaiseI "NoTongue" "part" [] (eC (.str "firsts")))
sPass)
(sSeq (sIf [5] (bNot (bT (eCall (nx F_are_unlike_texts) (aCons (eVar 3) (aCons (eC (.int 2)) (aCons (eVar 5) aNil))))))
(sRaiseI "NoTongue" "part" [] (eC (.str "pairs")))
sPass)
(sIf [] (bOr (bNot (bT (eCall (nx F_is_whole) (aCons (eVar 4) aNil)))) (bNot (bT (eChain dLe dLe (eC (.int 1)) (eVar 4) (eC (.int 8))))))
(sRaiseI "NoTongue" "part" [] (eC (.str "longest")))
sPass))))))) ρ := rfl
noncomputable def FX_look_at_tongue : List D → Res D := runD (["thing"] : List Str).length n_look_at_tongue.length BX_look_at_tongue
theorem okX_look_at_tongue {P : Program} {w : World} {K : PySem.W.Frag} {mg : Str → Option Value} {base : Heap} (T : Txt K mg) : OkF P w K mg base (L2.CX P w) (5 + 1) "look_at_tongue" ["thing"] (spX K mg FX_look_at_tongue) :=
  okX (g := BX_look_at_tongue) T.f_look_at_tongue c_look_at_tongue fun f cdv A outer s H E hr => 
(fss_cons (fs_if (L := []) (ft_w (fw_or (ft_not (ft_tru (fe_isi (t := "tuple") tn_tuple (fe_var 0) (pe_bltn (v := .ty "tuple") (by rfl) T.b_tuple (by decide +kernel) rfl) T.b_isinstance))) (fw_or1 (ft_cmp (op_neA (K := K) hr.units) opd_ne gb_ne (fe_callB (cr_len (K := K)) cd_len T.b_len (fa_cons (fe_var 0) fa_nil)) fe_int))))
(fss_one (fs_raiseI (L := []) (c := "NoTongue") (f := "part") (takes_of rfl rfl rfl rfl) (oi_NoTongue T) hr fe_non))
fss_nil)
(fss_cons (fs_asg (L := []) (fe_var 0) (fg_tup (fgs_cons (fg_name 1 c_look_at_tongue.nd) (fgs_cons (fg_name 2 c_look_at_tongue.nd) (fgs_cons (fg_name 3 c_look_at_tongue.nd) (fgs_cons (fg_name 4 c_look_at_tongue.nd) fgs_nil))))))
(fss_cons (fs_if (L := []) (ft_not (ft_tru (fe_call1 (ok_are_signs T) hr (fa_cons (fe_var 1) fa_nil))))
(fss_one (fs_raiseI (L := []) (c := "NoTongue") (f := "part") (takes_of rfl rfl rfl rfl) (oi_NoTongue T) hr fe_str))
fss_nil)
(fss_cons (fs_ownLc (L := []) 5 [("one", 6)] c_look_at_tongue.nd (fi_any (fe_var 1)) (fun _ _ _ _ _ => (fg_name 6 c_look_at_tongue.nd)) (fun _ _ _ _ _ => fts_nil) (fun _ _ _ _ _ => (fe_ix (ix_A (K := K) (u1 hr.units)) opd_ix (fe_var 6) fe_int)) (blkOk_by (own := [("one", 6)]) (N := n_look_at_tongue) (sc := defScope s_look_at_tongue) (by decide +kernel)) (sw_true rfl rfl rfl (by decide +kernel)))
(fss_cons (fs_if (L := [5]) (ft_not (ft_tru (fe_call1 (ok_are_unlike_texts T) hr (fa_cons (fe_var 2) (fa_cons fe_int (fa_cons (fe_var 5) fa_nil))))))
(fss_one (fs_raiseI (L := []) (c := "NoTongue") (f := "part") (takes_of rfl rfl rfl rfl) (oi_NoTongue T) hr fe_str))
fss_nil)
(fss_cons (fs_if (L := [5]) (ft_not (ft_tru (fe_call1 (ok_are_unlike_texts T) hr (fa_cons (fe_var 3) (fa_cons fe_int (fa_cons (fe_var 5) fa_nil))))))
(fss_one (fs_raiseI (L := []) (c := "NoTongue") (f := "part") (takes_of rfl rfl rfl rfl) (oi_NoTongue T) hr fe_str))
fss_nil)
(fss_one (fs_if (L := []) (ft_w (fw_or (ft_not (ft_tru (fe_call1 (ok_is_whole T) hr (fa_cons (fe_var 4) fa_nil)))) (fw_or1 (ft_not (ft_chain op_le opd_le op_le opd_le gb_cmp fe_int (fe_var 4) (fe_gi T.g_LONGEST))))))
(fss_one (fs_raiseI (L := []) (c := "NoTongue") (f := "part") (takes_of rfl rfl rfl rfl) (oi_NoTongue T) hr fe_str))
fss_nil))))))))

noncomputable def B_can_come : Env → Out := (sSeq (sIf [] (bT (eOp dGe (eCall dLen (aCons (eVar 1) aNil)) (eOp dIx (eVar 0) (eC (.int 3)))))
(sRet [] (eC (.bl false)))
sPass)
(sSeq (sIf [] (bT (eOp dEq (eVar 1) (eC (.str ""))))
(sRet [] (eOp (dIn true) (eVar 2) (eOp dIx (eVar 0) (eC (.int 1)))))
sPass)
(sRet [] (eOp (dIn true) (eOp dAdd (eOp dIx (eVar 1) (eUn dNeg (eC (.int 1)))) (eVar 2)) (eOp dIx (eVar 0) (eC (.int 2)))))))
theorem B_can_come_u (ρ : Env) : B_can_come ρ = (sSeq (sIf [] (bT (eOp dGe (eCall dLen (aCons (eVar 1) aNil)) (eOp dIx (eVar 0) (eC (.int 3)))))
(sRet [] (eC (.bl false)))
sPass)
(sSeq (sIf [] (bT (eOp dEq (eVar 1) (eC (.str ""))))
(sRet [] (eOp (dIn true) (eVar 2) (eOp dIx (eVar 0) (eC (.int 1)))))
sPass)
(sRet [] (eOp (dIn true) (eOp dAdd (eOp dIx (eVar 1) (eUn dNeg (eC (.int 1)))) (eVar 2)) (eOp dIx (eVar 0) (eC (.int 2))))))) ρ := rfl
noncomputable def F_can_come : List D → Res D := runD (["tongue", "begin", "sign"] : List Str).length n_can_come.length B_can_come
theorem ok_can_come {P : Program} {w : World} {K : PySem.W.Frag} {mg : Str → Option Value} {base : Heap} (T : Txt K mg) : OkF P w K mg base CX0 (0 + 1) "can_come" ["tongue", "begin", "sign"] (sp0 K F_can_come) :=
  ok0 (g := B_can_come) T.f_can_come c_can_come fun f cdv A outer s H E hr => have hu65 := u65 hr; 
(fss_cons (fs_if (L := []) (ft_cmp op_ge opd_ge gb_cmp (fe_callB (cr_len (K := K)) cd_len T.b_len (fa_cons (fe_var 1) fa_nil)) (fe_ix (ix_A (K := K) (u1 hr.units)) opd_ix (fe_var 0) fe_int))
(fss_one (fs_ret (L := []) fe_bl))
fss_nil)
(fss_cons (fs_if (L := []) (ft_cmp (op_eqA (K := K) hr.units) opd_eq gb_eq (fe_var 1) fe_str)
(fss_one (fs_ret (L := []) (fe_cmp (op_notInA (K := K) hu65) opd_inT (fe_var 2) (fe_ix (ix_A (K := K) (u1 hr.units)) opd_ix (fe_var 0) fe_int))))
fss_nil)
(fss_one (fs_ret (L := []) (fe_cmp (op_notInA (K := K) hu65) opd_inT (fe_op (op_addA K) opd_add (fe_ix (ix_A (K := K) (u1 hr.units)) opd_ix (fe_var 1) (fe_un un_neg und_neg fe_int)) (fe_var 2)) (fe_ix (ix_A (K := K) (u1 hr.units)) opd_ix (fe_var 0) fe_int))))))

noncomputable def B_look_at_branch : Env → Out := (sSeq (sOwn 4 [] (eComp [6] (iAny (eOp dIx (eVar 0) (eC (.int 0)))) (tgN 6) bYes (eOp dIx (eVar 6) (eC (.int 0)))))
(sSeq (sIf [4] (bOr (bNot (bT (eIsi "tuple" (eVar 2)))) (bOr (bT (eOp dNe (eCall dLen (aCons (eVar 2) aNil)) (eC (.int 2)))) (bT (eOp (dIn true) (eOp dIx (eVar 2) (eC (.int 0))) (eVar 4)))))
(sRaise ⟨"NoTree", []⟩)
sPass)
(sSeq (sAsg [4] (eM isLst dIndex (eVar 4) (aCons (eOp dIx (eVar 2) (eC (.int 0))) aNil)) (tgN 5))
(sSeq (sIf [] (bOr (bT (eOp dLe (eVar 5) (eVar 3))) (bNot (bT (eCall F_can_come (aCons (eVar 0) (aCons (eVar 1) (aCons (eOp dIx (eVar 2) (eC (.int 0))) aNil)))))))
(sRaise ⟨"NoTree", []⟩)
sPass)
(sRet [] (eVar 5))))))
noncomputable def F_look_at_branch : List D → Res D := runD (["tongue", "begin", "thing", "last"] : List Str).length n_look_at_branch.length B_look_at_branch
noncomputable def BX_look_at_branch : Env → Out := (sSeq (sOwn 4 [] (eComp [6] (iAny (eOp dIx (eVar 0) (eC (.int 0)))) (tgN 6) bYes (eOp dIx (eVar 6) (eC (.int 0)))))
(sSeq (sIf [4] (bOr (bNot (bT (eIsi "tuple" (eVar 2)))) (bOr (bT (eOp dNe (eCall dLen (aCons (eVar 2) aNil)) (eC (.int 2)))) (bT (eOp (dIn true) (eOp dIx (eVar 2) (eC (.int 0))) (eVar 4)))))
(sRaise ⟨"NoTree", []⟩)
sPass)
(sSeq (sAsg [4] (eM isLst dIndex (eVar 4) (aCons (eOp dIx (eVar 2) (eC (.int 0))) aNil)) (tgN 5))
(sSeq (sIf [] (bOr (bT (eOp dLe (eVar 5) (eVar 3))) (bNot (bT (eCall (nx F_can_come) (aCons (eVar 0) (aCons (eVar 1) (aCons (eOp dIx (eVar 2) (eC (.int 0))) aNil)))))))
(sRaise ⟨"NoTree", []⟩)
sPass)
(sRet [] (eVar 5))))))
theorem BX_look_at_branch_u (ρ : Env) : BX_look_at_branch ρ = (sSeq (sOwn 4 [] (eComp [6] (iAny (eOp dIx (eVar 0) (eC (.int 0)))) (tgN 6) bYes (eOp dIx (eVar 6) (eC (.int 0)))))
(sSeq (sIf [4] (bOr (bNot (bT (eIsi "tuple" (eVar 2)))) (bOr (bT (eOp dNe (eCall dLen (aCons (eVar 2) aNil)) (eC (.int 2)))) (bT (eOp (dIn true) (eOp dIx (eVar 2) (eC (.int 0))) (eVar 4)))))
(sRaise ⟨"NoTree", []⟩)
sPass)
(sSeq (sAsg [4] (eM isLst dIndex (eVar 4) (aCons (eOp dIx (eVar 2) (eC (.int 0))) aNil)) (tgN 5))
(sSeq (sIf [] (bOr (bT (eOp dLe (eVar 5) (eVar 3))) (bNot (bT (eCall (nx F_can_come) (aCons (eVar 0) (aCons (eVar 1) (aCons (eOp dIx (eVar 2) (eC (.int 0))) aNil)))))))
(sRaise ⟨"NoTree", []⟩)
sPass)
(sRet [] (eVar 5)))))) ρ := rfl
noncomputable def FX_look_at_branch : List D → Res D := runD (["tongue", "begin", "thing", "last"] : List Str).length n_look_at_branch.length BX_look_at_branch
theorem okX_look_at_branch {P : Program} {w : World} {K : PySem.W.Frag} {mg : Str → Option Value} {base : Heap} (T : Txt K mg) : OkF P w K mg base (L2.CX P w) (2 + 1) "look_at_branch" ["tongue", "begin", "thing", "last"] (spX K mg FX_look_at_branch) :=
  okX (g := BX_look_at_branch) T.f_look_at_branch c_look_at_branch fun f cdv A outer s H E hr => have hu65 := u65 hr; 
(fss_cons (fs_ownLc (L := []) 4 [("one", 6)] c_look_at_branch.nd (fi_any (fe_ix (ix_A (K := K) (u1 hr.units)) opd_ix (fe_var 0) fe_int)) (fun _ _ _ _ _ => (fg_name 6 c_look_at_branch.nd)) (fun _ _ _ _ _ => fts_nil) (fun _ _ _ _ _ => (fe_ix (ix_A (K := K) (u1 hr.units)) opd_ix (fe_var 6) fe_int)) (blkOk_by (own := [("one", 6)]) (N := n_look_at_branch) (sc := defScope s_look_at_branch) (by decide +kernel)) (sw_true rfl rfl rfl (by decide +kernel)))
(fss_cons (fs_if (L := [4]) (ft_w (fw_or (ft_not (ft_tru (fe_isi (t := "tuple") tn_tuple (fe_var 2) (pe_bltn (v := .ty "tuple") (by rfl) T.b_tuple (by decide +kernel) rfl) T.b_isinstance))) (fw_or (ft_cmp (op_neA (K := K) hr.units) opd_ne gb_ne (fe_callB (cr_len (K := K)) cd_len T.b_len (fa_cons (fe_var 2) fa_nil)) fe_int) (fw_or1 (ft_cmp (op_notInA (K := K) hu65) opd_inT gb_in (fe_ix (ix_A (K := K) (u1 hr.units)) opd_ix (fe_var 2) fe_int) (fe_var 4))))))
(fss_one (fs_raiseN (c := "NoTree") (takes_of rfl rfl rfl rfl) T.X_NoTree))
fss_nil)
(fss_cons (fs_asg (L := [4]) (fe_m PySem.F.plainAttrs_list PySem.F.slot_list_index PySem.F.type_list_index (mt_index_k K) md_index (fe_var 4) (fa_cons (fe_ix (ix_A (K := K) (u1 hr.units)) opd_ix (fe_var 2) fe_int) fa_nil)) (fg_name 5 c_look_at_branch.nd))
(fss_cons (fs_if (L := []) (ft_w (fw_or (ft_cmp op_le opd_le gb_cmp (fe_var 5) (fe_var 3)) (fw_or1 (ft_not (ft_tru (fe_call1 (ok_can_come T) hr (fa_cons (fe_var 0) (fa_cons (fe_var 1) (fa_cons (fe_ix (ix_A (K := K) (u1 hr.units)) opd_ix (fe_var 2) fe_int) fa_nil)))))))))
(fss_one (fs_raiseN (c := "NoTree") (takes_of rfl rfl rfl rfl) T.X_NoTree))
fss_nil)
(fss_one (fs_ret (L := []) (fe_var 5)))))))

end Du

namespace Du
open PySem PySem.Spec PyProof.Rows L2 Dear
noncomputable def B_grown_1 (rec : List D → Res D) : Env → Out := (sSeq (sOwn 4 [] (eComp [5, 6] (iAny (eVar 1)) (tgT [(tgN 5), (tgN 6)]) (bT (eOp dEq (eSl (eVar 5) pNo (pYes (eC (.int 1)))) (eVar 3))) (eTup (aCons (eSl (eVar 5) (pYes (eC (.int 1))) pNo) (aCons (eVar 6) aNil)))))
(sIf [4] (bAnd (bT (eOp dEq (eCall dLen (aCons (eVar 4) aNil)) (eC (.int 1)))) (bT (eOp dEq (eOp dIx (eOp dIx (eVar 4) (eC (.int 0))) (eC (.int 0))) (eC (.str "")))))
(need 2 (sApp 2 [4] (eTup (aCons (eVar 3) (aCons (eOp dIx (eOp dIx (eVar 4) (eC (.int 0))) (eC (.int 1))) aNil)))))
(sIf [4] (bT (eOp dNe (eVar 4) (eLst aNil)))
(need 2 (sApp 2 [4] (eTup (aCons (eVar 3) (aCons (eCall rec (aCons (eVar 0) (aCons (eVar 4) aNil))) aNil)))))
sPass)))
theorem B_grown_1_u (rec : List D → Res D) (ρ : Env) : B_grown_1 rec ρ = (sSeq (sOwn 4 [] (eComp [5, 6] (iAny (eVar 1)) (tgT [(tgN 5), (tgN 6)]) (bT (eOp dEq (eSl (eVar 5) pNo (pYes (eC (.int 1)))) (eVar 3))) (eTup (aCons (eSl (eVar 5) (pYes (eC (.int 1))) pNo) (aCons (eVar 6) aNil)))))
(sIf [4] (bAnd (bT (eOp dEq (eCall dLen (aCons (eVar 4) aNil)) (eC (.int 1)))) (bT (eOp dEq (eOp dIx (eOp dIx (eVar 4) (eC (.int 0))) (eC (.int 0))) (eC (.str "")))))
(need 2 (sApp 2 [4] (eTup (aCons (eVar 3) (aCons (eOp dIx (eOp dIx (eVar 4) (eC (.int 0))) (eC (.int 1))) aNil)))))
(sIf [4] (bT (eOp dNe (eVar 4) (eLst aNil)))
(need 2 (sApp 2 [4] (eTup (aCons (eVar 3) (aCons (eCall rec (aCons (eVar 0) (aCons (eVar 4) aNil))) aNil)))))
sPass))) ρ := rfl
noncomputable def B_grown (rec : List D → Res D) : Env → Out := (sSeq (sOwn 2 [] (eLst aNil))
(sSeq (sFor [] (iAny (eVar 0)) (tgN 3)
(B_grown_1 rec)
[3, 4, 5, 6])
(sRet [2] (eVar 2))))
theorem B_grown_u (rec : List D → Res D) (ρ : Env) : B_grown rec ρ = (sSeq (sOwn 2 [] (eLst aNil))
(sSeq (sFor [] (iAny (eVar 0)) (tgN 3)
(B_grown_1 rec)
[3, 4, 5, 6])
(sRet [2] (eVar 2)))) ρ := rfl
noncomputable def F_grown : Nat → List D → Res D
  | 0 => fun _ => .bad
  | N + 1 => runD (["letters", "ends"] : List Str).length n_grown.length (B_grown (F_grown N))
theorem ok_grown {P : Program} {w : World} {K : PySem.W.Frag} {mg : Str → Option Value} {base : Heap} (T : Txt K mg) : ∀ N, OkF P w K mg base CX0 (N + 1) "grown" ["letters", "ends"] (sp0 K (F_grown N))
  | 0 => T.f_grown.ok c_grown (fun vs H Q E h => by
    obtain ⟨_, _, h⟩ := h
    simp [F_grown] at h) (fun f cdv A outer s H vs Q E hr h => by
    obtain ⟨_, _, h⟩ := h
    simp [F_grown] at h)
  | N + 1 => ok0 (g := B_grown (F_grown N)) T.f_grown c_grown fun f cdv A outer s H E hr => 
(fss_cons (fs_own (L := []) 2 (fw_lst fa_nil) c_grown.nd)
(fss_cons (fs_for (L := []) [3, 4, 5, 6] PassesOwn.never (fi_any (fe_var 0)) (fg_name 3 c_grown.nd)
(fss_cons (fs_ownLc (L := []) 4 [("rest", 5), ("number", 6)] c_grown.nd (fi_any (fe_var 1)) (fun _ _ _ _ _ => (fg_tup (fgs_cons (fg_name 5 c_grown.nd) (fgs_cons (fg_name 6 c_grown.nd) fgs_nil)))) (fun _ _ _ _ _ => (fts_one (ft_cmp (op_eqA (K := K) hr.units) opd_eq gb_eq (fe_sl (fe_var 5) fo_no (fo_yes fe_int)) (fe_var 3)))) (fun _ _ _ _ _ => (fe_tup (fa_cons (fe_sl (fe_var 5) (fo_yes fe_int) fo_no) (fa_cons (fe_var 6) fa_nil)))) (blkOk_by (own := [("rest", 5), ("number", 6)]) (N := n_grown) (sc := defScope s_grown) (by decide +kernel)) (sw_true rfl rfl rfl (by decide +kernel)))
(fss_one (fs_if (L := [4]) (ft_w (fw_and (ft_cmp (op_eqA (K := K) hr.units) opd_eq gb_eq (fe_callB (cr_len (K := K)) cd_len T.b_len (fa_cons (fe_var 4) fa_nil)) fe_int) (fw_and1 (ft_cmp (op_eqA (K := K) hr.units) opd_eq gb_eq (fe_ix (ix_A (K := K) (u1 hr.units)) opd_ix (fe_ix (ix_A (K := K) (u1 hr.units)) opd_ix (fe_var 4) fe_int) fe_int) fe_str))))
(fss_one (fs_app (L := [4]) 2 (fe_tup (fa_cons (fe_var 3) (fa_cons (fe_ix (ix_A (K := K) (u1 hr.units)) opd_ix (fe_ix (ix_A (K := K) (u1 hr.units)) opd_ix (fe_var 4) fe_int) fe_int) fa_nil)))))
(fss_one (fs_if (L := [4]) (ft_cmp (op_neA (K := K) hr.units) opd_ne gb_ne (fe_var 4) (fe_lst fa_nil))
(fss_one (fs_app (L := [4]) 2 (fe_tup (fa_cons (fe_var 3) (fa_cons (fe_call (hk := by omega) (ok_grown T N) hr (fa_cons (fe_var 0) (fa_cons (fe_var 4) fa_nil))) fa_nil)))))
fss_nil))))))
(fss_one (fs_ret (L := [2]) (fe_var 2)))))
end Du
namespace Du
open PySem PySem.Spec PyProof.Rows L2 Dear
noncomputable def B_tree_of : Env → Out := (sSeq (sExpr [] (eCall F_look_at_tongue (aCons (eVar 0) aNil)))
(sSeq (sOwn 2 [] (eComp [3] (iAny (eOp dIx (eVar 0) (eC (.int 0)))) (tgN 3) bYes (eOp dIx (eVar 3) (eC (.int 0)))))
(sRet [2] (eCall (F_grown 12) (aCons (eVar 2) (aCons (eComp [4, 5] (iEnumD (aCons (eVar 1) aNil)) (tgT [(tgN 4), (tgN 5)]) bYes (eTup (aCons (eVar 5) (aCons (eVar 4) aNil)))) aNil))))))
theorem B_tree_of_u (ρ : Env) : B_tree_of ρ = (sSeq (sExpr [] (eCall F_look_at_tongue (aCons (eVar 0) aNil)))
(sSeq (sOwn 2 [] (eComp [3] (iAny (eOp dIx (eVar 0) (eC (.int 0)))) (tgN 3) bYes (eOp dIx (eVar 3) (eC (.int 0)))))
(sRet [2] (eCall (F_grown 12) (aCons (eVar 2) (aCons (eComp [4, 5] (iEnumD (aCons (eVar 1) aNil)) (tgT [(tgN 4), (tgN 5)]) bYes (eTup (aCons (eVar 5) (aCons (eVar 4) aNil)))) aNil)))))) ρ := rfl
noncomputable def F_tree_of : List D → Res D := runD (["tongue", "book"] : List Str).length n_tree_of.length B_tree_of
theorem ok_tree_of {P : Program} {w : World} {K : PySem.W.Frag} {mg : Str → Option Value} {base : Heap} (T : Txt K mg) : OkF P w K mg base CX0 (13 + 1) "tree_of" ["tongue", "book"] (sp0 K F_tree_of) :=
  ok0 (g := B_tree_of) T.f_tree_of c_tree_of fun f cdv A outer s H E hr => 
(fss_cons (fs_expr (L := []) (fe_call (ok_look_at_tongue T) hr (fa_cons (fe_var 0) fa_nil)))
(fss_cons (fs_ownLc (L := []) 2 [("one", 3)] c_tree_of.nd (fi_any (fe_ix (ix_A (K := K) (u1 hr.units)) opd_ix (fe_var 0) fe_int)) (fun _ _ _ _ _ => (fg_name 3 c_tree_of.nd)) (fun _ _ _ _ _ => fts_nil) (fun _ _ _ _ _ => (fe_ix (ix_A (K := K) (u1 hr.units)) opd_ix (fe_var 3) fe_int)) (blkOk_by (own := [("one", 3)]) (N := n_tree_of) (sc := defScope s_tree_of) (by decide +kernel)) (sw_true rfl rfl rfl (by decide +kernel)))
(fss_one (fs_ret (L := [2]) (fe_call (ok_grown T 12) hr (fa_cons (fe_var 2) (fa_cons (fe_comp [("number", 4), ("word", 5)] c_tree_of.nd (fi_enum T.b_enumerate (fa_cons (fe_var 1) fa_nil) len1) (fun _ _ _ _ _ => (fg_tup (fgs_cons (fg_name 4 c_tree_of.nd) (fgs_cons (fg_name 5 c_tree_of.nd) fgs_nil)))) (fun _ _ _ _ _ => fts_nil) (fun _ _ _ _ _ => (fe_tup (fa_cons (fe_var 5) (fa_cons (fe_var 4) fa_nil)))) (blkOk_by (own := [("number", 4), ("word", 5)]) (N := n_tree_of) (sc := defScope s_tree_of) (by decide +kernel))) fa_nil)))))))

end Du
namespace Du
open PySem PySem.Spec PyProof.Rows L2 Dear
noncomputable def BX_look_at_tree_1 (rec : List D → RsX) : Env → Out := (sSeq (sAsg [] (eCall FX_look_at_branch (aCons (eVar 0) (aCons (eVar 3) (aCons (eVar 6) (aCons (eVar 5) aNil))))) (tgN 5))
(sSeq (sAsg [] (eVar 6) (tgT [(tgN 7), (tgN 8)]))
(sIf [] (bNot (bT (eCall (nx F_is_whole) (aCons (eVar 8) aNil))))
(sExprM (mIOX 2 2 rec (mCons (mP [] (eVar 0)) (mCons (mP [] (eVar 1)) (mAP [] (aCons (eOp dAdd (eVar 3) (eVar 7)) (aCons (eVar 8) aNil)))))))
(sIf [2] (bAnd (bT (eChain dLe dLt (eC (.int 0)) (eVar 8) (eVar 1))) (bAnd (bT (eOp (dIn true) (eVar 8) (eVar 2))) (bT (eOp dNotN (eOp dIx (eOp dIx (eOp dIx (eVar 0) (eC (.int 0))) (eVar 5)) (eC (.int 2))) (eC .non)))))
(sPutD 2 [] (eOp dAdd (eVar 3) (eVar 7)) (eVar 8))
(sRaise ⟨"NoTree", []⟩)))))
theorem BX_look_at_tree_1_u (rec : List D → RsX) (ρ : Env) : BX_look_at_tree_1 rec ρ = (sSeq (sAsg [] (eCall FX_look_at_branch (aCons (eVar 0) (aCons (eVar 3) (aCons (eVar 6) (aCons (eVar 5) aNil))))) (tgN 5))
(sSeq (sAsg [] (eVar 6) (tgT [(tgN 7), (tgN 8)]))
(sIf [] (bNot (bT (eCall (nx F_is_whole) (aCons (eVar 8) aNil))))
(sExprM (mIOX 2 2 rec (mCons (mP [] (eVar 0)) (mCons (mP [] (eVar 1)) (mAP [] (aCons (eOp dAdd (eVar 3) (eVar 7)) (aCons (eVar 8) aNil)))))))
(sIf [2] (bAnd (bT (eChain dLe dLt (eC (.int 0)) (eVar 8) (eVar 1))) (bAnd (bT (eOp (dIn true) (eVar 8) (eVar 2))) (bT (eOp dNotN (eOp dIx (eOp dIx (eOp dIx (eVar 0) (eC (.int 0))) (eVar 5)) (eC (.int 2))) (eC .non)))))
(sPutD 2 [] (eOp dAdd (eVar 3) (eVar 7)) (eVar 8))
(sRaise ⟨"NoTree", []⟩))))) ρ := rfl
noncomputable def BX_look_at_tree (rec : List D → RsX) : Env → Out := (sSeq (sIf [] (bOr (bNot (bT (eIsi "list" (eVar 4)))) (bT (eOp dEq (eVar 4) (eLst aNil))))
(sRaise ⟨"NoTree", []⟩)
sPass)
(sSeq (sAsg [] (eUn dNeg (eC (.int 1))) (tgN 5))
(sFor [] (iAny (eVar 4)) (tgN 6)
(BX_look_at_tree_1 rec)
[6, 7, 8])))
theorem BX_look_at_tree_u (rec : List D → RsX) (ρ : Env) : BX_look_at_tree rec ρ = (sSeq (sIf [] (bOr (bNot (bT (eIsi "list" (eVar 4)))) (bT (eOp dEq (eVar 4) (eLst aNil))))
(sRaise ⟨"NoTree", []⟩)
sPass)
(sSeq (sAsg [] (eUn dNeg (eC (.int 1))) (tgN 5))
(sFor [] (iAny (eVar 4)) (tgN 6)
(BX_look_at_tree_1 rec)
[6, 7, 8]))) ρ := rfl
noncomputable def FX_look_at_tree : Nat → List D → RsX
  | 0 => fun _ => .bad
  | N + 1 => runIOX (["tongue", "many", "found", "begin", "thing"] : List Str).length n_look_at_tree.length 2 (BX_look_at_tree (FX_look_at_tree N))
theorem okX_look_at_tree {P : Program} {w : World} {K : PySem.W.Frag} {mg : Str → Option Value} {base : Heap} (T : Txt K mg) : ∀ N, OkF P w K mg base (L2.CX P w) (N + 3 + 1) "look_at_tree" ["tongue", "many", "found", "begin", "thing"] (spIOX K mg 2 (FX_look_at_tree N))
  | 0 => okIOX_0 2 T.f_look_at_tree c_look_at_tree
  | N + 1 => okIOX 2 (g := BX_look_at_tree (FX_look_at_tree N)) T.f_look_at_tree c_look_at_tree fun f cdv A outer s H E hr => have hu65 := u65 hr; 
(fss_cons (fs_if (L := []) (ft_w (fw_or (ft_not (ft_tru (fe_isi (t := "list") tn_list (fe_var 4) (pe_bltn (v := .ty "list") (by rfl) T.b_list (by decide +kernel) rfl) T.b_isinstance))) (fw_or1 (ft_cmp (op_eqA (K := K) hr.units) opd_eq gb_eq (fe_var 4) (fe_lst fa_nil)))))
(fss_one (fs_raiseN (c := "NoTree") (takes_of rfl rfl rfl rfl) T.X_NoTree))
fss_nil)
(fss_cons (fs_asg (L := []) (fe_un un_neg und_neg fe_int) (fg_name 5 c_look_at_tree.nd))
(fss_one (fs_for (L := []) [6, 7, 8] (passes_of rfl) (fi_any (fe_var 4)) (fg_name 6 c_look_at_tree.nd)
(fss_cons (fs_asg (L := []) (fe_callX (hk := by omega) (okX_look_at_branch T) hr (takes_of rfl rfl rfl rfl) (fa_cons (fe_var 0) (fa_cons (fe_var 3) (fa_cons (fe_var 6) (fa_cons (fe_var 5) fa_nil))))) (fg_name 5 c_look_at_tree.nd))
(fss_cons (fs_asg (L := []) (fe_var 6) (fg_tup (fgs_cons (fg_name 7 c_look_at_tree.nd) (fgs_cons (fg_name 8 c_look_at_tree.nd) fgs_nil))))
(fss_one (fs_if (L := []) (ft_not (ft_tru (fe_call1 (hk := by omega) (ok_is_whole T) hr (fa_cons (fe_var 8) fa_nil))))
(fss_one (fs_exprM (me_ioX (hk := by omega) (okX_look_at_tree T N) hr (takes_of rfl rfl rfl rfl) (mio_cons (me_p (L := []) (fe_var 0)) (mio_cons (me_p (L := []) (fe_var 1)) (mio_here 2 (ma_p (L := []) (fa_cons (fe_op (op_addA K) opd_add (fe_var 3) (fe_var 7)) (fa_cons (fe_var 8) fa_nil)))))))))
(fss_one (fs_if (L := [2]) (ft_w (fw_and (ft_chain op_le opd_le op_lt opd_lt gb_cmp fe_int (fe_var 8) (fe_var 1)) (fw_and (ft_cmp (op_notInA (K := K) hu65) opd_inT gb_in (fe_var 8) (fe_var 2)) (fw_and1 (ft_cmp op_notN opd_notN gb_notN (fe_ix (ix_A (K := K) (u1 hr.units)) opd_ix (fe_ix (ix_A (K := K) (u1 hr.units)) opd_ix (fe_ix (ix_A (K := K) (u1 hr.units)) opd_ix (fe_var 0) fe_int) (fe_var 5)) fe_int) fe_non)))))
(fss_one (fs_putD (L := []) 2 (u1 hr.units) (fe_op (op_addA K) opd_add (fe_var 3) (fe_var 7)) (fe_var 8)))
(fss_one (fs_raiseN (c := "NoTree") (takes_of rfl rfl rfl rfl) T.X_NoTree))))))))))))
end Du
namespace Du
open PySem PySem.Spec PyProof.Rows L2 Dear
noncomputable def BX_book_of : Env → Out := (sSeq (sExpr [] (eCall FX_look_at_tongue (aCons (eVar 0) aNil)))
(sSeq (sOwn 3 [] eDct0)
(sSeq (sExprM (mIOX 2 3 (FX_look_at_tree 12) (mCons (mP [] (eVar 0)) (mCons (mP [] (eVar 1)) (mAP [] (aCons (eC (.str "")) (aCons (eVar 2) aNil)))))))
(sSeq (sIf [3] (bT (eOp dNe (eCall dLen (aCons (eVar 3) aNil)) (eVar 1)))
(sRaise ⟨"NoTree", []⟩)
sPass)
(sRet [3] (eComp [4] (iRange (aCons (eVar 1) aNil)) (tgN 4) bYes (eOp dIx (eVar 3) (eVar 4))))))))
theorem BX_book_of_u (ρ : Env) : BX_book_of ρ = (sSeq (sExpr [] (eCall FX_look_at_tongue (aCons (eVar 0) aNil)))
(sSeq (sOwn 3 [] eDct0)
(sSeq (sExprM (mIOX 2 3 (FX_look_at_tree 12) (mCons (mP [] (eVar 0)) (mCons (mP [] (eVar 1)) (mAP [] (aCons (eC (.str "")) (aCons (eVar 2) aNil)))))))
(sSeq (sIf [3] (bT (eOp dNe (eCall dLen (aCons (eVar 3) aNil)) (eVar 1)))
(sRaise ⟨"NoTree", []⟩)
sPass)
(sRet [3] (eComp [4] (iRange (aCons (eVar 1) aNil)) (tgN 4) bYes (eOp dIx (eVar 3) (eVar 4)))))))) ρ := rfl
noncomputable def FX_book_of : List D → Res D := runD (["tongue", "many", "thing"] : List Str).length n_book_of.length BX_book_of
theorem okX_book_of {P : Program} {w : World} {K : PySem.W.Frag} {mg : Str → Option Value} {base : Heap} (T : Txt K mg) : OkF P w K mg base (L2.CX P w) (16 + 1) "book_of" ["tongue", "many", "thing"] (spX K mg FX_book_of) :=
  okX (g := BX_book_of) T.f_book_of c_book_of fun f cdv A outer s H E hr => 
(fss_cons (fs_expr (L := []) (fe_callX (okX_look_at_tongue T) hr (takes_of rfl rfl rfl rfl) (fa_cons (fe_var 0) fa_nil)))
(fss_cons (fs_own (L := []) 3 fw_dct0 c_book_of.nd)
(fss_cons (fs_exprM (me_ioX (okX_look_at_tree T 12) hr (takes_of rfl rfl rfl rfl) (mio_cons (me_p (L := []) (fe_var 0)) (mio_cons (me_p (L := []) (fe_var 1)) (mio_here 3 (ma_p (L := []) (fa_cons fe_str (fa_cons (fe_var 2) fa_nil))))))))
(fss_cons (fs_if (L := [3]) (ft_cmp (op_neA (K := K) hr.units) opd_ne gb_ne (fe_callB (cr_len (K := K)) cd_len T.b_len (fa_cons (fe_var 3) fa_nil)) (fe_var 1))
(fss_one (fs_raiseN (c := "NoTree") (takes_of rfl rfl rfl rfl) T.X_NoTree))
fss_nil)
(fss_one (fs_ret (L := [3]) (fe_comp [("number", 4)] c_book_of.nd (fi_range1 T.b_range (fa_cons (fe_var 1) fa_nil) (h1 := len1)) (fun _ _ _ _ _ => (fg_name 4 c_book_of.nd)) (fun _ _ _ _ _ => fts_nil) (fun _ _ _ _ _ => (fe_ix (ix_A (K := K) (u1 hr.units)) opd_ix (fe_var 3) (fe_var 4))) (blkOk_by (own := [("number", 4)]) (N := n_book_of) (sc := defScope s_book_of) (by decide +kernel)))))))))

end Du

namespace Du
open PySem PySem.Spec PyProof.Rows L2 Dear
noncomputable def B__law_cell : Env → Out := (sSeq (sIf [] (bT (eOp dLt (eVar 1) (eCall dLen (aCons (eVar 0) aNil))))
(sRet [] (eOp dIx (eVar 0) (eVar 1)))
sPass)
(sRet [] (eC (.int 0))))
noncomputable def F__law_cell : List D → Res D := runD (["_law_script", "_law_k"] : List Str).length n__law_cell.length B__law_cell
theorem ok__law_cell {P : Program} {w : World} {K : PySem.W.Frag} {mg : Str → Option Value} {base : Heap} (T : Txt K mg) : OkF P w K mg base CX0 (0 + 1) "_law_cell" ["_law_script", "_law_k"] (sp0 K F__law_cell) :=
  ok0 (g := B__law_cell) T.f__law_cell c__law_cell fun f cdv A outer s H E hr => 
(fss_cons (fs_if (L := []) (ft_cmp op_lt opd_lt gb_cmp (fe_var 1) (fe_callB (cr_len (K := K)) cd_len T.b_len (fa_cons (fe_var 0) fa_nil)))
(fss_one (fs_ret (L := []) (fe_ix (ix_A (K := K) (u1 hr.units)) opd_ix (fe_var 0) (fe_var 1))))
fss_nil)
(fss_one (fs_ret (L := []) fe_int)))

noncomputable def B__law_source : Env → Out := (sSeq (sAsg [] (eCall dAbs (aCons (eVar 0) aNil)) (tgN 2))
(sSeq (sAsg [] (eOp dMod (eOp dMul (eOp dAdd (eOp dAdd (eOp dMod (eVar 2) (eC (.int 1000003))) (eOp dMul (eC (.int 104729)) (eVar 1))) (eC (.int 7))) (eC (.int 48271))) (eC (.int 2147483647))) (tgN 3))
(sRetO [] (eLst (aCons (eOp dMul (eVar 2) (eCall dInt (aCons (eOp dGe (eVar 2) (eOp dPow (eC (.int 10)) (eC (.int 18)))) aNil))) (aCons (eVar 3) aNil))))))
noncomputable def F__law_source : List D → Res D := runO (["_law_cell_here", "_law_k"] : List Str).length n__law_source.length B__law_source
theorem ok__law_source {P : Program} {w : World} {K : PySem.W.Frag} {mg : Str → Option Value} {base : Heap} (T : Txt K mg) : OkF P w K mg base CX0 (0 + 1) "_law_source" ["_law_cell_here", "_law_k"] (spO K F__law_source) :=
  okO (g := B__law_source) T.f__law_source c__law_source fun f cdv A outer s H E hr => 
(fss_cons (fs_asg (L := []) (fe_callB call_abs cd_abs T.b_abs (fa_cons (fe_var 0) fa_nil)) (fg_name 2 c__law_source.nd))
(fss_cons (fs_asg (L := []) (fe_op op_mod opd_mod (fe_op op_mulA opd_mul (fe_op (op_addA K) opd_add (fe_op (op_addA K) opd_add (fe_op op_mod opd_mod (fe_var 2) fe_int) (fe_op op_mulA opd_mul fe_int (fe_var 1))) fe_int) fe_int) fe_int) (fg_name 3 c__law_source.nd))
(fss_one (fs_retO (L := []) (fw_lst (fa_cons (fe_op op_mulA opd_mul (fe_var 2) (fe_callT call_int1 cd_int T.b_int (fa_cons (fe_cmp op_ge opd_ge (fe_var 2) (fe_op op_pow opd_pow fe_int fe_int)) fa_nil))) (fa_cons (fe_var 3) fa_nil)))))))

noncomputable def B__law_draw : Env → Out := (sSeq (sIf [0] (bT (eOp dGt (eOp dIx (eVar 0) (eC (.int 0))) (eC (.int 0))))
(sSeq (sAsg [0] (eOp dMod (eOp dIx (eVar 0) (eC (.int 0))) (eVar 1)) (tgN 2))
(sSeq (sPutL 0 [0] (eOp dDiv (eOp dIx (eVar 0) (eC (.int 0))) (eVar 1)) (eC (.int 0)))
(sRet [] (eVar 2))))
sPass)
(sSeq (sPutL 0 [0] (eOp dMod (eOp dAdd (eOp dMul (eOp dIx (eVar 0) (eC (.int 1))) (eC (.int 48271))) (eC (.int 11))) (eC (.int 2147483647))) (eC (.int 1)))
(sRet [0] (eOp dMod (eOp dDiv (eOp dMod (eOp dMul (eOp dIx (eVar 0) (eC (.int 1))) (eOp dIx (eVar 0) (eC (.int 1)))) (eC (.int 2147483629))) (eC (.int 64))) (eVar 1)))))
noncomputable def F__law_draw : List D → Res (D × D) := runIO (["_law_source_here", "_law_many"] : List Str).length n__law_draw.length 0 B__law_draw
theorem ok__law_draw {P : Program} {w : World} {K : PySem.W.Frag} {mg : Str → Option Value} {base : Heap} (T : Txt K mg) : OkF P w K mg base CX0 (0 + 1) "_law_draw" ["_law_source_here", "_law_many"] (spIO K 0 F__law_draw) :=
  okIO 0 (g := B__law_draw) T.f__law_draw c__law_draw fun f cdv A outer s H E hr => 
(fss_cons (fs_if (L := [0]) (ft_cmp op_gt opd_gt gb_cmp (fe_ix (ix_A (K := K) (u1 hr.units)) opd_ix (fe_var 0) fe_int) fe_int)
(fss_cons (fs_asg (L := [0]) (fe_op op_mod opd_mod (fe_ix (ix_A (K := K) (u1 hr.units)) opd_ix (fe_var 0) fe_int) (fe_var 1)) (fg_name 2 c__law_draw.nd))
(fss_cons (fs_putL (L := [0]) 0 (fe_op op_fdivW opd_div (fe_ix (ix_A (K := K) (u1 hr.units)) opd_ix (fe_var 0) fe_int) (fe_var 1)) fe_int)
(fss_one (fs_ret (L := []) (fe_var 2)))))
fss_nil)
(fss_cons (fs_putL (L := [0]) 0 (fe_op op_mod opd_mod (fe_op (op_addA K) opd_add (fe_op op_mulA opd_mul (fe_ix (ix_A (K := K) (u1 hr.units)) opd_ix (fe_var 0) fe_int) fe_int) fe_int) fe_int) fe_int)
(fss_one (fs_ret (L := [0]) (fe_op op_mod opd_mod (fe_op op_fdivW opd_div (fe_op op_mod opd_mod (fe_op op_mulA opd_mul (fe_ix (ix_A (K := K) (u1 hr.units)) opd_ix (fe_var 0) fe_int) (fe_ix (ix_A (K := K) (u1 hr.units)) opd_ix (fe_var 0) fe_int)) fe_int) fe_int) (fe_var 1))))))

noncomputable def B__law_lowest_1 : Env → Out := (sPar 2 3 [] (aCons (eVar 3) (aCons (eOp dMod (eVar 2) (eVar 3)) aNil)))
theorem B__law_lowest_1_u (ρ : Env) : B__law_lowest_1 ρ = (sPar 2 3 [] (aCons (eVar 3) (aCons (eOp dMod (eVar 2) (eVar 3)) aNil))) ρ := rfl
noncomputable def B__law_lowest : Env → Out := (sSeq (sAsg [] (eVar 1) (tgN 2))
(sSeq (sAsg [] (eCall dAbs (aCons (eVar 0) aNil)) (tgN 3))
(sSeq (sWhile [] (bT (eOp dGt (eVar 3) (eC (.int 0))))
B__law_lowest_1)
(sRet [] (eTup (aCons (eOp dDiv (eVar 0) (eVar 2)) (aCons (eOp dDiv (eVar 1) (eVar 2)) aNil)))))))
noncomputable def F__law_lowest : List D → Res D := runD (["_law_top", "_law_bottom"] : List Str).length n__law_lowest.length B__law_lowest
theorem ok__law_lowest {P : Program} {w : World} {K : PySem.W.Frag} {mg : Str → Option Value} {base : Heap} (T : Txt K mg) : OkF P w K mg base CX0 (0 + 1) "_law_lowest" ["_law_top", "_law_bottom"] (sp0 K F__law_lowest) :=
  ok0 (g := B__law_lowest) T.f__law_lowest c__law_lowest fun f cdv A outer s H E hr => 
(fss_cons (fs_asg (L := []) (fe_var 1) (fg_name 2 c__law_lowest.nd))
(fss_cons (fs_asg (L := []) (fe_callB call_abs cd_abs T.b_abs (fa_cons (fe_var 0) fa_nil)) (fg_name 3 c__law_lowest.nd))
(fss_cons (fs_while (L := []) PassesOwn.never (ft_cmp op_gt opd_gt gb_cmp (fe_var 3) fe_int)
(fss_one (fs_par (L := []) 2 3 c__law_lowest.nd (fa_cons (fe_var 3) (fa_cons (fe_op op_mod opd_mod (fe_var 2) (fe_var 3)) fa_nil)))))
(fss_one (fs_ret (L := []) (fe_tup (fa_cons (fe_op op_fdivW opd_div (fe_var 0) (fe_var 2)) (fa_cons (fe_op op_fdivW opd_div (fe_var 1) (fe_var 2)) fa_nil))))))))

noncomputable def B__law_price : Env → Out := (sSeq (sAsgM (mIO 0 0 F__law_draw (mAP [] (aCons (eC (.int 5)) aNil))) (tgN 1))
(sSeq (sAsg [] (eOp dIx (eLst (aCons (eC (.int 5)) (aCons (eC (.int 5)) (aCons (eC (.int 9)) (aCons (eC (.int 9)) (aCons (eOp dMul (eC (.int 9)) (eOp dPow (eC (.int 10)) (eC (.int 8)))) aNil)))))) (eVar 1)) (tgN 2))
(sSeq (sAsgM (mOp dAdd (mP [] (eC (.int 1))) (mIO 0 0 F__law_draw (mAP [] (aCons (eVar 2) aNil)))) (tgN 3))
(sSeq (sIf [] (bT (eOp dLt (eVar 1) (eC (.int 2))))
(sRet [] (eTup (aCons (eVar 3) (aCons (eC (.int 1)) aNil))))
sPass)
(sRetM (mApp F__law_lowest (mCons (mP [] (eVar 3)) (mCons (mOp dAdd (mP [] (eC (.int 1))) (mIO 0 0 F__law_draw (mAP [] (aCons (eVar 2) aNil)))) mNil))))))))
noncomputable def F__law_price : List D → Res (D × D) := runIO (["_law_source_here"] : List Str).length n__law_price.length 0 B__law_price
theorem ok__law_price {P : Program} {w : World} {K : PySem.W.Frag} {mg : Str → Option Value} {base : Heap} (T : Txt K mg) : OkF P w K mg base CX0 (1 + 1) "_law_price" ["_law_source_here"] (spIO K 0 F__law_price) :=
  okIO 0 (g := B__law_price) T.f__law_price c__law_price fun f cdv A outer s H E hr => 
(fss_cons (fs_asgM (me_io (ok__law_draw T) hr (mio_here 0 (ma_p (L := []) (fa_cons fe_int fa_nil)))) (fg_name 1 c__law_price.nd))
(fss_cons (fs_asg (L := []) (fe_ix (ix_A (K := K) (u1 hr.units)) opd_ix (fe_lst (fa_cons fe_int (fa_cons fe_int (fa_cons fe_int (fa_cons fe_int (fa_cons (fe_op op_mulA opd_mul fe_int (fe_op op_pow opd_pow fe_int fe_int)) fa_nil)))))) (fe_var 1)) (fg_name 2 c__law_price.nd))
(fss_cons (fs_asgM (me_op (op_addA K) opd_add (me_p (L := []) fe_int) (me_io (ok__law_draw T) hr (mio_here 0 (ma_p (L := []) (fa_cons (fe_var 2) fa_nil))))) (fg_name 3 c__law_price.nd))
(fss_cons (fs_if (L := []) (ft_cmp op_lt opd_lt gb_cmp (fe_var 1) fe_int)
(fss_one (fs_ret (L := []) (fe_tup (fa_cons (fe_var 3) (fa_cons fe_int fa_nil)))))
fss_nil)
(fss_one (fs_retM (me_call (ok__law_lowest T) hr (ma_cons (me_p (L := []) (fe_var 3)) (ma_cons (me_op (op_addA K) opd_add (me_p (L := []) fe_int) (me_io (ok__law_draw T) hr (mio_here 0 (ma_p (L := []) (fa_cons (fe_var 2) fa_nil))))) ma_nil)))))))))

noncomputable def B__law_signs_1 : Env → Out := (sSeq (sAsgM (mIO 0 0 F__law_price (mAP [] aNil)) (tgN 7))
(sSeq (sIfM (mAnd (mB [] (bT (eOp dGt (eVar 6) (eC (.int 0))))) (mTest (mOp dEq (mIO 0 0 F__law_draw (mAP [] (aCons (eC (.int 4)) aNil))) (mP [] (eC (.int 0))))))
(sAsg [5] (eOp dIx (eOp dIx (eVar 5) (eOp dSub (eVar 6) (eC (.int 1)))) (eC (.int 1))) (tgN 7))
sPass)
(sSeq (sAsg [] (eVar 7) (tgN 8))
(sSeq (sAsgM (mIO 0 0 F__law_draw (mAP [] (aCons (eC (.int 6)) aNil))) (tgN 9))
(sSeq (sIf [] (bT (eOp dEq (eVar 9) (eC (.int 0))))
(sAsg [] (eC .non) (tgN 8))
(sIf [] (bT (eOp dGt (eVar 9) (eC (.int 1))))
(sAsgM (mIO 0 0 F__law_price (mAP [] aNil)) (tgN 8))
sPass))
(need 5 (sApp 5 [] (eTup (aCons (eOp dIx (eVar 2) (eOp dMod (eOp dAdd (eVar 3) (eOp dMul (eVar 4) (eVar 6))) (eC (.int 26)))) (aCons (eVar 7) (aCons (eVar 8) aNil)))))))))))
theorem B__law_signs_1_u (ρ : Env) : B__law_signs_1 ρ = (sSeq (sAsgM (mIO 0 0 F__law_price (mAP [] aNil)) (tgN 7))
(sSeq (sIfM (mAnd (mB [] (bT (eOp dGt (eVar 6) (eC (.int 0))))) (mTest (mOp dEq (mIO 0 0 F__law_draw (mAP [] (aCons (eC (.int 4)) aNil))) (mP [] (eC (.int 0))))))
(sAsg [5] (eOp dIx (eOp dIx (eVar 5) (eOp dSub (eVar 6) (eC (.int 1)))) (eC (.int 1))) (tgN 7))
sPass)
(sSeq (sAsg [] (eVar 7) (tgN 8))
(sSeq (sAsgM (mIO 0 0 F__law_draw (mAP [] (aCons (eC (.int 6)) aNil))) (tgN 9))
(sSeq (sIf [] (bT (eOp dEq (eVar 9) (eC (.int 0))))
(sAsg [] (eC .non) (tgN 8))
(sIf [] (bT (eOp dGt (eVar 9) (eC (.int 1))))
(sAsgM (mIO 0 0 F__law_price (mAP [] aNil)) (tgN 8))
sPass))
(need 5 (sApp 5 [] (eTup (aCons (eOp dIx (eVar 2) (eOp dMod (eOp dAdd (eVar 3) (eOp dMul (eVar 4) (eVar 6))) (eC (.int 26)))) (aCons (eVar 7) (aCons (eVar 8) aNil))))))))))) ρ := rfl
noncomputable def B__law_signs : Env → Out := (sSeq (sAsg [] (eC (.str "abcdefghijklmnopqrstuvwxyz")) (tgN 2))
(sSeq (sAsgM (mIO 0 0 F__law_draw (mAP [] (aCons (eC (.int 26)) aNil))) (tgN 3))
(sSeq (sAsgM (mOp dIx (mP [] (eLst (aCons (eC (.int 1)) (aCons (eC (.int 3)) (aCons (eC (.int 7)) (aCons (eC (.int 25)) aNil)))))) (mIO 0 0 F__law_draw (mAP [] (aCons (eC (.int 4)) aNil)))) (tgN 4))
(sSeq (sOwn 5 [] (eLst aNil))
(sSeq (sFor [] (iRange (aCons (eVar 1) aNil)) (tgN 6)
B__law_signs_1
[6, 7, 8, 9])
(sRet [5] (eVar 5)))))))
theorem B__law_signs_u (ρ : Env) : B__law_signs ρ = (sSeq (sAsg [] (eC (.str "abcdefghijklmnopqrstuvwxyz")) (tgN 2))
(sSeq (sAsgM (mIO 0 0 F__law_draw (mAP [] (aCons (eC (.int 26)) aNil))) (tgN 3))
(sSeq (sAsgM (mOp dIx (mP [] (eLst (aCons (eC (.int 1)) (aCons (eC (.int 3)) (aCons (eC (.int 7)) (aCons (eC (.int 25)) aNil)))))) (mIO 0 0 F__law_draw (mAP [] (aCons (eC (.int 4)) aNil)))) (tgN 4))
(sSeq (sOwn 5 [] (eLst aNil))
(sSeq (sFor [] (iRange (aCons (eVar 1) aNil)) (tgN 6)
B__law_signs_1
[6, 7, 8, 9])
(sRet [5] (eVar 5))))))) ρ := rfl
noncomputable def F__law_signs : List D → Res (D × D) := runIO (["_law_source_here", "_law_many"] : List Str).length n__law_signs.length 0 B__law_signs
theorem ok__law_signs {P : Program} {w : World} {K : PySem.W.Frag} {mg : Str → Option Value} {base : Heap} (T : Txt K mg) : OkF P w K mg base CX0 (2 + 1) "_law_signs" ["_law_source_here", "_law_many"] (spIO K 0 F__law_signs) :=
  okIO 0 (g := B__law_signs) T.f__law_signs c__law_signs fun f cdv A outer s H E hr => 
(fss_cons (fs_asg (L := []) fe_str (fg_name 2 c__law_signs.nd))
(fss_cons (fs_asgM (me_io (ok__law_draw T) hr (mio_here 0 (ma_p (L := []) (fa_cons fe_int fa_nil)))) (fg_name 3 c__law_signs.nd))
(fss_cons (fs_asgM (me_ix (ix_A (K := K) (u1 hr.units)) opd_ix (me_p (L := []) (fe_lst (fa_cons fe_int (fa_cons fe_int (fa_cons fe_int (fa_cons fe_int fa_nil)))))) (me_io (ok__law_draw T) hr (mio_here 0 (ma_p (L := []) (fa_cons fe_int fa_nil))))) (fg_name 4 c__law_signs.nd))
(fss_cons (fs_own (L := []) 5 (fw_lst fa_nil) c__law_signs.nd)
(fss_cons (fs_for (L := []) [6, 7, 8, 9] PassesOwn.never (fi_range1 T.b_range (fa_cons (fe_var 1) fa_nil) (h1 := len1)) (fg_name 6 c__law_signs.nd)
(fss_cons (fs_asgM (me_io (ok__law_price T) hr (mio_here 0 (ma_p (L := []) fa_nil))) (fg_name 7 c__law_signs.nd))
(fss_cons (fs_ifM (mt_w (mw_and (mt_p (L := []) (ft_cmp op_gt opd_gt gb_cmp (fe_var 6) fe_int)) (mw_and1 (mt_cmp (op_eqA (K := K) hr.units) opd_eq (me_io (ok__law_draw T) hr (mio_here 0 (ma_p (L := []) (fa_cons fe_int fa_nil)))) (me_p (L := []) fe_int)))))
(fss_one (fs_asg (L := [5]) (fe_ix (ix_A (K := K) (u1 hr.units)) opd_ix (fe_ix (ix_A (K := K) (u1 hr.units)) opd_ix (fe_var 5) (fe_op op_sub opd_sub (fe_var 6) fe_int)) fe_int) (fg_name 7 c__law_signs.nd)))
fss_nil)
(fss_cons (fs_asg (L := []) (fe_var 7) (fg_name 8 c__law_signs.nd))
(fss_cons (fs_asgM (me_io (ok__law_draw T) hr (mio_here 0 (ma_p (L := []) (fa_cons fe_int fa_nil)))) (fg_name 9 c__law_signs.nd))
(fss_cons (fs_if (L := []) (ft_cmp (op_eqA (K := K) hr.units) opd_eq gb_eq (fe_var 9) fe_int)
(fss_one (fs_asg (L := []) fe_non (fg_name 8 c__law_signs.nd)))
(fss_one (fs_if (L := []) (ft_cmp op_gt opd_gt gb_cmp (fe_var 9) fe_int)
(fss_one (fs_asgM (me_io (ok__law_price T) hr (mio_here 0 (ma_p (L := []) fa_nil))) (fg_name 8 c__law_signs.nd)))
fss_nil)))
(fss_one (fs_app (L := []) 5 (fe_tup (fa_cons (fe_ix (ix_A (K := K) (u1 hr.units)) opd_ix (fe_var 2) (fe_op op_mod opd_mod (fe_op (op_addA K) opd_add (fe_var 3) (fe_op op_mulA opd_mul (fe_var 4) (fe_var 6))) fe_int)) (fa_cons (fe_var 7) (fa_cons (fe_var 8) fa_nil))))))))))))
(fss_one (fs_ret (L := [5]) (fe_var 5))))))))

noncomputable def B__law_tongue_1 : Env → Out := (need 11 (sExtM 11 (mComp [14] [7] (iAny (eVar 7)) (tgN 14) (mTest (mOp dEq (mIO 0 4 F__law_draw (mAP [] (aCons (eVar 9) aNil))) (mP [] (eC (.int 0))))) (mP [] (eOp dAdd (eVar 12) (eVar 14))))))
theorem B__law_tongue_1_u (ρ : Env) : B__law_tongue_1 ρ = (need 11 (sExtM 11 (mComp [14] [7] (iAny (eVar 7)) (tgN 14) (mTest (mOp dEq (mIO 0 4 F__law_draw (mAP [] (aCons (eVar 9) aNil))) (mP [] (eC (.int 0))))) (mP [] (eOp dAdd (eVar 12) (eVar 14)))))) ρ := rfl
noncomputable def B__law_tongue : Env → Out := (sSeq (sOwn 4 [] (eCall F__law_source (aCons (eCall F__law_cell (aCons (eVar 0) (aCons (eVar 1) aNil))) (aCons (eVar 1) aNil))))
(sSeq (sAsgM (mOp dAdd (mP [] (eC (.int 2))) (mIO 0 4 F__law_draw (mAP [] (aCons (eOp dSub (eVar 2) (eC (.int 1))) aNil)))) (tgN 5))
(sSeq (sAsgM (mIO 0 4 F__law_signs (mAP [] (aCons (eVar 5) aNil))) (tgN 6))
(sSeq (sOwn 7 [] (eComp [12] (iAny (eVar 6)) (tgN 12) bYes (eOp dIx (eVar 12) (eC (.int 0)))))
(sSeq (sOwn 4 [] (eCall F__law_source (aCons (eCall F__law_cell (aCons (eVar 0) (aCons (eOp dAdd (eVar 1) (eC (.int 1))) aNil))) (aCons (eOp dAdd (eVar 1) (eC (.int 1))) aNil))))
(sSeq (sAsgM (mOp dAdd (mP [] (eC (.int 1))) (mIO 0 4 F__law_draw (mAP [] (aCons (eOp dIx (eVar 3) (eOp dSub (eVar 5) (eC (.int 2)))) aNil)))) (tgN 8))
(sSeq (sAsgM (mOp dIx (mP [] (eLst (aCons (eC (.int 2)) (aCons (eC (.int 5)) (aCons (eC (.int 9)) (aCons (eC (.int 36)) aNil)))))) (mIO 0 4 F__law_draw (mAP [] (aCons (eC (.int 4)) aNil)))) (tgN 9))
(sSeq (sOwnM 10 (mComp [13] [7] (iAny (eVar 7)) (tgN 13) (mTest (mOp dEq (mIO 0 4 F__law_draw (mAP [] (aCons (eC (.int 5)) aNil))) (mP [] (eC (.int 0))))) (mP [] (eVar 13))))
(sSeq (sOwn 11 [] (eLst aNil))
(sSeq (sFor [7] (iAny (eVar 7)) (tgN 12)
B__law_tongue_1
[12, 14])
(sSeq (sIfM (mTest (mOp dEq (mIO 0 4 F__law_draw (mAP [] (aCons (eC (.int 2)) aNil))) (mP [] (eC (.int 1)))))
(sSeq (sOwn 10 [10] (eUn dRev (eVar 10)))
(sOwn 11 [11] (eUn dRev (eVar 11))))
sPass)
(sRet [10, 11] (eTup (aCons (eVar 6) (aCons (eVar 10) (aCons (eVar 11) (aCons (eVar 8) aNil)))))))))))))))))
theorem B__law_tongue_u (ρ : Env) : B__law_tongue ρ = (sSeq (sOwn 4 [] (eCall F__law_source (aCons (eCall F__law_cell (aCons (eVar 0) (aCons (eVar 1) aNil))) (aCons (eVar 1) aNil))))
(sSeq (sAsgM (mOp dAdd (mP [] (eC (.int 2))) (mIO 0 4 F__law_draw (mAP [] (aCons (eOp dSub (eVar 2) (eC (.int 1))) aNil)))) (tgN 5))
(sSeq (sAsgM (mIO 0 4 F__law_signs (mAP [] (aCons (eVar 5) aNil))) (tgN 6))
(sSeq (sOwn 7 [] (eComp [12] (iAny (eVar 6)) (tgN 12) bYes (eOp dIx (eVar 12) (eC (.int 0)))))
(sSeq (sOwn 4 [] (eCall F__law_source (aCons (eCall F__law_cell (aCons (eVar 0) (aCons (eOp dAdd (eVar 1) (eC (.int 1))) aNil))) (aCons (eOp dAdd (eVar 1) (eC (.int 1))) aNil))))
(sSeq (sAsgM (mOp dAdd (mP [] (eC (.int 1))) (mIO 0 4 F__law_draw (mAP [] (aCons (eOp dIx (eVar 3) (eOp dSub (eVar 5) (eC (.int 2)))) aNil)))) (tgN 8))
(sSeq (sAsgM (mOp dIx (mP [] (eLst (aCons (eC (.int 2)) (aCons (eC (.int 5)) (aCons (eC (.int 9)) (aCons (eC (.int 36)) aNil)))))) (mIO 0 4 F__law_draw (mAP [] (aCons (eC (.int 4)) aNil)))) (tgN 9))
(sSeq (sOwnM 10 (mComp [13] [7] (iAny (eVar 7)) (tgN 13) (mTest (mOp dEq (mIO 0 4 F__law_draw (mAP [] (aCons (eC (.int 5)) aNil))) (mP [] (eC (.int 0))))) (mP [] (eVar 13))))
(sSeq (sOwn 11 [] (eLst aNil))
(sSeq (sFor [7] (iAny (eVar 7)) (tgN 12)
B__law_tongue_1
[12, 14])
(sSeq (sIfM (mTest (mOp dEq (mIO 0 4 F__law_draw (mAP [] (aCons (eC (.int 2)) aNil))) (mP [] (eC (.int 1)))))
(sSeq (sOwn 10 [10] (eUn dRev (eVar 10)))
(sOwn 11 [11] (eUn dRev (eVar 11))))
sPass)
(sRet [10, 11] (eTup (aCons (eVar 6) (aCons (eVar 10) (aCons (eVar 11) (aCons (eVar 8) aNil))))))))))))))))) ρ := rfl
noncomputable def F__law_tongue : List D → Res D := runD (["_law_script", "_law_base", "_law_most", "_law_longs"] : List Str).length n__law_tongue.length B__law_tongue
theorem ok__law_tongue {P : Program} {w : World} {K : PySem.W.Frag} {mg : Str → Option Value} {base : Heap} (T : Txt K mg) : OkF P w K mg base CX0 (3 + 1) "_law_tongue" ["_law_script", "_law_base", "_law_most", "_law_longs"] (sp0 K F__law_tongue) :=
  ok0 (g := B__law_tongue) T.f__law_tongue c__law_tongue fun f cdv A outer s H E hr => 
(fss_cons (fs_own (L := []) 4 (fw_call (ok__law_source T) hr (fa_cons (fe_call (ok__law_cell T) hr (fa_cons (fe_var 0) (fa_cons (fe_var 1) fa_nil))) (fa_cons (fe_var 1) fa_nil))) c__law_tongue.nd)
(fss_cons (fs_asgM (me_op (op_addA K) opd_add (me_p (L := []) fe_int) (me_io (ok__law_draw T) hr (mio_here 4 (ma_p (L := []) (fa_cons (fe_op op_sub opd_sub (fe_var 2) fe_int) fa_nil))))) (fg_name 5 c__law_tongue.nd))
(fss_cons (fs_asgM (me_io (ok__law_signs T) hr (mio_here 4 (ma_p (L := []) (fa_cons (fe_var 5) fa_nil)))) (fg_name 6 c__law_tongue.nd))
(fss_cons (fs_ownLc (L := []) 7 [("_law_one", 12)] c__law_tongue.nd (fi_any (fe_var 6)) (fun _ _ _ _ _ => (fg_name 12 c__law_tongue.nd)) (fun _ _ _ _ _ => fts_nil) (fun _ _ _ _ _ => (fe_ix (ix_A (K := K) (u1 hr.units)) opd_ix (fe_var 12) fe_int)) (blkOk_by (own := [("_law_one", 12)]) (N := n__law_tongue) (sc := defScope s__law_tongue) (by decide +kernel)) (sw_true rfl rfl rfl (by decide +kernel)))
(fss_cons (fs_own (L := []) 4 (fw_call (ok__law_source T) hr (fa_cons (fe_call (ok__law_cell T) hr (fa_cons (fe_var 0) (fa_cons (fe_op (op_addA K) opd_add (fe_var 1) fe_int) fa_nil))) (fa_cons (fe_op (op_addA K) opd_add (fe_var 1) fe_int) fa_nil))) c__law_tongue.nd)
(fss_cons (fs_asgM (me_op (op_addA K) opd_add (me_p (L := []) fe_int) (me_io (ok__law_draw T) hr (mio_here 4 (ma_p (L := []) (fa_cons (fe_ix (ix_A (K := K) (u1 hr.units)) opd_ix (fe_var 3) (fe_op op_sub opd_sub (fe_var 5) fe_int)) fa_nil))))) (fg_name 8 c__law_tongue.nd))
(fss_cons (fs_asgM (me_ix (ix_A (K := K) (u1 hr.units)) opd_ix (me_p (L := []) (fe_lst (fa_cons fe_int (fa_cons fe_int (fa_cons fe_int (fa_cons fe_int fa_nil)))))) (me_io (ok__law_draw T) hr (mio_here 4 (ma_p (L := []) (fa_cons fe_int fa_nil))))) (fg_name 9 c__law_tongue.nd))
(fss_cons (fs_ownLcM 10 [("_law_sign", 13)] (L := [7]) c__law_tongue.nd (fi_any (fe_var 7)) (fun _ _ _ _ _ => (fg_name 13 c__law_tongue.nd)) (fun _ _ _ _ _ => (mts_one (mt_cmp (op_eqA (K := K) hr.units) opd_eq (me_io (ok__law_draw T) hr (mio_here 4 (ma_p (L := []) (fa_cons fe_int fa_nil)))) (me_p (L := []) fe_int)))) (fun _ _ _ _ _ => (me_p (L := []) (fe_var 13))) (blkOk_by (own := [("_law_sign", 13)]) (N := n__law_tongue) (sc := defScope s__law_tongue) (by decide +kernel)) (sw_true rfl rfl rfl (by decide +kernel)))
(fss_cons (fs_own (L := []) 11 (fw_lst fa_nil) c__law_tongue.nd)
(fss_cons (fs_for (L := [7]) [12, 14] PassesOwn.never (fi_any (fe_var 7)) (fg_name 12 c__law_tongue.nd)
(fss_one (fs_extM 11 (me_comp [("_law_other", 14)] (L := [7]) c__law_tongue.nd (fi_any (fe_var 7)) (fun _ _ _ _ _ => (fg_name 14 c__law_tongue.nd)) (fun _ _ _ _ _ => (mts_one (mt_cmp (op_eqA (K := K) hr.units) opd_eq (me_io (ok__law_draw T) hr (mio_here 4 (ma_p (L := []) (fa_cons (fe_var 9) fa_nil)))) (me_p (L := []) fe_int)))) (fun _ _ _ _ _ => (me_p (L := []) (fe_op (op_addA K) opd_add (fe_var 12) (fe_var 14)))) (blkOk_by (own := [("_law_other", 14)]) (N := n__law_tongue) (sc := defScope s__law_tongue) (by decide +kernel))))))
(fss_cons (fs_ifM (mt_cmp (op_eqA (K := K) hr.units) opd_eq (me_io (ok__law_draw T) hr (mio_here 4 (ma_p (L := []) (fa_cons fe_int fa_nil)))) (me_p (L := []) fe_int))
(fss_cons (fs_own (L := [10]) 10 (fw_rev (fe_var 10)) c__law_tongue.nd)
(fss_one (fs_own (L := [11]) 11 (fw_rev (fe_var 11)) c__law_tongue.nd)))
fss_nil)
(fss_one (fs_ret (L := [10, 11]) (fe_tup (fa_cons (fe_var 6) (fa_cons (fe_var 10) (fa_cons (fe_var 11) (fa_cons (fe_var 8) fa_nil))))))))))))))))))

noncomputable def B__law_copy : Env → Out := (sRet [] (eTup (aCons (eCall dList (aCons (eOp dIx (eVar 0) (eC (.int 0))) aNil)) (aCons (eCall dList (aCons (eOp dIx (eVar 0) (eC (.int 1))) aNil)) (aCons (eCall dList (aCons (eOp dIx (eVar 0) (eC (.int 2))) aNil)) (aCons (eOp dIx (eVar 0) (eC (.int 3))) aNil))))))
theorem B__law_copy_u (ρ : Env) : B__law_copy ρ = (sRet [] (eTup (aCons (eCall dList (aCons (eOp dIx (eVar 0) (eC (.int 0))) aNil)) (aCons (eCall dList (aCons (eOp dIx (eVar 0) (eC (.int 1))) aNil)) (aCons (eCall dList (aCons (eOp dIx (eVar 0) (eC (.int 2))) aNil)) (aCons (eOp dIx (eVar 0) (eC (.int 3))) aNil)))))) ρ := rfl
noncomputable def F__law_copy : List D → Res D := runD (["_law_tongue_here"] : List Str).length n__law_copy.length B__law_copy
theorem ok__law_copy {P : Program} {w : World} {K : PySem.W.Frag} {mg : Str → Option Value} {base : Heap} (T : Txt K mg) : OkF P w K mg base CX0 (0 + 1) "_law_copy" ["_law_tongue_here"] (sp0 K F__law_copy) :=
  ok0 (g := B__law_copy) T.f__law_copy c__law_copy fun f cdv A outer s H E hr => 
(fss_one (fs_ret (L := []) (fe_tup (fa_cons (fe_callT (call_list_of_k K) cd_list T.b_list (fa_cons (fe_ix (ix_A (K := K) (u1 hr.units)) opd_ix (fe_var 0) fe_int) fa_nil)) (fa_cons (fe_callT (call_list_of_k K) cd_list T.b_list (fa_cons (fe_ix (ix_A (K := K) (u1 hr.units)) opd_ix (fe_var 0) fe_int) fa_nil)) (fa_cons (fe_callT (call_list_of_k K) cd_list T.b_list (fa_cons (fe_ix (ix_A (K := K) (u1 hr.units)) opd_ix (fe_var 0) fe_int) fa_nil)) (fa_cons (fe_ix (ix_A (K := K) (u1 hr.units)) opd_ix (fe_var 0) fe_int) fa_nil)))))))

noncomputable def B__law_comes : Env → Out := (sSeq (sIf [] (bT (eOp dEq (eVar 1) (eC (.str ""))))
(sRet [] (eOp (dIn true) (eVar 2) (eOp dIx (eVar 0) (eC (.int 1)))))
sPass)
(sRet [] (eOp (dIn true) (eOp dAdd (eVar 1) (eVar 2)) (eOp dIx (eVar 0) (eC (.int 2))))))
noncomputable def F__law_comes : List D → Res D := runD (["_law_tongue_here", "_law_ahead", "_law_sign"] : List Str).length n__law_comes.length B__law_comes
theorem ok__law_comes {P : Program} {w : World} {K : PySem.W.Frag} {mg : Str → Option Value} {base : Heap} (T : Txt K mg) : OkF P w K mg base CX0 (0 + 1) "_law_comes" ["_law_tongue_here", "_law_ahead", "_law_sign"] (sp0 K F__law_comes) :=
  ok0 (g := B__law_comes) T.f__law_comes c__law_comes fun f cdv A outer s H E hr => have hu65 := u65 hr; 
(fss_cons (fs_if (L := []) (ft_cmp (op_eqA (K := K) hr.units) opd_eq gb_eq (fe_var 1) fe_str)
(fss_one (fs_ret (L := []) (fe_cmp (op_notInA (K := K) hu65) opd_inT (fe_var 2) (fe_ix (ix_A (K := K) (u1 hr.units)) opd_ix (fe_var 0) fe_int))))
fss_nil)
(fss_one (fs_ret (L := []) (fe_cmp (op_notInA (K := K) hu65) opd_inT (fe_op (op_addA K) opd_add (fe_var 1) (fe_var 2)) (fe_ix (ix_A (K := K) (u1 hr.units)) opd_ix (fe_var 0) fe_int)))))

noncomputable def B__law_stands_1 : Env → Out := (sIf [2] (bOr (bT (eOp (dIn true) (eOp dIx (eVar 1) (eVar 3)) (eVar 2))) (bNot (bT (eCall F__law_comes (aCons (eVar 0) (aCons (eSl (eSl (eVar 1) pNo (pYes (eVar 3))) (pYes (eUn dNeg (eC (.int 1)))) pNo) (aCons (eOp dIx (eVar 1) (eVar 3)) aNil)))))))
(sRet [] (eC (.bl false)))
sPass)
theorem B__law_stands_1_u (ρ : Env) : B__law_stands_1 ρ = (sIf [2] (bOr (bT (eOp (dIn true) (eOp dIx (eVar 1) (eVar 3)) (eVar 2))) (bNot (bT (eCall F__law_comes (aCons (eVar 0) (aCons (eSl (eSl (eVar 1) pNo (pYes (eVar 3))) (pYes (eUn dNeg (eC (.int 1)))) pNo) (aCons (eOp dIx (eVar 1) (eVar 3)) aNil)))))))
(sRet [] (eC (.bl false)))
sPass) ρ := rfl
noncomputable def B__law_stands : Env → Out := (sSeq (sOwn 2 [] (eComp [4] (iAny (eOp dIx (eVar 0) (eC (.int 0)))) (tgN 4) bYes (eOp dIx (eVar 4) (eC (.int 0)))))
(sSeq (sIf [] (bOr (bNot (bT (eIsi "str" (eVar 1)))) (bT (eOp dGt (eCall dLen (aCons (eVar 1) aNil)) (eOp dIx (eVar 0) (eC (.int 3))))))
(sRet [] (eC (.bl false)))
sPass)
(sSeq (sFor [] (iRange (aCons (eCall dLen (aCons (eVar 1) aNil)) aNil)) (tgN 3)
B__law_stands_1
[3])
(sRet [] (eC (.bl true))))))
theorem B__law_stands_u (ρ : Env) : B__law_stands ρ = (sSeq (sOwn 2 [] (eComp [4] (iAny (eOp dIx (eVar 0) (eC (.int 0)))) (tgN 4) bYes (eOp dIx (eVar 4) (eC (.int 0)))))
(sSeq (sIf [] (bOr (bNot (bT (eIsi "str" (eVar 1)))) (bT (eOp dGt (eCall dLen (aCons (eVar 1) aNil)) (eOp dIx (eVar 0) (eC (.int 3))))))
(sRet [] (eC (.bl false)))
sPass)
(sSeq (sFor [] (iRange (aCons (eCall dLen (aCons (eVar 1) aNil)) aNil)) (tgN 3)
B__law_stands_1
[3])
(sRet [] (eC (.bl true)))))) ρ := rfl
noncomputable def F__law_stands : List D → Res D := runD (["_law_tongue_here", "_law_thing"] : List Str).length n__law_stands.length B__law_stands
theorem ok__law_stands {P : Program} {w : World} {K : PySem.W.Frag} {mg : Str → Option Value} {base : Heap} (T : Txt K mg) : OkF P w K mg base CX0 (1 + 1) "_law_stands" ["_law_tongue_here", "_law_thing"] (sp0 K F__law_stands) :=
  ok0 (g := B__law_stands) T.f__law_stands c__law_stands fun f cdv A outer s H E hr => have hu65 := u65 hr; 
(fss_cons (fs_ownLc (L := []) 2 [("_law_one", 4)] c__law_stands.nd (fi_any (fe_ix (ix_A (K := K) (u1 hr.units)) opd_ix (fe_var 0) fe_int)) (fun _ _ _ _ _ => (fg_name 4 c__law_stands.nd)) (fun _ _ _ _ _ => fts_nil) (fun _ _ _ _ _ => (fe_ix (ix_A (K := K) (u1 hr.units)) opd_ix (fe_var 4) fe_int)) (blkOk_by (own := [("_law_one", 4)]) (N := n__law_stands) (sc := defScope s__law_stands) (by decide +kernel)) (sw_true rfl rfl rfl (by decide +kernel)))
(fss_cons (fs_if (L := []) (ft_w (fw_or (ft_not (ft_tru (fe_isi (t := "str") tn_str (fe_var 1) (pe_bltn (v := .ty "str") (by rfl) T.b_str (by decide +kernel) rfl) T.b_isinstance))) (fw_or1 (ft_cmp op_gt opd_gt gb_cmp (fe_callB (cr_len (K := K)) cd_len T.b_len (fa_cons (fe_var 1) fa_nil)) (fe_ix (ix_A (K := K) (u1 hr.units)) opd_ix (fe_var 0) fe_int)))))
(fss_one (fs_ret (L := []) fe_bl))
fss_nil)
(fss_cons (fs_for (L := []) [3] PassesOwn.never (fi_range1 T.b_range (fa_cons (fe_callB (cr_len (K := K)) cd_len T.b_len (fa_cons (fe_var 1) fa_nil)) fa_nil) (h1 := len1)) (fg_name 3 c__law_stands.nd)
(fss_one (fs_if (L := [2]) (ft_w (fw_or (ft_cmp (op_notInA (K := K) hu65) opd_inT gb_in (fe_ix (ix_A (K := K) (u1 hr.units)) opd_ix (fe_var 1) (fe_var 3)) (fe_var 2)) (fw_or1 (ft_not (ft_tru (fe_call (ok__law_comes T) hr (fa_cons (fe_var 0) (fa_cons (fe_sl (fe_sl (fe_var 1) fo_no (fo_yes (fe_var 3))) (fo_yes (fe_un un_neg und_neg fe_int)) fo_no) (fa_cons (fe_ix (ix_A (K := K) (u1 hr.units)) opd_ix (fe_var 1) (fe_var 3)) fa_nil)))))))))
(fss_one (fs_ret (L := []) fe_bl))
fss_nil)))
(fss_one (fs_ret (L := []) fe_bl)))))

noncomputable def B__law_is_word : Env → Out := (sSeq (sIf [] (bOr (bNot (bT (eCall F__law_stands (aCons (eVar 0) (aCons (eVar 1) aNil))))) (bT (eOp dEq (eVar 1) (eC (.str "")))))
(sRet [] (eC (.bl false)))
sPass)
(sRet [] (eOp (dIn false) (eOp dIx (eVar 1) (eUn dNeg (eC (.int 1)))) (eComp [2, 3, 4] (iAny (eOp dIx (eVar 0) (eC (.int 0)))) (tgT [(tgN 2), (tgN 3), (tgN 4)]) (bT (eOp dNotN (eVar 4) (eC .non))) (eVar 2)))))
theorem B__law_is_word_u (ρ : Env) : B__law_is_word ρ = (sSeq (sIf [] (bOr (bNot (bT (eCall F__law_stands (aCons (eVar 0) (aCons (eVar 1) aNil))))) (bT (eOp dEq (eVar 1) (eC (.str "")))))
(sRet [] (eC (.bl false)))
sPass)
(sRet [] (eOp (dIn false) (eOp dIx (eVar 1) (eUn dNeg (eC (.int 1)))) (eComp [2, 3, 4] (iAny (eOp dIx (eVar 0) (eC (.int 0)))) (tgT [(tgN 2), (tgN 3), (tgN 4)]) (bT (eOp dNotN (eVar 4) (eC .non))) (eVar 2))))) ρ := rfl
noncomputable def F__law_is_word : List D → Res D := runD (["_law_tongue_here", "_law_thing"] : List Str).length n__law_is_word.length B__law_is_word
theorem ok__law_is_word {P : Program} {w : World} {K : PySem.W.Frag} {mg : Str → Option Value} {base : Heap} (T : Txt K mg) : OkF P w K mg base CX0 (2 + 1) "_law_is_word" ["_law_tongue_here", "_law_thing"] (sp0 K F__law_is_word) :=
  ok0 (g := B__law_is_word) T.f__law_is_word c__law_is_word fun f cdv A outer s H E hr => have hu65 := u65 hr; 
(fss_cons (fs_if (L := []) (ft_w (fw_or (ft_not (ft_tru (fe_call (ok__law_stands T) hr (fa_cons (fe_var 0) (fa_cons (fe_var 1) fa_nil))))) (fw_or1 (ft_cmp (op_eqA (K := K) hr.units) opd_eq gb_eq (fe_var 1) fe_str))))
(fss_one (fs_ret (L := []) fe_bl))
fss_nil)
(fss_one (fs_ret (L := []) (fe_cmp (op_inA (K := K) hu65) opd_inF (fe_ix (ix_A (K := K) (u1 hr.units)) opd_ix (fe_var 1) (fe_un un_neg und_neg fe_int)) (fe_comp [("_law_sign", 2), ("_law_price_here", 3), ("_law_last", 4)] c__law_is_word.nd (fi_any (fe_ix (ix_A (K := K) (u1 hr.units)) opd_ix (fe_var 0) fe_int)) (fun _ _ _ _ _ => (fg_tup (fgs_cons (fg_name 2 c__law_is_word.nd) (fgs_cons (fg_name 3 c__law_is_word.nd) (fgs_cons (fg_name 4 c__law_is_word.nd) fgs_nil))))) (fun _ _ _ _ _ => (fts_one (ft_cmp op_notN opd_notN gb_notN (fe_var 4) fe_non))) (fun _ _ _ _ _ => (fe_var 2)) (blkOk_by (own := [("_law_sign", 2), ("_law_price_here", 3), ("_law_last", 4)]) (N := n__law_is_word) (sc := defScope s__law_is_word) (by decide +kernel)))))))

noncomputable def B__law_words_1 : Env → Out := (need 4 (sExt 4 [] (eComp [6] (iAny (eOp dIx (eVar 0) (eC (.int 0)))) (tgN 6) (bT (eCall F__law_comes (aCons (eVar 0) (aCons (eSl (eVar 5) (pYes (eUn dNeg (eC (.int 1)))) pNo) (aCons (eOp dIx (eVar 6) (eC (.int 0))) aNil))))) (eOp dAdd (eVar 5) (eOp dIx (eVar 6) (eC (.int 0)))))))
theorem B__law_words_1_u (ρ : Env) : B__law_words_1 ρ = (need 4 (sExt 4 [] (eComp [6] (iAny (eOp dIx (eVar 0) (eC (.int 0)))) (tgN 6) (bT (eCall F__law_comes (aCons (eVar 0) (aCons (eSl (eVar 5) (pYes (eUn dNeg (eC (.int 1)))) pNo) (aCons (eOp dIx (eVar 6) (eC (.int 0))) aNil))))) (eOp dAdd (eVar 5) (eOp dIx (eVar 6) (eC (.int 0))))))) ρ := rfl
noncomputable def B__law_words_2 : Env → Out := (sSeq (sOwn 4 [] (eLst aNil))
(sSeq (sFor [] (iAny (eVar 1)) (tgN 5)
B__law_words_1
[5, 6])
(sSeq (sAsg [4] (eVar 4) (tgN 1))
(need 2 (sExt 2 [] (eComp [5] (iAny (eVar 1)) (tgN 5) (bT (eCall F__law_is_word (aCons (eVar 0) (aCons (eVar 5) aNil)))) (eVar 5)))))))
theorem B__law_words_2_u (ρ : Env) : B__law_words_2 ρ = (sSeq (sOwn 4 [] (eLst aNil))
(sSeq (sFor [] (iAny (eVar 1)) (tgN 5)
B__law_words_1
[5, 6])
(sSeq (sAsg [4] (eVar 4) (tgN 1))
(need 2 (sExt 2 [] (eComp [5] (iAny (eVar 1)) (tgN 5) (bT (eCall F__law_is_word (aCons (eVar 0) (aCons (eVar 5) aNil)))) (eVar 5))))))) ρ := rfl
noncomputable def B__law_words : Env → Out := (sSeq (sAsg [] (eLst (aCons (eC (.str "")) aNil)) (tgN 1))
(sSeq (sOwn 2 [] (eLst aNil))
(sSeq (sFor [] (iRange (aCons (eOp dIx (eVar 0) (eC (.int 3))) aNil)) (tgN 3)
B__law_words_2
[3, 4, 5, 6])
(sRet [2] (eVar 2)))))
theorem B__law_words_u (ρ : Env) : B__law_words ρ = (sSeq (sAsg [] (eLst (aCons (eC (.str "")) aNil)) (tgN 1))
(sSeq (sOwn 2 [] (eLst aNil))
(sSeq (sFor [] (iRange (aCons (eOp dIx (eVar 0) (eC (.int 3))) aNil)) (tgN 3)
B__law_words_2
[3, 4, 5, 6])
(sRet [2] (eVar 2))))) ρ := rfl
noncomputable def F__law_words : List D → Res D := runD (["_law_tongue_here"] : List Str).length n__law_words.length B__law_words
theorem ok__law_words {P : Program} {w : World} {K : PySem.W.Frag} {mg : Str → Option Value} {base : Heap} (T : Txt K mg) : OkF P w K mg base CX0 (3 + 1) "_law_words" ["_law_tongue_here"] (sp0 K F__law_words) :=
  ok0 (g := B__law_words) T.f__law_words c__law_words fun f cdv A outer s H E hr => 
(fss_cons (fs_asg (L := []) (fe_lst (fa_cons fe_str fa_nil)) (fg_name 1 c__law_words.nd))
(fss_cons (fs_own (L := []) 2 (fw_lst fa_nil) c__law_words.nd)
(fss_cons (fs_for (L := []) [3, 4, 5, 6] PassesOwn.never (fi_range1 T.b_range (fa_cons (fe_ix (ix_A (K := K) (u1 hr.units)) opd_ix (fe_var 0) fe_int) fa_nil) (h1 := len1)) (fg_name 3 c__law_words.nd)
(fss_cons (fs_own (L := []) 4 (fw_lst fa_nil) c__law_words.nd)
(fss_cons (fs_for (L := []) [5, 6] PassesOwn.never (fi_any (fe_var 1)) (fg_name 5 c__law_words.nd)
(fss_one (fs_ext (L := []) 4 (fe_comp [("_law_one", 6)] c__law_words.nd (fi_any (fe_ix (ix_A (K := K) (u1 hr.units)) opd_ix (fe_var 0) fe_int)) (fun _ _ _ _ _ => (fg_name 6 c__law_words.nd)) (fun _ _ _ _ _ => (fts_one (ft_tru (fe_call (ok__law_comes T) hr (fa_cons (fe_var 0) (fa_cons (fe_sl (fe_var 5) (fo_yes (fe_un un_neg und_neg fe_int)) fo_no) (fa_cons (fe_ix (ix_A (K := K) (u1 hr.units)) opd_ix (fe_var 6) fe_int) fa_nil))))))) (fun _ _ _ _ _ => (fe_op (op_addA K) opd_add (fe_var 5) (fe_ix (ix_A (K := K) (u1 hr.units)) opd_ix (fe_var 6) fe_int))) (blkOk_by (own := [("_law_one", 6)]) (N := n__law_words) (sc := defScope s__law_words) (by decide +kernel))))))
(fss_cons (fs_asg (L := [4]) (fe_var 4) (fg_name 1 c__law_words.nd))
(fss_one (fs_ext (L := []) 2 (fe_comp [("_law_text", 5)] c__law_words.nd (fi_any (fe_var 1)) (fun _ _ _ _ _ => (fg_name 5 c__law_words.nd)) (fun _ _ _ _ _ => (fts_one (ft_tru (fe_call (ok__law_is_word T) hr (fa_cons (fe_var 0) (fa_cons (fe_var 5) fa_nil)))))) (fun _ _ _ _ _ => (fe_var 5)) (blkOk_by (own := [("_law_text", 5)]) (N := n__law_words) (sc := defScope s__law_words) (by decide +kernel)))))))))
(fss_one (fs_ret (L := [2]) (fe_var 2))))))

noncomputable def B__law_clashes : Env → Out := (sRet [] (eOp dNe (eComp [2] (iAny (eVar 0)) (tgN 2) (bOr (bT (eM isStr dStarts (eVar 2) (aCons (eVar 1) aNil))) (bT (eM isStr dStarts (eVar 1) (aCons (eVar 2) aNil)))) (eVar 2)) (eLst aNil)))
theorem B__law_clashes_u (ρ : Env) : B__law_clashes ρ = (sRet [] (eOp dNe (eComp [2] (iAny (eVar 0)) (tgN 2) (bOr (bT (eM isStr dStarts (eVar 2) (aCons (eVar 1) aNil))) (bT (eM isStr dStarts (eVar 1) (aCons (eVar 2) aNil)))) (eVar 2)) (eLst aNil))) ρ := rfl
noncomputable def F__law_clashes : List D → Res D := runD (["_law_book", "_law_word"] : List Str).length n__law_clashes.length B__law_clashes
theorem ok__law_clashes {P : Program} {w : World} {K : PySem.W.Frag} {mg : Str → Option Value} {base : Heap} (T : Txt K mg) : OkF P w K mg base CX0 (0 + 1) "_law_clashes" ["_law_book", "_law_word"] (sp0 K F__law_clashes) :=
  ok0 (g := B__law_clashes) T.f__law_clashes c__law_clashes fun f cdv A outer s H E hr => 
(fss_one (fs_ret (L := []) (fe_cmp (op_neA (K := K) hr.units) opd_ne (fe_comp [("_law_one", 2)] c__law_clashes.nd (fi_any (fe_var 0)) (fun _ _ _ _ _ => (fg_name 2 c__law_clashes.nd)) (fun _ _ _ _ _ => (fts_one (ft_w (fw_or (ft_tru (fe_m PySem.F.plainAttrs_str PySem.F.slot_str_startswith PySem.F.type_str_startswith mt_startswith md_starts (fe_var 2) (fa_cons (fe_var 1) fa_nil))) (fw_or1 (ft_tru (fe_m PySem.F.plainAttrs_str PySem.F.slot_str_startswith PySem.F.type_str_startswith mt_startswith md_starts (fe_var 1) (fa_cons (fe_var 2) fa_nil)))))))) (fun _ _ _ _ _ => (fe_var 2)) (blkOk_by (own := [("_law_one", 2)]) (N := n__law_clashes) (sc := defScope s__law_clashes) (by decide +kernel))) (fe_lst fa_nil))))

noncomputable def B__law_world_1 : Env → Out := (sSeq (sOwn 5 [] (eCall F__law_source (aCons (eCall F__law_cell (aCons (eVar 0) (aCons (eVar 4) aNil))) (aCons (eVar 4) aNil))))
(sSeq (sAsgM (mIO 0 5 F__law_draw (mCons (mOp dAdd (mP [] (eC (.int 1))) (mIO 0 5 F__law_draw (mAP [] (aCons (eCall dLen (aCons (eVar 2) aNil)) aNil)))) mNil)) (tgN 6))
(sSeq (sAsgM (mOp dIx (mP [] (eVar 2)) (mOp dIx (mP [] (eLst (aCons (eVar 6) (aCons (eOp dSub (eOp dSub (eCall dLen (aCons (eVar 2) aNil)) (eC (.int 1))) (eVar 6)) (aCons (eOp dSub (eOp dSub (eCall dLen (aCons (eVar 2) aNil)) (eC (.int 1))) (eVar 6)) aNil))))) (mIO 0 5 F__law_draw (mAP [] (aCons (eC (.int 3)) aNil))))) (tgN 7))
(sIf [3] (bAnd (bT (eOp dLt (eCall dLen (aCons (eVar 3) aNil)) (eC (.int 20)))) (bNot (bT (eCall F__law_clashes (aCons (eVar 3) (aCons (eVar 7) aNil))))))
(need 3 (sApp 3 [] (eVar 7)))
sPass))))
theorem B__law_world_1_u (ρ : Env) : B__law_world_1 ρ = (sSeq (sOwn 5 [] (eCall F__law_source (aCons (eCall F__law_cell (aCons (eVar 0) (aCons (eVar 4) aNil))) (aCons (eVar 4) aNil))))
(sSeq (sAsgM (mIO 0 5 F__law_draw (mCons (mOp dAdd (mP [] (eC (.int 1))) (mIO 0 5 F__law_draw (mAP [] (aCons (eCall dLen (aCons (eVar 2) aNil)) aNil)))) mNil)) (tgN 6))
(sSeq (sAsgM (mOp dIx (mP [] (eVar 2)) (mOp dIx (mP [] (eLst (aCons (eVar 6) (aCons (eOp dSub (eOp dSub (eCall dLen (aCons (eVar 2) aNil)) (eC (.int 1))) (eVar 6)) (aCons (eOp dSub (eOp dSub (eCall dLen (aCons (eVar 2) aNil)) (eC (.int 1))) (eVar 6)) aNil))))) (mIO 0 5 F__law_draw (mAP [] (aCons (eC (.int 3)) aNil))))) (tgN 7))
(sIf [3] (bAnd (bT (eOp dLt (eCall dLen (aCons (eVar 3) aNil)) (eC (.int 20)))) (bNot (bT (eCall F__law_clashes (aCons (eVar 3) (aCons (eVar 7) aNil))))))
(need 3 (sApp 3 [] (eVar 7)))
sPass)))) ρ := rfl
noncomputable def B__law_world : Env → Out := (sSeq (sAsg [] (eCall F__law_tongue (aCons (eVar 0) (aCons (eC (.int 0)) (aCons (eC (.int 4)) (aCons (eLst (aCons (eC (.int 4)) (aCons (eC (.int 4)) (aCons (eC (.int 4)) aNil)))) aNil))))) (tgN 1))
(sSeq (sAsg [] (eCall F__law_words (aCons (eVar 1) aNil)) (tgN 2))
(sSeq (sIf [] (bT (eOp dEq (eVar 2) (eLst aNil)))
(sSeq (sAsg [] (eTup (aCons (eComp [8, 9, 10] (iAny (eOp dIx (eVar 1) (eC (.int 0)))) (tgT [(tgN 8), (tgN 9), (tgN 10)]) bYes (eTup (aCons (eVar 8) (aCons (eVar 9) (aCons (eVar 9) aNil))))) (aCons (eLst aNil) (aCons (eLst aNil) (aCons (eOp dIx (eVar 1) (eC (.int 3))) aNil))))) (tgN 1))
(sAsg [] (eCall F__law_words (aCons (eVar 1) aNil)) (tgN 2)))
sPass)
(sSeq (sOwn 3 [] (eLst aNil))
(sSeq (sFor [] (iRange (aCons (eC (.int 2)) (aCons (eCall dMax2 (aCons (eC (.int 6)) (aCons (eCall dMin2 (aCons (eCall dLen (aCons (eVar 0) aNil)) (aCons (eC (.int 63)) aNil))) aNil))) aNil))) (tgN 4)
B__law_world_1
[4, 5, 6, 7])
(sRet [3] (eTup (aCons (eVar 1) (aCons (eVar 3) aNil)))))))))
theorem B__law_world_u (ρ : Env) : B__law_world ρ = (sSeq (sAsg [] (eCall F__law_tongue (aCons (eVar 0) (aCons (eC (.int 0)) (aCons (eC (.int 4)) (aCons (eLst (aCons (eC (.int 4)) (aCons (eC (.int 4)) (aCons (eC (.int 4)) aNil)))) aNil))))) (tgN 1))
(sSeq (sAsg [] (eCall F__law_words (aCons (eVar 1) aNil)) (tgN 2))
(sSeq (sIf [] (bT (eOp dEq (eVar 2) (eLst aNil)))
(sSeq (sAsg [] (eTup (aCons (eComp [8, 9, 10] (iAny (eOp dIx (eVar 1) (eC (.int 0)))) (tgT [(tgN 8), (tgN 9), (tgN 10)]) bYes (eTup (aCons (eVar 8) (aCons (eVar 9) (aCons (eVar 9) aNil))))) (aCons (eLst aNil) (aCons (eLst aNil) (aCons (eOp dIx (eVar 1) (eC (.int 3))) aNil))))) (tgN 1))
(sAsg [] (eCall F__law_words (aCons (eVar 1) aNil)) (tgN 2)))
sPass)
(sSeq (sOwn 3 [] (eLst aNil))
(sSeq (sFor [] (iRange (aCons (eC (.int 2)) (aCons (eCall dMax2 (aCons (eC (.int 6)) (aCons (eCall dMin2 (aCons (eCall dLen (aCons (eVar 0) aNil)) (aCons (eC (.int 63)) aNil))) aNil))) aNil))) (tgN 4)
B__law_world_1
[4, 5, 6, 7])
(sRet [3] (eTup (aCons (eVar 1) (aCons (eVar 3) aNil))))))))) ρ := rfl
noncomputable def F__law_world : List D → Res D := runD (["_law_script"] : List Str).length n__law_world.length B__law_world
theorem ok__law_world {P : Program} {w : World} {K : PySem.W.Frag} {mg : Str → Option Value} {base : Heap} (T : Txt K mg) : OkF P w K mg base CX0 (4 + 1) "_law_world" ["_law_script"] (sp0 K F__law_world) :=
  ok0 (g := B__law_world) T.f__law_world c__law_world fun f cdv A outer s H E hr => 
(fss_cons (fs_asg (L := []) (fe_call (ok__law_tongue T) hr (fa_cons (fe_var 0) (fa_cons fe_int (fa_cons fe_int (fa_cons (fe_lst (fa_cons fe_int (fa_cons fe_int (fa_cons fe_int fa_nil)))) fa_nil))))) (fg_name 1 c__law_world.nd))
(fss_cons (fs_asg (L := []) (fe_call (ok__law_words T) hr (fa_cons (fe_var 1) fa_nil)) (fg_name 2 c__law_world.nd))
(fss_cons (fs_if (L := []) (ft_cmp (op_eqA (K := K) hr.units) opd_eq gb_eq (fe_var 2) (fe_lst fa_nil))
(fss_cons (fs_asg (L := []) (fe_tup (fa_cons (fe_comp [("_law_sign", 8), ("_law_price_here", 9), ("_law_last", 10)] c__law_world.nd (fi_any (fe_ix (ix_A (K := K) (u1 hr.units)) opd_ix (fe_var 1) fe_int)) (fun _ _ _ _ _ => (fg_tup (fgs_cons (fg_name 8 c__law_world.nd) (fgs_cons (fg_name 9 c__law_world.nd) (fgs_cons (fg_name 10 c__law_world.nd) fgs_nil))))) (fun _ _ _ _ _ => fts_nil) (fun _ _ _ _ _ => (fe_tup (fa_cons (fe_var 8) (fa_cons (fe_var 9) (fa_cons (fe_var 9) fa_nil))))) (blkOk_by (own := [("_law_sign", 8), ("_law_price_here", 9), ("_law_last", 10)]) (N := n__law_world) (sc := defScope s__law_world) (by decide +kernel))) (fa_cons (fe_lst fa_nil) (fa_cons (fe_lst fa_nil) (fa_cons (fe_ix (ix_A (K := K) (u1 hr.units)) opd_ix (fe_var 1) fe_int) fa_nil))))) (fg_name 1 c__law_world.nd))
(fss_one (fs_asg (L := []) (fe_call (ok__law_words T) hr (fa_cons (fe_var 1) fa_nil)) (fg_name 2 c__law_world.nd))))
fss_nil)
(fss_cons (fs_own (L := []) 3 (fw_lst fa_nil) c__law_world.nd)
(fss_cons (fs_for (L := []) [4, 5, 6, 7] PassesOwn.never (fi_range2 T.b_range (fa_cons fe_int (fa_cons (fe_callB (call_max2 rfl) cd_max2 T.b_max (fa_cons fe_int (fa_cons (fe_callB (call_min2 rfl) cd_min2 T.b_min (fa_cons (fe_callB (cr_len (K := K)) cd_len T.b_len (fa_cons (fe_var 0) fa_nil)) (fa_cons fe_int fa_nil))) fa_nil))) fa_nil)) len2) (fg_name 4 c__law_world.nd)
(fss_cons (fs_own (L := []) 5 (fw_call (ok__law_source T) hr (fa_cons (fe_call (ok__law_cell T) hr (fa_cons (fe_var 0) (fa_cons (fe_var 4) fa_nil))) (fa_cons (fe_var 4) fa_nil))) c__law_world.nd)
(fss_cons (fs_asgM (me_io (ok__law_draw T) hr (mio_here 5 (ma_cons (me_op (op_addA K) opd_add (me_p (L := []) fe_int) (me_io (ok__law_draw T) hr (mio_here 5 (ma_p (L := []) (fa_cons (fe_callB (cr_len (K := K)) cd_len T.b_len (fa_cons (fe_var 2) fa_nil)) fa_nil))))) ma_nil))) (fg_name 6 c__law_world.nd))
(fss_cons (fs_asgM (me_ix (ix_A (K := K) (u1 hr.units)) opd_ix (me_p (L := []) (fe_var 2)) (me_ix (ix_A (K := K) (u1 hr.units)) opd_ix (me_p (L := []) (fe_lst (fa_cons (fe_var 6) (fa_cons (fe_op op_sub opd_sub (fe_op op_sub opd_sub (fe_callB (cr_len (K := K)) cd_len T.b_len (fa_cons (fe_var 2) fa_nil)) fe_int) (fe_var 6)) (fa_cons (fe_op op_sub opd_sub (fe_op op_sub opd_sub (fe_callB (cr_len (K := K)) cd_len T.b_len (fa_cons (fe_var 2) fa_nil)) fe_int) (fe_var 6)) fa_nil))))) (me_io (ok__law_draw T) hr (mio_here 5 (ma_p (L := []) (fa_cons fe_int fa_nil)))))) (fg_name 7 c__law_world.nd))
(fss_one (fs_if (L := [3]) (ft_w (fw_and (ft_cmp op_lt opd_lt gb_cmp (fe_callB (cr_len (K := K)) cd_len T.b_len (fa_cons (fe_var 3) fa_nil)) fe_int) (fw_and1 (ft_not (ft_tru (fe_call (ok__law_clashes T) hr (fa_cons (fe_var 3) (fa_cons (fe_var 7) fa_nil))))))))
(fss_one (fs_app (L := []) 3 (fe_var 7)))
fss_nil))))))
(fss_one (fs_ret (L := [3]) (fe_tup (fa_cons (fe_var 1) (fa_cons (fe_var 3) fa_nil))))))))))

noncomputable def B__law_bent_here : Env → Out := (sSeq (sAsg [] (eOp dIx (eVar 0) (eVar 1)) (tgT [(tgN 5), (tgN 6)]))
(sSeq (sAsgM (mOp dIx (mP [] (eVar 2)) (mIO 0 4 F__law_draw (mAP [] (aCons (eCall dLen (aCons (eVar 2) aNil)) aNil)))) (tgN 7))
(sSeq (sAsgM (mIO 0 4 F__law_draw (mAP [] (aCons (eOp dAdd (eVar 3) (eC (.int 1))) aNil))) (tgN 8))
(sSeq (sAsgM (mIO 0 4 F__law_draw (mAP [] (aCons (eC (.int 10)) aNil))) (tgN 9))
(sSeq (sIf [] (bT (eOp dEq (eVar 9) (eC (.int 6))))
(sRet [] (eUn dRev (eVar 0)))
sPass)
(sSeq (sIf [] (bT (eOp dEq (eVar 9) (eC (.int 9))))
(sSeq (sAsgM (mIO 0 4 F__law_draw (mAP [] (aCons (eOp dAdd (eCall dLen (aCons (eVar 0) aNil)) (eC (.int 1))) aNil))) (tgN 10))
(sSeq (sAsgM (mOp dIx (mP [] (eLst (aCons (eVar 8) (aCons (eVar 8) (aCons (eLst aNil) (aCons (eC (.bl true)) aNil)))))) (mIO 0 4 F__law_draw (mAP [] (aCons (eC (.int 4)) aNil)))) (tgN 11))
(sRet [] (eOp dAdd (eOp dAdd (eSl (eVar 0) pNo (pYes (eVar 10))) (eLst (aCons (eTup (aCons (eVar 7) (aCons (eVar 11) aNil))) aNil))) (eSl (eVar 0) (pYes (eVar 10)) pNo)))))
sPass)
(sSeq (sAsg [] (eLst (aCons (eLst (aCons (eTup (aCons (eVar 7) (aCons (eVar 6) aNil))) aNil)) (aCons (eLst (aCons (eTup (aCons (eVar 5) (aCons (eLst (aCons (eTup (aCons (eVar 7) (aCons (eVar 6) aNil))) aNil)) aNil))) aNil)) (aCons (eLst (aCons (eTup (aCons (eVar 5) (aCons (eVar 8) aNil))) aNil)) (aCons (eLst aNil) (aCons (eLst (aCons (eTup (aCons (eVar 5) (aCons (eVar 6) aNil))) (aCons (eTup (aCons (eVar 7) (aCons (eVar 6) aNil))) aNil))) aNil)))))) (tgN 12))
(sSeq (sAsg [] (eOp dIx (eVar 12) (eCall dMin2 (aCons (eVar 9) (aCons (eC (.int 4)) aNil)))) (tgN 13))
(sSeq (sIf [] (bAnd (bT (eOp dEq (eVar 9) (eC (.int 5)))) (bAnd (bT (eIsi "list" (eVar 6))) (bT (eOp dNe (eVar 6) (eLst aNil)))))
(sAsg [] (eLst (aCons (eTup (aCons (eVar 5) (aCons (eOp dIx (eOp dIx (eVar 6) (eC (.int 0))) (eC (.int 1))) aNil))) aNil)) (tgN 13))
sPass)
(sSeq (sIf [] (bT (eOp dEq (eVar 9) (eC (.int 7))))
(sAsg [] (eLst (aCons (eTup (aCons (eVar 5) (aCons (eC (.bl true)) aNil))) aNil)) (tgN 13))
sPass)
(sSeq (sIf [] (bT (eOp dEq (eVar 9) (eC (.int 8))))
(sAsg [] (eLst (aCons (eTup (aCons (eVar 5) (aCons (eLst aNil) aNil))) aNil)) (tgN 13))
sPass)
(sRet [] (eOp dAdd (eOp dAdd (eSl (eVar 0) pNo (pYes (eVar 1))) (eVar 13)) (eSl (eVar 0) (pYes (eOp dAdd (eVar 1) (eC (.int 1)))) pNo))))))))))))))
theorem B__law_bent_here_u (ρ : Env) : B__law_bent_here ρ = (sSeq (sAsg [] (eOp dIx (eVar 0) (eVar 1)) (tgT [(tgN 5), (tgN 6)]))
(sSeq (sAsgM (mOp dIx (mP [] (eVar 2)) (mIO 0 4 F__law_draw (mAP [] (aCons (eCall dLen (aCons (eVar 2) aNil)) aNil)))) (tgN 7))
(sSeq (sAsgM (mIO 0 4 F__law_draw (mAP [] (aCons (eOp dAdd (eVar 3) (eC (.int 1))) aNil))) (tgN 8))
(sSeq (sAsgM (mIO 0 4 F__law_draw (mAP [] (aCons (eC (.int 10)) aNil))) (tgN 9))
(sSeq (sIf [] (bT (eOp dEq (eVar 9) (eC (.int 6))))
(sRet [] (eUn dRev (eVar 0)))
sPass)
(sSeq (sIf [] (bT (eOp dEq (eVar 9) (eC (.int 9))))
(sSeq (sAsgM (mIO 0 4 F__law_draw (mAP [] (aCons (eOp dAdd (eCall dLen (aCons (eVar 0) aNil)) (eC (.int 1))) aNil))) (tgN 10))
(sSeq (sAsgM (mOp dIx (mP [] (eLst (aCons (eVar 8) (aCons (eVar 8) (aCons (eLst aNil) (aCons (eC (.bl true)) aNil)))))) (mIO 0 4 F__law_draw (mAP [] (aCons (eC (.int 4)) aNil)))) (tgN 11))
(sRet [] (eOp dAdd (eOp dAdd (eSl (eVar 0) pNo (pYes (eVar 10))) (eLst (aCons (eTup (aCons (eVar 7) (aCons (eVar 11) aNil))) aNil))) (eSl (eVar 0) (pYes (eVar 10)) pNo)))))
sPass)
(sSeq (sAsg [] (eLst (aCons (eLst (aCons (eTup (aCons (eVar 7) (aCons (eVar 6) aNil))) aNil)) (aCons (eLst (aCons (eTup (aCons (eVar 5) (aCons (eLst (aCons (eTup (aCons (eVar 7) (aCons (eVar 6) aNil))) aNil)) aNil))) aNil)) (aCons (eLst (aCons (eTup (aCons (eVar 5) (aCons (eVar 8) aNil))) aNil)) (aCons (eLst aNil) (aCons (eLst (aCons (eTup (aCons (eVar 5) (aCons (eVar 6) aNil))) (aCons (eTup (aCons (eVar 7) (aCons (eVar 6) aNil))) aNil))) aNil)))))) (tgN 12))
(sSeq (sAsg [] (eOp dIx (eVar 12) (eCall dMin2 (aCons (eVar 9) (aCons (eC (.int 4)) aNil)))) (tgN 13))
(sSeq (sIf [] (bAnd (bT (eOp dEq (eVar 9) (eC (.int 5)))) (bAnd (bT (eIsi "list" (eVar 6))) (bT (eOp dNe (eVar 6) (eLst aNil)))))
(sAsg [] (eLst (aCons (eTup (aCons (eVar 5) (aCons (eOp dIx (eOp dIx (eVar 6) (eC (.int 0))) (eC (.int 1))) aNil))) aNil)) (tgN 13))
sPass)
(sSeq (sIf [] (bT (eOp dEq (eVar 9) (eC (.int 7))))
(sAsg [] (eLst (aCons (eTup (aCons (eVar 5) (aCons (eC (.bl true)) aNil))) aNil)) (tgN 13))
sPass)
(sSeq (sIf [] (bT (eOp dEq (eVar 9) (eC (.int 8))))
(sAsg [] (eLst (aCons (eTup (aCons (eVar 5) (aCons (eLst aNil) aNil))) aNil)) (tgN 13))
sPass)
(sRet [] (eOp dAdd (eOp dAdd (eSl (eVar 0) pNo (pYes (eVar 1))) (eVar 13)) (eSl (eVar 0) (pYes (eOp dAdd (eVar 1) (eC (.int 1)))) pNo)))))))))))))) ρ := rfl
noncomputable def F__law_bent_here : List D → Res (D × D) := runIO (["_law_rows", "_law_at", "_law_names", "_law_many", "_law_source_here"] : List Str).length n__law_bent_here.length 4 B__law_bent_here
theorem ok__law_bent_here {P : Program} {w : World} {K : PySem.W.Frag} {mg : Str → Option Value} {base : Heap} (T : Txt K mg) : OkF P w K mg base CX0 (1 + 1) "_law_bent_here" ["_law_rows", "_law_at", "_law_names", "_law_many", "_law_source_here"] (spIO K 4 F__law_bent_here) :=
  okIO 4 (g := B__law_bent_here) T.f__law_bent_here c__law_bent_here fun f cdv A outer s H E hr => 
(fss_cons (fs_asg (L := []) (fe_ix (ix_A (K := K) (u1 hr.units)) opd_ix (fe_var 0) (fe_var 1)) (fg_tup (fgs_cons (fg_name 5 c__law_bent_here.nd) (fgs_cons (fg_name 6 c__law_bent_here.nd) fgs_nil))))
(fss_cons (fs_asgM (me_ix (ix_A (K := K) (u1 hr.units)) opd_ix (me_p (L := []) (fe_var 2)) (me_io (ok__law_draw T) hr (mio_here 4 (ma_p (L := []) (fa_cons (fe_callB (cr_len (K := K)) cd_len T.b_len (fa_cons (fe_var 2) fa_nil)) fa_nil))))) (fg_name 7 c__law_bent_here.nd))
(fss_cons (fs_asgM (me_io (ok__law_draw T) hr (mio_here 4 (ma_p (L := []) (fa_cons (fe_op (op_addA K) opd_add (fe_var 3) fe_int) fa_nil)))) (fg_name 8 c__law_bent_here.nd))
(fss_cons (fs_asgM (me_io (ok__law_draw T) hr (mio_here 4 (ma_p (L := []) (fa_cons fe_int fa_nil)))) (fg_name 9 c__law_bent_here.nd))
(fss_cons (fs_if (L := []) (ft_cmp (op_eqA (K := K) hr.units) opd_eq gb_eq (fe_var 9) fe_int)
(fss_one (fs_ret (L := []) (fe_w (fw_rev (fe_var 0)))))
fss_nil)
(fss_cons (fs_if (L := []) (ft_cmp (op_eqA (K := K) hr.units) opd_eq gb_eq (fe_var 9) fe_int)
(fss_cons (fs_asgM (me_io (ok__law_draw T) hr (mio_here 4 (ma_p (L := []) (fa_cons (fe_op (op_addA K) opd_add (fe_callB (cr_len (K := K)) cd_len T.b_len (fa_cons (fe_var 0) fa_nil)) fe_int) fa_nil)))) (fg_name 10 c__law_bent_here.nd))
(fss_cons (fs_asgM (me_ix (ix_A (K := K) (u1 hr.units)) opd_ix (me_p (L := []) (fe_lst (fa_cons (fe_var 8) (fa_cons (fe_var 8) (fa_cons (fe_lst fa_nil) (fa_cons fe_bl fa_nil)))))) (me_io (ok__law_draw T) hr (mio_here 4 (ma_p (L := []) (fa_cons fe_int fa_nil))))) (fg_name 11 c__law_bent_here.nd))
(fss_one (fs_ret (L := []) (fe_op (op_addA K) opd_add (fe_op (op_addA K) opd_add (fe_sl (fe_var 0) fo_no (fo_yes (fe_var 10))) (fe_lst (fa_cons (fe_tup (fa_cons (fe_var 7) (fa_cons (fe_var 11) fa_nil))) fa_nil))) (fe_sl (fe_var 0) (fo_yes (fe_var 10)) fo_no))))))
fss_nil)
(fss_cons (fs_asg (L := []) (fe_lst (fa_cons (fe_lst (fa_cons (fe_tup (fa_cons (fe_var 7) (fa_cons (fe_var 6) fa_nil))) fa_nil)) (fa_cons (fe_lst (fa_cons (fe_tup (fa_cons (fe_var 5) (fa_cons (fe_lst (fa_cons (fe_tup (fa_cons (fe_var 7) (fa_cons (fe_var 6) fa_nil))) fa_nil)) fa_nil))) fa_nil)) (fa_cons (fe_lst (fa_cons (fe_tup (fa_cons (fe_var 5) (fa_cons (fe_var 8) fa_nil))) fa_nil)) (fa_cons (fe_lst fa_nil) (fa_cons (fe_lst (fa_cons (fe_tup (fa_cons (fe_var 5) (fa_cons (fe_var 6) fa_nil))) (fa_cons (fe_tup (fa_cons (fe_var 7) (fa_cons (fe_var 6) fa_nil))) fa_nil))) fa_nil)))))) (fg_name 12 c__law_bent_here.nd))
(fss_cons (fs_asg (L := []) (fe_ix (ix_A (K := K) (u1 hr.units)) opd_ix (fe_var 12) (fe_callB (call_min2 rfl) cd_min2 T.b_min (fa_cons (fe_var 9) (fa_cons fe_int fa_nil)))) (fg_name 13 c__law_bent_here.nd))
(fss_cons (fs_if (L := []) (ft_w (fw_and (ft_cmp (op_eqA (K := K) hr.units) opd_eq gb_eq (fe_var 9) fe_int) (fw_and (ft_tru (fe_isi (t := "list") tn_list (fe_var 6) (pe_bltn (v := .ty "list") (by rfl) T.b_list (by decide +kernel) rfl) T.b_isinstance)) (fw_and1 (ft_cmp (op_neA (K := K) hr.units) opd_ne gb_ne (fe_var 6) (fe_lst fa_nil))))))
(fss_one (fs_asg (L := []) (fe_lst (fa_cons (fe_tup (fa_cons (fe_var 5) (fa_cons (fe_ix (ix_A (K := K) (u1 hr.units)) opd_ix (fe_ix (ix_A (K := K) (u1 hr.units)) opd_ix (fe_var 6) fe_int) fe_int) fa_nil))) fa_nil)) (fg_name 13 c__law_bent_here.nd)))
fss_nil)
(fss_cons (fs_if (L := []) (ft_cmp (op_eqA (K := K) hr.units) opd_eq gb_eq (fe_var 9) fe_int)
(fss_one (fs_asg (L := []) (fe_lst (fa_cons (fe_tup (fa_cons (fe_var 5) (fa_cons fe_bl fa_nil))) fa_nil)) (fg_name 13 c__law_bent_here.nd)))
fss_nil)
(fss_cons (fs_if (L := []) (ft_cmp (op_eqA (K := K) hr.units) opd_eq gb_eq (fe_var 9) fe_int)
(fss_one (fs_asg (L := []) (fe_lst (fa_cons (fe_tup (fa_cons (fe_var 5) (fa_cons (fe_lst fa_nil) fa_nil))) fa_nil)) (fg_name 13 c__law_bent_here.nd)))
fss_nil)
(fss_one (fs_ret (L := []) (fe_op (op_addA K) opd_add (fe_op (op_addA K) opd_add (fe_sl (fe_var 0) fo_no (fo_yes (fe_var 1))) (fe_var 13)) (fe_sl (fe_var 0) (fo_yes (fe_op (op_addA K) opd_add (fe_var 1) fe_int)) fo_no)))))))))))))))

end Du

namespace Du
open PySem PySem.Spec PyProof.Rows L2 Dear
noncomputable def B__law_grown_1 (rec : List D → Res D) : Env → Out := (sSeq (sOwn 4 [] (eComp [5, 6] (iAny (eVar 1)) (tgT [(tgN 5), (tgN 6)]) (bT (eOp dEq (eSl (eVar 5) pNo (pYes (eC (.int 1)))) (eVar 3))) (eTup (aCons (eSl (eVar 5) (pYes (eC (.int 1))) pNo) (aCons (eVar 6) aNil)))))
(sIf [4] (bT (eOp dNe (eComp [5, 6] (iAny (eVar 4)) (tgT [(tgN 5), (tgN 6)]) (bT (eOp dEq (eVar 5) (eC (.str "")))) (eVar 5)) (eLst aNil)))
(need 2 (sApp 2 [4] (eTup (aCons (eVar 3) (aCons (eOp dIx (eOp dIx (eVar 4) (eC (.int 0))) (eC (.int 1))) aNil)))))
(sIf [4] (bT (eOp dNe (eVar 4) (eLst aNil)))
(need 2 (sApp 2 [4] (eTup (aCons (eVar 3) (aCons (eCall rec (aCons (eVar 0) (aCons (eVar 4) aNil))) aNil)))))
sPass)))
theorem B__law_grown_1_u (rec : List D → Res D) (ρ : Env) : B__law_grown_1 rec ρ = (sSeq (sOwn 4 [] (eComp [5, 6] (iAny (eVar 1)) (tgT [(tgN 5), (tgN 6)]) (bT (eOp dEq (eSl (eVar 5) pNo (pYes (eC (.int 1)))) (eVar 3))) (eTup (aCons (eSl (eVar 5) (pYes (eC (.int 1))) pNo) (aCons (eVar 6) aNil)))))
(sIf [4] (bT (eOp dNe (eComp [5, 6] (iAny (eVar 4)) (tgT [(tgN 5), (tgN 6)]) (bT (eOp dEq (eVar 5) (eC (.str "")))) (eVar 5)) (eLst aNil)))
(need 2 (sApp 2 [4] (eTup (aCons (eVar 3) (aCons (eOp dIx (eOp dIx (eVar 4) (eC (.int 0))) (eC (.int 1))) aNil)))))
(sIf [4] (bT (eOp dNe (eVar 4) (eLst aNil)))
(need 2 (sApp 2 [4] (eTup (aCons (eVar 3) (aCons (eCall rec (aCons (eVar 0) (aCons (eVar 4) aNil))) aNil)))))
sPass))) ρ := rfl
noncomputable def B__law_grown (rec : List D → Res D) : Env → Out := (sSeq (sOwn 2 [] (eLst aNil))
(sSeq (sFor [] (iAny (eVar 0)) (tgN 3)
(B__law_grown_1 rec)
[3, 4, 5, 6])
(sRet [2] (eVar 2))))
theorem B__law_grown_u (rec : List D → Res D) (ρ : Env) : B__law_grown rec ρ = (sSeq (sOwn 2 [] (eLst aNil))
(sSeq (sFor [] (iAny (eVar 0)) (tgN 3)
(B__law_grown_1 rec)
[3, 4, 5, 6])
(sRet [2] (eVar 2)))) ρ := rfl
noncomputable def F__law_grown : Nat → List D → Res D
  | 0 => fun _ => .bad
  | N + 1 => runD (["_law_names", "_law_ends"] : List Str).length n__law_grown.length (B__law_grown (F__law_grown N))
theorem ok__law_grown {P : Program} {w : World} {K : PySem.W.Frag} {mg : Str → Option Value} {base : Heap} (T : Txt K mg) : ∀ N, OkF P w K mg base CX0 (N + 1) "_law_grown" ["_law_names", "_law_ends"] (sp0 K (F__law_grown N))
  | 0 => T.f__law_grown.ok c__law_grown (fun vs H Q E h => by
    obtain ⟨_, _, h⟩ := h
    simp [F__law_grown] at h) (fun f cdv A outer s H vs Q E hr h => by
    obtain ⟨_, _, h⟩ := h
    simp [F__law_grown] at h)
  | N + 1 => ok0 (g := B__law_grown (F__law_grown N)) T.f__law_grown c__law_grown fun f cdv A outer s H E hr => 
(fss_cons (fs_own (L := []) 2 (fw_lst fa_nil) c__law_grown.nd)
(fss_cons (fs_for (L := []) [3, 4, 5, 6] PassesOwn.never (fi_any (fe_var 0)) (fg_name 3 c__law_grown.nd)
(fss_cons (fs_ownLc (L := []) 4 [("_law_rest", 5), ("_law_number", 6)] c__law_grown.nd (fi_any (fe_var 1)) (fun _ _ _ _ _ => (fg_tup (fgs_cons (fg_name 5 c__law_grown.nd) (fgs_cons (fg_name 6 c__law_grown.nd) fgs_nil)))) (fun _ _ _ _ _ => (fts_one (ft_cmp (op_eqA (K := K) hr.units) opd_eq gb_eq (fe_sl (fe_var 5) fo_no (fo_yes fe_int)) (fe_var 3)))) (fun _ _ _ _ _ => (fe_tup (fa_cons (fe_sl (fe_var 5) (fo_yes fe_int) fo_no) (fa_cons (fe_var 6) fa_nil)))) (blkOk_by (own := [("_law_rest", 5), ("_law_number", 6)]) (N := n__law_grown) (sc := defScope s__law_grown) (by decide +kernel)) (sw_true rfl rfl rfl (by decide +kernel)))
(fss_one (fs_if (L := [4]) (ft_cmp (op_neA (K := K) hr.units) opd_ne gb_ne (fe_comp [("_law_rest", 5), ("_law_number", 6)] c__law_grown.nd (fi_any (fe_var 4)) (fun _ _ _ _ _ => (fg_tup (fgs_cons (fg_name 5 c__law_grown.nd) (fgs_cons (fg_name 6 c__law_grown.nd) fgs_nil)))) (fun _ _ _ _ _ => (fts_one (ft_cmp (op_eqA (K := K) hr.units) opd_eq gb_eq (fe_var 5) fe_str))) (fun _ _ _ _ _ => (fe_var 5)) (blkOk_by (own := [("_law_rest", 5), ("_law_number", 6)]) (N := n__law_grown) (sc := defScope s__law_grown) (by decide +kernel))) (fe_lst fa_nil))
(fss_one (fs_app (L := [4]) 2 (fe_tup (fa_cons (fe_var 3) (fa_cons (fe_ix (ix_A (K := K) (u1 hr.units)) opd_ix (fe_ix (ix_A (K := K) (u1 hr.units)) opd_ix (fe_var 4) fe_int) fe_int) fa_nil)))))
(fss_one (fs_if (L := [4]) (ft_cmp (op_neA (K := K) hr.units) opd_ne gb_ne (fe_var 4) (fe_lst fa_nil))
(fss_one (fs_app (L := [4]) 2 (fe_tup (fa_cons (fe_var 3) (fa_cons (fe_call (hk := by omega) (ok__law_grown T N) hr (fa_cons (fe_var 0) (fa_cons (fe_var 4) fa_nil))) fa_nil)))))
fss_nil))))))
(fss_one (fs_ret (L := [2]) (fe_var 2)))))
end Du
namespace Du
open PySem PySem.Spec PyProof.Rows L2 Dear
noncomputable def B__law_tree : Env → Out := (sRet [] (eCall (F__law_grown 12) (aCons (eComp [2] (iAny (eOp dIx (eVar 0) (eC (.int 0)))) (tgN 2) bYes (eOp dIx (eVar 2) (eC (.int 0)))) (aCons (eComp [3, 4] (iEnumD (aCons (eVar 1) aNil)) (tgT [(tgN 3), (tgN 4)]) bYes (eTup (aCons (eVar 4) (aCons (eVar 3) aNil)))) aNil))))
theorem B__law_tree_u (ρ : Env) : B__law_tree ρ = (sRet [] (eCall (F__law_grown 12) (aCons (eComp [2] (iAny (eOp dIx (eVar 0) (eC (.int 0)))) (tgN 2) bYes (eOp dIx (eVar 2) (eC (.int 0)))) (aCons (eComp [3, 4] (iEnumD (aCons (eVar 1) aNil)) (tgT [(tgN 3), (tgN 4)]) bYes (eTup (aCons (eVar 4) (aCons (eVar 3) aNil)))) aNil)))) ρ := rfl
noncomputable def F__law_tree : List D → Res D := runD (["_law_tongue_here", "_law_book"] : List Str).length n__law_tree.length B__law_tree
theorem ok__law_tree {P : Program} {w : World} {K : PySem.W.Frag} {mg : Str → Option Value} {base : Heap} (T : Txt K mg) : OkF P w K mg base CX0 (13 + 1) "_law_tree" ["_law_tongue_here", "_law_book"] (sp0 K F__law_tree) :=
  ok0 (g := B__law_tree) T.f__law_tree c__law_tree fun f cdv A outer s H E hr => 
(fss_one (fs_ret (L := []) (fe_call (ok__law_grown T 12) hr (fa_cons (fe_comp [("_law_one", 2)] c__law_tree.nd (fi_any (fe_ix (ix_A (K := K) (u1 hr.units)) opd_ix (fe_var 0) fe_int)) (fun _ _ _ _ _ => (fg_name 2 c__law_tree.nd)) (fun _ _ _ _ _ => fts_nil) (fun _ _ _ _ _ => (fe_ix (ix_A (K := K) (u1 hr.units)) opd_ix (fe_var 2) fe_int)) (blkOk_by (own := [("_law_one", 2)]) (N := n__law_tree) (sc := defScope s__law_tree) (by decide +kernel))) (fa_cons (fe_comp [("_law_number", 3), ("_law_word", 4)] c__law_tree.nd (fi_enum T.b_enumerate (fa_cons (fe_var 1) fa_nil) len1) (fun _ _ _ _ _ => (fg_tup (fgs_cons (fg_name 3 c__law_tree.nd) (fgs_cons (fg_name 4 c__law_tree.nd) fgs_nil)))) (fun _ _ _ _ _ => fts_nil) (fun _ _ _ _ _ => (fe_tup (fa_cons (fe_var 4) (fa_cons (fe_var 3) fa_nil)))) (blkOk_by (own := [("_law_number", 3), ("_law_word", 4)]) (N := n__law_tree) (sc := defScope s__law_tree) (by decide +kernel))) fa_nil)))))

end Du
namespace Du
open PySem PySem.Spec PyProof.Rows L2 Dear
noncomputable def B__law_copied (rec : List D → Res D) : Env → Out := (sSeq (sIf [] (bT (eIsi "tuple" (eVar 0)))
(sRet [] (eCall dTuple (aCons (eComp [1] (iAny (eVar 0)) (tgN 1) bYes (eCall rec (aCons (eVar 1) aNil))) aNil)))
sPass)
(sSeq (sIf [] (bT (eIsi "list" (eVar 0)))
(sRet [] (eComp [1] (iAny (eVar 0)) (tgN 1) bYes (eCall rec (aCons (eVar 1) aNil))))
sPass)
(sRet [] (eVar 0))))
theorem B__law_copied_u (rec : List D → Res D) (ρ : Env) : B__law_copied rec ρ = (sSeq (sIf [] (bT (eIsi "tuple" (eVar 0)))
(sRet [] (eCall dTuple (aCons (eComp [1] (iAny (eVar 0)) (tgN 1) bYes (eCall rec (aCons (eVar 1) aNil))) aNil)))
sPass)
(sSeq (sIf [] (bT (eIsi "list" (eVar 0)))
(sRet [] (eComp [1] (iAny (eVar 0)) (tgN 1) bYes (eCall rec (aCons (eVar 1) aNil))))
sPass)
(sRet [] (eVar 0)))) ρ := rfl
noncomputable def F__law_copied : Nat → List D → Res D
  | 0 => fun _ => .bad
  | N + 1 => runD (["_law_thing"] : List Str).length n__law_copied.length (B__law_copied (F__law_copied N))
theorem ok__law_copied {P : Program} {w : World} {K : PySem.W.Frag} {mg : Str → Option Value} {base : Heap} (T : Txt K mg) : ∀ N, OkF P w K mg base CX0 (N + 1) "_law_copied" ["_law_thing"] (sp0 K (F__law_copied N))
  | 0 => T.f__law_copied.ok c__law_copied (fun vs H Q E h => by
    obtain ⟨_, _, h⟩ := h
    simp [F__law_copied] at h) (fun f cdv A outer s H vs Q E hr h => by
    obtain ⟨_, _, h⟩ := h
    simp [F__law_copied] at h)
  | N + 1 => ok0 (g := B__law_copied (F__law_copied N)) T.f__law_copied c__law_copied fun f cdv A outer s H E hr => 
(fss_cons (fs_if (L := []) (ft_tru (fe_isi (t := "tuple") tn_tuple (fe_var 0) (pe_bltn (v := .ty "tuple") (by rfl) T.b_tuple (by decide +kernel) rfl) T.b_isinstance))
(fss_one (fs_ret (L := []) (fe_callT (call_tuple_of_k K) cd_tuple T.b_tuple (fa_cons (fe_comp [("_law_part", 1)] c__law_copied.nd (fi_any (fe_var 0)) (fun _ _ _ _ _ => (fg_name 1 c__law_copied.nd)) (fun _ _ _ _ _ => fts_nil) (fun _ _ _ _ _ => (fe_call (hk := by omega) (ok__law_copied T N) hr (fa_cons (fe_var 1) fa_nil))) (blkOk_by (own := [("_law_part", 1)]) (N := n__law_copied) (sc := defScope s__law_copied) (by decide +kernel))) fa_nil))))
fss_nil)
(fss_cons (fs_if (L := []) (ft_tru (fe_isi (t := "list") tn_list (fe_var 0) (pe_bltn (v := .ty "list") (by rfl) T.b_list (by decide +kernel) rfl) T.b_isinstance))
(fss_one (fs_ret (L := []) (fe_comp [("_law_part", 1)] c__law_copied.nd (fi_any (fe_var 0)) (fun _ _ _ _ _ => (fg_name 1 c__law_copied.nd)) (fun _ _ _ _ _ => fts_nil) (fun _ _ _ _ _ => (fe_call (hk := by omega) (ok__law_copied T N) hr (fa_cons (fe_var 1) fa_nil))) (blkOk_by (own := [("_law_part", 1)]) (N := n__law_copied) (sc := defScope s__law_copied) (by decide +kernel)))))
fss_nil)
(fss_one (fs_ret (L := []) (fe_var 0)))))
end Du
namespace Du
open PySem PySem.Spec PyProof.Rows L2 Dear
noncomputable def B__law_turned_1 (rec : List D → Res D) : Env → Out := (sIf [] (bT (eIsi "list" (eVar 5)))
(need 3 (sApp 3 [] (eTup (aCons (eVar 4) (aCons (eCall rec (aCons (eVar 5) (aCons (eVar 1) (aCons (eVar 2) aNil)))) aNil)))))
(need 3 (sApp 3 [] (eTup (aCons (eVar 4) (aCons (eOp dMod (eOp dAdd (eVar 5) (eVar 2)) (eVar 1)) aNil))))))
theorem B__law_turned_1_u (rec : List D → Res D) (ρ : Env) : B__law_turned_1 rec ρ = (sIf [] (bT (eIsi "list" (eVar 5)))
(need 3 (sApp 3 [] (eTup (aCons (eVar 4) (aCons (eCall rec (aCons (eVar 5) (aCons (eVar 1) (aCons (eVar 2) aNil)))) aNil)))))
(need 3 (sApp 3 [] (eTup (aCons (eVar 4) (aCons (eOp dMod (eOp dAdd (eVar 5) (eVar 2)) (eVar 1)) aNil)))))) ρ := rfl
noncomputable def B__law_turned (rec : List D → Res D) : Env → Out := (sSeq (sOwn 3 [] (eLst aNil))
(sSeq (sFor [] (iAny (eVar 0)) (tgT [(tgN 4), (tgN 5)])
(B__law_turned_1 rec)
[4, 5])
(sRet [3] (eVar 3))))
theorem B__law_turned_u (rec : List D → Res D) (ρ : Env) : B__law_turned rec ρ = (sSeq (sOwn 3 [] (eLst aNil))
(sSeq (sFor [] (iAny (eVar 0)) (tgT [(tgN 4), (tgN 5)])
(B__law_turned_1 rec)
[4, 5])
(sRet [3] (eVar 3)))) ρ := rfl
noncomputable def F__law_turned : Nat → List D → Res D
  | 0 => fun _ => .bad
  | N + 1 => runD (["_law_rows", "_law_many", "_law_by"] : List Str).length n__law_turned.length (B__law_turned (F__law_turned N))
theorem ok__law_turned {P : Program} {w : World} {K : PySem.W.Frag} {mg : Str → Option Value} {base : Heap} (T : Txt K mg) : ∀ N, OkF P w K mg base CX0 (N + 1) "_law_turned" ["_law_rows", "_law_many", "_law_by"] (sp0 K (F__law_turned N))
  | 0 => T.f__law_turned.ok c__law_turned (fun vs H Q E h => by
    obtain ⟨_, _, h⟩ := h
    simp [F__law_turned] at h) (fun f cdv A outer s H vs Q E hr h => by
    obtain ⟨_, _, h⟩ := h
    simp [F__law_turned] at h)
  | N + 1 => ok0 (g := B__law_turned (F__law_turned N)) T.f__law_turned c__law_turned fun f cdv A outer s H E hr => 
(fss_cons (fs_own (L := []) 3 (fw_lst fa_nil) c__law_turned.nd)
(fss_cons (fs_for (L := []) [4, 5] PassesOwn.never (fi_any (fe_var 0)) (fg_tup (fgs_cons (fg_name 4 c__law_turned.nd) (fgs_cons (fg_name 5 c__law_turned.nd) fgs_nil)))
(fss_one (fs_if (L := []) (ft_tru (fe_isi (t := "list") tn_list (fe_var 5) (pe_bltn (v := .ty "list") (by rfl) T.b_list (by decide +kernel) rfl) T.b_isinstance))
(fss_one (fs_app (L := []) 3 (fe_tup (fa_cons (fe_var 4) (fa_cons (fe_call (hk := by omega) (ok__law_turned T N) hr (fa_cons (fe_var 5) (fa_cons (fe_var 1) (fa_cons (fe_var 2) fa_nil)))) fa_nil)))))
(fss_one (fs_app (L := []) 3 (fe_tup (fa_cons (fe_var 4) (fa_cons (fe_op op_mod opd_mod (fe_op (op_addA K) opd_add (fe_var 5) (fe_var 2)) (fe_var 1)) fa_nil))))))))
(fss_one (fs_ret (L := [3]) (fe_var 3)))))
end Du
namespace Du
open PySem PySem.Spec PyProof.Rows L2 Dear
noncomputable def B__law_bent (rec : List D → Res (D × D)) : Env → Out := (sSeq (sIf [] (bT (eOp dEq (eVar 0) (eLst aNil)))
(sRetM (mLst (mCons (mTup (mCons (mOp dIx (mP [] (eVar 1)) (mIO 0 3 F__law_draw (mAP [] (aCons (eCall dLen (aCons (eVar 1) aNil)) aNil)))) (mCons (mIO 0 3 F__law_draw (mAP [] (aCons (eVar 2) aNil))) mNil))) mNil)))
sPass)
(sSeq (sAsgM (mIO 0 3 F__law_draw (mAP [] (aCons (eCall dLen (aCons (eVar 0) aNil)) aNil))) (tgN 4))
(sSeq (sAsg [] (eOp dIx (eVar 0) (eVar 4)) (tgT [(tgN 5), (tgN 6)]))
(sSeq (sIfM (mAnd (mB [] (bT (eIsi "list" (eVar 6)))) (mTest (mOp dEq (mIO 0 3 F__law_draw (mAP [] (aCons (eC (.int 2)) aNil))) (mP [] (eC (.int 1))))))
(sRetM (mOp dAdd (mOp dAdd (mP [] (eSl (eVar 0) pNo (pYes (eVar 4)))) (mLst (mCons (mTup (mCons (mP [] (eVar 5)) (mCons (mIO 3 3 rec (mCons (mP [] (eVar 6)) (mCons (mP [] (eVar 1)) (mCons (mP [] (eVar 2)) (mAP [] aNil))))) mNil))) mNil))) (mP [] (eSl (eVar 0) (pYes (eOp dAdd (eVar 4) (eC (.int 1)))) pNo))))
sPass)
(sRetM (mIO 4 3 F__law_bent_here (mCons (mP [] (eVar 0)) (mCons (mP [] (eVar 4)) (mCons (mP [] (eVar 1)) (mCons (mP [] (eVar 2)) (mAP [] aNil)))))))))))
theorem B__law_bent_u (rec : List D → Res (D × D)) (ρ : Env) : B__law_bent rec ρ = (sSeq (sIf [] (bT (eOp dEq (eVar 0) (eLst aNil)))
(sRetM (mLst (mCons (mTup (mCons (mOp dIx (mP [] (eVar 1)) (mIO 0 3 F__law_draw (mAP [] (aCons (eCall dLen (aCons (eVar 1) aNil)) aNil)))) (mCons (mIO 0 3 F__law_draw (mAP [] (aCons (eVar 2) aNil))) mNil))) mNil)))
sPass)
(sSeq (sAsgM (mIO 0 3 F__law_draw (mAP [] (aCons (eCall dLen (aCons (eVar 0) aNil)) aNil))) (tgN 4))
(sSeq (sAsg [] (eOp dIx (eVar 0) (eVar 4)) (tgT [(tgN 5), (tgN 6)]))
(sSeq (sIfM (mAnd (mB [] (bT (eIsi "list" (eVar 6)))) (mTest (mOp dEq (mIO 0 3 F__law_draw (mAP [] (aCons (eC (.int 2)) aNil))) (mP [] (eC (.int 1))))))
(sRetM (mOp dAdd (mOp dAdd (mP [] (eSl (eVar 0) pNo (pYes (eVar 4)))) (mLst (mCons (mTup (mCons (mP [] (eVar 5)) (mCons (mIO 3 3 rec (mCons (mP [] (eVar 6)) (mCons (mP [] (eVar 1)) (mCons (mP [] (eVar 2)) (mAP [] aNil))))) mNil))) mNil))) (mP [] (eSl (eVar 0) (pYes (eOp dAdd (eVar 4) (eC (.int 1)))) pNo))))
sPass)
(sRetM (mIO 4 3 F__law_bent_here (mCons (mP [] (eVar 0)) (mCons (mP [] (eVar 4)) (mCons (mP [] (eVar 1)) (mCons (mP [] (eVar 2)) (mAP [] aNil))))))))))) ρ := rfl
noncomputable def F__law_bent : Nat → List D → Res (D × D)
  | 0 => fun _ => .bad
  | N + 1 => runIO (["_law_rows", "_law_names", "_law_many", "_law_source_here"] : List Str).length n__law_bent.length 3 (B__law_bent (F__law_bent N))
theorem ok__law_bent {P : Program} {w : World} {K : PySem.W.Frag} {mg : Str → Option Value} {base : Heap} (T : Txt K mg) : ∀ N, OkF P w K mg base CX0 (N + 2 + 1) "_law_bent" ["_law_rows", "_law_names", "_law_many", "_law_source_here"] (spIO K 3 (F__law_bent N))
  | 0 => T.f__law_bent.ok c__law_bent (fun vs H Q E h => by
    obtain ⟨_, _, h⟩ := h
    simp [F__law_bent] at h) (fun f cdv A outer s H vs Q E hr h => by
    obtain ⟨_, _, h⟩ := h
    simp [F__law_bent] at h)
  | N + 1 => okIO 3 (g := B__law_bent (F__law_bent N)) T.f__law_bent c__law_bent fun f cdv A outer s H E hr => 
(fss_cons (fs_if (L := []) (ft_cmp (op_eqA (K := K) hr.units) opd_eq gb_eq (fe_var 0) (fe_lst fa_nil))
(fss_one (fs_retM (me_lst (ma_cons (me_tup (ma_cons (me_ix (ix_A (K := K) (u1 hr.units)) opd_ix (me_p (L := []) (fe_var 1)) (me_io (hk := by omega) (ok__law_draw T) hr (mio_here 3 (ma_p (L := []) (fa_cons (fe_callB (cr_len (K := K)) cd_len T.b_len (fa_cons (fe_var 1) fa_nil)) fa_nil))))) (ma_cons (me_io (hk := by omega) (ok__law_draw T) hr (mio_here 3 (ma_p (L := []) (fa_cons (fe_var 2) fa_nil)))) ma_nil))) ma_nil))))
fss_nil)
(fss_cons (fs_asgM (me_io (hk := by omega) (ok__law_draw T) hr (mio_here 3 (ma_p (L := []) (fa_cons (fe_callB (cr_len (K := K)) cd_len T.b_len (fa_cons (fe_var 0) fa_nil)) fa_nil)))) (fg_name 4 c__law_bent.nd))
(fss_cons (fs_asg (L := []) (fe_ix (ix_A (K := K) (u1 hr.units)) opd_ix (fe_var 0) (fe_var 4)) (fg_tup (fgs_cons (fg_name 5 c__law_bent.nd) (fgs_cons (fg_name 6 c__law_bent.nd) fgs_nil))))
(fss_cons (fs_ifM (mt_w (mw_and (mt_p (L := []) (ft_tru (fe_isi (t := "list") tn_list (fe_var 6) (pe_bltn (v := .ty "list") (by rfl) T.b_list (by decide +kernel) rfl) T.b_isinstance))) (mw_and1 (mt_cmp (op_eqA (K := K) hr.units) opd_eq (me_io (hk := by omega) (ok__law_draw T) hr (mio_here 3 (ma_p (L := []) (fa_cons fe_int fa_nil)))) (me_p (L := []) fe_int)))))
(fss_one (fs_retM (me_op (op_addA K) opd_add (me_op (op_addA K) opd_add (me_p (L := []) (fe_sl (fe_var 0) fo_no (fo_yes (fe_var 4)))) (me_lst (ma_cons (me_tup (ma_cons (me_p (L := []) (fe_var 5)) (ma_cons (me_io (hk := by omega) (ok__law_bent T N) hr (mio_cons (me_p (L := []) (fe_var 6)) (mio_cons (me_p (L := []) (fe_var 1)) (mio_cons (me_p (L := []) (fe_var 2)) (mio_here 3 (ma_p (L := []) fa_nil)))))) ma_nil))) ma_nil))) (me_p (L := []) (fe_sl (fe_var 0) (fo_yes (fe_op (op_addA K) opd_add (fe_var 4) fe_int)) fo_no)))))
fss_nil)
(fss_one (fs_retM (me_io (hk := by omega) (ok__law_bent_here T) hr (mio_cons (me_p (L := []) (fe_var 0)) (mio_cons (me_p (L := []) (fe_var 4)) (mio_cons (me_p (L := []) (fe_var 1)) (mio_cons (me_p (L := []) (fe_var 2)) (mio_here 3 (ma_p (L := []) fa_nil)))))))))))))
end Du
namespace Du
open PySem PySem.Spec PyProof.Rows L2 Dear
noncomputable def B__law_reads_1 (rec : List D → Res (D × D)) : Env → Out := (sSeq (sAsg [] (eOp dAdd (eVar 3) (eVar 7)) (tgN 9))
(sSeq (sIf [5] (bOr (bT (eOp dLe (eM isLst dIndex (eVar 5) (aCons (eVar 7) aNil)) (eVar 6))) (bOr (bT (eIsi "bool" (eVar 8))) (bNot (bT (eCall F__law_stands (aCons (eVar 0) (aCons (eVar 9) aNil)))))))
(sRet [] (eC (.bl false)))
sPass)
(sSeq (sAsg [5] (eM isLst dIndex (eVar 5) (aCons (eVar 7) aNil)) (tgN 6))
(sIf [] (bT (eIsi "int" (eVar 8)))
(sSeq (sIf [4] (bOr (bNot (bT (eChain dLe dLt (eC (.int 0)) (eVar 8) (eVar 1)))) (bOr (bT (eOp (dIn false) (eVar 8) (eVar 4))) (bNot (bT (eCall F__law_is_word (aCons (eVar 0) (aCons (eVar 9) aNil)))))))
(sRet [] (eC (.bl false)))
sPass)
(sPutD 4 [] (eVar 9) (eVar 8)))
(sIfM (mNot (mTest (mIO 4 4 rec (mCons (mP [] (eVar 0)) (mCons (mP [] (eVar 1)) (mCons (mP [] (eVar 8)) (mCons (mP [] (eVar 9)) (mAP [] aNil))))))))
(sRet [] (eC (.bl false)))
sPass)))))
theorem B__law_reads_1_u (rec : List D → Res (D × D)) (ρ : Env) : B__law_reads_1 rec ρ = (sSeq (sAsg [] (eOp dAdd (eVar 3) (eVar 7)) (tgN 9))
(sSeq (sIf [5] (bOr (bT (eOp dLe (eM isLst dIndex (eVar 5) (aCons (eVar 7) aNil)) (eVar 6))) (bOr (bT (eIsi "bool" (eVar 8))) (bNot (bT (eCall F__law_stands (aCons (eVar 0) (aCons (eVar 9) aNil)))))))
(sRet [] (eC (.bl false)))
sPass)
(sSeq (sAsg [5] (eM isLst dIndex (eVar 5) (aCons (eVar 7) aNil)) (tgN 6))
(sIf [] (bT (eIsi "int" (eVar 8)))
(sSeq (sIf [4] (bOr (bNot (bT (eChain dLe dLt (eC (.int 0)) (eVar 8) (eVar 1)))) (bOr (bT (eOp (dIn false) (eVar 8) (eVar 4))) (bNot (bT (eCall F__law_is_word (aCons (eVar 0) (aCons (eVar 9) aNil)))))))
(sRet [] (eC (.bl false)))
sPass)
(sPutD 4 [] (eVar 9) (eVar 8)))
(sIfM (mNot (mTest (mIO 4 4 rec (mCons (mP [] (eVar 0)) (mCons (mP [] (eVar 1)) (mCons (mP [] (eVar 8)) (mCons (mP [] (eVar 9)) (mAP [] aNil))))))))
(sRet [] (eC (.bl false)))
sPass))))) ρ := rfl
noncomputable def B__law_reads (rec : List D → Res (D × D)) : Env → Out := (sSeq (sOwn 5 [] (eComp [10] (iAny (eOp dIx (eVar 0) (eC (.int 0)))) (tgN 10) bYes (eOp dIx (eVar 10) (eC (.int 0)))))
(sSeq (sIf [] (bOr (bNot (bT (eIsi "list" (eVar 2)))) (bT (eOp dEq (eVar 2) (eLst aNil))))
(sRet [] (eC (.bl false)))
sPass)
(sSeq (sAsg [] (eUn dNeg (eC (.int 1))) (tgN 6))
(sSeq (sFor [] (iAny (eVar 2)) (tgT [(tgN 7), (tgN 8)])
(B__law_reads_1 rec)
[7, 8, 9])
(sRet [] (eC (.bl true)))))))
theorem B__law_reads_u (rec : List D → Res (D × D)) (ρ : Env) : B__law_reads rec ρ = (sSeq (sOwn 5 [] (eComp [10] (iAny (eOp dIx (eVar 0) (eC (.int 0)))) (tgN 10) bYes (eOp dIx (eVar 10) (eC (.int 0)))))
(sSeq (sIf [] (bOr (bNot (bT (eIsi "list" (eVar 2)))) (bT (eOp dEq (eVar 2) (eLst aNil))))
(sRet [] (eC (.bl false)))
sPass)
(sSeq (sAsg [] (eUn dNeg (eC (.int 1))) (tgN 6))
(sSeq (sFor [] (iAny (eVar 2)) (tgT [(tgN 7), (tgN 8)])
(B__law_reads_1 rec)
[7, 8, 9])
(sRet [] (eC (.bl true))))))) ρ := rfl
noncomputable def F__law_reads : Nat → List D → Res (D × D)
  | 0 => fun _ => .bad
  | N + 1 => runIO (["_law_tongue_here", "_law_many", "_law_thing", "_law_begin", "_law_found"] : List Str).length n__law_reads.length 4 (B__law_reads (F__law_reads N))
theorem ok__law_reads {P : Program} {w : World} {K : PySem.W.Frag} {mg : Str → Option Value} {base : Heap} (T : Txt K mg) : ∀ N, OkF P w K mg base CX0 (N + 3 + 1) "_law_reads" ["_law_tongue_here", "_law_many", "_law_thing", "_law_begin", "_law_found"] (spIO K 4 (F__law_reads N))
  | 0 => T.f__law_reads.ok c__law_reads (fun vs H Q E h => by
    obtain ⟨_, _, h⟩ := h
    simp [F__law_reads] at h) (fun f cdv A outer s H vs Q E hr h => by
    obtain ⟨_, _, h⟩ := h
    simp [F__law_reads] at h)
  | N + 1 => okIO 4 (g := B__law_reads (F__law_reads N)) T.f__law_reads c__law_reads fun f cdv A outer s H E hr => have hu65 := u65 hr; 
(fss_cons (fs_ownLc (L := []) 5 [("_law_one", 10)] c__law_reads.nd (fi_any (fe_ix (ix_A (K := K) (u1 hr.units)) opd_ix (fe_var 0) fe_int)) (fun _ _ _ _ _ => (fg_name 10 c__law_reads.nd)) (fun _ _ _ _ _ => fts_nil) (fun _ _ _ _ _ => (fe_ix (ix_A (K := K) (u1 hr.units)) opd_ix (fe_var 10) fe_int)) (blkOk_by (own := [("_law_one", 10)]) (N := n__law_reads) (sc := defScope s__law_reads) (by decide +kernel)) (sw_true rfl rfl rfl (by decide +kernel)))
(fss_cons (fs_if (L := []) (ft_w (fw_or (ft_not (ft_tru (fe_isi (t := "list") tn_list (fe_var 2) (pe_bltn (v := .ty "list") (by rfl) T.b_list (by decide +kernel) rfl) T.b_isinstance))) (fw_or1 (ft_cmp (op_eqA (K := K) hr.units) opd_eq gb_eq (fe_var 2) (fe_lst fa_nil)))))
(fss_one (fs_ret (L := []) fe_bl))
fss_nil)
(fss_cons (fs_asg (L := []) (fe_un un_neg und_neg fe_int) (fg_name 6 c__law_reads.nd))
(fss_cons (fs_for (L := []) [7, 8, 9] PassesOwn.never (fi_any (fe_var 2)) (fg_tup (fgs_cons (fg_name 7 c__law_reads.nd) (fgs_cons (fg_name 8 c__law_reads.nd) fgs_nil)))
(fss_cons (fs_asg (L := []) (fe_op (op_addA K) opd_add (fe_var 3) (fe_var 7)) (fg_name 9 c__law_reads.nd))
(fss_cons (fs_if (L := [5]) (ft_w (fw_or (ft_cmp op_le opd_le gb_cmp (fe_m PySem.F.plainAttrs_list PySem.F.slot_list_index PySem.F.type_list_index (mt_index_k K) md_index (fe_var 5) (fa_cons (fe_var 7) fa_nil)) (fe_var 6)) (fw_or (ft_tru (fe_isi (t := "bool") tn_bool (fe_var 8) (pe_bltn (v := .ty "bool") (by rfl) T.b_bool (by decide +kernel) rfl) T.b_isinstance)) (fw_or1 (ft_not (ft_tru (fe_call (hk := by omega) (ok__law_stands T) hr (fa_cons (fe_var 0) (fa_cons (fe_var 9) fa_nil)))))))))
(fss_one (fs_ret (L := []) fe_bl))
fss_nil)
(fss_cons (fs_asg (L := [5]) (fe_m PySem.F.plainAttrs_list PySem.F.slot_list_index PySem.F.type_list_index (mt_index_k K) md_index (fe_var 5) (fa_cons (fe_var 7) fa_nil)) (fg_name 6 c__law_reads.nd))
(fss_one (fs_if (L := []) (ft_tru (fe_isi (t := "int") tn_int (fe_var 8) (pe_bltn (v := .ty "int") (by rfl) T.b_int (by decide +kernel) rfl) T.b_isinstance))
(fss_cons (fs_if (L := [4]) (ft_w (fw_or (ft_not (ft_chain op_le opd_le op_lt opd_lt gb_cmp fe_int (fe_var 8) (fe_var 1))) (fw_or (ft_cmp (op_inA (K := K) hu65) opd_inF gb_in (fe_var 8) (fe_var 4)) (fw_or1 (ft_not (ft_tru (fe_call (hk := by omega) (ok__law_is_word T) hr (fa_cons (fe_var 0) (fa_cons (fe_var 9) fa_nil)))))))))
(fss_one (fs_ret (L := []) fe_bl))
fss_nil)
(fss_one (fs_putD (L := []) 4 (u1 hr.units) (fe_var 9) (fe_var 8))))
(fss_one (fs_ifM (mt_not (mt_val (me_io (hk := by omega) (ok__law_reads T N) hr (mio_cons (me_p (L := []) (fe_var 0)) (mio_cons (me_p (L := []) (fe_var 1)) (mio_cons (me_p (L := []) (fe_var 8)) (mio_cons (me_p (L := []) (fe_var 9)) (mio_here 4 (ma_p (L := []) fa_nil)))))))))
(fss_one (fs_ret (L := []) fe_bl))
fss_nil))))))))
(fss_one (fs_ret (L := []) fe_bl))))))
end Du

namespace Du
open PySem PySem.Spec PyProof.Rows L2
/-! ### the functions, reckoned step by step: what is not known yet is not opened -/
section
variable {α β : Type} {g h : Env → Out} {ρ ρx : Env} {L : List Nat}
def seqK (h : Env → Out) : Out → Out
  | .nx ρ => h ρ
  | .bk ρ => .bk ρ
  | .ct ρ => .ct ρ
  | .rt d ρ => .rt d ρ
  | .ro d ρ => .ro d ρ
  | .ex x ρ => .ex x ρ
  | .bad => .bad
@[simp] theorem sSeq_e : sSeq g h ρ = seqK h (g ρ) := by unfold sSeq; cases g ρ <;> rfl
@[simp] theorem seqK_nx : seqK h (.nx ρ) = h ρ := id rfl
@[simp] theorem seqK_bk : seqK h (.bk ρ) = .bk ρ := id rfl
@[simp] theorem seqK_ct : seqK h (.ct ρ) = .ct ρ := id rfl
@[simp] theorem seqK_rt {d : D} : seqK h (.rt d ρ) = .rt d ρ := id rfl
@[simp] theorem seqK_ro {d : D} : seqK h (.ro d ρ) = .ro d ρ := id rfl
@[simp] theorem seqK_ex {x : Ex} : seqK h (.ex x ρ) = .ex x ρ := id rfl
@[simp] theorem seqK_bad : seqK h .bad = .bad := id rfl
def atR (k : α → Out) (ρx : Env) : Res α → Out
  | .ok a => k a
  | .exc x => .ex x ρx
  | .bad => .bad
@[simp] theorem atR_ok {k : α → Out} {a : α} : atR k ρx (.ok a) = k a := id rfl
@[simp] theorem atR_exc {k : α → Out} {x : Ex} : atR k ρx (.exc x) = .ex x ρx := id rfl
@[simp] theorem atR_bad {k : α → Out} : atR k ρx .bad = .bad := id rfl
theorem eAt_e {f : VEnv → Res α} {k : α → Out} : eAt L f ρ k = atR k (shut L ρ) (f (view L ρ)) := by unfold eAt atR; cases f (view L ρ) <;> rfl
def bd (f : α → Res β) : Res α → Res β
  | .ok a => f a
  | .exc x => .exc x
  | .bad => .bad
@[simp] theorem bd_ok {f : α → Res β} {a : α} : bd f (.ok a) = f a := id rfl
@[simp] theorem bd_exc {f : α → Res β} {x : Ex} : bd f (.exc x) = .exc x := id rfl
@[simp] theorem bd_bad {f : α → Res β} : bd f .bad = .bad := id rfl
/-! slots -/
@[simp] theorem view_e : view L ρ = viewI L 0 ρ := id rfl
@[simp] theorem viewI_nil {n : Nat} : viewI L n [] = [] := id rfl
@[simp] theorem viewI_none {n : Nat} : viewI L n (none :: ρ) = none :: viewI L (n + 1) ρ := id rfl
@[simp] theorem viewI_frz {n : Nat} {d : D} : viewI L n (some (.frz d) :: ρ) = some d :: viewI L (n + 1) ρ := id rfl
@[simp] theorem viewI_own {n : Nat} {t : Bool} {d : D} : viewI L n (some (.own t d) :: ρ) = (if L.contains n = true then some d else none) :: viewI L (n + 1) ρ := id rfl
@[simp] theorem shut_e : shut L ρ = shutI L 0 ρ := id rfl
@[simp] theorem shutI_nil {n : Nat} : shutI L n [] = [] := id rfl
@[simp] theorem shutI_none {n : Nat} : shutI L n (none :: ρ) = none :: shutI L (n + 1) ρ := id rfl
@[simp] theorem shutI_frz {n : Nat} {d : D} : shutI L n (some (.frz d) :: ρ) = some (.frz d) :: shutI L (n + 1) ρ := id rfl
@[simp] theorem shutI_own {n : Nat} {t : Bool} {d : D} : shutI L n (some (.own t d) :: ρ) = (if L.contains n = true then some (.frz d) else some (.own t d)) :: shutI L (n + 1) ρ := id rfl
@[simp] theorem aft_e {d : D} : aft L d ρ = if imm d = true then ρ else shut L ρ := id rfl
@[simp] theorem aftL_e {ds : List D} : aftL L ds ρ = if imms ds = true then ρ else shut L ρ := id rfl
@[simp] theorem aftO_e {d : D} : aftO L d ρ = if immO d = true then ρ else shut L ρ := id rfl
@[simp] theorem imm_non : imm .non = true := id rfl
@[simp] theorem imm_bl {b : Bool} : imm (.bl b) = true := id rfl
@[simp] theorem imm_int {i : Int} : imm (.int i) = true := id rfl
@[simp] theorem imm_str {z : Str} : imm (.str z) = true := id rfl
@[simp] theorem imm_lst {ds : List D} : imm (.lst ds) = false := id rfl
@[simp] theorem imm_scr {ds : List Int} : imm (.scr ds) = false := id rfl
@[simp] theorem imm_dct {t : Bool} {ds : List (D × D)} : imm (.dct t ds) = false := id rfl
@[simp] theorem imm_tup {ds : List D} : imm (.tup ds) = imms ds := id rfl
@[simp] theorem imms_nil : imms [] = true := id rfl
@[simp] theorem imms_cons {d : D} {ds : List D} : imms (d :: ds) = (imm d && imms ds) := id rfl
@[simp] theorem immO_lst {ds : List D} : immO (.lst ds) = imms ds := id rfl
@[simp] theorem immO_dct {t : Bool} {ds : List (D × D)} : immO (.dct t ds) = imms (ds.map (·.2)) := id rfl
@[simp] theorem setS_nil : setS ρ [] = ρ := id rfl
@[simp] theorem setS_cons {p : Nat × D} {ps : List (Nat × D)} : setS ρ (p :: ps) = setS (ρ.set p.1 (some (.frz p.2))) ps := id rfl
@[simp] theorem clr_nil : clr [] ρ = ρ := id rfl
@[simp] theorem clr_cons {i : Nat} {l : List Nat} : clr (i :: l) ρ = clr l (ρ.set i none) := id rfl
@[simp] theorem setAllD_nil {ρ : VEnv} : setAllD ρ [] = ρ := id rfl
@[simp] theorem setAllD_cons {ρ : VEnv} {p : Nat × D} {ps : List (Nat × D)} : setAllD ρ (p :: ps) = setAllD (ρ.set p.1 (some p.2)) ps := id rfl
@[simp] theorem wipeD_nil {ρ : VEnv} : wipeD ρ [] = ρ := id rfl
@[simp] theorem wipeD_cons {ρ : VEnv} {v : Nat} {vs : List Nat} : wipeD ρ (v :: vs) = (wipeD ρ vs).set v none := id rfl
@[simp] theorem wipeS_nil : wipeS ρ [] = ρ := id rfl
@[simp] theorem wipeS_cons {v : Nat} {vs : List Nat} : wipeS ρ (v :: vs) = (wipeS ρ vs).set v none := id rfl
@[simp] theorem tgN_e {i : Nat} {d : D} : tgN i d = .ok [(i, d)] := id rfl
@[simp] theorem tgT_e {ts : List Tgt} {ds : List D} : tgT ts (.tup ds) = tgL ts ds := id rfl
@[simp] theorem tgL_nil : tgL [] [] = .ok [] := id rfl
def tgC (ts : List Tgt) (ds : List D) (a : List (Nat × D)) : Res (List (Nat × D)) := (tgL ts ds).bind fun b => .ok (a ++ b)
@[simp] theorem tgL_cons {t : Tgt} {ts : List Tgt} {d : D} {ds : List D} : tgL (t :: ts) (d :: ds) = bd (tgC ts ds) (t d) := id rfl
def appC' (a : List (Nat × D)) (b : List (Nat × D)) : Res (List (Nat × D)) := .ok (a ++ b)
@[simp] theorem appC'_e {a b : List (Nat × D)} : appC' a b = .ok (a ++ b) := id rfl
@[simp] theorem tgC_e {ts : List Tgt} {ds : List D} {a : List (Nat × D)} : tgC ts ds a = bd (appC' a) (tgL ts ds) := id rfl
/-! statements -/
def ifC (g h : Env → Out) (ρ : Env) (b : Bool) : Out := if b = true then g ρ else h ρ
@[simp] theorem sIf_e {c : VEnv → Res Bool} : sIf L c g h ρ = atR (ifC g h ρ) (shut L ρ) (c (view L ρ)) := eAt_e
@[simp] theorem ifC_t : ifC g h ρ true = g ρ := id rfl
@[simp] theorem ifC_f : ifC g h ρ false = h ρ := id rfl
@[simp] theorem sPass_e : sPass ρ = .nx ρ := id rfl
@[simp] theorem sRetN_e : sRetN ρ = .rt .non ρ := id rfl
@[simp] theorem sBreak_e : sBreak ρ = .bk ρ := id rfl
@[simp] theorem sCont_e : sCont ρ = .ct ρ := id rfl
@[simp] theorem sRaise_e {x : Ex} : sRaise x ρ = .ex x ρ := id rfl
def asgD (ρ : Env) : Res (List (Nat × D)) → Out
  | .ok as => .nx (setS ρ as)
  | _ => .bad
@[simp] theorem asgD_ok {as : List (Nat × D)} : asgD ρ (.ok as) = .nx (setS ρ as) := id rfl
def asgC (L : List Nat) (ρ : Env) (tg : Tgt) (d : D) : Out := asgD (aft L d ρ) (tg d)
@[simp] theorem asgC_e {tg : Tgt} {d : D} : asgC L ρ tg d = asgD (aft L d ρ) (tg d) := id rfl
@[simp] theorem sAsg_e {f : VEnv → Res D} {tg : Tgt} : sAsg L f tg ρ = atR (asgC L ρ tg) (shut L ρ) (f (view L ρ)) := eAt_e
def exprC (L : List Nat) (ρ : Env) (d : D) : Out := .nx (aft L d ρ)
@[simp] theorem exprC_e {d : D} : exprC L ρ d = .nx (aft L d ρ) := id rfl
@[simp] theorem sExpr_e {f : VEnv → Res D} : sExpr L f ρ = atR (exprC L ρ) (shut L ρ) (f (view L ρ)) := eAt_e
def retC (L : List Nat) (ρ : Env) (d : D) : Out := .rt d (aft L d ρ)
@[simp] theorem retC_e {d : D} : retC L ρ d = .rt d (aft L d ρ) := id rfl
@[simp] theorem sRet_e {f : VEnv → Res D} : sRet L f ρ = atR (retC L ρ) (shut L ρ) (f (view L ρ)) := eAt_e
def retOC (L : List Nat) (ρ : Env) (d : D) : Out := .ro d (aftO L d ρ)
@[simp] theorem retOC_e {d : D} : retOC L ρ d = .ro d (aftO L d ρ) := id rfl
@[simp] theorem sRetO_e {f : VEnv → Res D} : sRetO L f ρ = atR (retOC L ρ) (shut L ρ) (f (view L ρ)) := eAt_e
def retSC (ρ : Env) (i : Nat) : Option (Option Slot) → Out
  | some (some (.own _ d)) => .ro d (ρ.set i none)
  | _ => .bad
@[simp] theorem retSC_e {i : Nat} {t : Bool} {d : D} : retSC ρ i (some (some (.own t d))) = .ro d (ρ.set i none) := id rfl
@[simp] theorem sRetS_e {i : Nat} : sRetS i ρ = retSC ρ i (ρ[i]?) := id rfl
def ownC (i : Nat) (L : List Nat) (ρ : Env) (d : D) : Out := .nx ((aftO L d ρ).set i (some (.own false d)))
@[simp] theorem ownC_e {i : Nat} {d : D} : ownC i L ρ d = .nx ((aftO L d ρ).set i (some (.own false d))) := id rfl
@[simp] theorem sOwn_e {i : Nat} {f : VEnv → Res D} : sOwn i L f ρ = atR (ownC i L ρ) (shut L ρ) (f (view L ρ)) := eAt_e
def parC (i j : Nat) (L : List Nat) (ρ : Env) : List D → Out
  | [a, b] => .nx (((aftL L [a, b] ρ).set i (some (.frz a))).set j (some (.frz b)))
  | _ => .bad
@[simp] theorem parC_e {i j : Nat} {a b : D} : parC i j L ρ [a, b] = .nx (((aftL L [a, b] ρ).set i (some (.frz a))).set j (some (.frz b))) := id rfl
@[simp] theorem sPar_e {i j : Nat} {f : VEnv → Res (List D)} : sPar i j L f ρ = atR (parC i j L ρ) (shut L ρ) (f (view L ρ)) := by
  unfold sPar
  rw [eAt_e]
  congr 1
  funext as
  rcases as with _ | ⟨a, _ | ⟨b, _ | _⟩⟩ <;> rfl
def ownLC : Option (Option Slot) → Option (Bool × List D)
  | some (some (.own t (.lst ds))) => some (t, ds)
  | _ => none
@[simp] theorem ownL_e {i : Nat} : ownL ρ i = ownLC (ρ[i]?) := id rfl
@[simp] theorem ownLC_e {t : Bool} {ds : List D} : ownLC (some (some (.own t (.lst ds)))) = some (t, ds) := id rfl
def ownSC : Option (Option Slot) → Option (Bool × D)
  | some (some (.own t o)) => some (t, o)
  | _ => none
@[simp] theorem ownS_e {i : Nat} : ownS ρ i = ownSC (ρ[i]?) := id rfl
@[simp] theorem ownSC_e {t : Bool} {d : D} : ownSC (some (some (.own t d))) = some (t, d) := id rfl
def needC (g : Env → Out) (ρ : Env) : Option (Bool × List D) → Out
  | some _ => g ρ
  | none => .bad
@[simp] theorem need_e {i : Nat} : need i g ρ = needC g ρ (ownL ρ i) := id rfl
@[simp] theorem needC_e {x : Bool × List D} : needC g ρ (some x) = g ρ := id rfl
def chgT (ρ : Env) (i : Nat) (t : Bool) : Option (List D) → Out
  | some es => .nx (ρ.set i (some (.own t (.lst es))))
  | none => .bad
@[simp] theorem chgT_e {i : Nat} {t : Bool} {es : List D} : chgT ρ i t (some es) = .nx (ρ.set i (some (.own t (.lst es)))) := id rfl
def chgC (ρ : Env) (i : Nat) (f : List D → Option (List D)) : Option (Bool × List D) → Out
  | some (t, ds) => chgT ρ i t (f ds)
  | none => .bad
@[simp] theorem chgC_e {i : Nat} {f : List D → Option (List D)} {t : Bool} {ds : List D} : chgC ρ i f (some (t, ds)) = chgT ρ i t (f ds) := id rfl
@[simp] theorem chg_e {i : Nat} {f : List D → Option (List D)} : chg ρ i f = chgC ρ i f (ownL ρ i) := id rfl
def appF (d : D) (ds : List D) : Option (List D) := if fit ds.length = true then some (ds ++ [d]) else none
@[simp] theorem appF_e {d : D} {ds : List D} (h : ds.length ≤ 16777215) : appF d ds = some (ds ++ [d]) := if_pos (fit_of h)
def appC (i : Nat) (L : List Nat) (ρ : Env) (d : D) : Out := chg (aft L d ρ) i (appF d)
@[simp] theorem appC_e {i : Nat} {d : D} : appC i L ρ d = chg (aft L d ρ) i (appF d) := id rfl
@[simp] theorem sApp_e {i : Nat} {f : VEnv → Res D} : sApp i L f ρ = atR (appC i L ρ) (shut L ρ) (f (view L ρ)) := eAt_e
def putF (n : Int) (d : D) (ds : List D) : Option (List D) := match ixN ds.length n with
  | some j => some (ds.set j d)
  | none => none
@[simp] theorem putF_0 {d e : D} {ds : List D} : putF 0 d (e :: ds) = some (d :: ds) := by simp [putF, ixN]
@[simp] theorem putF_1 {d e e2 : D} {ds : List D} : putF 1 d (e :: e2 :: ds) = some (e :: d :: ds) := by
  unfold putF ixN
  rw [if_pos (by decide), if_pos (by simp only [List.length_cons]; omega)]
  rfl
def putE (i : Nat) (ρ : Env) (d : D) : D → Out
  | .int n => chg ρ i (putF n d)
  | _ => .bad
@[simp] theorem putE_e {i : Nat} {d : D} {n : Int} : putE i ρ d (.int n) = chg ρ i (putF n d) := id rfl
def putD' (i : Nat) (fk : VEnv → Res D) (d : D) (ρ : Env) : Out := atR (putE i ρ d) (shut [] ρ) (fk (view [] ρ))
@[simp] theorem putD'_e {i : Nat} {fk : VEnv → Res D} {d : D} : putD' i fk d ρ = atR (putE i ρ d) (shut [] ρ) (fk (view [] ρ)) := id rfl
def putC (i : Nat) (L : List Nat) (ρ : Env) (fk : VEnv → Res D) (d : D) : Out := need i (putD' i fk d) (aft L d ρ)
@[simp] theorem putC_e {i : Nat} {fk : VEnv → Res D} {d : D} : putC i L ρ fk d = need i (putD' i fk d) (aft L d ρ) := id rfl
@[simp] theorem sPutL_e {i : Nat} {fv fk : VEnv → Res D} : sPutL i L fv fk ρ = atR (putC i L ρ fk) (shut L ρ) (fv (view L ρ)) := by
  unfold sPutL
  rw [eAt_e]
  congr 1
/-! expressions -/
def varC : Option (Option D) → Res D
  | some (some d) => .ok d
  | _ => .bad
@[simp] theorem eVar_e {i : Nat} {ρ : VEnv} : eVar i ρ = varC (ρ[i]?) := id rfl
@[simp] theorem varC_e {d : D} : varC (some (some d)) = .ok d := id rfl
@[simp] theorem eC_e {d : D} {ρ : VEnv} : eC d ρ = .ok d := id rfl
def op2 (g : D → D → Res D) : Res D → Res D → Res D
  | .ok a, .ok b => g a b
  | .ok _, .exc x => .exc x
  | .exc x, _ => .exc x
  | _, _ => .bad
@[simp] theorem op2_ok {g : D → D → Res D} {a b : D} : op2 g (.ok a) (.ok b) = g a b := id rfl
@[simp] theorem eOp_e {g : D → D → Res D} {fa fb : VEnv → Res D} {ρ : VEnv} : eOp g fa fb ρ = op2 g (fa ρ) (fb ρ) := by unfold eOp; cases fa ρ <;> cases fb ρ <;> rfl
@[simp] theorem eUn_e {g : D → Res D} {fa : VEnv → Res D} {ρ : VEnv} : eUn g fa ρ = bd g (fa ρ) := id rfl
@[simp] theorem eCall_e {g : List D → Res D} {fa : VEnv → Res (List D)} {ρ : VEnv} : eCall g fa ρ = bd g (fa ρ) := id rfl
@[simp] theorem aNil_e {ρ : VEnv} : aNil ρ = .ok [] := id rfl
def cons2 : Res D → Res (List D) → Res (List D)
  | .ok a, .ok as => .ok (a :: as)
  | .ok _, .exc x => .exc x
  | .exc x, _ => .exc x
  | _, _ => .bad
@[simp] theorem cons2_ok {a : D} {as : List D} : cons2 (.ok a) (.ok as) = .ok (a :: as) := id rfl
@[simp] theorem aCons_e {f : VEnv → Res D} {g : VEnv → Res (List D)} {ρ : VEnv} : aCons f g ρ = cons2 (f ρ) (g ρ) := by unfold aCons; cases f ρ <;> cases g ρ <;> rfl
@[simp] theorem fit_e {n : Nat} (h : n ≤ 16777215) : fit n = true := fit_of h
def tupC (as : List D) : Res D := if fit as.length = true then .ok (.tup as) else .bad
@[simp] theorem tupC_e {as : List D} (h : as.length ≤ 16777215) : tupC as = .ok (.tup as) := if_pos (fit_of h)
@[simp] theorem eTup_e {f : VEnv → Res (List D)} {ρ : VEnv} : eTup f ρ = bd tupC (f ρ) := id rfl
def lstC (as : List D) : Res D := if fit as.length = true then .ok (.lst as) else .bad
@[simp] theorem lstC_e {as : List D} (h : as.length ≤ 16777215) : lstC as = .ok (.lst as) := if_pos (fit_of h)
@[simp] theorem eLst_e {f : VEnv → Res (List D)} {ρ : VEnv} : eLst f ρ = bd lstC (f ρ) := id rfl
def andC (g : VEnv → Res D) (ρ : VEnv) (a : D) (b : Bool) : Res D := if b = true then g ρ else .ok a
@[simp] theorem andC_t {g : VEnv → Res D} {ρ : VEnv} {a : D} : andC g ρ a true = g ρ := id rfl
@[simp] theorem andC_f {g : VEnv → Res D} {ρ : VEnv} {a : D} : andC g ρ a false = .ok a := id rfl
def andK (g : VEnv → Res D) (ρ : VEnv) (a : D) : Res D := bd (andC g ρ a) (dTru a)
@[simp] theorem andK_e {g : VEnv → Res D} {ρ : VEnv} {a : D} : andK g ρ a = bd (andC g ρ a) (dTru a) := id rfl
@[simp] theorem eAnd_e {f g : VEnv → Res D} {ρ : VEnv} : eAnd f g ρ = bd (andK g ρ) (f ρ) := id rfl
def orC (g : VEnv → Res D) (ρ : VEnv) (a : D) (b : Bool) : Res D := if b = true then .ok a else g ρ
@[simp] theorem orC_t {g : VEnv → Res D} {ρ : VEnv} {a : D} : orC g ρ a true = .ok a := id rfl
@[simp] theorem orC_f {g : VEnv → Res D} {ρ : VEnv} {a : D} : orC g ρ a false = g ρ := id rfl
def orK (g : VEnv → Res D) (ρ : VEnv) (a : D) : Res D := bd (orC g ρ a) (dTru a)
@[simp] theorem orK_e {g : VEnv → Res D} {ρ : VEnv} {a : D} : orK g ρ a = bd (orC g ρ a) (dTru a) := id rfl
@[simp] theorem eOr_e {f g : VEnv → Res D} {ρ : VEnv} : eOr f g ρ = bd (orK g ρ) (f ρ) := id rfl
def notC (b : Bool) : Res D := .ok (.bl (!b))
@[simp] theorem notC_e {b : Bool} : notC b = .ok (.bl (!b)) := id rfl
def notK (a : D) : Res D := bd notC (dTru a)
@[simp] theorem notK_e {a : D} : notK a = bd notC (dTru a) := id rfl
@[simp] theorem eNot_e {f : VEnv → Res D} {ρ : VEnv} : eNot f ρ = bd notK (f ρ) := id rfl
@[simp] theorem bT_e {f : VEnv → Res D} {ρ : VEnv} : bT f ρ = bd dTru (f ρ) := id rfl
def bnotC (b : Bool) : Res Bool := .ok (!b)
@[simp] theorem bnotC_e {b : Bool} : bnotC b = .ok (!b) := id rfl
@[simp] theorem bNot_e {f : VEnv → Res Bool} {ρ : VEnv} : bNot f ρ = bd bnotC (f ρ) := id rfl
def bandC (g : VEnv → Res Bool) (ρ : VEnv) (b : Bool) : Res Bool := if b = true then g ρ else .ok false
@[simp] theorem bandC_t {g : VEnv → Res Bool} {ρ : VEnv} : bandC g ρ true = g ρ := id rfl
@[simp] theorem bandC_f {g : VEnv → Res Bool} {ρ : VEnv} : bandC g ρ false = .ok false := id rfl
@[simp] theorem bAnd_e {f g : VEnv → Res Bool} {ρ : VEnv} : bAnd f g ρ = bd (bandC g ρ) (f ρ) := id rfl
def borC (g : VEnv → Res Bool) (ρ : VEnv) (b : Bool) : Res Bool := if b = true then .ok true else g ρ
@[simp] theorem borC_t {g : VEnv → Res Bool} {ρ : VEnv} : borC g ρ true = .ok true := id rfl
@[simp] theorem borC_f {g : VEnv → Res Bool} {ρ : VEnv} : borC g ρ false = g ρ := id rfl
@[simp] theorem bOr_e {f g : VEnv → Res Bool} {ρ : VEnv} : bOr f g ρ = bd (borC g ρ) (f ρ) := id rfl
@[simp] theorem bYes_e {ρ : VEnv} : bYes ρ = .ok true := id rfl
def eifC (f g : VEnv → Res D) (ρ : VEnv) (b : Bool) : Res D := if b = true then f ρ else g ρ
@[simp] theorem eifC_t {f g : VEnv → Res D} {ρ : VEnv} : eifC f g ρ true = f ρ := id rfl
@[simp] theorem eifC_f {f g : VEnv → Res D} {ρ : VEnv} : eifC f g ρ false = g ρ := id rfl
@[simp] theorem eIf_e {c : VEnv → Res Bool} {f g : VEnv → Res D} {ρ : VEnv} : eIf c f g ρ = bd (eifC f g ρ) (c ρ) := id rfl
@[simp] theorem dBl_e {b : Bool} : dBl (.bl b) = .ok b := id rfl
def chE (g' : D → D → Res D) (fc : VEnv → Res D) (ρ : VEnv) (b : D) (k : Bool) : Res D := if k = true then bd (g' b) (fc ρ) else .ok (.bl false)
@[simp] theorem chE_t {g' : D → D → Res D} {fc : VEnv → Res D} {ρ : VEnv} {b : D} : chE g' fc ρ b true = bd (g' b) (fc ρ) := id rfl
@[simp] theorem chE_f {g' : D → D → Res D} {fc : VEnv → Res D} {ρ : VEnv} {b : D} : chE g' fc ρ b false = .ok (.bl false) := id rfl
def chB (g g' : D → D → Res D) (fc : VEnv → Res D) (ρ : VEnv) (a b : D) : Res D := bd (chE g' fc ρ b) (bd dBl (g a b))
@[simp] theorem chB_e {g g' : D → D → Res D} {fc : VEnv → Res D} {ρ : VEnv} {a b : D} : chB g g' fc ρ a b = bd (chE g' fc ρ b) (bd dBl (g a b)) := id rfl
@[simp] theorem eChain_e {g g' : D → D → Res D} {fa fb fc : VEnv → Res D} {ρ : VEnv} : eChain g g' fa fb fc ρ = op2 (chB g g' fc ρ) (fa ρ) (fb ρ) := by
  unfold eChain
  cases fa ρ with
  | ok a =>
    cases fb ρ with
    | ok b =>
      show (g a b).bind _ = bd _ (bd dBl (g a b))
      cases g a b with
      | ok z =>
        show (dBl z).bind _ = bd _ (dBl z)
        cases dBl z <;> rfl
      | exc x => rfl
      | bad => rfl
    | exc x => rfl
    | bad => rfl
  | exc x => rfl
  | bad => rfl
@[simp] theorem eIsi_e {t : String} {f : VEnv → Res D} {ρ : VEnv} : eIsi t f ρ = bd (isKind t) (f ρ) := id rfl
@[simp] theorem isK_non {t : String} : isKind t .non = .ok (.bl ("NoneType" == t || ("NoneType" == "bool" && t == "int"))) := id rfl
@[simp] theorem isK_bl {t : String} {b : Bool} : isKind t (.bl b) = .ok (.bl ("bool" == t || ("bool" == "bool" && t == "int"))) := id rfl
@[simp] theorem isK_int {t : String} {b : Int} : isKind t (.int b) = .ok (.bl ("int" == t || ("int" == "bool" && t == "int"))) := id rfl
@[simp] theorem isK_str {t : String} {b : Str} : isKind t (.str b) = .ok (.bl ("str" == t || ("str" == "bool" && t == "int"))) := id rfl
@[simp] theorem isK_lst {t : String} {b : List D} : isKind t (.lst b) = .ok (.bl ("list" == t || ("list" == "bool" && t == "int"))) := id rfl
@[simp] theorem isK_tup {t : String} {b : List D} : isKind t (.tup b) = .ok (.bl ("tuple" == t || ("tuple" == "bool" && t == "int"))) := id rfl
@[simp] theorem isK_dct {t : String} {k : Bool} {b : List (D × D)} : isKind t (.dct k b) = .ok (.bl ("dict" == t || ("dict" == "bool" && t == "int"))) := id rfl
@[simp] theorem dTru_non : dTru .non = .ok false := id rfl
@[simp] theorem dTru_bl {b : Bool} : dTru (.bl b) = .ok b := id rfl
@[simp] theorem dTru_int {i : Int} : dTru (.int i) = .ok (i != 0) := id rfl
@[simp] theorem dTru_lst {ds : List D} : dTru (.lst ds) = .ok (!ds.isEmpty) := id rfl
@[simp] theorem dTru_tup {ds : List D} : dTru (.tup ds) = .ok (!ds.isEmpty) := id rfl
/-! operations -/
@[simp] theorem dAdd_int {a b : Int} : dAdd (.int a) (.int b) = .ok (.int (a + b)) := id rfl
@[simp] theorem dAdd_str {a b : Str} (h : a.length + b.length ≤ 16777215) : dAdd (.str a) (.str b) = .ok (.str (a ++ b)) := if_pos (fit_of h)
@[simp] theorem dAdd_lst {a b : List D} (h : a.length + b.length ≤ 16777215) : dAdd (.lst a) (.lst b) = .ok (.lst (a ++ b)) := if_pos (fit_of h)
@[simp] theorem dCat_lst {a b : List D} (h : a.length + b.length ≤ 16777215) : dCat (.lst a) (.lst b) = .ok (.lst (a ++ b)) := if_pos (fit_of h)
@[simp] theorem dSub_int {a b : Int} : dSub (.int a) (.int b) = .ok (.int (a - b)) := id rfl
@[simp] theorem dMul_int {a b : Int} (h : CMulA a b) : dMul (.int a) (.int b) = .ok (.int (a * b)) := if_pos h
@[simp] theorem dDiv_int {a b : Int} (h : CDivW a b) : dDiv (.int a) (.int b) = .ok (.int (a / b)) := if_pos h
@[simp] theorem dMod_int {a b : Int} (h : 0 < b) : dMod (.int a) (.int b) = .ok (.int (a % b)) := if_pos h
@[simp] theorem dLt_int {a b : Int} : dLt (.int a) (.int b) = .ok (.bl (decide (a < b))) := id rfl
@[simp] theorem dLe_int {a b : Int} : dLe (.int a) (.int b) = .ok (.bl (decide (a ≤ b))) := id rfl
@[simp] theorem dGt_int {a b : Int} : dGt (.int a) (.int b) = .ok (.bl (decide (b < a))) := id rfl
@[simp] theorem dGe_int {a b : Int} : dGe (.int a) (.int b) = .ok (.bl (decide (b ≤ a))) := id rfl
@[simp] theorem dEq_int {a b : Int} : dEq (.int a) (.int b) = .ok (.bl (decide (a = b))) := id rfl
@[simp] theorem dNe_int {a b : Int} : dNe (.int a) (.int b) = .ok (.bl (!decide (a = b))) := id rfl
@[simp] theorem dEq_str {a b : Str} : dEq (.str a) (.str b) = .ok (.bl (decide (a = b))) := id rfl
@[simp] theorem dNe_str {a b : Str} : dNe (.str a) (.str b) = .ok (.bl (!decide (a = b))) := id rfl
@[simp] theorem dIsN_e {a : D} : dIsN a .non = .ok (.bl (isNon a)) := id rfl
@[simp] theorem dNotN_e {a : D} : dNotN a .non = .ok (.bl (!isNon a)) := id rfl
@[simp] theorem isNon_non : isNon .non = true := id rfl
@[simp] theorem isNon_int {i : Int} : isNon (.int i) = false := id rfl
@[simp] theorem isNon_str {i : Str} : isNon (.str i) = false := id rfl
@[simp] theorem isNon_tup {i : List D} : isNon (.tup i) = false := id rfl
@[simp] theorem isNon_lst {i : List D} : isNon (.lst i) = false := id rfl
@[simp] theorem isNon_bl {i : Bool} : isNon (.bl i) = false := id rfl
def ixC : Option D → Res D
  | some d => .ok d
  | none => .bad
@[simp] theorem ixC_e {d : D} : ixC (some d) = .ok d := id rfl
@[simp] theorem dIx_lst {ds : List D} {i : Int} : dIx (.lst ds) (.int i) = ixC (atI ds i) := by
  show (match atI ds i with | some d => Res.ok d | none => .bad) = _
  cases atI ds i <;> rfl
@[simp] theorem dIx_tup {ds : List D} {i : Int} : dIx (.tup ds) (.int i) = ixC (atI ds i) := by
  show (match atI ds i with | some d => Res.ok d | none => .bad) = _
  cases atI ds i <;> rfl
theorem atI_nat {α : Type} {xs : List α} {i : Int} (h : 0 ≤ i) : atI xs i = xs[i.toNat]? := by
  unfold atI ixN
  rw [if_pos h]
  by_cases c : i < xs.length
  · rw [if_pos c]; rfl
  · rw [if_neg c, List.getElem?_eq_none (by omega)]; rfl
@[simp] theorem atI_0 {α : Type} {x : α} {xs : List α} : atI (x :: xs) 0 = some x := by rw [atI_nat (by decide)]; rfl
@[simp] theorem atI_1 {α : Type} {x y : α} {xs : List α} : atI (x :: y :: xs) 1 = some y := by rw [atI_nat (by decide)]; rfl
@[simp] theorem atI_2 {α : Type} {x y z : α} {xs : List α} : atI (x :: y :: z :: xs) 2 = some z := by rw [atI_nat (by decide)]; rfl
@[simp] theorem atI_3 {α : Type} {x y z w : α} {xs : List α} : atI (x :: y :: z :: w :: xs) 3 = some w := by rw [atI_nat (by decide)]; rfl
@[simp] theorem dAbs_e {i : Int} : dAbs [.int i] = .ok (.int (if i < 0 then -i else i)) := id rfl
theorem log_lt {n k : Nat} (h : n < 2 ^ k) (hk : 0 < k) : n.log2 < k := by
  by_cases z : n = 0
  · subst z; simpa using hk
  · exact (Nat.log2_lt z).mpr h
theorem cmul {a b : Int} (h1 : -(2 ^ 64) < a) (h2 : a < 2 ^ 64) (h3 : -(2 ^ 64) < b) (h4 : b < 2 ^ 64) : CMulA a b := by
  have x : a.natAbs < 2 ^ 64 := by omega
  have y : b.natAbs < 2 ^ 64 := by omega
  have := log_lt x (by decide)
  have := log_lt y (by decide)
  refine .inl ?_
  unfold CMulW
  omega
theorem cmulL {a b : Int} (h1 : -(2 ^ 64) < a) (h2 : a < 2 ^ 64) : CMulA a b := .inr (.inl ⟨h1, h2⟩)
theorem cmulR {a b : Int} (h1 : -(2 ^ 64) < b) (h2 : b < 2 ^ 64) : CMulA a b := .inr (.inr ⟨h1, h2⟩)
theorem cdiv {a b : Int} (h1 : 0 < b) (h2 : b < 2 ^ 64) : CDivW a b := by
  have y : b.natAbs < 2 ^ 64 := by omega
  have := log_lt y (by decide)
  exact ⟨h1, by omega⟩
@[simp] theorem dInt_bl {b : Bool} : dInt [.bl b] = .ok (.int (if b then 1 else 0)) := id rfl
@[simp] theorem dInt_int {b : Int} : dInt [.int b] = .ok (.int b) := id rfl
@[simp] theorem dPow_int {a b : Int} (h1 : 0 ≤ b) (h2 : b ≤ 1000000) (h3 : a.natAbs < 2 ^ 64) : dPow (.int a) (.int b) = .ok (.int (a ^ b.toNat)) := if_pos ⟨h1, h2, h3⟩
@[simp] theorem dLen_lst {ds : List D} (h : ds.length ≤ 16777215) : dLen [.lst ds] = .ok (.int ds.length) := by
  unfold dLen; first | exact if_pos (fit_of h) | rfl
@[simp] theorem dLen_tup {ds : List D} (h : ds.length ≤ 16777215) : dLen [.tup ds] = .ok (.int ds.length) := by
  unfold dLen; first | exact if_pos (fit_of h) | rfl
@[simp] theorem dLen_scr {ds : List Int} (h : ds.length ≤ 16777215) : dLen [.scr ds] = .ok (.int ds.length) := by
  unfold dLen; first | exact if_pos (fit_of h) | rfl
@[simp] theorem dLen_str {z : Str} (h : z.length ≤ 16777215) : dLen [.str z] = .ok (.int z.length) := by
  unfold dLen; first | exact if_pos (fit_of h) | rfl
theorem dIx_scr {ns : List Int} {i : Int} : dIx (.scr ns) (.int i) = ixC ((atI ns i).map D.int) := by
  show (match atI ns i with | some n => Res.ok (D.int n) | none => .bad) = _
  cases atI ns i <;> rfl
def slC (a : D) : Res (Option Int) → Res (Option Int) → Res D
  | .ok l, .ok h => dSl a l h
  | .ok _, .exc x => .exc x
  | .exc x, _ => .exc x
  | _, _ => .bad
@[simp] theorem slC_ok {a : D} {l h : Option Int} : slC a (.ok l) (.ok h) = dSl a l h := id rfl
def slA (fl fh : VEnv → Res (Option Int)) (ρ : VEnv) (a : D) : Res D := slC a (fl ρ) (fh ρ)
@[simp] theorem slA_e {fl fh : VEnv → Res (Option Int)} {ρ : VEnv} {a : D} : slA fl fh ρ a = slC a (fl ρ) (fh ρ) := id rfl
@[simp] theorem eSl_e {fe : VEnv → Res D} {fl fh : VEnv → Res (Option Int)} {ρ : VEnv} : eSl fe fl fh ρ = bd (slA fl fh ρ) (fe ρ) := by
  unfold eSl
  cases fe ρ with
  | ok a => show (fl ρ).bind _ = slC a (fl ρ) (fh ρ); cases fl ρ <;> cases fh ρ <;> rfl
  | exc x => rfl
  | bad => rfl
@[simp] theorem pNo_e {ρ : VEnv} : pNo ρ = .ok none := id rfl
@[simp] theorem pYes_e {f : VEnv → Res D} {ρ : VEnv} : pYes f ρ = bd dPart (f ρ) := id rfl
@[simp] theorem dPart_e {i : Int} : dPart (.int i) = .ok (some i) := id rfl
@[simp] theorem dNeg_e {i : Int} : dNeg (.int i) = .ok (.int (-i)) := id rfl
def lastL (w : List Nat) : List Nat := match w.getLast? with
  | none => []
  | some a => [a]
@[simp] theorem lastL_nil : lastL [] = [] := id rfl
@[simp] theorem lastL_snoc {w : List Nat} {c : Nat} : lastL (w ++ [c]) = [c] := by unfold lastL; rw [List.getLast?_concat]
theorem lastL_len (w : List Nat) : (lastL w).length ≤ 1 := by unfold lastL; split <;> simp
theorem dSl_last {w : List Nat} (h : w.length ≤ 16777215) : dSl (.str (Dear.txt w)) (some (-1)) none = .ok (.str (Dear.txt (lastL w))) := by
  show (if fit (Dear.txt w).length = true then Res.ok (D.str (cutS (Dear.txt w) (some (-1)) none)) else .bad) = _
  rw [if_pos (fit_of (by rw [Dear.txt_length]; exact h))]
  rcases List.eq_nil_or_concat w with e | ⟨l, c, e⟩
  · subst e; rw [Dear.cut_last0]; rfl
  · subst e; rw [List.concat_eq_append, Dear.cut_last, lastL_snoc]
theorem txt_eq {a b : List Nat} : decide (Dear.txt a = Dear.txt b) = decide (a = b) := by
  by_cases h : a = b
  · subst h; simp
  · rw [decide_eq_false h, decide_eq_false fun e => h (Dear.txt_inj e)]
theorem inL_txts {w : List Nat} {l : List (List Nat)} : inL (.str (Dear.txt w)) (l.map fun v => .str (Dear.txt v)) = decide (w ∈ l) := by
  unfold inL
  induction l with
  | nil => simp
  | cons v r ih =>
    rw [List.map_cons, List.any_cons, ih]
    show (decide (Dear.txt v = Dear.txt w) || _) = _
    rw [txt_eq]
    by_cases h : v = w
    · subst h; simp
    · simp [h, Ne.symm h]
theorem dIn_txts {neg : Bool} {w : List Nat} {l : List (List Nat)} : dIn neg (.str (Dear.txt w)) (.lst (l.map fun v => .str (Dear.txt v))) = .ok (.bl (neg ^^ decide (w ∈ l))) := by
  show (if _ then Res.ok (D.bl (neg ^^ inL _ _)) else .bad) = _
  rw [inL_txts, if_pos]
  have : (l.map fun v => D.str (Dear.txt v)).all flatD = true := by
    rw [List.all_map]
    exact List.all_eq_true.mpr fun _ _ => rfl
  rw [this]
  rfl
/-! runs -/
@[simp] theorem outR_nx : outR (.nx ρ) = .ok .non := id rfl
@[simp] theorem outR_rt {d : D} : outR (.rt d ρ) = .ok d := id rfl
@[simp] theorem outR_ro {d : D} : outR (.ro d ρ) = .ok d := id rfl
@[simp] theorem outR_ex {x : Ex} : outR (.ex x ρ) = .exc x := id rfl
@[simp] theorem outO_ro {d : D} : outO (.ro d ρ) = .ok d := id rfl
def ioC (d : D) : Option (Bool × D) → Res (D × D)
  | some (true, o) => .ok (d, o)
  | _ => .bad
@[simp] theorem ioC_e {d o : D} : ioC d (some (true, o)) = .ok (d, o) := id rfl
@[simp] theorem outIO_nx {j : Nat} : outIO j (.nx ρ) = ioC .non (ownS ρ j) := id rfl
@[simp] theorem outIO_rt {j : Nat} {d : D} : outIO j (.rt d ρ) = ioC d (ownS ρ j) := id rfl
/-! loops -/
noncomputable def loopK (L : List Nat) (c : VEnv → Res Bool) (g : Env → Out) : Out → Out
  | .nx ρ => sWhile L c g ρ
  | .ct ρ => sWhile L c g ρ
  | .bk ρ => .nx ρ
  | .rt d ρ => .rt d ρ
  | .ro d ρ => .ro d ρ
  | .ex x ρ => .ex x ρ
  | .bad => .bad
@[simp] theorem loopK_nx {c : VEnv → Res Bool} : loopK L c g (.nx ρ) = sWhile L c g ρ := id rfl
@[simp] theorem loopK_ct {c : VEnv → Res Bool} : loopK L c g (.ct ρ) = sWhile L c g ρ := id rfl
@[simp] theorem loopK_bk {c : VEnv → Res Bool} : loopK L c g (.bk ρ) = .nx ρ := id rfl
@[simp] theorem loopK_rt {c : VEnv → Res Bool} {d : D} : loopK L c g (.rt d ρ) = .rt d ρ := id rfl
@[simp] theorem loopK_ro {c : VEnv → Res Bool} {d : D} : loopK L c g (.ro d ρ) = .ro d ρ := id rfl
noncomputable def loopC (L : List Nat) (c : VEnv → Res Bool) (g : Env → Out) (ρ : Env) (b : Bool) : Out := if b = true then loopK L c g (g ρ) else .nx ρ
@[simp] theorem loopC_t {c : VEnv → Res Bool} : loopC L c g ρ true = loopK L c g (g ρ) := id rfl
@[simp] theorem loopC_f {c : VEnv → Res Bool} : loopC L c g ρ false = .nx ρ := id rfl
theorem sWhile_e {c : VEnv → Res Bool} : sWhile L c g ρ = atR (loopC L c g ρ) (shut L ρ) (c (view L ρ)) := by
  rw [sWhile_eq, eAt_e]
  congr 1
  funext b
  unfold loopC
  cases b
  · rfl
  · show loopO _ (g ρ) = loopK _ _ _ (g ρ)
    cases g ρ <;> rfl
def forK (tg : Tgt) (g : Env → Out) (l : List Nat) (ds : List D) : Out → Out
  | .nx ρ => forL tg g l ds (clr l ρ)
  | .ct ρ => forL tg g l ds (clr l ρ)
  | .bk ρ => .nx ρ
  | .rt d ρ => .rt d ρ
  | .ro d ρ => .ro d ρ
  | .ex x ρ => .ex x ρ
  | .bad => .bad
section
variable {tg : Tgt} {l : List Nat} {ds : List D}
@[simp] theorem forK_nx : forK tg g l ds (.nx ρ) = forL tg g l ds (clr l ρ) := id rfl
@[simp] theorem forK_ct : forK tg g l ds (.ct ρ) = forL tg g l ds (clr l ρ) := id rfl
@[simp] theorem forK_bk : forK tg g l ds (.bk ρ) = .nx ρ := id rfl
@[simp] theorem forK_rt {d : D} : forK tg g l ds (.rt d ρ) = .rt d ρ := id rfl
@[simp] theorem forK_ro {d : D} : forK tg g l ds (.ro d ρ) = .ro d ρ := id rfl
@[simp] theorem forK_bad : forK tg g l ds .bad = .bad := id rfl
@[simp] theorem forL_nil : forL tg g l [] ρ = .nx ρ := id rfl
def forT (tg : Tgt) (g : Env → Out) (l : List Nat) (ds : List D) (ρ : Env) : Res (List (Nat × D)) → Out
  | .ok as => forK tg g l ds (g (setS ρ as))
  | _ => .bad
@[simp] theorem forT_ok {as : List (Nat × D)} : forT tg g l ds ρ (.ok as) = forK tg g l ds (g (setS ρ as)) := id rfl
/-- one turn -/
theorem forL_cons {d : D} : forL tg g l (d :: ds) ρ = forT tg g l ds ρ (tg d) := by
  unfold forL forT
  cases tg d with
  | ok as =>
    show loopO _ (g (setS ρ as)) = forK _ _ _ _ (g (setS ρ as))
    cases g (setS ρ as) <;> rfl
  | exc x => rfl
  | bad => rfl
def sForC (L : List Nat) (ρ : Env) (tg : Tgt) (g : Env → Out) (l : List Nat) (ds : List D) : Out := forL tg g l ds (shut L ρ)
@[simp] theorem sForC_e : sForC L ρ tg g l ds = forL tg g l ds (shut L ρ) := id rfl
@[simp] theorem sFor_e {it : VEnv → Res (List D)} : sFor L it tg g l ρ = atR (sForC L ρ tg g l) (shut L ρ) (it (view L ρ)) := eAt_e
/-- every turn goes on, and changes nothing that stays -/
theorem forL_same {ds : List D} {ρ : Env} (hs : ∀ d ∈ ds, ∃ as ρ', tg d = .ok as ∧ g (setS ρ as) = .nx ρ' ∧ clr l ρ' = ρ) : forL tg g l ds ρ = .nx ρ := by
  induction ds with
  | nil => rfl
  | cons d r ih =>
    obtain ⟨as, ρ', e1, e2, e3⟩ := hs d List.mem_cons_self
    rw [forL_cons, e1, forT_ok, e2, forK_nx, e3]
    exact ih fun x hx => hs x (List.mem_cons_of_mem _ hx)
end
/-! comprehensions -/
theorem compL_of {tg : Tgt} {c : VEnv → Res Bool} {f : VEnv → Res D} {ρ : VEnv} {vs : List Nat} {p : D → Bool} {q : D → D} : ∀ {ds : List D}, (∀ d ∈ ds, ∃ as, tg d = .ok as ∧ as.all (fun p => vs.contains p.1) = true ∧ c (setAllD ρ as) = .ok (p d) ∧ (p d = true → f (setAllD ρ as) = .ok (q d))) → compL tg c f ρ vs ds = .ok ((ds.filter p).map q)
  | [], _ => rfl
  | d :: ds, h => by
    obtain ⟨as, h1, h2, h3, h4⟩ := h d List.mem_cons_self
    have ih := compL_of (ds := ds) fun x hx => h x (List.mem_cons_of_mem _ hx)
    unfold compL
    rw [h1, Res.bind_ok, if_pos h2, h3, Res.bind_ok]
    cases hp : p d with
    | true => rw [if_pos rfl, h4 hp, Res.bind_ok, ih, Res.bind_ok, List.filter_cons, hp, if_pos rfl, List.map_cons]
    | false => rw [if_neg Bool.false_ne_true, ih, List.filter_cons, hp, if_neg Bool.false_ne_true]
theorem eComp_of {tg : Tgt} {c : VEnv → Res Bool} {f : VEnv → Res D} {ρ : VEnv} {vs : List Nat} {it : VEnv → Res (List D)} {ds : List D} (p : D → Bool) (q : D → D) (hi : it ρ = .ok ds) (hl : ds.length ≤ 16777215)
    (h : ∀ d ∈ ds, ∃ as, tg d = .ok as ∧ as.all (fun p => vs.contains p.1) = true ∧ c (setAllD (wipeD ρ vs) as) = .ok (p d) ∧ (p d = true → f (setAllD (wipeD ρ vs) as) = .ok (q d))) : eComp vs it tg c f ρ = .ok (.lst ((ds.filter p).map q)) := by
  unfold eComp
  rw [hi, Res.bind_ok, if_pos (fit_of hl), compL_of h]
  rfl
def itemsC : D → Res (List D) := dItems
@[simp] theorem iAny_e {f : VEnv → Res D} {ρ : VEnv} : iAny f ρ = bd itemsC (f ρ) := id rfl
@[simp] theorem items_lst {ds : List D} : itemsC (.lst ds) = .ok ds := id rfl
@[simp] theorem items_tup {ds : List D} : itemsC (.tup ds) = .ok ds := id rfl
@[simp] theorem items_scr {ns : List Int} : itemsC (.scr ns) = .ok (ns.map D.int) := id rfl
@[simp] theorem items_str {z : Str} : itemsC (.str z) = .ok (signs z) := id rfl
@[simp] theorem iRange_e {f : VEnv → Res (List D)} {ρ : VEnv} : iRange f ρ = bd dRange (f ρ) := id rfl
@[simp] theorem iEnumD_e {f : VEnv → Res (List D)} {ρ : VEnv} : iEnumD f ρ = bd dEnum (f ρ) := id rfl
@[simp] theorem iZipD_e {f : VEnv → Res (List D)} {ρ : VEnv} : iZipD f ρ = bd dZip (f ρ) := id rfl
theorem inR_of {i : Int} (h1 : -(2 ^ 62) ≤ i) (h2 : i < 2 ^ 62) : inR i = true := decide_eq_true ⟨h1, h2⟩
theorem dRange1 {j : Int} (h1 : -(2 ^ 62) ≤ j) (h2 : j < 2 ^ 62) : dRange [.int j] = .ok (rangeD 0 j.toNat) := if_pos (inR_of h1 h2)
theorem dRange2 {i j : Int} (h1 : -(2 ^ 62) ≤ i) (h2 : i < 2 ^ 62) (h3 : -(2 ^ 62) ≤ j) (h4 : j < 2 ^ 62) : dRange [.int i, .int j] = .ok (rangeD i (j - i).toNat) := if_pos (by rw [inR_of h1 h2, inR_of h3 h4]; rfl)
def iDctC (q : List (D × D) → List D) : D → Res (List D) := dDct q
@[simp] theorem iDct_e {q : List (D × D) → List D} {i : Nat} {ρ : VEnv} : iDct q i ρ = bd (iDctC q) (varC (ρ[i]?)) := id rfl
@[simp] theorem iDctC_e {q : List (D × D) → List D} {ds : List (D × D)} : iDctC q (.dct false ds) = .ok (q ds) := id rfl
/-! with state -/
def md (k : α → Env → MO β) : MO α → MO β
  | .ok a ρ => k a ρ
  | .ex x ρ => .ex x ρ
  | .bad => .bad
@[simp] theorem md_ok {k : α → Env → MO β} {a : α} : md k (.ok a ρ) = k a ρ := id rfl
@[simp] theorem md_ex {k : α → Env → MO β} {x : Ex} : md k (.ex x ρ) = .ex x ρ := id rfl
@[simp] theorem md_bad {k : α → Env → MO β} : md k .bad = .bad := id rfl
def mpK (aft : α → Env → Env) (ρ ρx : Env) : Res α → MO α
  | .ok d => .ok d (aft d ρ)
  | .exc x => .ex x ρx
  | .bad => .bad
@[simp] theorem mpK_ok {af : α → Env → Env} {d : α} : mpK af ρ ρx (.ok d) = .ok d (af d ρ) := id rfl
@[simp] theorem mP_e {f : VEnv → Res D} : mP L f ρ = mpK (aft L) ρ (shut L ρ) (f (view L ρ)) := by unfold mP mpK; cases f (view L ρ) <;> rfl
@[simp] theorem mAP_e {f : VEnv → Res (List D)} : mAP L f ρ = mpK (aftL L) ρ (shut L ρ) (f (view L ρ)) := by unfold mAP mpK; cases f (view L ρ) <;> rfl
def keepE (_ : α) (ρ : Env) : Env := ρ
@[simp] theorem keepE_e {a : α} : keepE a ρ = ρ := id rfl
@[simp] theorem mB_e {f : VEnv → Res Bool} : mB L f ρ = mpK keepE ρ (shut L ρ) (f (view L ρ)) := by unfold mB mpK; cases f (view L ρ) <;> rfl
def lift (ρ : Env) : Res α → MO α
  | .ok d => .ok d ρ
  | _ => .bad
@[simp] theorem lift_ok {a : α} : lift ρ (.ok a) = .ok a ρ := id rfl
def mOp2 (g : D → D → Res D) (a b : D) (ρ : Env) : MO D := lift ρ (g a b)
@[simp] theorem mOp2_e {g : D → D → Res D} {a b : D} : mOp2 g a b ρ = lift ρ (g a b) := id rfl
def mOp1 (g : D → D → Res D) (mb : Env → MO D) (a : D) (ρ : Env) : MO D := md (mOp2 g a) (mb ρ)
@[simp] theorem mOp1_e {g : D → D → Res D} {mb : Env → MO D} {a : D} : mOp1 g mb a ρ = md (mOp2 g a) (mb ρ) := id rfl
@[simp] theorem mOp_e {g : D → D → Res D} {ma mb : Env → MO D} : mOp g ma mb ρ = md (mOp1 g mb) (ma ρ) := by
  unfold mOp
  cases ma ρ with
  | ok a ρ1 =>
    show (mb ρ1).bind _ = md _ (mb ρ1)
    cases mb ρ1 with
    | ok b ρ2 => show (match g a b with | .ok d => MO.ok d ρ2 | _ => .bad) = lift ρ2 (g a b); cases g a b <;> rfl
    | ex x ρ2 => rfl
    | bad => rfl
  | ex x ρ2 => rfl
  | bad => rfl
@[simp] theorem mNil_e : mNil ρ = .ok [] ρ := id rfl
def mCons2 (a : D) (as : List D) (ρ : Env) : MO (List D) := .ok (a :: as) ρ
@[simp] theorem mCons2_e {a : D} {as : List D} : mCons2 a as ρ = .ok (a :: as) ρ := id rfl
def mCons1 (n : Env → MO (List D)) (a : D) (ρ : Env) : MO (List D) := md (mCons2 a) (n ρ)
@[simp] theorem mCons1_e {n : Env → MO (List D)} {a : D} : mCons1 n a ρ = md (mCons2 a) (n ρ) := id rfl
@[simp] theorem mCons_e {m : Env → MO D} {n : Env → MO (List D)} : mCons m n ρ = md (mCons1 n) (m ρ) := by
  unfold mCons
  cases m ρ with
  | ok a ρ1 => show (n ρ1).bind _ = md _ (n ρ1); cases n ρ1 <;> rfl
  | ex x ρ2 => rfl
  | bad => rfl
def mTup1 (as : List D) (ρ : Env) : MO D := lift ρ (tupC as)
@[simp] theorem mTup1_e {as : List D} : mTup1 as ρ = lift ρ (tupC as) := id rfl
theorem lift_if {b : Bool} {d : D} : lift ρ (if b = true then Res.ok d else .bad) = if b = true then MO.ok d ρ else .bad := by cases b <;> rfl
@[simp] theorem mTup_e {m : Env → MO (List D)} : mTup m ρ = md mTup1 (m ρ) := by
  unfold mTup
  cases m ρ with
  | ok a ρ1 => exact lift_if.symm
  | ex x ρ2 => rfl
  | bad => rfl
def mLst1 (as : List D) (ρ : Env) : MO D := lift ρ (lstC as)
@[simp] theorem mLst1_e {as : List D} : mLst1 as ρ = lift ρ (lstC as) := id rfl
@[simp] theorem mLst_e {m : Env → MO (List D)} : mLst m ρ = md mLst1 (m ρ) := by
  unfold mLst
  cases m ρ with
  | ok a ρ1 => exact lift_if.symm
  | ex x ρ2 => rfl
  | bad => rfl
def mApp1 (g : List D → Res D) (as : List D) (ρ : Env) : MO D := lift ρ (g as)
@[simp] theorem mApp1_e {g : List D → Res D} {as : List D} : mApp1 g as ρ = lift ρ (g as) := id rfl
@[simp] theorem mApp_e {g : List D → Res D} {m : Env → MO (List D)} : mApp g m ρ = md (mApp1 g) (m ρ) := by
  unfold mApp
  cases m ρ with
  | ok a ρ1 => show (match g a with | .ok d => MO.ok d ρ1 | _ => .bad) = lift ρ1 (g a); cases g a <;> rfl
  | ex x ρ2 => rfl
  | bad => rfl
def ioE (i : Nat) (t : Bool) (ρ : Env) : Res (D × D) → MO D
  | .ok r => .ok r.1 (ρ.set i (some (.own t r.2)))
  | _ => .bad
@[simp] theorem ioE_e {i : Nat} {t : Bool} {r : D × D} : ioE i t ρ (.ok r) = .ok r.1 (ρ.set i (some (.own t r.2))) := id rfl
def ioD (j i : Nat) (f : List D → Res (D × D)) (as : List D) (ρ : Env) : Option (Bool × D) → MO D
  | some (t, o) => ioE i t ρ (f (as.insertIdx j o))
  | none => .bad
@[simp] theorem ioD_e {j i : Nat} {f : List D → Res (D × D)} {as : List D} {t : Bool} {o : D} : ioD j i f as ρ (some (t, o)) = ioE i t ρ (f (as.insertIdx j o)) := id rfl
def ioB (j i : Nat) (f : List D → Res (D × D)) (as : List D) (ρ : Env) : MO D := ioD j i f as ρ (ownS ρ i)
@[simp] theorem ioB_e {j i : Nat} {f : List D → Res (D × D)} {as : List D} : ioB j i f as ρ = ioD j i f as ρ (ownS ρ i) := id rfl
def ioA (j i : Nat) (f : List D → Res (D × D)) (m : Env → MO (List D)) (ρ : Env) : Option (Bool × D) → MO D
  | some _ => md (ioB j i f) (m ρ)
  | none => .bad
@[simp] theorem ioA_e {j i : Nat} {f : List D → Res (D × D)} {m : Env → MO (List D)} {x : Bool × D} : ioA j i f m ρ (some x) = md (ioB j i f) (m ρ) := id rfl
@[simp] theorem mIO_e {j i : Nat} {f : List D → Res (D × D)} {m : Env → MO (List D)} : mIO j i f m ρ = ioA j i f m ρ (ownS ρ i) := by
  unfold mIO ioA
  cases ownS ρ i with
  | none => rfl
  | some x =>
    show (m ρ).bind _ = md _ (m ρ)
    cases m ρ with
    | ok as ρ1 =>
      show (match ownS ρ1 i with | some (t, o) => _ | none => _) = ioD j i f as ρ1 (ownS ρ1 i)
      cases ownS ρ1 i with
      | none => rfl
      | some y =>
        show (match f (as.insertIdx j y.2) with | .ok r => MO.ok r.1 (ρ1.set i (some (.own y.1 r.2))) | _ => .bad) = ioE i y.1 ρ1 (f (as.insertIdx j y.2))
        cases f (as.insertIdx j y.2) <;> rfl
    | ex x ρ1 => rfl
    | bad => rfl
def mtC : D → Env → MO Bool
  | .bl b, ρ => .ok b ρ
  | _, _ => .bad
@[simp] theorem mtC_e {b : Bool} : mtC (.bl b) ρ = .ok b ρ := id rfl
@[simp] theorem mTest_e {m : Env → MO D} : mTest m ρ = md mtC (m ρ) := by
  unfold mTest
  cases m ρ with
  | ok a ρ1 => cases a <;> rfl
  | ex x ρ2 => rfl
  | bad => rfl
def mnC (b : Bool) (ρ : Env) : MO Bool := .ok (!b) ρ
@[simp] theorem mnC_e {b : Bool} : mnC b ρ = .ok (!b) ρ := id rfl
@[simp] theorem mNot_e {m : Env → MO Bool} : mNot m ρ = md mnC (m ρ) := id rfl
def mandC (n : Env → MO Bool) (b : Bool) (ρ : Env) : MO Bool := if b = true then n ρ else .ok false ρ
@[simp] theorem mandC_t {n : Env → MO Bool} : mandC n true ρ = n ρ := id rfl
@[simp] theorem mandC_f {n : Env → MO Bool} : mandC n false ρ = .ok false ρ := id rfl
@[simp] theorem mAnd_e {m n : Env → MO Bool} : mAnd m n ρ = md (mandC n) (m ρ) := id rfl
def morC (n : Env → MO Bool) (b : Bool) (ρ : Env) : MO Bool := if b = true then .ok true ρ else n ρ
@[simp] theorem morC_t {n : Env → MO Bool} : morC n true ρ = .ok true ρ := id rfl
@[simp] theorem morC_f {n : Env → MO Bool} : morC n false ρ = n ρ := id rfl
@[simp] theorem mOr_e {m n : Env → MO Bool} : mOr m n ρ = md (morC n) (m ρ) := id rfl
@[simp] theorem mYes_e : mYes ρ = .ok true ρ := id rfl
def ats (k : α → Env → Out) : MO α → Out
  | .ok a ρ => k a ρ
  | .ex x ρ => .ex x ρ
  | .bad => .bad
@[simp] theorem ats_ok {k : α → Env → Out} {a : α} : ats k (.ok a ρ) = k a ρ := id rfl
theorem mAt_e {m : Env → MO α} {k : α → Env → Out} : mAt m ρ k = ats k (m ρ) := by unfold mAt ats; cases m ρ <;> rfl
def asgM1 (tg : Tgt) (d : D) (ρ : Env) : Out := asgD ρ (tg d)
@[simp] theorem asgM1_e {tg : Tgt} {d : D} : asgM1 tg d ρ = asgD ρ (tg d) := id rfl
@[simp] theorem sAsgM_e {m : Env → MO D} {tg : Tgt} : sAsgM m tg ρ = ats (asgM1 tg) (m ρ) := by
  unfold sAsgM
  rw [mAt_e]
  congr 1
def exprM1 (_ : D) (ρ : Env) : Out := .nx ρ
@[simp] theorem exprM1_e {d : D} : exprM1 d ρ = .nx ρ := id rfl
@[simp] theorem sExprM_e {m : Env → MO D} : sExprM m ρ = ats exprM1 (m ρ) := mAt_e
def retM1 (d : D) (ρ : Env) : Out := .rt d ρ
@[simp] theorem retM1_e {d : D} : retM1 d ρ = .rt d ρ := id rfl
@[simp] theorem sRetM_e {m : Env → MO D} : sRetM m ρ = ats retM1 (m ρ) := mAt_e
def ifM1 (g h : Env → Out) (b : Bool) (ρ : Env) : Out := if b = true then g ρ else h ρ
@[simp] theorem ifM1_t : ifM1 g h true ρ = g ρ := id rfl
@[simp] theorem ifM1_f : ifM1 g h false ρ = h ρ := id rfl
@[simp] theorem sIfM_e {m : Env → MO Bool} : sIfM m g h ρ = ats (ifM1 g h) (m ρ) := mAt_e
def appM1 (i : Nat) (d : D) (ρ : Env) : Out := chg ρ i (appF d)
@[simp] theorem appM1_e {i : Nat} {d : D} : appM1 i d ρ = chg ρ i (appF d) := id rfl
@[simp] theorem sAppM_e {i : Nat} {m : Env → MO D} : sAppM i m ρ = ats (appM1 i) (m ρ) := mAt_e
def ownM1 (i : Nat) (d : D) (ρ : Env) : Out := .nx (ρ.set i (some (.own false d)))
@[simp] theorem ownM1_e {i : Nat} {d : D} : ownM1 i d ρ = .nx (ρ.set i (some (.own false d))) := id rfl
@[simp] theorem sOwnM_e {i : Nat} {m : Env → MO D} : sOwnM i m ρ = ats (ownM1 i) (m ρ) := mAt_e
/-! comprehensions with state -/
theorem compM_sub {tg : Tgt} {c : Env → MO Bool} {f : Env → MO D} {vs : List Nat} {I : Env → Prop} {P : D → D → Prop} : ∀ {ds : List D} {ρ : Env}, I ρ →
    (∀ d ∈ ds, ∀ ρ, I ρ → ∃ as, tg d = .ok as ∧ as.all (fun p => vs.contains p.1) = true ∧ ((∃ ρ1, c (setS (wipeS ρ vs) as) = .ok false ρ1 ∧ I (wipeS ρ1 vs)) ∨ ∃ ρ1 e ρ2, c (setS (wipeS ρ vs) as) = .ok true ρ1 ∧ f ρ1 = .ok e ρ2 ∧ I (wipeS ρ2 vs) ∧ P d e)) →
    ∃ es ρ' sub, compM tg c f vs ds ρ = .ok es ρ' ∧ I ρ' ∧ sub.Sublist ds ∧ Paired P sub es
  | [], ρ, h0, _ => ⟨[], ρ, [], rfl, h0, .slnil, .nil⟩
  | d :: ds, ρ, h0, h => by
    obtain ⟨as, h1, h2, h3⟩ := h d List.mem_cons_self ρ h0
    rcases h3 with ⟨ρ1, h3, h4⟩ | ⟨ρ1, e, ρ2, h3, h4, h5, h6⟩
    · obtain ⟨es, ρ', sub, e1, e2, e3, e4⟩ := compM_sub (ds := ds) h4 fun x hx => h x (List.mem_cons_of_mem _ hx)
      refine ⟨es, ρ', sub, ?_, e2, e3.cons _, e4⟩
      unfold compM
      rw [h1]
      show (if as.all (fun p => vs.contains p.1) = true then _ else _) = _
      rw [if_pos h2, h3, MO.bind_ok, if_neg Bool.false_ne_true, e1]
    · obtain ⟨es, ρ', sub, e1, e2, e3, e4⟩ := compM_sub (ds := ds) h5 fun x hx => h x (List.mem_cons_of_mem _ hx)
      refine ⟨e :: es, ρ', d :: sub, ?_, e2, e3.cons₂ _, .cons h6 e4⟩
      unfold compM
      rw [h1]
      show (if as.all (fun p => vs.contains p.1) = true then _ else _) = _
      rw [if_pos h2, h3, MO.bind_ok, if_pos rfl, h4, MO.bind_ok, e1, MO.bind_ok]
theorem mComp_of {vs L : List Nat} {it : VEnv → Res (List D)} {tg : Tgt} {c : Env → MO Bool} {f : Env → MO D} {ds es : List D} {ρ' : Env} (hi : it (view L ρ) = .ok ds) (hl : ds.length ≤ 16777215) (h : compM tg c f vs ds (wipeS (shut L ρ) vs) = .ok es ρ') : mComp vs L it tg c f ρ = .ok (.lst es) ρ' := by
  unfold mComp
  rw [hi]
  dsimp only
  rw [if_pos (fit_of hl), h]
theorem mRange1_of {m : Env → MO D} {ρ1 : Env} {j : Int} (h : m ρ = .ok (.int j) ρ1) (h1 : -(2 ^ 62) ≤ j) (h2 : j < 2 ^ 62) : mRange1 m ρ = .ok (rangeD 0 j.toNat) ρ1 := by
  unfold mRange1
  rw [h, MO.bind_ok]
  exact if_pos (inR_of h1 h2)
end
end Du

namespace Du
open PySem PySem.Spec PyProof.Rows L2
/-! ### dicts, sums, comparisons, reckoned -/
section
variable {α β : Type} {g h : Env → Out} {ρ ρx : Env} {L : List Nat}
def ownDC : Option (Option Slot) → Option (Bool × List (D × D))
  | some (some (.own t (.dct false ds))) => some (t, ds)
  | _ => none
@[simp] theorem ownD_e {i : Nat} : ownD ρ i = ownDC (ρ[i]?) := id rfl
@[simp] theorem ownDC_e {t : Bool} {ds : List (D × D)} : ownDC (some (some (.own t (.dct false ds)))) = some (t, ds) := id rfl
def needDC (g : Env → Out) (ρ : Env) : Option (Bool × List (D × D)) → Out
  | some _ => g ρ
  | none => .bad
@[simp] theorem needD_e {i : Nat} : needD i g ρ = needDC g ρ (ownD ρ i) := id rfl
@[simp] theorem needDC_e {x : Bool × List (D × D)} : needDC g ρ (some x) = g ρ := id rfl
def chgDT (ρ : Env) (i : Nat) (t : Bool) : Option (List (D × D)) → Out
  | some es => .nx (ρ.set i (some (.own t (.dct false es))))
  | none => .bad
@[simp] theorem chgDT_e {i : Nat} {t : Bool} {es : List (D × D)} : chgDT ρ i t (some es) = .nx (ρ.set i (some (.own t (.dct false es)))) := id rfl
def chgDC (ρ : Env) (i : Nat) (f : List (D × D) → Option (List (D × D))) : Option (Bool × List (D × D)) → Out
  | some (t, ds) => chgDT ρ i t (f ds)
  | none => .bad
@[simp] theorem chgDC_e {i : Nat} {f : List (D × D) → Option (List (D × D))} {t : Bool} {ds : List (D × D)} : chgDC ρ i f (some (t, ds)) = chgDT ρ i t (f ds) := id rfl
@[simp] theorem chgD_e {i : Nat} {f : List (D × D) → Option (List (D × D))} : chgD ρ i f = chgDC ρ i f (ownD ρ i) := id rfl
noncomputable def putDF (n d : D) (ds : List (D × D)) : Option (List (D × D)) := if (dKeyOk n && fit ds.length) = true then some (dPut ds n d) else none
@[simp] theorem putDF_str {z : Str} {d : D} {ds : List (D × D)} (h : ds.length ≤ 16777215) : putDF (.str z) d ds = some (dPut ds (.str z) d) := if_pos (by rw [fit_of h]; rfl)
@[simp] theorem putDF_int {z : Int} {d : D} {ds : List (D × D)} (h : ds.length ≤ 16777215) : putDF (.int z) d ds = some (dPut ds (.int z) d) := if_pos (by rw [fit_of h]; rfl)
noncomputable def putDE (i : Nat) (ρ : Env) (d n : D) : Out := chgD ρ i (putDF n d)
@[simp] theorem putDE_e {i : Nat} {d n : D} : putDE i ρ d n = chgD ρ i (putDF n d) := id rfl
noncomputable def putDD (i : Nat) (fk : VEnv → Res D) (d : D) (ρ : Env) : Out := atR (putDE i ρ d) (shut [] ρ) (fk (view [] ρ))
@[simp] theorem putDD_e {i : Nat} {fk : VEnv → Res D} {d : D} : putDD i fk d ρ = atR (putDE i ρ d) (shut [] ρ) (fk (view [] ρ)) := id rfl
noncomputable def putDK (i : Nat) (L : List Nat) (ρ : Env) (fk : VEnv → Res D) (d : D) : Out := needD i (putDD i fk d) (aft L d ρ)
@[simp] theorem putDK_e {i : Nat} {fk : VEnv → Res D} {d : D} : putDK i L ρ fk d = needD i (putDD i fk d) (aft L d ρ) := id rfl
@[simp] theorem sPutD_e {i : Nat} {fv fk : VEnv → Res D} : sPutD i L fv fk ρ = atR (putDK i L ρ fk) (shut L ρ) (fv (view L ρ)) := by
  unfold sPutD
  rw [eAt_e]
  congr 1
noncomputable def putDM2 (i : Nat) (d n : D) (ρ : Env) : Out := chgD ρ i (putDF n d)
@[simp] theorem putDM2_e {i : Nat} {d n : D} : putDM2 i d n ρ = chgD ρ i (putDF n d) := id rfl
noncomputable def putDM1 (i : Nat) (n : Env → MO D) (d : D) (ρ : Env) : Out := ats (putDM2 i d) (n ρ)
@[simp] theorem putDM1_e {i : Nat} {n : Env → MO D} {d : D} : putDM1 i n d ρ = ats (putDM2 i d) (n ρ) := id rfl
noncomputable def putDM0 (i : Nat) (n : Env → MO D) (d : D) (ρ : Env) : Out := needD i (putDM1 i n d) ρ
@[simp] theorem putDM0_e {i : Nat} {n : Env → MO D} {d : D} : putDM0 i n d ρ = needD i (putDM1 i n d) ρ := id rfl
@[simp] theorem sPutDM_e {i : Nat} {m n : Env → MO D} : sPutDM i m n ρ = ats (putDM0 i n) (m ρ) := by
  unfold sPutDM
  rw [mAt_e]
  congr 1
def itC : Option (Bool × List (D × D)) → Env → MO D
  | some (_, ds), ρ => if fit ds.length = true then .ok (.lst (qItems ds)) ρ else .bad
  | none, _ => .bad
/-! lists that grow, are emptied -/
def lsC : D → Res (List D) := dLst
@[simp] theorem lsC_e {ds : List D} : lsC (.lst ds) = .ok ds := id rfl
@[simp] theorem eLs_e {f : VEnv → Res D} {ρ : VEnv} : eLs f ρ = bd lsC (f ρ) := id rfl
def extF (es ds : List D) : Option (List D) := if fit (ds.length + es.length) = true then some (ds ++ es) else none
@[simp] theorem extF_e {es ds : List D} (h : ds.length + es.length ≤ 16777215) : extF es ds = some (ds ++ es) := if_pos (fit_of h)
def extC (i : Nat) (L : List Nat) (ρ : Env) (es : List D) : Out := chg (aftL L es ρ) i (extF es)
@[simp] theorem extC_e {i : Nat} {es : List D} : extC i L ρ es = chg (aftL L es ρ) i (extF es) := id rfl
@[simp] theorem sExt_e {i : Nat} {f : VEnv → Res D} : sExt i L f ρ = atR (extC i L ρ) (shut L ρ) (eLs f (view L ρ)) := eAt_e
def clrF (_ : List D) : Option (List D) := some []
@[simp] theorem clrF_e {ds : List D} : clrF ds = some [] := id rfl
@[simp] theorem sClr_e {i : Nat} : sClr i ρ = chg ρ i clrF := id rfl
/-! dicts -/
@[simp] theorem eDct0_e {ρ : VEnv} : eDct0 ρ = .ok (.dct false []) := id rfl
def dct1C : D → D → Res D := fun k v => if dKeyOk k = true then .ok (.dct false [(k, v)]) else .bad
@[simp] theorem dct1C_str {z : Str} {v : D} : dct1C (.str z) v = .ok (.dct false [(.str z, v)]) := id rfl
@[simp] theorem eDct1_e {fk fv : VEnv → Res D} {ρ : VEnv} : eDct1 fk fv ρ = op2 dct1C (fk ρ) (fv ρ) := by
  unfold eDct1
  cases fk ρ with
  | ok k => show (fv ρ).bind _ = op2 dct1C (.ok k) (fv ρ); cases fv ρ <;> rfl
  | exc x => rfl
  | bad => rfl
def iotB (f : List D → Res (D × D)) (as : List D) (o : D) : Res D := match f (o :: as) with
  | .ok r => .ok r.1
  | _ => .bad
def iotC (f : List D → Res (D × D)) (fa : VEnv → Res (List D)) (ρ : VEnv) (o : D) : Res D := bd (fun as => iotB f as o) (fa ρ)
noncomputable def g1C (a n : D) : Res D := match a with
  | .dct false kvs => if dKeyOk n = true then .ok ((dGet kvs n).getD .non) else .bad
  | _ => .bad
theorem dGet_cons {p : D × D} {kvs : List (D × D)} {k : D} : dGet (p :: kvs) k = if p.1 = k then some p.2 else dGet kvs k := by
  unfold dGet
  rw [List.find?_cons]
  by_cases h : p.1 = k
  · rw [decide_eq_true h, if_pos h]; rfl
  · rw [decide_eq_false h, if_neg h]
theorem dGet_none {k : D} : ∀ {kvs : List (D × D)}, (∀ p ∈ kvs, p.1 ≠ k) → dGet kvs k = none
  | [], _ => rfl
  | p :: r, h => by
    rw [dGet_cons, if_neg (h p List.mem_cons_self)]
    exact dGet_none fun q hq => h q (List.mem_cons_of_mem _ hq)
theorem dGet_some {k v : D} : ∀ {kvs : List (D × D)}, (kvs.map (·.1)).Nodup → (k, v) ∈ kvs → dGet kvs k = some v
  | [], _, h => by cases h
  | p :: r, nd, h => by
    rw [List.map_cons, List.nodup_cons] at nd
    rw [dGet_cons]
    rcases List.mem_cons.mp h with e | h
    · subst e; rw [if_pos rfl]
    · rw [if_neg, dGet_some nd.2 h]
      intro e
      exact nd.1 (List.mem_map.mpr ⟨_, h, e.symm⟩)
theorem dPut_new {kvs : List (D × D)} {k v : D} (h : ∀ p ∈ kvs, p.1 ≠ k) : dPut kvs k v = kvs ++ [(k, v)] := by
  unfold dPut
  rw [dGet_none h]
  rfl
theorem dIx_dct {kvs : List (D × D)} {k : D} (h : dKeyOk k = true) : dIx (.dct false kvs) k = ixC (dGet kvs k) := by
  have : dIx (.dct false kvs) k = (if dKeyOk k = true then match dGet kvs k with | some d => Res.ok d | none => .bad else .bad) := by cases k <;> rfl
  rw [this, if_pos h]
  cases dGet kvs k <;> rfl
theorem dIx_last {w : List Nat} {c : Nat} (h : w.length < 16777215) : dIx (.str (Dear.txt (w ++ [c]))) (.int (-1)) = .ok (.str (Dear.txt [c])) := by
  show (if fit (Dear.txt (w ++ [c])).length = true then match atI (Dear.txt (w ++ [c])).cps.toList (-1) with | some c => Res.ok (D.str ⟨#[c]⟩) | none => .bad else .bad) = _
  rw [if_pos (fit_of (by rw [Dear.txt_length, List.length_append, List.length_singleton]; omega))]
  have e : (Dear.txt (w ++ [c])).cps.toList = w ++ [c] := Dear.txt_list _
  rw [e]
  have : atI (w ++ [c]) (-1) = some c := by
    unfold atI ixN
    rw [if_neg (by decide), if_pos (by rw [List.length_append, List.length_singleton]; omega)]
    show (w ++ [c])[_]? = _
    rw [List.length_append, List.length_singleton, show (-1 + ((w.length + 1 : Nat) : Int)).toNat = w.length by omega, List.getElem?_append_right (Nat.le_refl _), Nat.sub_self]
    rfl
  rw [this]
  rfl
theorem dIn_dct {neg : Bool} {kvs : List (D × D)} {k : D} (h : dKeyOk k = true) : dIn neg k (.dct false kvs) = .ok (.bl (neg ^^ (dGet kvs k).isSome)) := by
  have : dIn neg k (.dct false kvs) = if dKeyOk k = true then .ok (.bl (neg ^^ (dGet kvs k).isSome)) else .bad := by cases k <;> rfl
  rw [this, if_pos h]
@[simp] theorem dSum_ints {ns : List Int} : dSum [.lst (ns.map D.int)] = .ok (.int ns.sum) := by
  show (match asInts (ns.map D.int) with | some ns => Res.ok (D.int ns.sum) | none => .bad) = _
  rw [asInts_map]
@[simp] theorem dMax2_e {i j : Int} : dMax2 [.int i, .int j] = .ok (.int (if j > i then j else i)) := id rfl
@[simp] theorem dMin2_e {i j : Int} : dMin2 [.int i, .int j] = .ok (.int (if j < i then j else i)) := id rfl
@[simp] theorem dList_lst {ds : List D} : dList [.lst ds] = .ok (.lst ds) := id rfl
/-! comparisons -/
mutual
theorem pyEq_self : ∀ {d : D}, okD d = true → pyEq d d = true
  | .non, _ => rfl
  | .bl b, _ => by cases b <;> rfl
  | .int i, _ => by unfold pyEq; simp
  | .str z, _ => by unfold pyEq; simp
  | .lst ds, o => by unfold pyEq; exact pyEqAll_self o
  | .tup ds, o => by unfold pyEq; exact pyEqAll_self o
  | .scr _, o => by cases o
  | .dct _ _, o => by cases o
  | .exc _ _, o => by cases o
theorem pyEqAll_self : ∀ {ds : List D}, okAll ds = true → pyEqAll ds ds = true
  | [], _ => rfl
  | d :: ds, o => by
    simp only [okAll, Bool.and_eq_true] at o
    unfold pyEqAll
    rw [pyEq_self o.1, pyEqAll_self o.2]
    rfl
end
theorem dEq_of {a b : D} (ha : lay a = true) (hb : lay b = true) : dEq a b = .ok (.bl (pyEq a b)) := if_pos (by rw [ha, hb]; simp)
theorem dNe_of {a b : D} (ha : lay a = true) (hb : lay b = true) : dNe a b = .ok (.bl (!pyEq a b)) := if_pos (by rw [ha, hb]; simp)
theorem dEq_self {a : D} (ha : lay a = true) : dEq a a = .ok (.bl true) := by rw [dEq_of ha ha, pyEq_self (lay_ok ha)]
theorem dNe_self {a : D} (ha : lay a = true) : dNe a a = .ok (.bl false) := by rw [dNe_of ha ha, pyEq_self (lay_ok ha)]; rfl
/-! what may be compared: texts of letters -/
def Asc (w : List Nat) : Prop := ∀ c ∈ w, c < 128
theorem okD_txt {w : List Nat} (h : Asc w) : okD (.str (Dear.txt w)) = true := by
  show ((Dear.txt w).cps.toList.all fun c => decide (c < 128)) = true
  have e : (Dear.txt w).cps.toList = w := Dear.txt_list _
  rw [e]
  exact List.all_eq_true.mpr fun c hc => decide_eq_true (h c hc)
theorem okAll_of : ∀ {ds : List D}, (∀ d ∈ ds, okD d = true) → okAll ds = true
  | [], _ => rfl
  | d :: ds, h => by
    simp only [okAll, Bool.and_eq_true]
    exact ⟨h d List.mem_cons_self, okAll_of fun e he => h e (List.mem_cons_of_mem _ he)⟩
theorem depAll_of {n : Nat} : ∀ {ds : List D}, (∀ d ∈ ds, dep d ≤ n) → depAll ds ≤ n
  | [], _ => Nat.zero_le _
  | d :: ds, h => by
    show max (dep d) (depAll ds) ≤ n
    exact Nat.max_le.mpr ⟨h d List.mem_cons_self, depAll_of fun e he => h e (List.mem_cons_of_mem _ he)⟩
/-- may be compared, n deep at most -/
def Ly (n : Nat) (d : D) : Prop := okD d = true ∧ dep d ≤ n
theorem Ly.lay {n : Nat} {d : D} (h : Ly n d) (hn : n ≤ 60) : lay d = true := by
  unfold Du.lay
  rw [h.1, decide_eq_true (Nat.le_trans h.2 hn)]
  rfl
theorem Ly.mono {n m : Nat} {d : D} (h : Ly n d) (hn : n ≤ m) : Ly m d := ⟨h.1, Nat.le_trans h.2 hn⟩
theorem Ly.lst {n : Nat} {ds : List D} (h : ∀ d ∈ ds, Ly n d) : Ly (n + 1) (.lst ds) := ⟨okAll_of fun d hd => (h d hd).1, by
  show depAll ds + 1 ≤ n + 1
  have := depAll_of fun d hd => (h d hd).2
  omega⟩
theorem Ly.tup {n : Nat} {ds : List D} (h : ∀ d ∈ ds, Ly n d) : Ly (n + 1) (.tup ds) := ⟨okAll_of fun d hd => (h d hd).1, by
  show depAll ds + 1 ≤ n + 1
  have := depAll_of fun d hd => (h d hd).2
  omega⟩
theorem Ly.non {n : Nat} : Ly n .non := ⟨rfl, Nat.zero_le _⟩
theorem Ly.bl {n : Nat} {b : Bool} : Ly n (.bl b) := ⟨rfl, Nat.zero_le _⟩
theorem Ly.int {n : Nat} {b : Int} : Ly n (.int b) := ⟨rfl, Nat.zero_le _⟩
theorem Ly.txt {n : Nat} {w : List Nat} (h : Asc w) : Ly n (.str (Dear.txt w)) := ⟨okD_txt h, Nat.zero_le _⟩
theorem Ly.txts {n : Nat} {l : List (List Nat)} (h : ∀ w ∈ l, Asc w) : Ly (n + 1) (.lst (l.map fun v => .str (Dear.txt v))) := .lst fun d hd => by
  obtain ⟨w, hw, rfl⟩ := List.mem_map.mp hd
  exact .txt (h w hw)
theorem forall_cons {α : Type} {P : α → Prop} {a : α} {l : List α} (h : P a) (t : ∀ x ∈ l, P x) : ∀ x ∈ a :: l, P x := fun x hx => by
  rcases List.mem_cons.mp hx with e | e
  · rw [e]; exact h
  · exact t x e
theorem forall_nil {α : Type} {P : α → Prop} : ∀ x ∈ ([] : List α), P x := fun _ h => nomatch h
end
end Du
namespace Du
open PySem PySem.Spec PyProof.Rows L2
/-! ### one step at a time -/
section
variable {g h : Env → Out} {ρ ρ' : Env} {L : List Nat} {o : Out}
theorem seq_to (h1 : g ρ = .nx ρ') (h2 : h ρ' = o) : sSeq g h ρ = o := by rw [sSeq_e, h1]; exact h2
theorem need_to {i : Nat} {x : Bool × List D} (h1 : ownL ρ i = some x) (h2 : g ρ = o) : need i g ρ = o := by rw [need_e, h1]; exact h2
theorem for_to {it : VEnv → Res (List D)} {tg : Tgt} {l : List Nat} {ds : List D} (h1 : it (view L ρ) = .ok ds) (h2 : shut L ρ = ρ') (h3 : forL tg g l ds ρ' = o) : sFor L it tg g l ρ = o := by rw [sFor_e, h1, atR_ok, sForC_e, h2, h3]
theorem ownM_to {m : Env → MO D} {i : Nat} {d : D} (h1 : m ρ = .ok d ρ') : sOwnM i m ρ = .nx (ρ'.set i (some (.own false d))) := by rw [sOwnM_e, h1]; rfl
theorem asgM_to {m : Env → MO D} {i : Nat} {d : D} (h1 : m ρ = .ok d ρ') : sAsgM m (tgN i) ρ = .nx (ρ'.set i (some (.frz d))) := by rw [sAsgM_e, h1]; rfl
theorem asg_to {f : VEnv → Res D} {i : Nat} {d : D} (h1 : f (view L ρ) = .ok d) : sAsg L f (tgN i) ρ = .nx ((aft L d ρ).set i (some (.frz d))) := by rw [sAsg_e, h1]; rfl
theorem own_to {f : VEnv → Res D} {i : Nat} {d : D} (h1 : f (view L ρ) = .ok d) : sOwn i L f ρ = .nx ((aftO L d ρ).set i (some (.own false d))) := by rw [sOwn_e, h1]; rfl
end
end Du
namespace Du
open PySem PySem.Spec PyProof.Rows L2
/-! ### comprehensions over what is made of a list -/
theorem compL_map {α : Type} {F : α → D} {tg : Tgt} {c : VEnv → Res Bool} {f : VEnv → Res D} {ρ : VEnv} {vs : List Nat} {p : α → Bool} {q : α → D} : ∀ {l : List α}, (∀ a ∈ l, ∃ as, tg (F a) = .ok as ∧ as.all (fun p => vs.contains p.1) = true ∧ c (setAllD ρ as) = .ok (p a) ∧ (p a = true → f (setAllD ρ as) = .ok (q a))) → compL tg c f ρ vs (l.map F) = .ok ((l.filter p).map q)
  | [], _ => rfl
  | d :: ds, h => by
    obtain ⟨as, h1, h2, h3, h4⟩ := h d List.mem_cons_self
    have ih := compL_map (l := ds) fun x hx => h x (List.mem_cons_of_mem _ hx)
    rw [List.map_cons]
    unfold compL
    rw [h1, Res.bind_ok, if_pos h2, h3, Res.bind_ok]
    cases hp : p d with
    | true => rw [if_pos rfl, h4 hp, Res.bind_ok, ih, Res.bind_ok, List.filter_cons, hp, if_pos rfl, List.map_cons]
    | false => rw [if_neg Bool.false_ne_true, ih, List.filter_cons, hp, if_neg Bool.false_ne_true]
theorem eComp_map {α : Type} {F : α → D} {tg : Tgt} {c : VEnv → Res Bool} {f : VEnv → Res D} {ρ : VEnv} {vs : List Nat} {it : VEnv → Res (List D)} {l : List α} (p : α → Bool) (q : α → D) (hi : it ρ = .ok (l.map F)) (hl : l.length ≤ 16777215)
    (h : ∀ a ∈ l, ∃ as, tg (F a) = .ok as ∧ as.all (fun p => vs.contains p.1) = true ∧ c (setAllD (wipeD ρ vs) as) = .ok (p a) ∧ (p a = true → f (setAllD (wipeD ρ vs) as) = .ok (q a))) : eComp vs it tg c f ρ = .ok (.lst ((l.filter p).map q)) := by
  unfold eComp
  rw [hi, Res.bind_ok, if_pos (fit_of (by rw [List.length_map]; exact hl)), compL_map h]
  rfl
/-- .. none left out -/
theorem eComp_all {α : Type} {F : α → D} {tg : Tgt} {f : VEnv → Res D} {ρ : VEnv} {vs : List Nat} {it : VEnv → Res (List D)} {l : List α} (q : α → D) (hi : it ρ = .ok (l.map F)) (hl : l.length ≤ 16777215)
    (h : ∀ a ∈ l, ∃ as, tg (F a) = .ok as ∧ as.all (fun p => vs.contains p.1) = true ∧ f (setAllD (wipeD ρ vs) as) = .ok (q a)) : eComp vs it tg bYes f ρ = .ok (.lst (l.map q)) := by
  rw [eComp_map (fun _ => true) q hi hl fun a ha => by
    obtain ⟨as, h1, h2, h3⟩ := h a ha
    exact ⟨as, h1, h2, bYes_e, fun _ => h3⟩, List.filter_eq_self.mpr fun _ _ => rfl]
end Du
namespace Du
open PySem PySem.Spec PyProof.Rows L2
theorem pyEq_nil {ds : List D} : pyEq (.lst ds) (.lst []) = ds.isEmpty := by cases ds <;> rfl
theorem lay_nil : lay (.lst []) = true := rfl
theorem dNe_nil {ds : List D} (h : ∀ d ∈ ds, Ly 50 d) : dNe (.lst ds) (.lst []) = .ok (.bl (!ds.isEmpty)) := by
  rw [dNe_of ((Ly.lst h).lay (by decide)) lay_nil, pyEq_nil]
theorem dEq_nil {ds : List D} (h : ∀ d ∈ ds, Ly 50 d) : dEq (.lst ds) (.lst []) = .ok (.bl ds.isEmpty) := by
  rw [dEq_of ((Ly.lst h).lay (by decide)) lay_nil, pyEq_nil]
end Du
namespace Du
open PySem PySem.Spec PyProof.Rows L2
theorem dSl_take {w : List Nat} {j : Nat} (h : w.length ≤ 16777215) : dSl (.str (Dear.txt w)) none (some (j : Int)) = .ok (.str (Dear.txt (w.take j))) := by
  show (if fit (Dear.txt w).length = true then Res.ok (D.str (cutS (Dear.txt w) none (some (j : Int)))) else .bad) = _
  rw [if_pos (fit_of (by rw [Dear.txt_length]; exact h)), Dear.cut_pre]
end Du
namespace Du
open PySem PySem.Spec PyProof.Rows L2
@[simp] theorem imms_strs {α : Type} {f : α → Str} : ∀ {l : List α}, imms (l.map fun a => D.str (f a)) = true
  | [] => rfl
  | a :: l => by
    rw [List.map_cons, imms_cons, imms_strs]
    rfl
@[simp] theorem imms_ints {α : Type} {f : α → Int} : ∀ {l : List α}, imms (l.map fun a => D.int (f a)) = true
  | [] => rfl
  | a :: l => by
    rw [List.map_cons, imms_cons, imms_ints]
    rfl
theorem dIx_at {α : Type} {F : α → D} {l : List α} {j : Nat} {a : α} (h : l[j]? = some a) : dIx (.lst (l.map F)) (.int (j : Nat)) = .ok (F a) := by
  rw [dIx_lst, atI_nat (by omega), Int.toNat_natCast, List.getElem?_map, h]
  rfl
end Du
namespace Du
open PySem PySem.Spec PyProof.Rows L2
/-! ### exceptions, reckoned -/
@[simp] theorem cons2_exc {x : Ex} {r : Res (List D)} : cons2 (.exc x) r = .exc x := id rfl
@[simp] theorem cons2_exc2 {a : D} {x : Ex} : cons2 (.ok a) (.exc x) = .exc x := id rfl
@[simp] theorem op2_exc {g : D → D → Res D} {x : Ex} {r : Res D} : op2 g (.exc x) r = .exc x := by cases r <;> rfl
@[simp] theorem op2_exc2 {g : D → D → Res D} {a : D} {x : Ex} : op2 g (.ok a) (.exc x) = .exc x := id rfl
theorem nx_ok {f : List D → Res D} {ds : List D} {d : D} (h : f ds = .ok d) : nx f ds = .ok d := by unfold nx; rw [h]
end Du

namespace Du
open PySem PySem.Spec PyProof.Rows L2
/-! ### tuple keys, own lists gone through: reckoned -/
section
variable {ρ ρ1 ρ2 : Env} {L : List Nat}
@[simp] theorem dLenT_e {kvs : List (D × D)} : dLenT [.dct true kvs] = .ok (.int kvs.length) := id rfl
theorem eM_of2 {ty : D → Bool} {g : D → List D → Res D} {fo : VEnv → Res D} {fa : VEnv → Res (List D)} {ρ : VEnv} {a : D} {as : List D} (h0 : fo ρ = .ok a) (h1 : ty a = true) (h2 : fa ρ = .ok as) : eM ty g fo fa ρ = g a as := by
  unfold eM
  rw [h0, Res.bind_ok, if_pos h1, h2, Res.bind_ok]
end
end Du

namespace Du
open PySem PySem.Spec PyProof.Rows L2 Dear
/-! ### what every law's front shares: fractions, tongues, texts -/
@[simp] theorem F_is_whole_int (i : Int) : F_is_whole [.int i] = .ok (.bl true) := by rfl
theorem is_fr (x y : Int) (r : Int) (h : F_divisor [.int y, .int (if x < 0 then -x else x)] = .ok (.int r)) (h1 : 1 ≤ y) : F_is_fraction [.tup [.int x, .int y]] = .ok (.bl (decide (r = 1))) := by
  show outR (B_is_fraction [some (.frz (.tup [.int x, .int y])), none, none]) = _
  simp [B_is_fraction, dLen, h, show ¬ y < 1 by omega]
theorem divisor_e : ∀ (n : Nat) (a : Nat), F_divisor [.int a, .int n] = .ok (.int (Nat.gcd n a)) := by
  have key : ∀ (n a : Nat), outR (B_divisor [some (.frz (.int a)), some (.frz (.int n))]) = .ok (.int (Nat.gcd n a)) := by
    intro n
    induction n using Nat.strongRecOn with
    | ind n ih =>
      intro a
      unfold B_divisor
      rw [sSeq_e, sWhile_e]
      by_cases hn : n = 0
      · subst hn
        simp
      · have hp : 0 < n := by omega
        have := ih (a % n) (Nat.mod_lt _ (by omega)) n
        unfold B_divisor at this
        rw [sSeq_e] at this
        simp [hp, B_divisor_1_u]
        rw [← Int.natCast_emod, this, Nat.gcd_rec n a]
  intro n a
  exact key n a
/-- a price: a fraction above nothing, lowest terms -/
def Price (d : D) : Prop := ∃ x y : Nat, d = .tup [.int x, .int y] ∧ 0 < x ∧ 0 < y ∧ Nat.gcd x y = 1 ∧ x < 2 ^ 62 ∧ y < 2 ^ 62
structure Tg where
  signs : List (Nat × D × D)
  firsts : List (List Nat)
  pairs : List (List Nat)
  long : Nat
def rowD (r : Nat × D × D) : D := .tup [.str (txt [r.1]), r.2.1, r.2.2]
abbrev txs (l : List (List Nat)) : D := .lst (l.map fun v => .str (txt v))
def Tg.d (T : Tg) : D := .tup [.lst (T.signs.map rowD), txs T.firsts, txs T.pairs, .int T.long]
/-- may the sign c come behind what ends on l (no sign, or one)? -/
def Tg.comes (T : Tg) (l : List Nat) (c : Nat) : Bool := if l = [] then !decide ([c] ∈ T.firsts) else !decide (l ++ [c] ∈ T.pairs)
/-- the texts one sign longer than w -/
def Tg.longer (T : Tg) (w : List Nat) : List (List Nat) := (T.signs.filter fun r => T.comes (lastL w) r.1).map fun r => w ++ [r.1]
def Tg.step (T : Tg) (l : List (List Nat)) : List (List Nat) := l.flatMap T.longer
def Tg.level (T : Tg) : Nat → List (List Nat)
  | 0 => [[]]
  | n + 1 => T.step (T.level n)
theorem longer_len (T : Tg) (w : List Nat) : (T.longer w).length ≤ T.signs.length := by
  unfold Tg.longer
  rw [List.length_map]
  exact List.length_filter_le _ _
theorem step_len (T : Tg) : ∀ l : List (List Nat), (T.step l).length ≤ l.length * T.signs.length
  | [] => by simp [Tg.step]
  | w :: r => by
    have h1 := longer_len T w
    have h2 := step_len T r
    unfold Tg.step at h2 ⊢
    rw [List.flatMap_cons, List.length_append, List.length_cons, Nat.add_mul]
    omega
/-- all texts up to n signs, shorter ones first -/
def Tg.upto (T : Tg) : Nat → List (List Nat)
  | 0 => []
  | n + 1 => T.upto n ++ T.level (n + 1)
theorem level_w (T : Tg) : ∀ (n : Nat) (w : List Nat), w ∈ T.level n → w.length = n
  | 0, w, h => by
    simp [Tg.level] at h
    subst h
    rfl
  | n + 1, w, h => by
    obtain ⟨v, hv, hw⟩ := List.mem_flatMap.mp (show w ∈ (T.level n).flatMap T.longer from h)
    obtain ⟨r, _, rfl⟩ := List.mem_map.mp hw
    rw [List.length_append, level_w T n v hv]
    rfl
theorem level_len (T : Tg) : ∀ n, (T.level n).length ≤ T.signs.length ^ n
  | 0 => by simp [Tg.level]
  | n + 1 => by
    have h1 := step_len T (T.level n)
    have h2 := Nat.mul_le_mul_right T.signs.length (level_len T n)
    rw [Nat.pow_succ]
    exact Nat.le_trans h1 h2
theorem level_le (T : Tg) (hs : T.signs.length ≤ 6) (n : Nat) : (T.level n).length ≤ 6 ^ n := Nat.le_trans (level_len T n) (Nat.pow_le_pow_left hs n)
theorem upto_le (T : Tg) (hs : T.signs.length ≤ 6) : ∀ n, (T.upto n).length ≤ 2 * 6 ^ n
  | 0 => by simp [Tg.upto]
  | n + 1 => by
    have h1 := upto_le T hs n
    have h2 := level_le T hs (n + 1)
    unfold Tg.upto
    rw [List.length_append, Nat.pow_succ] at *
    omega
theorem six {n : Nat} (h : n ≤ 8) : 6 ^ n ≤ 1679616 := Nat.le_trans (Nat.pow_le_pow_right (by decide) h) (by decide)
theorem rng_e (n : Nat) (h : n ≤ 1000) : dRange [.int (n : Nat)] = .ok ((List.range' 0 n).map fun i => D.int (i : Nat)) := by
  rw [dRange1 (by omega) (by omega), Int.toNat_natCast]
  unfold rangeD
  rw [List.range_eq_range']
  congr 1
  refine List.map_congr_left fun i _ => ?_
  rw [Int.zero_add]
/-- a source of draws: what is left of the cell, and the seed -/
def Src (d : D) : Prop := ∃ c s : Int, d = .lst [.int c, .int s] ∧ 0 ≤ s ∧ s < 2 ^ 31
end Du

namespace Du
open PySem PySem.Spec PyProof.Rows L2 Dear
/-! ### the program lets a good tongue by -/
theorem dAll_true {α : Type} (l : List α) (q : α → D) (h : ∀ a ∈ l, q a = .bl true) : dAll [.lst (l.map q)] = .ok (.bl true) := by
  have e : l.map q = (l.map fun _ => true).map D.bl := by
    rw [List.map_map]
    exact List.map_congr_left fun a ha => by rw [h a ha]; rfl
  rw [e]
  show (match asBls _ with | some bs => Res.ok (D.bl (bs.all id)) | none => .bad) = _
  rw [asBls_map]
  simp
theorem filter_yes {l : List D} : l.filter (fun _ => true) = l := List.filter_eq_self.mpr fun _ _ => rfl
theorem is_fraction_e {d : D} (h : Price d) : F_is_fraction [d] = .ok (.bl true) := by
  obtain ⟨x, y, rfl, h1, h2, h3, h4, h5⟩ := h
  have e := divisor_e x y
  have := is_fr x y (Nat.gcd x y : Nat) (by rw [if_neg (by omega)]; exact e) (by omega)
  rw [this, h3]
  rfl
theorem is_price_e {d : D} (h : Price d) : F_is_price [d] = .ok (.bl true) := by
  have e := is_fraction_e h
  obtain ⟨x, y, rfl, h1, h2, h3, h4, h5⟩ := h
  show outR (B_is_price [some (.frz (.tup [.int x, .int y]))]) = _
  simp [B_is_price_u, e, h1]
theorem abc_mem (c : Nat) (h1 : 97 ≤ c) (h2 : c ≤ 122) : c ∈ (Str.ofString "abcdefghijklmnopqrstuvwxyz").cps.toList := by
  have : ∀ i : Fin 26, 97 + i.val ∈ (Str.ofString "abcdefghijklmnopqrstuvwxyz").cps.toList := by decide +kernel
  have := this ⟨c - 97, by omega⟩
  rwa [show 97 + (c - 97) = c by omega] at this
theorem dIn_sign {neg : Bool} {c : Nat} {b : Str} : dIn neg (.str (txt [c])) (.str b) = .ok (.bl (neg ^^ decide (c ∈ b.cps.toList))) := rfl
theorem is_letter_e {c : Nat} (h1 : 97 ≤ c) (h2 : c ≤ 122) : F_is_letter [.str (txt [c])] = .ok (.bl true) := by
  show outR (B_is_letter [some (.frz (.str (txt [c])))]) = _
  simp [B_is_letter_u, txt_length, dIn_sign, abc_mem c h1 h2]
structure GoodRow (r : Nat × D × D) : Prop where
  lo : 97 ≤ r.1
  hi : r.1 ≤ 122
  pr : Price r.2.1
  la : r.2.2 = .non ∨ Price r.2.2
theorem is_sign_e {r : Nat × D × D} (h : GoodRow r) : F_is_sign [rowD r] = .ok (.bl true) := by
  show outR (B_is_sign [some (.frz (rowD r)), none, none, none]) = _
  rcases h.la with e | e
  · simp [B_is_sign_u, rowD, is_letter_e h.lo h.hi, is_price_e h.pr, e]
  · have e2 : isNon r.2.2 = false := by obtain ⟨x, y, e3, _⟩ := e; rw [e3]; rfl
    simp [B_is_sign_u, rowD, is_letter_e h.lo h.hi, is_price_e h.pr, is_price_e e, e2]
/-- what every law's tongue has -/
structure Good (T : Tg) : Prop where
  lo : 2 ≤ T.signs.length
  hi : T.signs.length ≤ 6
  row : ∀ r ∈ T.signs, GoodRow r
  nd : (T.signs.map (·.1)).Nodup
  fs : ∀ v ∈ T.firsts, ∃ c, v = [c] ∧ c ∈ T.signs.map (·.1)
  fnd : T.firsts.Nodup
  ps : ∀ v ∈ T.pairs, ∃ a b, v = [a, b] ∧ a ∈ T.signs.map (·.1) ∧ b ∈ T.signs.map (·.1)
  pnd : T.pairs.Nodup
  fl : T.firsts.length ≤ 1000
  pl : T.pairs.length ≤ 1000
  l0 : 1 ≤ T.long
  l1 : T.long ≤ 8
theorem dd_len' {l : List Str} (h : l.Nodup) : (Dear.dd l).length = l.length := by
  unfold Dear.dd
  rw [Dear.dd_nodup [] h]
  rfl
theorem are_signs_e {T : Tg} (h : Good T) : F_are_signs [.lst (T.signs.map rowD)] = .ok (.bl true) := by
  have h0 := h.lo
  have h1 := h.hi
  have hl : (T.signs.map rowD).length ≤ 16777215 := by rw [List.length_map]; omega
  have c1 : eComp [1] (iAny (eVar 0)) (tgN 1) bYes (eCall F_is_sign (aCons (eVar 1) aNil)) [some (.lst (T.signs.map rowD)), none] = .ok (.lst ((T.signs.map rowD).map fun _ => .bl true)) := by
    rw [eComp_of (ds := T.signs.map rowD) (fun _ => true) (fun _ => .bl true) (by simp) hl, filter_yes]
    intro d hd
    obtain ⟨r, hr, rfl⟩ := List.mem_map.mp hd
    refine ⟨_, rfl, by simp, by simp, fun _ => ?_⟩
    simp [is_sign_e (h.row r hr)]
  have c2 : eComp [1] (iAny (eVar 0)) (tgN 1) bYes (eOp dIx (eVar 1) (eC (.int 0))) [some (.lst (T.signs.map rowD)), none] = .ok (.lst ((T.signs.map fun r => txt [r.1]).map D.str)) := by
    have : (T.signs.map fun r => txt [r.1]).map D.str = ((T.signs.map rowD)).map fun d => match d with | .tup (x :: _) => x | _ => .non := by
      rw [List.map_map, List.map_map]
      exact List.map_congr_left fun r _ => rfl
    rw [this, eComp_of (ds := T.signs.map rowD) (fun _ => true) (fun d => match d with | .tup (x :: _) => x | _ => .non) (by simp) hl, filter_yes]
    intro d hd
    obtain ⟨r, hr, rfl⟩ := List.mem_map.mp hd
    refine ⟨_, rfl, by simp, by simp, fun _ => ?_⟩
    simp [rowD]
  have a1 := dAll_true T.signs ((fun _ => D.bl true) ∘ rowD) (fun _ _ => rfl)
  have nd : (T.signs.map fun r => txt [r.1]).Nodup := by
    exact List.pairwise_map.mpr ((List.pairwise_map.mp h.nd).imp fun hne e => hne (by simpa using txt_inj e))
  have c3 : eLenSet (eComp [1] (iAny (eVar 0)) (tgN 1) bYes (eOp dIx (eVar 1) (eC (.int 0)))) [some (.lst (T.signs.map rowD)), none] = .ok (.int T.signs.length) := by
    unfold eLenSet
    rw [c2, Res.bind_ok]
    show (match asStrs _ with | some zs => _ | none => _) = _
    rw [asStrs_map]
    have e := dd_len' nd
    rw [List.length_map] at e
    dsimp only
    rw [if_pos (Nat.ble_eq_true_of_le (by rw [List.length_map]; omega)), e]
  show outR (B_are_signs [some (.frz (.lst (T.signs.map rowD))), none]) = _
  simp [B_are_signs_u, show T.signs.length ≤ 16777215 by omega, show (2 : Int) ≤ T.signs.length by omega, show (T.signs.length : Int) ≤ 6 by omega, c1, a1, c3]
theorem cutD_pre {α : Type} {xs : List α} {j : Nat} : cutD xs none (some (j : Int)) = xs.take j := by
  unfold cutD
  rw [HT.sIx_none, HT.sIx_nat, List.drop_zero, Nat.sub_zero]
  by_cases h : j ≤ xs.length
  · rw [Nat.min_eq_left h]
  · rw [Nat.min_eq_right (by omega), List.take_length, List.take_of_length_le (by omega)]
theorem numbered_mem : ∀ {ds : List D} {k : Nat} {d : D}, d ∈ numbered k ds → ∃ i x, ds[i]? = some x ∧ d = .tup [.int ((k + i : Nat) : Int), x]
  | [], _, _, h => by cases h
  | x :: r, k, d, h => by
    rcases List.mem_cons.mp (show d ∈ _ :: numbered (k + 1) r from h) with e | e
    · exact ⟨0, x, rfl, by rw [e]; rfl⟩
    · obtain ⟨i, y, h1, h2⟩ := numbered_mem e
      exact ⟨i + 1, y, h1, by rw [h2, show k + 1 + i = k + (i + 1) by omega]⟩
theorem unlike_e {l : List (List Nat)} {n : Nat} {cs : List Nat} (hn : n ≤ 1000) (hl : l.length ≤ 16777215) (nd : l.Nodup) (h : ∀ v ∈ l, v.length = n ∧ ∀ c ∈ v, c ∈ cs) : F_are_unlike_texts [txs l, .int n, txs (cs.map fun c => [c])] = .ok (.bl true) := by
  have turn : ∀ d ∈ numbered 0 (l.map fun v => D.str (txt v)), ∃ as ρ', tgT [(tgN 3), (tgN 4)] d = .ok as ∧ B_are_unlike_texts_1 (setS [some (.frz (txs l)), some (.frz (.int n)), some (.frz (txs (cs.map fun c => [c]))), none, none, none] as) = .nx ρ' ∧ clr [3, 4, 5] ρ' = [some (.frz (txs l)), some (.frz (.int n)), some (.frz (txs (cs.map fun c => [c]))), none, none, none] := by
    intro d hd
    obtain ⟨i, x, h1, rfl⟩ := numbered_mem hd
    rw [Nat.zero_add]
    rw [List.getElem?_map] at h1
    obtain ⟨v, h2, rfl⟩ := Option.map_eq_some_iff.mp h1
    have hv := h v (List.mem_of_getElem? h2)
    have ni : ¬ v ∈ l.take i := by
      intro m
      obtain ⟨k, hk, e⟩ := List.mem_iff_getElem.mp m
      rw [List.getElem_take] at e
      rw [List.length_take] at hk
      obtain ⟨hi, e2⟩ := List.getElem?_eq_some_iff.mp h2
      have := (List.getElem_inj nd).mp (e.trans e2.symm)
      omega
    have c1 : ∀ x5, eComp [5] (iAny (eVar 4)) (tgN 5) bYes (eOp (dIn false) (eVar 5) (eVar 2)) [some (txs l), some (.int n), some (txs (cs.map fun c => [c])), some (.int i), some (.str (txt v)), x5] = .ok (.lst (v.map fun _ => D.bl true)) := by
      intro x5
      have sv : signs (txt v) = v.map fun c => D.str (txt [c]) := by unfold signs; rw [txt_list]; rfl
      rw [eComp_of (ds := signs (txt v)) (fun _ => true) (fun _ => .bl true) (by simp) (by rw [sv, List.length_map, hv.1]; omega), filter_yes, sv, List.map_map]
      · rfl
      · intro d hd
        rw [sv] at hd
        obtain ⟨c, hc, rfl⟩ := List.mem_map.mp hd
        refine ⟨_, rfl, by simp, by simp, fun _ => ?_⟩
        have hcs := hv.2 c hc
        have := dIn_txts (neg := false) (w := [c]) (l := cs.map fun c => [c])
        simp [hcs] at this
        simp [txs, this]
    have a1 := dAll_true v (fun _ => D.bl true) (fun _ _ => rfl)
    have i1 : dIn false (.str (txt v)) (.lst ((l.map fun v => D.str (txt v)).take i)) = .ok (.bl false) := by rw [← List.map_take, dIn_txts]; simp [ni]
    have s1 : dSl (txs l) none (some (i : Int)) = .ok (.lst ((l.map fun v => D.str (txt v)).take i)) := by
      show Res.ok (D.lst (cutD _ none _)) = _
      rw [cutD_pre]
    refine ⟨_, [some (.frz (txs l)), some (.frz (.int n)), some (.frz (txs (cs.map fun c => [c]))), some (.frz (.int i)), some (.frz (.str (txt v))), none], rfl, ?_, rfl⟩
    have c2 := c1 none
    have l1 : v.length ≤ 16777215 := by rw [hv.1]; omega
    simp [B_are_unlike_texts_1_u, txt_length, hv.1, s1, i1, c2, a1, show n ≤ 16777215 by omega]
  show outR (B_are_unlike_texts [some (.frz (txs l)), some (.frz (.int n)), some (.frz (txs (cs.map fun c => [c]))), none, none, none]) = _
  have f := forL_same turn
  have e1 : dEnum [txs l] = .ok (numbered 0 (l.map fun v => D.str (txt v))) := rfl
  have k1 : isKind "list" (txs l) = .ok (.bl true) := by simp
  simp [B_are_unlike_texts_u, e1, f, k1]
theorem look_e {T : Tg} (h : Good T) : F_look_at_tongue [T.d] = .ok .non := by
  have h0 := h.lo
  have h1 := h.hi
  have hl : (T.signs.map rowD).length ≤ 16777215 := by rw [List.length_map]; omega
  have c2 : ∀ x0 x2 x3 x4 x5 : Option D, eComp [6] (iAny (eVar 1)) (tgN 6) bYes (eOp dIx (eVar 6) (eC (.int 0))) [x0, some (.lst (T.signs.map rowD)), x2, x3, x4, x5, none] = .ok (txs ((T.signs.map (·.1)).map fun c => [c])) := by
    intro x0 x2 x3 x4 x5
    have : ((T.signs.map (·.1)).map fun c => [c]).map (fun v => D.str (txt v)) = ((T.signs.map rowD)).map fun d => match d with | .tup (x :: _) => x | _ => .non := by
      rw [List.map_map, List.map_map, List.map_map]
      exact List.map_congr_left fun r _ => rfl
    unfold txs
    rw [this, eComp_of (ds := T.signs.map rowD) (fun _ => true) (fun d => match d with | .tup (x :: _) => x | _ => .non) (by simp) hl, filter_yes]
    intro d hd
    obtain ⟨r, hr, rfl⟩ := List.mem_map.mp hd
    refine ⟨_, rfl, by simp, by simp, fun _ => ?_⟩
    simp [rowD]
  have u1 := unlike_e (n := 1) (cs := T.signs.map (·.1)) (by omega) (by have := h.fl; omega) h.fnd (fun v hv => by
    obtain ⟨c, e, m⟩ := h.fs v hv
    subst e
    exact ⟨rfl, fun x hx => by rw [List.mem_singleton.mp hx]; exact m⟩)
  have ph : ∀ v ∈ T.pairs, v.length = 2 ∧ ∀ c ∈ v, c ∈ T.signs.map (·.1) := fun v hv => by
    obtain ⟨a, b, e, m1, m2⟩ := h.ps v hv
    subst e
    refine ⟨rfl, fun x hx => ?_⟩
    rcases List.mem_cons.mp hx with e | hx
    · rw [e]; exact m1
    · rw [List.mem_singleton.mp hx]; exact m2
  have u2 := unlike_e (n := 2) (cs := T.signs.map (·.1)) (by omega) (by have := h.pl; omega) h.pnd ph
  have w1 : F_is_whole [.int (T.long : Nat)] = .ok (.bl true) := by rfl
  have l0 := h.l0
  have l1 := h.l1
  show outR (B_look_at_tongue [some (.frz T.d), none, none, none, none, none, none]) = _
  have s1 := are_signs_e h
  simp at u1 u2
  simp [B_look_at_tongue_u, Tg.d, s1, c2, u1, u2, w1, show (1 : Int) ≤ T.long by omega, show (T.long : Int) ≤ 8 by omega]
end Du

namespace Du
open PySem PySem.Spec PyProof.Rows L2 Dear
/-! ### letters by a start and a step -/
abbrev abcB : Str := "abcdefghijklmnopqrstuvwxyz"
theorem abcB_at (i : Nat) (h : i < 26) : atI abcB.cps.toList (i : Int) = some (97 + i) := by
  have : ∀ k : Fin 26, abcB.cps.toList[k.val]? = some (97 + k.val) := by decide +kernel
  rw [atI_nat (by omega), Int.toNat_natCast]
  exact this ⟨i, h⟩
theorem abcB_len : abcB.length = 26 := by decide +kernel
theorem dIx_abcB (i : Nat) (h : i < 26) : dIx (.str abcB) (.int (i : Nat)) = .ok (.str (txt [97 + i])) := by
  show (if fit abcB.length = true then match atI abcB.cps.toList (i : Int) with | some c => Res.ok (D.str ⟨#[c]⟩) | none => .bad else .bad) = _
  rw [if_pos (fit_of (by rw [abcB_len]; decide)), abcB_at i h]
  rfl
def codeB (start step k : Nat) : Nat := 97 + (start + step * k) % 26
def Stp (st : Nat) : Prop := st = 1 ∨ st = 3 ∨ st = 7 ∨ st = 25
theorem codeB_nd {start st : Nat} (h : Stp st) {n : Nat} (hn : n ≤ 26) : ((List.range n).map (codeB start st)).Nodup := by
  refine List.pairwise_map.mpr (List.nodup_range.imp_of_mem ?_)
  intro a b ha hb ne e
  rw [List.mem_range] at ha hb
  unfold codeB at e
  rcases h with rfl | rfl | rfl | rfl <;> omega
theorem pick_step {k : Int} (h0 : 0 ≤ k) (h1 : k < 4) : ∃ m : Nat, atI [D.int 1, .int 3, .int 7, .int 25] k = some (.int m) ∧ Stp m := by
  rw [atI_nat h0]
  have : k = 0 ∨ k = 1 ∨ k = 2 ∨ k = 3 := by omega
  rcases this with rfl | rfl | rfl | rfl
  · exact ⟨1, rfl, .inl rfl⟩
  · exact ⟨3, rfl, .inr (.inl rfl)⟩
  · exact ⟨7, rfl, .inr (.inr (.inl rfl))⟩
  · exact ⟨25, rfl, .inr (.inr (.inr rfl))⟩
end Du

namespace Du
open PySem PySem.Spec PyProof.Rows L2 Dear
/-! ### the words of a tongue (plain) -/
theorem lastL_eq {w : List Nat} : lastL w = w.getLast?.toList := by
  unfold lastL
  cases w.getLast? <;> rfl
def Tg.codes (T : Tg) : List Nat := T.signs.map (·.1)
/-- may a word end with the sign c? -/
def Tg.ends (T : Tg) (c : Nat) : Bool := T.signs.any fun r => r.1 == c && !isNon r.2.2
def Tg.isW (T : Tg) (w : List Nat) : Bool := match w.getLast? with
  | some c => T.ends c
  | none => false
@[simp] theorem isW_nil {T : Tg} : T.isW [] = false := rfl
@[simp] theorem isW_snoc {T : Tg} {w : List Nat} {c : Nat} : T.isW (w ++ [c]) = T.ends c := by unfold Tg.isW; rw [List.getLast?_concat]
theorem nd_inj {α β : Type} {f : α → β} {a b : α} : ∀ {l : List α}, (l.map f).Nodup → a ∈ l → b ∈ l → f a = f b → a = b
  | [], _, h, _, _ => by cases h
  | x :: l, nd, ha, hb, e => by
    rw [List.map_cons, List.nodup_cons] at nd
    rcases List.mem_cons.mp ha with e1 | h1 <;> rcases List.mem_cons.mp hb with e2 | h2
    · rw [e1, e2]
    · exact absurd (List.mem_map.mpr ⟨b, h2, by rw [← e, e1]⟩) nd.1
    · exact absurd (List.mem_map.mpr ⟨a, h1, by rw [e, e2]⟩) nd.1
    · exact nd_inj nd.2 h1 h2 e
theorem ends_of {T : Tg} (nd : T.codes.Nodup) {r : Nat × D × D} (h : r ∈ T.signs) : T.ends r.1 = !isNon r.2.2 := by
  unfold Tg.ends
  rw [Bool.eq_iff_iff, List.any_eq_true]
  constructor
  · rintro ⟨q, hq, e⟩
    rw [Bool.and_eq_true, beq_iff_eq] at e
    have : q = r := nd_inj nd hq h e.1
    subst this
    exact e.2
  · intro e
    exact ⟨r, h, by rw [beq_self_eq_true, e]; rfl⟩
/-- can an end be reached from the sign c within k more signs? -/
def Tg.reach (T : Tg) : Nat → Nat → Bool
  | 0, c => T.ends c
  | k + 1, c => T.reach k c || T.signs.any fun r => T.reach k r.1 && T.comes [c] r.1
def Tg.codesR (T : Tg) (k : Nat) : List Nat := (T.signs.filter fun r => T.reach k r.1).map (·.1)
/-- the texts that words_of keeps -/
def Tg.stepR (T : Tg) (k : Nat) (l : List (List Nat)) : List (List Nat) := l.flatMap fun w => ((T.codesR k).filter fun c => T.comes (lastL w) c).map fun c => w ++ [c]
def Tg.okR (T : Tg) (k : Nat) (w : List Nat) : Bool := match w.getLast? with
  | some c => T.reach k c
  | none => true
@[simp] theorem okR_snoc {T : Tg} {k : Nat} {w : List Nat} {c : Nat} : T.okR k (w ++ [c]) = T.reach k c := by unfold Tg.okR; rw [List.getLast?_concat]
def Tg.words (T : Tg) : List (List Nat) := (T.upto T.long).filter T.isW
theorem upto_isW (T : Tg) (n : Nat) : (T.upto (n + 1)).filter T.isW = (T.upto n).filter T.isW ++ (T.level (n + 1)).filter T.isW := by
  show (T.upto n ++ T.level (n + 1)).filter _ = _
  rw [List.filter_append]
/-! how many -/
def Tg.keys (T : Tg) (n : Nat) : List (List Nat) := if n = 0 then [[]] else T.codes.map fun c => [c]
def Tg.cnt (T : Tg) (n : Nat) (k : List Nat) : Nat := (T.level n).countP fun w => decide (lastL w = k)
theorem level_mem {T : Tg} {n : Nat} {w : List Nat} (h : w ∈ T.level (n + 1)) : ∃ v r, v ∈ T.level n ∧ r ∈ T.signs ∧ T.comes (lastL v) r.1 = true ∧ w = v ++ [r.1] := by
  obtain ⟨v, hv, hw⟩ := List.mem_flatMap.mp (show w ∈ (T.level n).flatMap T.longer from h)
  obtain ⟨r, hr, rfl⟩ := List.mem_map.mp hw
  obtain ⟨h1, h2⟩ := List.mem_filter.mp hr
  exact ⟨v, r, hv, h1, h2, rfl⟩
end Du

namespace Du
open PySem PySem.Spec PyProof.Rows L2 Dear
/-! ### levels, ranks -/
theorem words_level {T : Tg} {w : List Nat} (h : w ∈ T.words) : ∃ m, m < T.long ∧ w ∈ T.level (m + 1) ∧ T.isW w = true := by
  have key : ∀ {n : Nat} {w : List Nat}, w ∈ T.upto n → ∃ m, m < n ∧ w ∈ T.level (m + 1) := by
    intro n
    induction n with
    | zero => intro w h; cases h
    | succ n ih =>
      intro w h
      rcases List.mem_append.mp (show w ∈ T.upto n ++ T.level (n + 1) from h) with h | h
      · obtain ⟨m, a, b⟩ := ih h
        exact ⟨m, by omega, b⟩
      · exact ⟨n, by omega, h⟩
  obtain ⟨h1, h2⟩ := List.mem_filter.mp h
  obtain ⟨m, a, b⟩ := key h1
  exact ⟨m, a, b, h2⟩
theorem level_cods {T : Tg} : ∀ {n : Nat} {w : List Nat}, w ∈ T.level n → ∀ c ∈ w, c ∈ T.codes
  | 0, w, hw, c, hc => by
    rw [List.mem_singleton.mp (show w ∈ [[]] from hw)] at hc
    cases hc
  | n + 1, w, hw, c, hc => by
    obtain ⟨v, r, hv, hr, _, rfl⟩ := level_mem hw
    rcases List.mem_append.mp hc with m | m
    · exact level_cods hv c m
    · rw [List.mem_singleton.mp m]
      exact List.mem_map.mpr ⟨r, hr, rfl⟩
theorem words_cods {T : Tg} {w : List Nat} (h : w ∈ T.words) : ∀ c ∈ w, c ∈ T.codes := by
  obtain ⟨m, _, hl, _⟩ := words_level h
  exact level_cods hl
theorem cods_asc {T : Tg} (h : Good T) {w : List Nat} (hw : ∀ c ∈ w, c ∈ T.codes) : Asc w := fun c hc => by
  obtain ⟨r, hr, rfl⟩ := List.mem_map.mp (hw c hc)
  have := (h.row r hr).hi
  omega
def Tg.rk (T : Tg) (c : Nat) : Nat := (T.codes.findIdx? fun x => decide (x = c)).getD 0
theorem rk_some {T : Tg} {c : Nat} (h : c ∈ T.codes) : T.codes.findIdx? (fun x => decide (x = c)) = some (T.rk c) := by
  unfold Tg.rk
  have : (T.codes.findIdx? fun x => decide (x = c)).isSome = true := by
    rw [List.findIdx?_isSome]
    exact List.any_eq_true.mpr ⟨c, h, decide_eq_true rfl⟩
  obtain ⟨i, e⟩ := Option.isSome_iff_exists.mp this
  rw [e]
  rfl
theorem rk_get {T : Tg} {c : Nat} (h : c ∈ T.codes) : T.codes[T.rk c]? = some c := by
  obtain ⟨h1, h2, _⟩ := List.findIdx?_eq_some_iff_getElem.mp (rk_some h)
  rw [List.getElem?_eq_getElem h1, of_decide_eq_true h2]
theorem index_e {T : Tg} {c : Nat} (hc : c ∈ T.codes) : dIndex (.lst (T.codes.map fun c => .str (txt [c]))) [.str (txt [c])] = .ok (.int (T.rk c : Nat)) := by
  have fl : (flatD (.str (txt [c])) && (T.codes.map fun c => D.str (txt [c])).all flatD) = true := by
    have : (T.codes.map fun c => D.str (txt [c])).all flatD = true := List.all_eq_true.mpr fun d hd => by
      obtain ⟨r, _, rfl⟩ := List.mem_map.mp hd
      rfl
    rw [this]
    rfl
  have fi : (T.codes.map fun c => D.str (txt [c])).findIdx? (fun e => pyEq e (.str (txt [c]))) = some (T.rk c) := by
    rw [← rk_some hc]
    rw [List.findIdx?_map]
    congr 1
    funext r
    show pyEq (.str (txt [r])) (.str (txt [c])) = decide (r = c)
    unfold pyEq
    rw [txt_eq]
    exact decide_eq_decide.mpr ⟨fun e => by cases e; rfl, fun e => by rw [e]⟩
  show (if (flatD (.str (txt [c])) && (T.codes.map fun c => D.str (txt [c])).all flatD) = true then match (T.codes.map fun c => D.str (txt [c])).findIdx? (fun e => pyEq e (.str (txt [c]))) with | some j => Res.ok (D.int j) | none => .bad else .bad) = _
  rw [if_pos fl, fi]
theorem rk_lt {T : Tg} (nd : T.codes.Nodup) : T.codes.Pairwise fun a b => T.rk a < T.rk b := by
  rw [List.pairwise_iff_getElem]
  intro i j hi hj hij
  have key : ∀ (k : Nat) (hk : k < T.codes.length), T.rk T.codes[k] = k := by
    intro k hk
    have g := rk_get (T := T) (c := T.codes[k]) (List.getElem_mem hk)
    have hr : T.rk T.codes[k] < T.codes.length := by
      rcases Nat.lt_or_ge (T.rk T.codes[k]) T.codes.length with h | h
      · exact h
      · rw [List.getElem?_eq_none_iff.mpr h] at g; cases g
    rw [List.getElem?_eq_getElem hr] at g
    have g := Option.some.inj g
    rcases Nat.lt_trichotomy (T.rk T.codes[k]) k with h | h | h
    · exact absurd g ((List.pairwise_iff_getElem.mp nd) _ _ hr hk h)
    · exact h
    · exact absurd g.symm ((List.pairwise_iff_getElem.mp nd) _ _ hk hr h)
  rw [key i hi, key j hj]
  exact hij
end Du

namespace Du
open PySem PySem.Spec PyProof.Rows L2 Dear
/-! ### draws (the same in the laws of author A and B) -/
theorem draw_e {m : Int} (hm : 0 < m) (hw : m < 2 ^ 64) {d : D} (h : Src d) : ∃ k d', F__law_draw [d, .int m] = .ok (.int k, d') ∧ 0 ≤ k ∧ k < m ∧ Src d' := by
  obtain ⟨c, s, rfl, h0, h1⟩ := h
  show ∃ k d', outIO 0 (B__law_draw [some (.own true (.lst [.int c, .int s])), some (.frz (.int m)), none]) = _ ∧ _
  by_cases hc : 0 < c
  · refine ⟨c % m, _, ?_, Int.emod_nonneg _ (by omega), Int.emod_lt_of_pos _ hm, c / m, s, rfl, h0, h1⟩
    simp [B__law_draw, hc, hm, cdiv (a := c) hm hw]
  · have e0 : 0 ≤ (s * 48271 + 11) % 2147483647 := by omega
    have e1 : (s * 48271 + 11) % 2147483647 < 2147483647 := by omega
    refine ⟨(s * 48271 + 11) % 2147483647 * ((s * 48271 + 11) % 2147483647) % 2147483629 / 64 % m, _, ?_, Int.emod_nonneg _ (by omega), Int.emod_lt_of_pos _ hm, c, (s * 48271 + 11) % 2147483647, rfl, e0, by omega⟩
    have f1 := cmul (a := s) (b := 48271) (by omega) (by omega) (by omega) (by omega)
    have f2 := cmul (a := (s * 48271 + 11) % 2147483647) (b := (s * 48271 + 11) % 2147483647) (by omega) (by omega) (by omega) (by omega)
    have f3 := cdiv (a := (s * 48271 + 11) % 2147483647 * ((s * 48271 + 11) % 2147483647) % 2147483629) (b := 64) (by omega) (by omega)
    simp [B__law_draw, hc, hm, f1, f2, f3]
end Du

namespace Du
open PySem PySem.Spec PyProof.Rows L2 Dear
/-! ### the front of author B's laws: cells, sources, prices -/
theorem cell_e (ns : List Int) (hl : ns.length ≤ 63) (k : Nat) : ∃ c : Int, F__law_cell [.scr ns, .int k] = .ok (.int c) := by
  show ∃ c : Int, outR (B__law_cell [some (.frz (.scr ns)), some (.frz (.int k))]) = _
  by_cases h : k < ns.length
  · refine ⟨ns[k], ?_⟩
    have e : atI ns (k : Int) = some ns[k] := by rw [atI_nat (by omega), Int.toNat_natCast, List.getElem?_eq_getElem h]
    simp [B__law_cell, dLen_scr (ds := ns) (by omega), dIx_scr, e, h]
  · exact ⟨0, by simp [B__law_cell, dLen_scr (ds := ns) (by omega), h]⟩
theorem sourceB_e (c : Int) (k : Nat) (hk : k ≤ 100) : ∃ d, F__law_source [.int c, .int k] = .ok d ∧ Src d := by
  obtain ⟨a, ha, ea⟩ : ∃ a : Int, 0 ≤ a ∧ (if c < 0 then -c else c) = a := ⟨_, by split <;> omega, rfl⟩
  have f1 := cmulL (a := 104729) (b := k) (by omega) (by omega)
  have f2 := cmul (a := a % 1000003 + 104729 * k + 7) (b := 48271) (by omega) (by omega) (by omega) (by omega)
  refine ⟨.lst [.int (a * (if decide ((10 : Int) ^ 18 ≤ a) = true then 1 else 0)), .int ((a % 1000003 + 104729 * k + 7) * 48271 % 2147483647)], ?_, _, _, rfl, by omega, by omega⟩
  show outO (B__law_source [some (.frz (.int c)), some (.frz (.int k)), none, none]) = _
  have f4 : CMulA a (if (1000000000000000000 : Int) ≤ a then 1 else 0) := cmulR (by split <;> omega) (by split <;> omega)
  simp [B__law_source, ea, f1, f2, f4]
theorem lowest_e (t b : Nat) (ht : 0 < t) (hb : 0 < b) (h1 : t < 2 ^ 62) (h2 : b < 2 ^ 62) : ∃ d, F__law_lowest [.int t, .int b] = .ok d ∧ Price d := by
  have key : ∀ (n a : Nat), sWhile [] (bT (eOp dGt (eVar 3) (eC (.int 0)))) B__law_lowest_1 [some (.frz (.int t)), some (.frz (.int b)), some (.frz (.int a)), some (.frz (.int n))] = .nx [some (.frz (.int t)), some (.frz (.int b)), some (.frz (.int (Nat.gcd n a : Nat))), some (.frz (.int 0))] := by
    intro n
    induction n using Nat.strongRecOn with
    | ind n ih =>
      intro a
      rw [sWhile_e]
      by_cases hn : n = 0
      · subst hn
        simp
      · have hp : 0 < n := by omega
        have := ih (a % n) (Nat.mod_lt _ (by omega)) n
        simp [hp, B__law_lowest_1_u]
        rw [← Int.natCast_emod, this, Nat.gcd_rec n a]
  have hg : 0 < Nat.gcd t b := Nat.gcd_pos_of_pos_left _ ht
  have l1 : Nat.gcd t b ≤ t := Nat.gcd_le_left _ ht
  have l2 : Nat.gcd t b ≤ b := Nat.gcd_le_right _ hb
  have c1 := cdiv (a := t) (b := (Nat.gcd t b : Nat)) (by omega) (by omega)
  have c2 := cdiv (a := b) (b := (Nat.gcd t b : Nat)) (by omega) (by omega)
  refine ⟨.tup [.int (t / Nat.gcd t b : Nat), .int (b / Nat.gcd t b : Nat)], ?_, _, _, rfl, Nat.div_pos l1 hg, Nat.div_pos l2 hg, ?_, ?_, ?_⟩
  · show outR (B__law_lowest [some (.frz (.int t)), some (.frz (.int b)), none, none]) = _
    simp [B__law_lowest, show ¬ (t : Int) < 0 by omega, key, c1, c2]
  · exact Nat.gcd_div_gcd_div_gcd_of_pos_left ht
  · exact Nat.lt_of_le_of_lt (Nat.div_le_self _ _) h1
  · exact Nat.lt_of_le_of_lt (Nat.div_le_self _ _) h2
theorem pick_wide {k : Int} (h0 : 0 ≤ k) (h1 : k < 5) : ∃ m : Int, atI [D.int 5, .int 5, .int 9, .int 9, .int 900000000] k = some (.int m) ∧ 0 < m ∧ m ≤ 900000000 := by
  rw [atI_nat h0]
  have : k = 0 ∨ k = 1 ∨ k = 2 ∨ k = 3 ∨ k = 4 := by omega
  rcases this with rfl | rfl | rfl | rfl | rfl
  · exact ⟨_, rfl, by decide, by decide⟩
  · exact ⟨_, rfl, by decide, by decide⟩
  · exact ⟨_, rfl, by decide, by decide⟩
  · exact ⟨_, rfl, by decide, by decide⟩
  · exact ⟨_, rfl, by decide, by decide⟩
theorem priceB_e {d : D} (h : Src d) : ∃ p d', F__law_price [d] = .ok (p, d') ∧ Price p ∧ Src d' := by
  obtain ⟨k, d1, e1, k0, k1, s1⟩ := draw_e (m := 5) (by decide) (by decide) h
  obtain ⟨m, e2, m0, m1⟩ := pick_wide k0 k1
  obtain ⟨j, d2, e3, j0, j1, s2⟩ := draw_e (m := m) m0 (by omega) s1
  have f1 := cmul (a := 9) (b := 100000000) (by omega) (by omega) (by omega) (by omega)
  have st : ∀ {o : Out}, B__law_price [some (.own true d), none, none, none] = o → F__law_price [d] = outIO 0 o := fun e => by rw [← e]; rfl
  by_cases c : k < 2
  · refine ⟨.tup [.int (1 + j), .int 1], d2, ?_, ⟨(1 + j).toNat, 1, ?_, by omega, by omega, Nat.gcd_one_right _, by omega, by omega⟩, s2⟩
    · rw [st rfl]
      simp [B__law_price, e1, e2, e3, f1, c]
    · rw [show (((1 + j).toNat : Nat) : Int) = 1 + j by omega]; rfl
  · obtain ⟨i, d3, e4, i0, i1, s3⟩ := draw_e (m := m) m0 (by omega) s2
    obtain ⟨p, e5, hp⟩ := lowest_e (1 + j).toNat (1 + i).toNat (by omega) (by omega) (by omega) (by omega)
    rw [show (((1 + j).toNat : Nat) : Int) = 1 + j by omega, show (((1 + i).toNat : Nat) : Int) = 1 + i by omega] at e5
    refine ⟨p, d3, ?_, hp, s3⟩
    rw [st rfl]
    simp [B__law_price, e1, e2, e3, e4, e5, f1, c]
end Du

namespace Du
open PySem PySem.Spec PyProof.Rows L2 Dear
/-! ### author B's tongue: signs -/
def sbS (s : D) (m start st : Nat) (rows : List (Nat × D × D)) (x6 x7 x8 x9 : Option Slot) : Env := [some (.own true s), some (.frz (.int m)), some (.frz (.str abcB)), some (.frz (.int start)), some (.frz (.int st)), some (.own false (.lst (rows.map rowD))), x6, x7, x8, x9]
def RowB (r : Nat × D × D) : Prop := Price r.2.1 ∧ (r.2.2 = .non ∨ Price r.2.2)
theorem Price.immB {p : D} (h : Price p) : imm p = true := by
  obtain ⟨x, y, rfl, _⟩ := h
  rfl
/-- the price: drawn, or the one ahead's -/
theorem sb_price {s : D} (hs : Src s) (m start st : Nat) (rows : List (Nat × D × D)) (hr : ∀ r ∈ rows, RowB r) (p : D) (hp : Price p) (x8 x9 : Option Slot) (h8 : x8 = none) (h9 : x9 = none) :
    ∃ s' q, Src s' ∧ Price q ∧ sIfM (mAnd (mB [] (bT (eOp dGt (eVar 6) (eC (.int 0))))) (mTest (mOp dEq (mIO 0 0 F__law_draw (mAP [] (aCons (eC (.int 4)) aNil))) (mP [] (eC (.int 0))))))
      (sAsg [5] (eOp dIx (eOp dIx (eVar 5) (eOp dSub (eVar 6) (eC (.int 1)))) (eC (.int 1))) (tgN 7)) sPass (sbS s m start st rows (some (.frz (.int (rows.length : Nat)))) (some (.frz p)) x8 x9) = .nx (sbS s' m start st rows (some (.frz (.int (rows.length : Nat)))) (some (.frz q)) x8 x9) := by
  subst h8 h9
  have ip := hp.immB
  by_cases z : rows.length = 0
  · refine ⟨s, p, hs, hp, ?_⟩
    simp [sbS, z]
  · obtain ⟨k, s1, e1, k0, k1, hs1⟩ := draw_e (m := 4) (by decide) (by decide) hs
    have zp : 0 < rows.length := by omega
    by_cases c : k = 0
    · subst c
      obtain ⟨r, hr1⟩ : ∃ r, rows[rows.length - 1]? = some r := ⟨_, List.getElem?_eq_getElem (by omega)⟩
      have hq := (hr r (List.mem_of_getElem? hr1)).1
      have ix := dIx_at (F := rowD) hr1
      have iq := hq.immB
      rw [show ((rows.length - 1 : Nat) : Int) = (rows.length : Int) - 1 by omega] at ix
      have ix2 : dIx (rowD r) (.int 1) = .ok r.2.1 := by simp [rowD]
      refine ⟨s1, r.2.1, hs1, hq, ?_⟩
      simp only [dIx_lst] at ix
      simp [sbS, zp, e1, ix, ix2, iq]
    · refine ⟨s1, p, hs1, hp, ?_⟩
      simp [sbS, zp, e1, c]
theorem sb_last {s : D} (hs : Src s) (m start st : Nat) (rows : List (Nat × D × D)) (p : D) (hp : Price p) (k : Int) :
    ∃ s' z, Src s' ∧ (z = .non ∨ Price z) ∧ sIf [] (bT (eOp dEq (eVar 9) (eC (.int 0)))) (sAsg [] (eC .non) (tgN 8)) (sIf [] (bT (eOp dGt (eVar 9) (eC (.int 1)))) (sAsgM (mIO 0 0 F__law_price (mAP [] aNil)) (tgN 8)) sPass)
      (sbS s m start st rows (some (.frz (.int (rows.length : Nat)))) (some (.frz p)) (some (.frz p)) (some (.frz (.int k)))) = .nx (sbS s' m start st rows (some (.frz (.int (rows.length : Nat)))) (some (.frz p)) (some (.frz z)) (some (.frz (.int k)))) := by
  by_cases c0 : k = 0
  · refine ⟨s, .non, hs, .inl rfl, ?_⟩
    simp [sbS, c0]
  · by_cases c1 : 1 < k
    · obtain ⟨q, s1, e1, hq, hs1⟩ := priceB_e hs
      refine ⟨s1, q, hs1, .inr hq, ?_⟩
      simp [sbS, c0, c1, e1]
    · refine ⟨s, p, hs, .inr hp, ?_⟩
      simp [sbS, c0, c1]
theorem sb1_e (m start st : Nat) (hst : Stp st) (hm : m ≤ 26) : ∀ (j n : Nat) (s : D) (rows : List (Nat × D × D)), n + j = m → rows.length = n → rows.map (·.1) = (List.range n).map (codeB start st) → (∀ r ∈ rows, RowB r) → Src s → start < 26 →
    ∃ s' rows', Src s' ∧ rows'.map (·.1) = (List.range m).map (codeB start st) ∧ (∀ r ∈ rows', RowB r) ∧
      forL (tgN 6) B__law_signs_1 [6, 7, 8, 9] ((List.range' n j).map fun i => D.int (i : Nat)) (sbS s m start st rows none none none none) = .nx (sbS s' m start st rows' none none none none)
  | 0, n, s, rows, e, ln, h1, h2, hs, _ => by
    have : n = m := by omega
    subst this
    exact ⟨s, rows, hs, h1, h2, rfl⟩
  | j + 1, n, s, rows, e, ln, h1, h2, hs, h26 => by
    obtain ⟨p, s1, e1, hp, hs1⟩ := priceB_e hs
    obtain ⟨s2, q, hs2, hq, e2⟩ := sb_price hs1 m start st rows h2 p hp none none rfl rfl
    obtain ⟨k, s3, e3, k0, k1, hs3⟩ := draw_e (m := 6) (by decide) (by decide) hs2
    obtain ⟨s4, z, hs4, hz, e4⟩ := sb_last hs3 m start st rows q hq k
    obtain ⟨s', rows', hs', g1, g2, g3⟩ := sb1_e m start st hst hm j (n + 1) s4 (rows ++ [(codeB start st n, q, z)]) (by omega) (by rw [List.length_append, List.length_singleton, ln]) (by rw [List.map_append, h1, List.range_succ, List.map_append]; rfl) (fun r hr => by
      rcases List.mem_append.mp hr with hr | hr
      · exact h2 r hr
      · rw [List.mem_singleton.mp hr]; exact ⟨hq, hz⟩) hs4 h26
    refine ⟨s', rows', hs', g1, g2, ?_⟩
    have ip := hp.immB
    have iq := hq.immB
    have st25 : st ≤ 25 := by rcases hst with rfl | rfl | rfl | rfl <;> omega
    have cm := cmul (a := (st : Int)) (b := (n : Int)) (by omega) (by omega) (by omega) (by omega)
    have x := dIx_abcB ((start + st * n) % 26) (Nat.mod_lt _ (by decide))
    have y : (((start + st * n) % 26 : Nat) : Int) = ((start : Int) + (st : Int) * (n : Int)) % 26 := by rw [Int.natCast_emod, Int.natCast_add, Int.natCast_mul]; rfl
    rw [y] at x
    have b1 : B__law_signs_1 (setS (sbS s m start st rows none none none none) [(6, .int (n : Nat))]) = .nx (sbS s4 m start st (rows ++ [(codeB start st n, q, z)]) (some (.frz (.int (n : Nat)))) (some (.frz q)) (some (.frz z)) (some (.frz (.int k)))) := by
      rw [B__law_signs_1_u]
      refine seq_to (ρ' := sbS s1 m start st rows (some (.frz (.int (rows.length : Nat)))) (some (.frz p)) none none) (by simp [sbS, e1, ln]) ?_
      refine seq_to e2 ?_
      refine seq_to (ρ' := sbS s2 m start st rows (some (.frz (.int (rows.length : Nat)))) (some (.frz q)) (some (.frz q)) none) (by simp [sbS, iq]) ?_
      refine seq_to (ρ' := sbS s3 m start st rows (some (.frz (.int (rows.length : Nat)))) (some (.frz q)) (some (.frz q)) (some (.frz (.int k)))) (by simp [sbS, e3]) ?_
      refine seq_to e4 ?_
      rw [ln]
      simp [sbS, cm, x, codeB, rowD, show rows.length ≤ 16777215 by omega, iq]
    rw [List.range'_succ, List.map_cons, forL_cons, tgN_e, forT_ok, b1, forK_nx]
    have b2 : clr [6, 7, 8, 9] (sbS s4 m start st (rows ++ [(codeB start st n, q, z)]) (some (.frz (.int (n : Nat)))) (some (.frz q)) (some (.frz z)) (some (.frz (.int k)))) = sbS s4 m start st (rows ++ [(codeB start st n, q, z)]) none none none none := rfl
    rw [b2, g3]
theorem signsB_u (s : D) (m : D) : F__law_signs [s, m] = outIO 0 (B__law_signs [some (.own true s), some (.frz m), none, none, none, none, none, none, none, none]) := by rfl
theorem signsB_e {s : D} (hs : Src s) (m : Nat) (hm : m ≤ 26) : ∃ (s' : D) (rows : List (Nat × D × D)) (start st : Nat), Src s' ∧ Stp st ∧ rows.map (·.1) = (List.range m).map (codeB start st) ∧ (∀ r ∈ rows, RowB r) ∧ F__law_signs [s, .int m] = .ok (.lst (rows.map rowD), s') := by
  obtain ⟨k, s1, e1, k0, k1, hs1⟩ := draw_e (m := 26) (by decide) (by decide) hs
  obtain ⟨start, rfl⟩ : ∃ j : Nat, k = j := ⟨k.toNat, by omega⟩
  obtain ⟨k, s2, e2, k2, k3, hs2⟩ := draw_e (m := 4) (by decide) (by decide) hs1
  obtain ⟨st, e3, hst⟩ := pick_step k2 k3
  obtain ⟨s', rows, hs', h1, h2, e4⟩ := sb1_e m start st hst hm m 0 s2 [] (by omega) rfl rfl (fun _ h => nomatch h) hs2 (by omega)
  have rg := rng_e m (by omega)
  refine ⟨s', rows, start, st, hs', hst, h1, h2, ?_⟩
  rw [signsB_u]
  have : B__law_signs [some (.own true s), some (.frz (.int m)), none, none, none, none, none, none, none, none] = .rt (.lst (rows.map rowD)) [some (.own true s'), some (.frz (.int m)), some (.frz (.str abcB)), some (.frz (.int start)), some (.frz (.int st)), some (.frz (.lst (rows.map rowD))), none, none, none, none] := by
    rw [B__law_signs_u]
    refine seq_to (ρ' := [some (.own true s), some (.frz (.int m)), some (.frz (.str abcB)), none, none, none, none, none, none, none]) (by simp) ?_
    refine seq_to (ρ' := [some (.own true s1), some (.frz (.int m)), some (.frz (.str abcB)), some (.frz (.int start)), none, none, none, none, none, none]) (by simp [e1]) ?_
    refine seq_to (ρ' := [some (.own true s2), some (.frz (.int m)), some (.frz (.str abcB)), some (.frz (.int start)), some (.frz (.int st)), none, none, none, none, none]) (by simp [e2, e3]) ?_
    refine seq_to (ρ' := sbS s2 m start st [] none none none none) (by simp [sbS]) ?_
    refine seq_to (for_to (ds := (List.range' 0 m).map fun i => D.int (i : Nat)) (ρ' := sbS s2 m start st [] none none none none) (by simp [sbS, rg]) (by simp [sbS]) e4) ?_
    simp [sbS]
  rw [this, outIO_rt]
  exact ioC_e
end Du

namespace Du
open PySem PySem.Spec PyProof.Rows L2 Dear
/-! ### author B's tongue -/
theorem extM_to {m : Env → MO D} {ρ ρ1 : Env} {i : Nat} {t : Bool} {ds es : List D} (h1 : m ρ = .ok (.lst es) ρ1) (h2 : ρ1[i]? = some (some (.own t (.lst ds)))) (h3 : ds.length + es.length ≤ 16777215) : sExtM i m ρ = .nx (ρ1.set i (some (.own t (.lst (ds ++ es))))) := by
  unfold sExtM
  rw [mAt_e, h1, ats_ok]
  show chg ρ1 i _ = _
  rw [chg_e, ownL_e, h2, ownLC_e, chgC_e, if_pos (fit_of h3), chgT_e]
theorem paired_eqB {l es : List D} (h : Paired (fun d e => d = e) l es) : es = l := by
  induction h with
  | nil => rfl
  | cons h _ ih => rw [ih, h]
theorem paired_mapB {α : Type} {f g : α → D} {P : D → D → Prop} : ∀ {l : List α} {es : List D}, Paired P (l.map f) es → (∀ a ∈ l, ∀ e, P (f a) e → e = g a) → es = l.map g
  | [], _, .nil, _ => rfl
  | a :: l, _, .cons h t, q => by rw [q a List.mem_cons_self _ h, paired_mapB t fun x hx => q x (List.mem_cons_of_mem _ hx)]; rfl
/-- what the tongue's slots hold ahead of its bans -/
structure TB where
  ns : List Int
  bs : Nat
  ms : Nat
  lo : List Nat
  n : Nat
  rows : List (Nat × D × D)
  long : Nat
  rare : Nat
def tbS (X : TB) (s : D) (x7 x10 x11 x12 x13 x14 : Option Slot) : Env := [some (.frz (.scr X.ns)), some (.frz (.int X.bs)), some (.frz (.int X.ms)), some (.frz (.lst (X.lo.map fun z => .int (z : Nat)))), some (.own false s), some (.frz (.int X.n)), some (.frz (.lst (X.rows.map rowD))), x7, some (.frz (.int X.long)), some (.frz (.int X.rare)), x10, x11, x12, x13, x14]
def nmS (cs : List Nat) : D := txs (cs.map fun c => [c])
theorem firstsB_e (X : TB) (cs : List Nat) (hn : cs.length ≤ 1000) {s : D} (hs : Src s) : ∃ (s' : D) (fs : List Nat), Src s' ∧ fs.Sublist cs ∧
    mComp [13] [7] (iAny (eVar 7)) (tgN 13) (mTest (mOp dEq (mIO 0 4 F__law_draw (mAP [] (aCons (eC (.int 5)) aNil))) (mP [] (eC (.int 0))))) (mP [] (eVar 13)) (tbS X s (some (.own false (nmS cs))) none none none none none) = .ok (txs (fs.map fun c => [c])) (tbS X s' (some (.frz (nmS cs))) none none none none none) := by
  obtain ⟨es, ρ', sub, e1, ⟨s', hs', e2⟩, e3, e4⟩ := compM_sub (tg := tgN 13) (c := mTest (mOp dEq (mIO 0 4 F__law_draw (mAP [] (aCons (eC (.int 5)) aNil))) (mP [] (eC (.int 0))))) (f := mP [] (eVar 13)) (vs := [13])
    (I := fun ρ => ∃ s, Src s ∧ ρ = tbS X s (some (.frz (nmS cs))) none none none none none) (P := fun d e => d = e) (ds := cs.map fun c => D.str (txt [c])) (ρ := tbS X s (some (.frz (nmS cs))) none none none none none) ⟨s, hs, rfl⟩ (by
      rintro d hd ρ ⟨s1, hs1, rfl⟩
      obtain ⟨c, hc, rfl⟩ := List.mem_map.mp hd
      obtain ⟨k, s2, e5, k0, k1, hs2⟩ := draw_e (m := 5) (by decide) (by decide) hs1
      refine ⟨_, rfl, by simp, ?_⟩
      by_cases hk : k = 0
      · subst hk
        refine .inr ⟨tbS X s2 (some (.frz (nmS cs))) none none none (some (.frz (.str (txt [c])))) none, .str (txt [c]), tbS X s2 (some (.frz (nmS cs))) none none none (some (.frz (.str (txt [c])))) none, ?_, ?_, ⟨s2, hs2, ?_⟩, rfl⟩
        · simp [tbS, e5]
        · simp [tbS]
        · simp [tbS]
      · refine .inl ⟨tbS X s2 (some (.frz (nmS cs))) none none none (some (.frz (.str (txt [c])))) none, ?_, ⟨s2, hs2, ?_⟩⟩
        · simp [tbS, e5, hk]
        · simp [tbS])
  subst e2
  rw [paired_eqB e4] at e1
  obtain ⟨fs, h1, rfl⟩ := List.sublist_map_iff.mp e3
  refine ⟨s', fs, hs', h1, ?_⟩
  have hi : iAny (eVar 7) (view [7] (tbS X s (some (.own false (nmS cs))) none none none none none)) = .ok (cs.map fun c => D.str (txt [c])) := by simp [tbS, nmS, Function.comp_def]
  rw [mComp_of hi (by rw [List.length_map]; omega) (es := fs.map fun c => D.str (txt [c])) (ρ' := tbS X s' (some (.frz (nmS cs))) none none none none none) (by simpa [tbS] using e1)]
  unfold txs
  rw [List.map_map]
  rfl
theorem pairB1_e (X : TB) (hr : 0 < X.rare) (hr2 : X.rare ≤ 1000) (cs : List Nat) (x10 x11 : D) (a : Nat) (hn : cs.length ≤ 1000) {s : D} (hs : Src s) : ∃ (s' : D) (bs : List Nat), Src s' ∧ bs.Sublist cs ∧
    mComp [14] [7] (iAny (eVar 7)) (tgN 14) (mTest (mOp dEq (mIO 0 4 F__law_draw (mAP [] (aCons (eVar 9) aNil))) (mP [] (eC (.int 0))))) (mP [] (eOp dAdd (eVar 12) (eVar 14))) (tbS X s (some (.frz (nmS cs))) (some (.own false x10)) (some (.own false x11)) (some (.frz (.str (txt [a])))) none none) = .ok (txs (bs.map fun b => [a, b])) (tbS X s' (some (.frz (nmS cs))) (some (.own false x10)) (some (.own false x11)) (some (.frz (.str (txt [a])))) none none) := by
  obtain ⟨es, ρ', sub, e1, ⟨s', hs', e2⟩, e3, e4⟩ := compM_sub (tg := tgN 14) (c := mTest (mOp dEq (mIO 0 4 F__law_draw (mAP [] (aCons (eVar 9) aNil))) (mP [] (eC (.int 0))))) (f := mP [] (eOp dAdd (eVar 12) (eVar 14))) (vs := [14])
    (I := fun ρ => ∃ s, Src s ∧ ρ = tbS X s (some (.frz (nmS cs))) (some (.own false x10)) (some (.own false x11)) (some (.frz (.str (txt [a])))) none none) (P := fun d e => ∀ c, d = .str (txt [c]) → e = .str (txt [a, c])) (ds := cs.map fun c => D.str (txt [c])) (ρ := tbS X s (some (.frz (nmS cs))) (some (.own false x10)) (some (.own false x11)) (some (.frz (.str (txt [a])))) none none) ⟨s, hs, rfl⟩ (by
      rintro d hd ρ ⟨s1, hs1, rfl⟩
      obtain ⟨c, hc, rfl⟩ := List.mem_map.mp hd
      obtain ⟨k, s2, e5, k0, k1, hs2⟩ := draw_e (m := (X.rare : Int)) (by omega) (by omega) hs1
      refine ⟨_, rfl, by simp, ?_⟩
      by_cases hk : k = 0
      · subst hk
        refine .inr ⟨tbS X s2 (some (.frz (nmS cs))) (some (.own false x10)) (some (.own false x11)) (some (.frz (.str (txt [a])))) none (some (.frz (.str (txt [c])))), .str (txt [a, c]), tbS X s2 (some (.frz (nmS cs))) (some (.own false x10)) (some (.own false x11)) (some (.frz (.str (txt [a])))) none (some (.frz (.str (txt [c])))), ?_, ?_, ⟨s2, hs2, ?_⟩, ?_⟩
        · simp [tbS, e5]
        · simp [tbS, txt_length, txt_app]
        · simp [tbS]
        · intro c' e
          cases txt_inj (D.str.inj e)
          rfl
      · refine .inl ⟨tbS X s2 (some (.frz (nmS cs))) (some (.own false x10)) (some (.own false x11)) (some (.frz (.str (txt [a])))) none (some (.frz (.str (txt [c])))), ?_, ⟨s2, hs2, ?_⟩⟩
        · simp [tbS, e5, hk]
        · simp [tbS])
  subst e2
  obtain ⟨bs, h1, rfl⟩ := List.sublist_map_iff.mp e3
  have e6 : es = bs.map fun b => D.str (txt [a, b]) := paired_mapB e4 fun b _ e h => h b rfl
  subst e6
  refine ⟨s', bs, hs', h1, ?_⟩
  have hi : iAny (eVar 7) (view [7] (tbS X s (some (.frz (nmS cs))) (some (.own false x10)) (some (.own false x11)) (some (.frz (.str (txt [a])))) none none)) = .ok (cs.map fun c => D.str (txt [c])) := by simp [tbS, nmS, Function.comp_def]
  rw [mComp_of hi (by rw [List.length_map]; omega) (es := bs.map fun b => D.str (txt [a, b])) (ρ' := tbS X s' (some (.frz (nmS cs))) (some (.own false x10)) (some (.own false x11)) (some (.frz (.str (txt [a])))) none none) (by simpa [tbS] using e1)]
  unfold txs
  rw [List.map_map]
  rfl
theorem pairsB_e (X : TB) (hr : 0 < X.rare) (hr2 : X.rare ≤ 1000) (cs : List Nat) (x10 : D) (hn : cs.length ≤ 26) : ∀ (l done : List Nat) (s : D) (ps : List (List Nat)), done ++ l = cs → cs.Nodup → Src s → (∀ v ∈ ps, ∃ a b, v = [a, b] ∧ a ∈ done ∧ b ∈ cs) → ps.Nodup → ps.length ≤ done.length * 26 →
    ∃ (s' : D) (ps' : List (List Nat)), Src s' ∧ (∀ v ∈ ps', ∃ a b, v = [a, b] ∧ a ∈ cs ∧ b ∈ cs) ∧ ps'.Nodup ∧ ps'.length ≤ 676 ∧
      forL (tgN 12) B__law_tongue_1 [12, 14] (l.map fun c => .str (txt [c])) (tbS X s (some (.frz (nmS cs))) (some (.own false x10)) (some (.own false (txs ps))) none none none) = .nx (tbS X s' (some (.frz (nmS cs))) (some (.own false x10)) (some (.own false (txs ps'))) none none none)
  | [], done, s, ps, hd, nd, hs, h1, h2, h3 => by
    rw [List.append_nil] at hd
    subst hd
    exact ⟨s, ps, hs, h1, h2, by omega, rfl⟩
  | a :: l, done, s, ps, hd, nd, hs, h1, h2, h3 => by
    obtain ⟨s1, bs, hs1, hb, e1⟩ := pairB1_e X hr hr2 cs x10 (txs ps) a (by omega) hs
    have na : a ∉ done := by
      intro m
      rw [← hd] at nd
      exact (List.nodup_append.mp nd).2.2 a m a List.mem_cons_self rfl
    have dl : done.length ≤ 26 := by
      rw [← hd, List.length_append] at hn
      omega
    have bl := hb.length_le
    obtain ⟨s', ps', hs', g1, g2, g3, g4⟩ := pairsB_e X hr hr2 cs x10 hn l (done ++ [a]) s1 (ps ++ bs.map fun b => [a, b]) (by rw [List.append_assoc]; exact hd) nd hs1 (fun v hv => by
      rcases List.mem_append.mp hv with hv | hv
      · obtain ⟨x, y, e, m1, m2⟩ := h1 v hv
        exact ⟨x, y, e, List.mem_append_left _ m1, m2⟩
      · obtain ⟨b, m, rfl⟩ := List.mem_map.mp hv
        exact ⟨a, b, rfl, List.mem_append_right _ (List.mem_singleton.mpr rfl), hb.subset m⟩) (by
      refine List.nodup_append.mpr ⟨h2, List.pairwise_map.mpr ((hb.nodup nd).imp fun ne e => ne (by simpa using e)), fun v hv u hu e => ?_⟩
      obtain ⟨x, y, e1, m1, m2⟩ := h1 v hv
      obtain ⟨b, m, rfl⟩ := List.mem_map.mp hu
      rw [e1] at e
      cases e
      exact na m1) (by rw [List.length_append, List.length_append, List.length_map, List.length_singleton, Nat.add_mul]; omega)
    refine ⟨s', ps', hs', g1, g2, g3, ?_⟩
    have e2 : B__law_tongue_1 (setS (tbS X s (some (.frz (nmS cs))) (some (.own false x10)) (some (.own false (txs ps))) none none none) [(12, .str (txt [a]))]) = .nx (tbS X s1 (some (.frz (nmS cs))) (some (.own false x10)) (some (.own false (txs (ps ++ bs.map fun b => [a, b])))) (some (.frz (.str (txt [a])))) none none) := by
      have e3 : setS (tbS X s (some (.frz (nmS cs))) (some (.own false x10)) (some (.own false (txs ps))) none none none) [(12, .str (txt [a]))] = tbS X s (some (.frz (nmS cs))) (some (.own false x10)) (some (.own false (txs ps))) (some (.frz (.str (txt [a])))) none none := rfl
      rw [e3, B__law_tongue_1_u]
      refine need_to rfl ?_
      unfold txs at e1 ⊢
      rw [extM_to e1 rfl (by rw [List.length_map, List.length_map, List.length_map]; omega)]
      simp [tbS]
    rw [List.map_cons, forL_cons, tgN_e, forT_ok, e2, forK_nx]
    have e5 : clr [12, 14] (tbS X s1 (some (.frz (nmS cs))) (some (.own false x10)) (some (.own false (txs (ps ++ bs.map fun b => [a, b])))) (some (.frz (.str (txt [a])))) none none) = tbS X s1 (some (.frz (nmS cs))) (some (.own false x10)) (some (.own false (txs (ps ++ bs.map fun b => [a, b])))) none none none := rfl
    rw [e5]
    exact g4
theorem pick_rare {k : Int} (h0 : 0 ≤ k) (h1 : k < 4) : ∃ m : Nat, atI [D.int 2, .int 5, .int 9, .int 36] k = some (.int m) ∧ 0 < m ∧ m ≤ 1000 := by
  rw [atI_nat h0]
  have : k = 0 ∨ k = 1 ∨ k = 2 ∨ k = 3 := by omega
  rcases this with rfl | rfl | rfl | rfl
  · exact ⟨2, rfl, by decide, by decide⟩
  · exact ⟨5, rfl, by decide, by decide⟩
  · exact ⟨9, rfl, by decide, by decide⟩
  · exact ⟨36, rfl, by decide, by decide⟩
theorem tongueB_u (a b c d : D) : F__law_tongue [a, b, c, d] = outR (B__law_tongue [some (.frz a), some (.frz b), some (.frz c), some (.frz d), none, none, none, none, none, none, none, none, none, none, none]) := by rfl
theorem tongueB_e (ns : List Int) (hl : ns.length ≤ 63) (bs ms : Nat) (hb : bs ≤ 90) (h0 : 2 ≤ ms) (h1 : ms ≤ 6) (lo : List Nat) (hlo : ms ≤ lo.length + 1) (hz : ∀ z ∈ lo, 1 ≤ z ∧ z ≤ 8) :
    ∃ T : Tg, F__law_tongue [.scr ns, .int bs, .int ms, .lst (lo.map fun z => .int (z : Nat))] = .ok T.d ∧ Good T ∧ T.signs.length ≤ ms ∧ ∃ z, lo[T.signs.length - 2]? = some z ∧ T.long ≤ z := by
  obtain ⟨c1, ec1⟩ := cell_e ns hl bs
  obtain ⟨s0, es0, hs0⟩ := sourceB_e c1 bs (by omega)
  obtain ⟨k, s1, e1, k0, k1, hs1⟩ := draw_e (m := (ms : Int) - 1) (by omega) (by omega) hs0
  obtain ⟨j, rfl⟩ : ∃ j : Nat, k = j := ⟨k.toNat, by omega⟩
  obtain ⟨s2, rows, start, st, hs2, hst, hrows, hrow, e2⟩ := signsB_e hs1 (2 + j) (by omega)
  have hcl : rows.length = 2 + j := by rw [← List.length_map (f := (·.1)), hrows, List.length_map, List.length_range]
  have hcn : (rows.map (·.1)).Nodup := by rw [hrows]; exact codeB_nd hst (by omega)
  have hcr : ∀ c ∈ rows.map (·.1), 97 ≤ c ∧ c ≤ 122 := by
    intro c hc
    rw [hrows] at hc
    obtain ⟨i, _, rfl⟩ := List.mem_map.mp hc
    unfold codeB
    omega
  clear hrows
  obtain ⟨c2, ec2⟩ := cell_e ns hl (bs + 1)
  obtain ⟨s3, es3, hs3⟩ := sourceB_e c2 (bs + 1) (by omega)
  obtain ⟨z, ez⟩ : ∃ z, lo[j]? = some z := ⟨_, List.getElem?_eq_getElem (by omega)⟩
  obtain ⟨z1, z8⟩ := hz z (List.mem_of_getElem? ez)
  obtain ⟨k, s4, e4, k2, k3, hs4⟩ := draw_e (m := (z : Int)) (by omega) (by omega) hs3
  obtain ⟨g, rfl⟩ : ∃ g : Nat, k = g := ⟨k.toNat, by omega⟩
  obtain ⟨k, s5, e5, k4, k5, hs5⟩ := draw_e (m := 4) (by decide) (by decide) hs4
  obtain ⟨rare, er, r0, r1⟩ := pick_rare k4 k5
  let X : TB := ⟨ns, bs, ms, lo, 2 + j, rows, 1 + g, rare⟩
  let cs := rows.map (·.1)
  have csl : cs.length = 2 + j := by show (rows.map (·.1)).length = _; rw [List.length_map, hcl]
  obtain ⟨s6, fs, hs6, hf, e6⟩ := firstsB_e X cs (by omega) hs5
  obtain ⟨s7, ps, hs7, p1, p2, p3, e7⟩ := pairsB_e X r0 r1 cs (txs (fs.map fun c => [c])) (by omega) cs [] s6 [] rfl hcn hs6 (fun _ h => nomatch h) .nil (Nat.zero_le _)
  obtain ⟨k, s8, e8, k6, k7, hs8⟩ := draw_e (m := 2) (by decide) (by decide) hs7
  have good : ∀ (fs' ps' : List (List Nat)), (∀ v ∈ fs', v ∈ fs.map fun c => [c]) → fs'.Nodup → fs'.length ≤ 1000 → (∀ v ∈ ps', v ∈ ps) → ps'.Nodup → ps'.length ≤ 1000 → Good ⟨rows, fs', ps', 1 + g⟩ := by
    intro fs' ps' a1 a2 a3 a4 a5 a6
    refine ⟨by show 2 ≤ rows.length; omega, by show rows.length ≤ 6; omega, fun r hr => ?_, hcn, fun v hv => ?_, a2, fun v hv => p1 v (a4 v hv), a5, a3, a6, by show 1 ≤ 1 + g; omega, by show 1 + g ≤ 8; omega⟩
    · have := hcr r.1 (List.mem_map.mpr ⟨r, hr, rfl⟩)
      exact ⟨this.1, this.2, (hrow r hr).1, (hrow r hr).2⟩
    · obtain ⟨c, hc, rfl⟩ := List.mem_map.mp (a1 v hv)
      exact ⟨c, rfl, hf.subset hc⟩
  have fl := hf.length_le
  have fnd : (fs.map fun c => [c]).Nodup := List.pairwise_map.mpr ((hf.nodup hcn).imp fun ne e => ne (by simpa using e))
  have ix2 : dIx (.lst (lo.map fun z => .int (z : Nat))) (.int (j : Nat)) = .ok (.int (z : Nat)) := dIx_at ez
  have dj : (((2 : Int) + (j : Int)) - 2) = (j : Nat) := by omega
  have nd2 : ((2 : Int) + (j : Int)) = ((2 + j : Nat) : Int) := by omega
  have pre : ∀ (o : Out), (∀ h : Env → Out, True) → True := fun _ _ => trivial
  have run : ∀ (fs' ps' : List (List Nat)), (k = 1 → fs' = (fs.map fun c => [c]).reverse ∧ ps' = ps.reverse) → (k ≠ 1 → fs' = (fs.map fun c => [c]) ∧ ps' = ps) → ∃ ρ', B__law_tongue [some (.frz (.scr ns)), some (.frz (.int bs)), some (.frz (.int ms)), some (.frz (.lst (lo.map fun z => .int (z : Nat)))), none, none, none, none, none, none, none, none, none, none, none] = .rt (Tg.d ⟨rows, fs', ps', 1 + g⟩) ρ' := by
    intro fs' ps' ha hb'
    rw [B__law_tongue_u]
    refine ⟨tbS X s8 (some (.frz (nmS cs))) (some (.frz (txs fs'))) (some (.frz (txs ps'))) none none none, ?_⟩
    refine seq_to (ρ' := [some (.frz (.scr ns)), some (.frz (.int bs)), some (.frz (.int ms)), some (.frz (.lst (lo.map fun z => .int (z : Nat)))), some (.own false s0), none, none, none, none, none, none, none, none, none, none]) (by
      obtain ⟨a, b, rfl, _, _⟩ := hs0
      simp [ec1, es0]) ?_
    refine seq_to (ρ' := [some (.frz (.scr ns)), some (.frz (.int bs)), some (.frz (.int ms)), some (.frz (.lst (lo.map fun z => .int (z : Nat)))), some (.own false s1), some (.frz (.int (2 + j : Nat))), none, none, none, none, none, none, none, none, none]) (by simp [e1]) ?_
    refine seq_to (ρ' := [some (.frz (.scr ns)), some (.frz (.int bs)), some (.frz (.int ms)), some (.frz (.lst (lo.map fun z => .int (z : Nat)))), some (.own false s2), some (.frz (.int (2 + j : Nat))), some (.frz (.lst (rows.map rowD))), none, none, none, none, none, none, none, none]) (by
      rw [asgM_to (d := .lst (rows.map rowD)) (ρ' := [some (.frz (.scr ns)), some (.frz (.int bs)), some (.frz (.int ms)), some (.frz (.lst (lo.map fun z => .int (z : Nat)))), some (.own false s2), some (.frz (.int (2 + j : Nat))), none, none, none, none, none, none, none, none, none]) (by
        have e2' : F__law_signs [s1, .int (2 + (j : Int))] = .ok (.lst (rows.map rowD), s2) := by rw [nd2]; exact e2
        simp [e2'])]
      rfl) ?_
    refine seq_to (ρ' := [some (.frz (.scr ns)), some (.frz (.int bs)), some (.frz (.int ms)), some (.frz (.lst (lo.map fun z => .int (z : Nat)))), some (.own false s2), some (.frz (.int (2 + j : Nat))), some (.frz (.lst (rows.map rowD))), some (.own false (nmS cs)), none, none, none, none, none, none, none]) (by
      have c : eComp [12] (iAny (eVar 6)) (tgN 12) bYes (eOp dIx (eVar 12) (eC (.int 0))) [some (.scr ns), some (.int bs), some (.int ms), some (.lst (lo.map fun z => .int (z : Nat))), none, some (.int (2 + j : Nat)), some (.lst (rows.map rowD)), none, none, none, none, none, none, none, none] = .ok (nmS cs) := by
        have en : nmS cs = .lst (rows.map fun r => .str (txt [r.1])) := by
          unfold nmS txs
          rw [List.map_map, List.map_map]
          rfl
        rw [en]
        refine eComp_all (F := rowD) _ (by simp) (by omega) fun r hr => ⟨_, rfl, by simp, ?_⟩
        simp [rowD]
      rw [own_to (d := nmS cs) (by
        show eComp [12] (iAny (eVar 6)) (tgN 12) bYes (eOp dIx (eVar 12) (eC (.int 0))) [some (.scr ns), some (.int bs), some (.int ms), some (.lst (lo.map fun z => .int (z : Nat))), none, some (.int (2 + j : Nat)), some (.lst (rows.map rowD)), none, none, none, none, none, none, none, none] = _
        exact c)]
      simp [nmS]) ?_
    refine seq_to (ρ' := [some (.frz (.scr ns)), some (.frz (.int bs)), some (.frz (.int ms)), some (.frz (.lst (lo.map fun z => .int (z : Nat)))), some (.own false s3), some (.frz (.int (2 + j : Nat))), some (.frz (.lst (rows.map rowD))), some (.own false (nmS cs)), none, none, none, none, none, none, none]) (by
      obtain ⟨a, b, rfl, _, _⟩ := hs3
      have ec2' : F__law_cell [.scr ns, .int ((bs : Int) + 1)] = .ok (.int c2) := ec2
      have es3' : F__law_source [.int c2, .int ((bs : Int) + 1)] = .ok (.lst [.int a, .int b]) := es3
      simp [ec2', es3']) ?_
    refine seq_to (ρ' := [some (.frz (.scr ns)), some (.frz (.int bs)), some (.frz (.int ms)), some (.frz (.lst (lo.map fun z => .int (z : Nat)))), some (.own false s4), some (.frz (.int (2 + j : Nat))), some (.frz (.lst (rows.map rowD))), some (.own false (nmS cs)), some (.frz (.int (1 + g : Nat))), none, none, none, none, none, none]) (by
      have x : eOp dIx (eVar 3) (eOp dSub (eVar 5) (eC (.int 2))) [some (.scr ns), some (.int bs), some (.int ms), some (.lst (lo.map fun z => .int (z : Nat))), none, some (.int (2 + j : Nat)), some (.lst (rows.map rowD)), none, none, none, none, none, none, none, none] = .ok (.int (z : Nat)) := by
        show dIx (.lst (lo.map fun z => .int (z : Nat))) (.int (((2 + j : Nat) : Int) - 2)) = _
        rw [show (((2 + j : Nat) : Int) - 2) = (j : Nat) by omega]
        exact ix2
      rw [asgM_to (d := .int (1 + g : Nat)) (ρ' := [some (.frz (.scr ns)), some (.frz (.int bs)), some (.frz (.int ms)), some (.frz (.lst (lo.map fun z => .int (z : Nat)))), some (.own false s4), some (.frz (.int (2 + j : Nat))), some (.frz (.lst (rows.map rowD))), some (.own false (nmS cs)), none, none, none, none, none, none, none]) (by
        rw [mOp_e]
        show md (mOp1 dAdd (mIO 0 4 F__law_draw (mAP [] (aCons (eOp dIx (eVar 3) (eOp dSub (eVar 5) (eC (.int 2)))) aNil))) ) (.ok (.int 1) _) = _
        rw [md_ok, mOp1_e, mIO_e]
        show md (mOp2 dAdd (.int 1)) (md (ioB 0 4 F__law_draw) (mAP [] (aCons (eOp dIx (eVar 3) (eOp dSub (eVar 5) (eC (.int 2)))) aNil) _)) = _
        rw [mAP_e]
        show md (mOp2 dAdd (.int 1)) (md (ioB 0 4 F__law_draw) (mpK (aftL []) _ _ (aCons (eOp dIx (eVar 3) (eOp dSub (eVar 5) (eC (.int 2)))) aNil [some (.scr ns), some (.int bs), some (.int ms), some (.lst (lo.map fun z => .int (z : Nat))), none, some (.int (2 + j : Nat)), some (.lst (rows.map rowD)), none, none, none, none, none, none, none, none]))) = _
        rw [aCons_e, x, aNil_e, cons2_ok]
        simp [e4])]
      rfl) ?_
    refine seq_to (ρ' := tbS X s5 (some (.own false (nmS cs))) none none none none none) (by simp [tbS, X, e5, er]) ?_
    refine seq_to (ownM_to e6) ?_
    refine seq_to (ρ' := tbS X s6 (some (.frz (nmS cs))) (some (.own false (txs (fs.map fun c => [c])))) (some (.own false (txs []))) none none none) (by simp [tbS]) ?_
    refine seq_to (for_to (ds := cs.map fun c => .str (txt [c])) (ρ' := tbS X s6 (some (.frz (nmS cs))) (some (.own false (txs (fs.map fun c => [c])))) (some (.own false (txs []))) none none none) (by simp [tbS, nmS, Function.comp_def]) (by simp [tbS]) e7) ?_
    refine seq_to (ρ' := tbS X s8 (some (.frz (nmS cs))) (some (.own false (txs fs'))) (some (.own false (txs ps'))) none none none) (by
      by_cases c : k = 1
      · obtain ⟨rfl, rfl⟩ := ha c
        have i1 : imms (List.map ((fun v => D.str (txt v)) ∘ fun c => [c]) fs).reverse = true := by
          rw [← List.map_reverse]
          exact imms_strs (f := fun c => txt [c])
        have i2 : imms (List.map (fun v => D.str (txt v)) ps).reverse = true := by
          rw [← List.map_reverse]
          exact imms_strs (f := fun v => txt v)
        simp [tbS, e8, c, dRev, i1, i2]
      · obtain ⟨rfl, rfl⟩ := hb' c
        simp [tbS, e8, c]) ?_
    simp [tbS, Tg.d, X]
  by_cases c : k = 1
  · obtain ⟨ρ', e⟩ := run (fs.map fun c => [c]).reverse ps.reverse (fun _ => ⟨rfl, rfl⟩) (fun h => absurd c h)
    refine ⟨⟨rows, (fs.map fun c => [c]).reverse, ps.reverse, 1 + g⟩, by rw [tongueB_u, e]; rfl, good _ _ (fun v hv => List.mem_reverse.mp hv) (List.pairwise_reverse.mpr (fnd.imp fun ne => Ne.symm ne)) (by rw [List.length_reverse, List.length_map]; omega) (fun v hv => List.mem_reverse.mp hv) (List.pairwise_reverse.mpr (p2.imp fun ne => Ne.symm ne)) (by rw [List.length_reverse]; omega), by show rows.length ≤ ms; omega, z, by show lo[rows.length - 2]? = _; rw [hcl, show 2 + j - 2 = j by omega]; exact ez, by show 1 + g ≤ z; omega⟩
  · obtain ⟨ρ', e⟩ := run (fs.map fun c => [c]) ps (fun h => absurd h c) (fun _ => ⟨rfl, rfl⟩)
    refine ⟨⟨rows, fs.map fun c => [c], ps, 1 + g⟩, by rw [tongueB_u, e]; rfl, good _ _ (fun v hv => hv) fnd (by rw [List.length_map]; omega) (fun v hv => hv) p2 (by omega), by show rows.length ≤ ms; omega, z, by show lo[rows.length - 2]? = _; rw [hcl, show 2 + j - 2 = j by omega]; exact ez, by show 1 + g ≤ z; omega⟩
end Du

namespace Du
open PySem PySem.Spec PyProof.Rows L2 Dear
/-! ### author B's words (for a good tongue) -/
theorem dIx_sign {w : List Nat} {k c : Nat} (hw : w.length ≤ 16777215) (h : w[k]? = some c) : dIx (.str (txt w)) (.int (k : Nat)) = .ok (.str (txt [c])) := by
  show (if fit (txt w).length = true then match atI (txt w).cps.toList (k : Int) with | some c => Res.ok (D.str ⟨#[c]⟩) | none => .bad else .bad) = _
  have e : (txt w).cps.toList = w := txt_list w
  rw [if_pos (fit_of (by rw [txt_length]; exact hw)), e, atI_nat (by omega), Int.toNat_natCast, h]
  rfl
theorem law_comes_e (T : Tg) {l : List Nat} {c : Nat} (hl : l.length ≤ 1) : F__law_comes [T.d, .str (txt l), .str (txt [c])] = .ok (.bl (T.comes l c)) := by
  show outR (B__law_comes [some (.frz T.d), some (.frz (.str (txt l))), some (.frz (.str (txt [c])))]) = _
  have e0 : (Str.ofString "" : Str) = txt [] := rfl
  unfold Tg.d Tg.comes
  by_cases h : l = []
  · subst h
    simp [B__law_comes, e0, dIn_txts]
  · have : ¬ txt l = txt [] := fun e => h (txt_inj e)
    simp [B__law_comes, e0, this, h, txt_app, txt_length, dIn_txts, show l.length + 1 ≤ 16777215 by omega]
/-- each sign of a text of a level may come where it stands -/
theorem level_steps {T : Tg} : ∀ {n : Nat} {w : List Nat}, w ∈ T.level n → ∀ k, k < n → ∃ c, w[k]? = some c ∧ c ∈ T.codes ∧ T.comes (lastL (w.take k)) c = true
  | 0, _, _, k, hk => absurd hk (Nat.not_lt_zero _)
  | n + 1, w, h, k, hk => by
    obtain ⟨v, r, hv, hr, hc, rfl⟩ := level_mem h
    have lv := level_w T n v hv
    by_cases e : k = n
    · subst e
      refine ⟨r.1, ?_, List.mem_map.mpr ⟨r, hr, rfl⟩, ?_⟩
      · rw [List.getElem?_append_right (by omega), lv, Nat.sub_self]; rfl
      · rw [List.take_append_of_le_length (by omega), List.take_of_length_le (by omega)]; exact hc
    · obtain ⟨c, h1, h2, h3⟩ := level_steps hv k (by omega)
      refine ⟨c, ?_, h2, ?_⟩
      · rw [List.getElem?_append_left (by omega)]; exact h1
      · rw [List.take_append_of_le_length (by omega)]; exact h3
theorem codes_e {T : Tg} (h : Good T) {vs : List Nat} {i : Nat} {x : VEnv} (hv : vs = [i]) (hx : x[0]? = some (some T.d)) (h0 : i ≠ 0) (hi : i < x.length) : eComp vs (iAny (eOp dIx (eVar 0) (eC (.int 0)))) (tgN i) bYes (eOp dIx (eVar i) (eC (.int 0))) x = .ok (txs (T.codes.map fun c => [c])) := by
  subst hv
  have h6 := h.hi
  have e : (T.codes.map fun c => [c]).map (fun v => D.str (txt v)) = T.signs.map fun r => D.str (txt [r.1]) := by
    unfold Tg.codes
    rw [List.map_map, List.map_map]
    rfl
  unfold txs
  rw [e]
  refine eComp_all (F := rowD) _ ?_ (by omega) fun r hr => ⟨_, rfl, by simp, ?_⟩
  · rw [iAny_e, eOp_e, eVar_e, hx]
    simp [Tg.d]
  · have g : (setAllD (wipeD x [i]) [(i, rowD r)])[i]? = some (some (rowD r)) := by simp [hi]
    rw [eOp_e, eVar_e, g]
    simp [rowD]
theorem mem_one {c : Nat} {cs : List Nat} : decide ([c] ∈ cs.map fun c => [c]) = decide (c ∈ cs) := by simp
def lsS (T : Tg) (w : List Nat) : Env := [some (.frz T.d), some (.frz (.str (txt w))), some (.own false (txs (T.codes.map fun c => [c]))), none, none]
theorem stands_e {T : Tg} (h : Good T) {n : Nat} (hn : n ≤ T.long) {w : List Nat} (hw : w ∈ T.level n) : F__law_stands [T.d, .str (txt w)] = .ok (.bl true) := by
  have lw := level_w T n w hw
  have h8 := h.l1
  have st := level_steps hw
  have turn : ∀ d ∈ (List.range' 0 n).map (fun i => D.int (i : Nat)), ∃ as ρ', tgN 3 d = .ok as ∧ B__law_stands_1 (setS (lsS T w) as) = .nx ρ' ∧ clr [3] ρ' = lsS T w := by
    intro d hd
    obtain ⟨k, hk, rfl⟩ := List.mem_map.mp hd
    have hk : k < n := by simpa using hk
    obtain ⟨c, h1, h2, h3⟩ := st k hk
    have x1 := dIx_sign (w := w) (by omega) h1
    have x2 := dSl_take (w := w) (j := k) (by omega)
    have x3 := dSl_last (w := w.take k) (by rw [List.length_take]; omega)
    have x4 := law_comes_e T (l := lastL (w.take k)) (c := c) (lastL_len _)
    have x5 : dIn true (.str (txt [c])) (txs (T.codes.map fun c => [c])) = .ok (.bl false) := by
      rw [dIn_txts, mem_one, decide_eq_true h2]; rfl
    refine ⟨_, [some (.frz T.d), some (.frz (.str (txt w))), some (.own false (txs (T.codes.map fun c => [c]))), some (.frz (.int (k : Nat))), none], rfl, ?_, rfl⟩
    simp [lsS, B__law_stands_1_u, x1, x2, x3, x4, x5, h3]
  have f := forL_same (l := [3]) turn
  have cd := codes_e (vs := [4]) (i := 4) (x := [some T.d, some (.str (txt w)), none, none, none]) h rfl rfl (by decide) (by simp)
  have rg := rng_e n (by omega)
  show outR (B__law_stands [some (.frz T.d), some (.frz (.str (txt w))), none, none, none]) = _
  have : B__law_stands [some (.frz T.d), some (.frz (.str (txt w))), none, none, none] = .rt (.bl true) (lsS T w) := by
    rw [B__law_stands_u]
    refine seq_to (ρ' := lsS T w) (by rw [own_to cd]; simp [lsS]) ?_
    refine seq_to (ρ' := lsS T w) (by
      have ix : dIx T.d (.int 3) = .ok (.int T.long) := by simp [Tg.d]
      have nl : ¬ ((T.long : Int) < (n : Int)) := by omega
      simp [lsS, ix, txt_length, lw, show n ≤ 16777215 by omega, nl]) ?_
    refine seq_to (for_to (ds := (List.range' 0 n).map fun i => D.int (i : Nat)) (ρ' := lsS T w) (by simp [lsS, txt_length, lw, show n ≤ 16777215 by omega, rg]) (by simp [lsS]) f) ?_
    simp [lsS]
  rw [this]
  rfl
theorem mem_ends {T : Tg} {c : Nat} : decide ([c] ∈ (T.signs.filter fun r => !isNon r.2.2).map fun r => [r.1]) = T.ends c := by
  rw [Bool.eq_iff_iff, decide_eq_true_eq]
  unfold Tg.ends
  rw [List.any_eq_true]
  constructor
  · intro h
    obtain ⟨r, hr, e⟩ := List.mem_map.mp h
    obtain ⟨h1, h2⟩ := List.mem_filter.mp hr
    have e : r.1 = c := by simpa using e
    exact ⟨r, h1, by rw [e, h2, beq_self_eq_true]; rfl⟩
  · rintro ⟨r, hr, e⟩
    rw [Bool.and_eq_true, beq_iff_eq] at e
    exact List.mem_map.mpr ⟨r, List.mem_filter.mpr ⟨hr, e.2⟩, by rw [e.1]⟩
theorem is_word_e {T : Tg} (h : Good T) {n : Nat} (hn : n + 1 ≤ T.long) {w : List Nat} (hw : w ∈ T.level (n + 1)) : F__law_is_word [T.d, .str (txt w)] = .ok (.bl (T.isW w)) := by
  have s1 := stands_e h hn hw
  have h6 := h.hi
  have h8 := h.l1
  obtain ⟨v, r, hv, hr, hc, rfl⟩ := level_mem hw
  have lv := level_w T n v hv
  have ne : ¬ txt (v ++ [r.1]) = txt [] := fun e => by
    have := txt_inj e
    simp at this
  have e0 : (Str.ofString "" : Str) = txt [] := rfl
  have ix := dIx_last (w := v) (c := r.1) (by omega)
  have en : eComp [2, 3, 4] (iAny (eOp dIx (eVar 0) (eC (.int 0)))) (tgT [(tgN 2), (tgN 3), (tgN 4)]) (bT (eOp dNotN (eVar 4) (eC .non))) (eVar 2) [some T.d, some (.str (txt (v ++ [r.1]))), none, none, none] = .ok (txs ((T.signs.filter fun r => !isNon r.2.2).map fun r => [r.1])) := by
    unfold txs
    rw [List.map_map]
    refine eComp_map (F := rowD) _ _ (by simp [Tg.d]) (by omega) fun r hr => ⟨_, rfl, by simp, ?_, fun _ => ?_⟩
    · simp
    · simp
  have i1 : dIn false (.str (txt [r.1])) (txs ((T.signs.filter fun r => !isNon r.2.2).map fun r => [r.1])) = .ok (.bl (T.isW (v ++ [r.1]))) := by
    rw [dIn_txts, mem_ends, isW_snoc]; cases T.ends r.1 <;> rfl
  show outR (B__law_is_word [some (.frz T.d), some (.frz (.str (txt (v ++ [r.1])))), none, none, none]) = _
  have : B__law_is_word [some (.frz T.d), some (.frz (.str (txt (v ++ [r.1])))), none, none, none] = .rt (.bl (T.isW (v ++ [r.1]))) [some (.frz T.d), some (.frz (.str (txt (v ++ [r.1])))), none, none, none] := by
    rw [B__law_is_word_u]
    refine seq_to (ρ' := [some (.frz T.d), some (.frz (.str (txt (v ++ [r.1])))), none, none, none]) (by simp [s1, e0, ne]) ?_
    have vw : view [] [some (.frz T.d), some (.frz (.str (txt (v ++ [r.1])))), none, none, none] = [some T.d, some (.str (txt (v ++ [r.1]))), none, none, none] := rfl
    have x1 : eOp dIx (eVar 1) (eUn dNeg (eC (.int 1))) [some T.d, some (.str (txt (v ++ [r.1]))), none, none, none] = .ok (.str (txt [r.1])) := by simp [ix]
    rw [sRet_e, vw, eOp_e, x1, en, op2_ok, i1, atR_ok]
    rfl
  rw [this]
  rfl
theorem level_few {T : Tg} (h : Good T) {n : Nat} (hn : n ≤ T.long) : (T.level n).length ≤ 1679616 := by
  have := h.l1
  exact Nat.le_trans (level_le T h.hi n) (six (by omega))
end Du

namespace Du
open PySem PySem.Spec PyProof.Rows L2 Dear
/-! ### author B's words: all of them -/
/-- the texts one sign longer -/
theorem ext_e {T : Tg} (h : Good T) {w : List Nat} (hw : w.length ≤ 1000) {x1 x2 x3 x4 x6 : Option D} : eComp [6] (iAny (eOp dIx (eVar 0) (eC (.int 0)))) (tgN 6) (bT (eCall F__law_comes (aCons (eVar 0) (aCons (eSl (eVar 5) (pYes (eUn dNeg (eC (.int 1)))) pNo) (aCons (eOp dIx (eVar 6) (eC (.int 0))) aNil))))) (eOp dAdd (eVar 5) (eOp dIx (eVar 6) (eC (.int 0))))
    [some T.d, x1, x2, x3, x4, some (.str (txt w)), x6] = .ok (txs (T.longer w)) := by
  have h6 := h.hi
  unfold txs Tg.longer
  rw [List.map_map]
  refine eComp_map (F := rowD) (fun r => T.comes (lastL w) r.1) _ (by simp [Tg.d]) (by omega) fun r hr => ⟨_, rfl, by simp, ?_, fun _ => ?_⟩
  · simp [rowD, dSl_last (w := w) (by omega), law_comes_e T (lastL_len w)]
  · simp [rowD, txt_length, txt_app, show w.length + 1 ≤ 16777215 by omega]
def lwS (T : Tg) (lev found : D) (x3 : Option Slot) (acc : List (List Nat)) (x5 : Option Slot) : Env := [some (.frz T.d), some (.frz lev), some (.own false found), x3, some (.own false (txs acc)), x5, none]
theorem lw1_e {T : Tg} (h : Good T) (lev found : D) (x3 : Option Slot) (h3 : x3 = none ∨ ∃ i, x3 = some (.frz (.int i))) : ∀ (ws acc : List (List Nat)), (∀ w ∈ ws, w.length ≤ 1000) → acc.length + ws.length * 6 ≤ 16777215 →
    forL (tgN 5) B__law_words_1 [5, 6] (ws.map fun v => .str (txt v)) (lwS T lev found x3 acc none) = .nx (lwS T lev found x3 (acc ++ T.step ws) none)
  | [], acc, _, _ => by simp [Tg.step]
  | w :: ws, acc, hw, hl => by
    rw [List.length_cons, Nat.add_mul] at hl
    have wl := hw w List.mem_cons_self
    have ll := longer_len T w
    have h6 := h.hi
    have ih := lw1_e h lev found x3 h3 ws (acc ++ T.longer w) (fun v hv => hw v (List.mem_cons_of_mem _ hv)) (by rw [List.length_append]; omega)
    have e3 : setS (lwS T lev found x3 acc none) [(5, .str (txt w))] = lwS T lev found x3 acc (some (.frz (.str (txt w)))) := rfl
    have e4 : sExt 4 [] (eComp [6] (iAny (eOp dIx (eVar 0) (eC (.int 0)))) (tgN 6) (bT (eCall F__law_comes (aCons (eVar 0) (aCons (eSl (eVar 5) (pYes (eUn dNeg (eC (.int 1)))) pNo) (aCons (eOp dIx (eVar 6) (eC (.int 0))) aNil))))) (eOp dAdd (eVar 5) (eOp dIx (eVar 6) (eC (.int 0))))) (lwS T lev found x3 acc (some (.frz (.str (txt w))))) = .nx (lwS T lev found x3 (acc ++ T.longer w) (some (.frz (.str (txt w))))) := by
      have v : ∃ y3, view [] (lwS T lev found x3 acc (some (.frz (.str (txt w))))) = [some T.d, some lev, none, y3, none, some (.str (txt w)), none] := by
        rcases h3 with rfl | ⟨i, rfl⟩
        · exact ⟨_, rfl⟩
        · exact ⟨_, rfl⟩
      obtain ⟨y3, v⟩ := v
      rw [sExt_e, eLs_e, v, ext_e h wl]
      rcases h3 with rfl | ⟨i, rfl⟩ <;> simp [lwS, txs, show acc.length + (T.longer w).length ≤ 16777215 by omega]
    rw [List.map_cons, forL_cons, tgN_e, forT_ok, e3, B__law_words_1_u, need_to rfl e4, forK_nx]
    have e5 : clr [5, 6] (lwS T lev found x3 (acc ++ T.longer w) (some (.frz (.str (txt w))))) = lwS T lev found x3 (acc ++ T.longer w) none := rfl
    rw [e5, ih]
    unfold Tg.step
    rw [List.flatMap_cons, List.append_assoc]
def lwT (T : Tg) (lev : List (List Nat)) (found : D) : Env := [some (.frz T.d), some (.frz (txs lev)), some (.own false found), none, none, none, none]
theorem lw2_e {T : Tg} (h : Good T) (n : Nat) (hn : n + 1 ≤ T.long) : ∃ ρ', B__law_words_2 (setS (lwT T (T.level n) (txs ((T.upto n).filter T.isW))) [(3, .int (n : Nat))]) = .nx ρ' ∧ clr [3, 4, 5, 6] ρ' = lwT T (T.level (n + 1)) (txs ((T.upto (n + 1)).filter T.isW)) := by
  have h8 := h.l1
  have h6 := h.hi
  have b1 := level_few h (n := n) (by omega)
  have b2 := level_few h (n := n + 1) hn
  have b3 := upto_le T h6 n
  have b4 := six (n := n) (by omega)
  have b7 := List.length_filter_le T.isW (T.upto n)
  have b8 := List.length_filter_le T.isW (T.level (n + 1))
  have e1 := lw1_e h (txs (T.level n)) (txs ((T.upto n).filter T.isW)) (some (.frz (.int (n : Nat)))) (.inr ⟨_, rfl⟩) (T.level n) [] (fun w hw => by rw [level_w T n w hw]; omega) (by rw [List.length_nil]; omega)
  rw [List.nil_append, show T.step (T.level n) = T.level (n + 1) from rfl] at e1
  have c1 : ∀ x2 x3 x4 : Option D, eComp [5] (iAny (eVar 1)) (tgN 5) (bT (eCall F__law_is_word (aCons (eVar 0) (aCons (eVar 5) aNil)))) (eVar 5) [some T.d, some (txs (T.level (n + 1))), x2, x3, x4, none, none] = .ok (txs ((T.level (n + 1)).filter T.isW)) := by
    intro x2 x3 x4
    refine eComp_map (F := fun w => .str (txt w)) _ _ (by simp) (by omega) fun w hw => ⟨_, rfl, by simp, ?_, fun _ => ?_⟩
    · simp [is_word_e h hn hw]
    · simp
  rw [B__law_words_2_u]
  refine ⟨[some (.frz T.d), some (.frz (txs (T.level (n + 1)))), some (.own false (txs ((T.upto (n + 1)).filter T.isW))), some (.frz (.int (n : Nat))), some (.frz (txs (T.level (n + 1)))), none, none], ?_, rfl⟩
  refine seq_to (ρ' := lwS T (txs (T.level n)) (txs ((T.upto n).filter T.isW)) (some (.frz (.int (n : Nat)))) [] none) (by simp [lwT, lwS]) ?_
  refine seq_to (for_to (ds := (T.level n).map fun w => .str (txt w)) (ρ' := lwS T (txs (T.level n)) (txs ((T.upto n).filter T.isW)) (some (.frz (.int (n : Nat)))) [] none) (by simp [lwS]) (by simp [lwS]) e1) ?_
  refine seq_to (ρ' := [some (.frz T.d), some (.frz (txs (T.level (n + 1)))), some (.own false (txs ((T.upto n).filter T.isW))), some (.frz (.int (n : Nat))), some (.frz (txs (T.level (n + 1)))), none, none]) (by simp [lwS]) ?_
  refine need_to rfl ?_
  have v : view [] [some (.frz T.d), some (.frz (txs (T.level (n + 1)))), some (.own false (txs ((T.upto n).filter T.isW))), some (.frz (.int (n : Nat))), some (.frz (txs (T.level (n + 1)))), none, none] = [some T.d, some (txs (T.level (n + 1))), none, some (.int (n : Nat)), some (txs (T.level (n + 1))), none, none] := rfl
  rw [sExt_e, eLs_e, v, c1, upto_isW]
  simp [show ((T.upto n).filter T.isW).length + ((T.level (n + 1)).filter T.isW).length ≤ 16777215 by omega]
theorem lw3_e {T : Tg} (h : Good T) : ∀ (m n : Nat), n + m = T.long → forL (tgN 3) B__law_words_2 [3, 4, 5, 6] ((List.range' n m).map fun i => D.int (i : Nat)) (lwT T (T.level n) (txs ((T.upto n).filter T.isW))) = .nx (lwT T (T.level T.long) (txs T.words))
  | 0, n, e => by
    have : n = T.long := by omega
    subst this
    rfl
  | m + 1, n, e => by
    obtain ⟨ρ', e1, e2⟩ := lw2_e h n (by omega)
    rw [List.range'_succ, List.map_cons, forL_cons, tgN_e, forT_ok, e1, forK_nx, e2]
    exact lw3_e h m (n + 1) (by omega)
theorem law_words_e {T : Tg} (h : Good T) : F__law_words [T.d] = .ok (txs T.words) := by
  have h8 := h.l1
  have e2 := rng_e T.long (by omega)
  have e1 := lw3_e h T.long 0 (by omega)
  show outR (B__law_words [some (.frz T.d), none, none, none, none, none, none]) = _
  have : B__law_words [some (.frz T.d), none, none, none, none, none, none] = .rt (txs T.words) [some (.frz T.d), some (.frz (txs (T.level T.long))), some (.frz (txs T.words)), none, none, none, none] := by
    rw [B__law_words_u]
    refine seq_to (ρ' := [some (.frz T.d), some (.frz (txs [[]])), none, none, none, none, none]) (by
      have e0 : (Str.ofString "" : Str) = txt [] := rfl
      simp [e0]) ?_
    refine seq_to (ρ' := lwT T [[]] (txs [])) (by simp [lwT]) ?_
    refine seq_to (for_to (ds := (List.range' 0 T.long).map fun i => D.int (i : Nat)) (ρ' := lwT T [[]] (txs [])) (by
      have ix : dIx T.d (.int 3) = .ok (.int T.long) := by simp [Tg.d]
      simp [lwT, ix, e2]) (by simp [lwT]) e1) ?_
    simp [lwT]
  rw [this]
  rfl
end Du

namespace Du
open PySem PySem.Spec PyProof.Rows L2 Dear
/-! ### a good tongue is like itself -/
theorem Price.ly {p : D} (h : Price p) : Ly 1 p := by
  obtain ⟨x, y, rfl, _⟩ := h
  exact .tup (forall_cons .int (forall_cons .int forall_nil))
theorem one_asc {c : Nat} (h : c < 128) : Asc [c] := fun x hx => by rw [List.mem_singleton.mp hx]; exact h
theorem Good.ly {T : Tg} (h : Good T) : Ly 4 T.d := by
  have as : ∀ {c : Nat}, c ∈ T.signs.map (·.1) → c < 128 := fun hc => by
    obtain ⟨r, hr, rfl⟩ := List.mem_map.mp hc
    have := (h.row r hr).hi
    omega
  have key : ∀ (l : List (List Nat)), (∀ v ∈ l, ∀ c ∈ v, c ∈ T.signs.map (·.1)) → Ly 3 (txs l) := fun l hl => .txts fun v hv c hc => as (hl v hv c hc)
  refine .tup (forall_cons (.lst fun d hd => ?_) (forall_cons (key _ fun v hv c hc => ?_) (forall_cons (key _ fun v hv c hc => ?_) (forall_cons .int forall_nil))))
  · obtain ⟨r, hr, rfl⟩ := List.mem_map.mp hd
    have g := h.row r hr
    refine .tup (forall_cons (.txt (one_asc (by have := g.hi; omega))) (forall_cons g.pr.ly (forall_cons ?_ forall_nil)))
    rcases g.la with e | e
    · rw [e]; exact .non
    · exact e.ly
  · obtain ⟨a, e, m⟩ := h.fs v hv
    subst e
    rw [List.mem_singleton.mp hc]
    exact m
  · obtain ⟨a, b, e, m1, m2⟩ := h.ps v hv
    subst e
    rcases List.mem_cons.mp hc with e | hc
    · rw [e]; exact m1
    · rw [List.mem_singleton.mp hc]; exact m2
end Du

namespace Du
open PySem PySem.Spec PyProof.Rows L2 Dear
/-! ### texts of which none begins another -/
theorem starts_e (a b : List Nat) : Txt.startswith (txt a) (txt b) = decide (b <+: a) := by
  unfold Txt.startswith
  rw [PySem.StrLaws.subAt_eq, txt_list, txt_list, txt_length, txt_length, List.drop_zero, Nat.zero_add]
  by_cases h : b <+: a
  · rw [decide_eq_true h, decide_eq_true h.length_le, ← List.prefix_iff_eq_take.mp h]
    simp
  · rw [decide_eq_false h]
    have n : (a.take b.length == b) = false := by
      simp only [beq_eq_false_iff_ne, ne_eq]
      exact fun e => h (List.prefix_iff_eq_take.mpr e.symm)
    rw [n, Bool.and_false]
def Apart (a b : List Nat) : Prop := ¬ a <+: b ∧ ¬ b <+: a
theorem Apart.symm {a b : List Nat} (h : Apart a b) : Apart b a := ⟨h.2, h.1⟩
theorem Apart.ne {a b : List Nat} (h : Apart a b) : a ≠ b := fun e => h.1 (by rw [e]; exact List.prefix_refl b)
theorem Apart.tail {c : Nat} {a b : List Nat} (h : Apart (c :: a) (c :: b)) : Apart a b := ⟨fun z => h.1 (List.cons_prefix_cons.mpr ⟨rfl, z⟩), fun z => h.2 (List.cons_prefix_cons.mpr ⟨rfl, z⟩)⟩
theorem cutD_post {α : Type} {xs : List α} {j : Nat} (h : j ≤ xs.length) : cutD xs (some (j : Int)) none = xs.drop j := by
  unfold cutD
  rw [HT.sIx_none, HT.sIx_nat, Nat.min_eq_left h, List.take_of_length_le (by rw [List.length_drop]; exact Nat.le_refl _)]
/-- the first of which l goes before: two texts by the first place at which they are unlike -/
def aheadN (rk : Nat → Nat) : List Nat → List Nat → Bool
  | x :: a, y :: b => if x = y then aheadN rk a b else decide (rk x < rk y)
  | _, _ => false
end Du

namespace Du
open PySem PySem.Spec PyProof.Rows L2 Dear
/-! ### author B's world: a tongue, and a book of its words -/
theorem level_codes {T : Tg} : ∀ {n : Nat} {w : List Nat}, w ∈ T.level n → ∀ c ∈ w, c ∈ T.codes
  | 0, w, hw, c, hc => by
    rw [List.mem_singleton.mp (show w ∈ [[]] from hw)] at hc
    cases hc
  | n + 1, w, hw, c, hc => by
    obtain ⟨v, r, hv, hr, _, rfl⟩ := level_mem hw
    rcases List.mem_append.mp hc with m | m
    · exact level_codes hv c m
    · rw [List.mem_singleton.mp m]
      exact List.mem_map.mpr ⟨r, hr, rfl⟩
theorem upto_level {T : Tg} : ∀ {n : Nat} {w : List Nat}, w ∈ T.upto n → ∃ m, m < n ∧ w ∈ T.level (m + 1)
  | 0, _, h => by cases h
  | n + 1, w, h => by
    rcases List.mem_append.mp (show w ∈ T.upto n ++ T.level (n + 1) from h) with h | h
    · obtain ⟨m, h1, h2⟩ := upto_level h
      exact ⟨m, by omega, h2⟩
    · exact ⟨n, by omega, h⟩
theorem words_ok {T : Tg} (h : Good T) {w : List Nat} (hw : w ∈ T.words) : w.length ≤ 8 ∧ (∀ c ∈ w, c ∈ T.codes) ∧ ∃ v c, w = v ++ [c] ∧ T.ends c = true := by
  obtain ⟨h1, h2⟩ := List.mem_filter.mp hw
  obtain ⟨m, h3, h4⟩ := upto_level h1
  have := h.l1
  refine ⟨by rw [level_w T _ w h4]; omega, level_codes h4, ?_⟩
  obtain ⟨v, r, _, _, _, rfl⟩ := level_mem h4
  rw [isW_snoc] at h2
  exact ⟨v, r.1, rfl, h2⟩
theorem codes_asc {T : Tg} (h : Good T) {w : List Nat} (hw : ∀ c ∈ w, c ∈ T.codes) : Asc w := fun c hc => by
  obtain ⟨r, hr, rfl⟩ := List.mem_map.mp (hw c hc)
  have := (h.row r hr).hi
  omega
theorem clashes_e {B : List (List Nat)} {w : List Nat} (hl : B.length ≤ 20) (ha : ∀ v ∈ B, Asc v) : ∃ b, F__law_clashes [txs B, .str (txt w)] = .ok (.bl b) ∧ (B = [] → b = false) ∧ (b = false → ∀ v ∈ B, ¬ v <+: w ∧ ¬ w <+: v) := by
  let p : List Nat → Bool := fun v => Txt.startswith (txt v) (txt w) || Txt.startswith (txt w) (txt v)
  have c := eComp_map (F := fun v => D.str (txt v)) (tg := tgN 2) (c := bOr (bT (eM isStr dStarts (eVar 2) (aCons (eVar 1) aNil))) (bT (eM isStr dStarts (eVar 1) (aCons (eVar 2) aNil)))) (f := eVar 2) (ρ := [some (txs B), some (.str (txt w)), none]) (vs := [2]) (it := iAny (eVar 0)) (l := B) p (fun v => D.str (txt v)) (by simp) (by omega) (fun v _ => ⟨_, rfl, by simp, by
    have e1 : eM isStr dStarts (eVar 2) (aCons (eVar 1) aNil) [some (txs B), some (.str (txt w)), some (.str (txt v))] = .ok (.bl (Txt.startswith (txt v) (txt w))) := by
      rw [eM_of2 (a := .str (txt v)) (as := [.str (txt w)]) rfl rfl rfl]
      rfl
    have e2 : eM isStr dStarts (eVar 1) (aCons (eVar 2) aNil) [some (txs B), some (.str (txt w)), some (.str (txt v))] = .ok (.bl (Txt.startswith (txt w) (txt v))) := by
      rw [eM_of2 (a := .str (txt w)) (as := [.str (txt v)]) rfl rfl rfl]
      rfl
    show bOr (bT (eM isStr dStarts (eVar 2) (aCons (eVar 1) aNil))) (bT (eM isStr dStarts (eVar 1) (aCons (eVar 2) aNil))) [some (txs B), some (.str (txt w)), some (.str (txt v))] = .ok (Txt.startswith (txt v) (txt w) || Txt.startswith (txt w) (txt v))
    rw [bOr_e, bT_e, e1, bd_ok, dTru_bl, bd_ok]
    unfold borC
    rw [bT_e, e2, bd_ok, dTru_bl]
    cases Txt.startswith (txt v) (txt w) <;> rfl, fun _ => rfl⟩)
  refine ⟨!((B.filter p).map fun v => D.str (txt v)).isEmpty, ?_, (fun e => by rw [e]; rfl), fun e v hv => ?_⟩
  rotate_left
  · have e0 : B.filter p = [] := by
      cases q : B.filter p with
      | nil => rfl
      | cons x y => rw [q] at e; cases e
    have pv : p v = false := by
      cases q : p v with
      | false => rfl
      | true => exact absurd (List.mem_filter.mpr ⟨hv, q⟩) (by rw [e0]; exact List.not_mem_nil)
    have pv : (Txt.startswith (txt v) (txt w) || Txt.startswith (txt w) (txt v)) = false := pv
    rw [Bool.or_eq_false_iff, starts_e, starts_e] at pv
    exact ⟨of_decide_eq_false pv.2, of_decide_eq_false pv.1⟩
  show outR (B__law_clashes [some (.frz (txs B)), some (.frz (.str (txt w))), none]) = _
  have v : view [] [some (.frz (txs B)), some (.frz (.str (txt w))), none] = [some (txs B), some (.str (txt w)), none] := rfl
  rw [B__law_clashes_u, sRet_e, v, eOp_e, c, eLst_e, aNil_e, bd_ok, lstC_e (by decide), op2_ok, dNe_nil (fun d hd => by
    obtain ⟨x, hx, rfl⟩ := List.mem_map.mp hd
    exact .txt (ha x (List.mem_filter.mp hx).1)), atR_ok]
  rfl
theorem pick_near {n : Nat} {near k : Int} (h0 : 0 ≤ near) (h1 : near < n) (k0 : 0 ≤ k) (k1 : k < 3) : ∃ z : Nat, z < n ∧ atI [D.int near, .int ((n : Int) - 1 - near), .int ((n : Int) - 1 - near)] k = some (.int (z : Nat)) := by
  rw [atI_nat k0]
  have : k = 0 ∨ k = 1 ∨ k = 2 := by omega
  obtain ⟨a, rfl⟩ : ∃ a : Nat, near = a := ⟨near.toNat, by omega⟩
  have e : ((n : Int) - 1 - (a : Int)) = ((n - 1 - a : Nat) : Int) := by omega
  rw [e]
  rcases this with rfl | rfl | rfl
  · exact ⟨a, by omega, rfl⟩
  · exact ⟨n - 1 - a, by omega, rfl⟩
  · exact ⟨n - 1 - a, by omega, rfl⟩
def wlS (ns : List Int) (T : Tg) (W B : List (List Nat)) (x4 x5 x6 x7 : Option Slot) : Env := [some (.frz (.scr ns)), some (.frz T.d), some (.frz (txs W)), some (.own false (txs B)), x4, x5, x6, x7, none, none, none]
theorem wl1_e {ns : List Int} (hl : ns.length ≤ 63) {T : Tg} {W : List (List Nat)} (w0 : W ≠ []) (wl : W.length ≤ 9000000) (wa : ∀ v ∈ W, Asc v) {B : List (List Nat)} (bl : B.length ≤ 20) (bw : ∀ v ∈ B, v ∈ W) (bp : B.Pairwise fun a b => ¬ a <+: b ∧ ¬ b <+: a) {i : Nat} (hi : i ≤ 100) :
    ∃ B' ρ', B__law_world_1 (setS (wlS ns T W B none none none none) [(4, .int (i : Nat))]) = .nx ρ' ∧ clr [4, 5, 6, 7] ρ' = wlS ns T W B' none none none none ∧ B' ≠ [] ∧ B'.length ≤ 20 ∧ (∀ v ∈ B', v ∈ W) ∧ B'.Pairwise fun a b => ¬ a <+: b ∧ ¬ b <+: a := by
  obtain ⟨c, ec⟩ := cell_e ns hl i
  obtain ⟨s, es, hs⟩ := sourceB_e c i hi
  have wp : 0 < W.length := List.length_pos_iff.mpr w0
  obtain ⟨k1, s1, e1, a0, a1, hs1⟩ := draw_e (m := (W.length : Int)) (by omega) (by omega) hs
  obtain ⟨k2, s2, e2, b0, b1, hs2⟩ := draw_e (m := 1 + k1) (by omega) (by omega) hs1
  obtain ⟨k3, s3, e3, c0, c1, hs3⟩ := draw_e (m := 3) (by decide) (by decide) hs2
  obtain ⟨z, hz, ez⟩ := pick_near (n := W.length) b0 (by omega) c0 c1
  have ew : W[z]? = some W[z] := List.getElem?_eq_getElem hz
  have iw := dIx_at (F := fun v => D.str (txt v)) ew
  generalize W[z] = w at ew iw
  have mw : w ∈ W := List.mem_of_getElem? ew
  obtain ⟨b, eb, hb, hap⟩ := clashes_e (w := w) bl fun v hv => wa v (bw v hv)
  have head : ∀ ρ', (sIf [3] (bAnd (bT (eOp dLt (eCall dLen (aCons (eVar 3) aNil)) (eC (.int 20)))) (bNot (bT (eCall F__law_clashes (aCons (eVar 3) (aCons (eVar 7) aNil)))))) (need 3 (sApp 3 [] (eVar 7))) sPass) (wlS ns T W B (some (.frz (.int (i : Nat)))) (some (.own false s3)) (some (.frz (.int k2))) (some (.frz (.str (txt w))))) = .nx ρ' →
      B__law_world_1 (setS (wlS ns T W B none none none none) [(4, .int (i : Nat))]) = .nx ρ' := by
    intro ρ' h
    rw [B__law_world_1_u]
    refine seq_to (ρ' := wlS ns T W B (some (.frz (.int (i : Nat)))) (some (.own false s)) none none) (by
      obtain ⟨a, b, rfl, _, _⟩ := hs
      simp [wlS, ec, es]) ?_
    refine seq_to (ρ' := wlS ns T W B (some (.frz (.int (i : Nat)))) (some (.own false s2)) (some (.frz (.int k2))) none) (by
      have le : dLen [.lst (W.map fun v => D.str (txt v))] = .ok (.int (W.length : Nat)) := by rw [dLen_lst (by rw [List.length_map]; omega), List.length_map]
      simp [wlS, le, e1, e2]) ?_
    refine seq_to (ρ' := wlS ns T W B (some (.frz (.int (i : Nat)))) (some (.own false s3)) (some (.frz (.int k2))) (some (.frz (.str (txt w))))) (by
      have le : dLen [.lst (W.map fun v => D.str (txt v))] = .ok (.int (W.length : Nat)) := by rw [dLen_lst (by rw [List.length_map]; omega), List.length_map]
      have v : view [] (wlS ns T W B (some (.frz (.int (i : Nat)))) (some (.own false s2)) (some (.frz (.int k2))) none) = [some (.scr ns), some T.d, some (txs W), none, some (.int (i : Nat)), none, some (.int k2), none, none, none, none] := rfl
      rw [asgM_to (d := .str (txt w)) (ρ' := wlS ns T W B (some (.frz (.int (i : Nat)))) (some (.own false s3)) (some (.frz (.int k2))) none) (by
        have p1 : (mP [] (eLst (aCons (eVar 6) (aCons (eOp dSub (eOp dSub (eCall dLen (aCons (eVar 2) aNil)) (eC (.int 1))) (eVar 6)) (aCons (eOp dSub (eOp dSub (eCall dLen (aCons (eVar 2) aNil)) (eC (.int 1))) (eVar 6)) aNil))))) (wlS ns T W B (some (.frz (.int (i : Nat)))) (some (.own false s2)) (some (.frz (.int k2))) none) = .ok (.lst [.int k2, .int ((W.length : Int) - 1 - k2), .int ((W.length : Int) - 1 - k2)]) (wlS ns T W B (some (.frz (.int (i : Nat)))) (some (.own false s2)) (some (.frz (.int k2))) none) := by
          simp [wlS, le]
        have p2 : (mIO 0 5 F__law_draw (mAP [] (aCons (eC (.int 3)) aNil))) (wlS ns T W B (some (.frz (.int (i : Nat)))) (some (.own false s2)) (some (.frz (.int k2))) none) = .ok (.int k3) (wlS ns T W B (some (.frz (.int (i : Nat)))) (some (.own false s3)) (some (.frz (.int k2))) none) := by
          simp [wlS, e3]
        have p0 : mP [] (eVar 2) (wlS ns T W B (some (.frz (.int (i : Nat)))) (some (.own false s2)) (some (.frz (.int k2))) none) = .ok (txs W) (wlS ns T W B (some (.frz (.int (i : Nat)))) (some (.own false s2)) (some (.frz (.int k2))) none) := by
          simp [wlS]
        have i1 : dIx (.lst [.int k2, .int ((W.length : Int) - 1 - k2), .int ((W.length : Int) - 1 - k2)]) (.int k3) = .ok (.int (z : Nat)) := by
          rw [dIx_lst, ez]
          rfl
        rw [mOp_e, p0, md_ok, mOp1_e, mOp_e, p1, md_ok, mOp1_e, p2, md_ok, mOp2_e, i1, lift_ok, md_ok, mOp2_e]
        show lift _ (dIx (.lst (W.map fun v => D.str (txt v))) (.int (z : Nat))) = _
        rw [iw]
        rfl)]
      rfl) ?_
    exact h
  have ll : dLen [.lst (B.map fun v => D.str (txt v))] = .ok (.int (B.length : Nat)) := by rw [dLen_lst (by rw [List.length_map]; omega), List.length_map]
  have vw : view [3] (wlS ns T W B (some (.frz (.int (i : Nat)))) (some (.own false s3)) (some (.frz (.int k2))) (some (.frz (.str (txt w))))) = [some (.scr ns), some T.d, some (txs W), some (txs B), some (.int (i : Nat)), none, some (.int k2), some (.str (txt w)), none, none, none] := rfl
  by_cases c : B.length < 20 ∧ b = false
  · obtain ⟨c, rfl⟩ := c
    refine ⟨B ++ [w], wlS ns T W (B ++ [w]) (some (.frz (.int (i : Nat)))) (some (.own false s3)) (some (.frz (.int k2))) (some (.frz (.str (txt w)))), head _ ?_, rfl, by simp, by rw [List.length_append, List.length_singleton]; omega, fun v hv => ?_, ?_⟩
    · have t : (bAnd (bT (eOp dLt (eCall dLen (aCons (eVar 3) aNil)) (eC (.int 20)))) (bNot (bT (eCall F__law_clashes (aCons (eVar 3) (aCons (eVar 7) aNil)))))) [some (.scr ns), some T.d, some (txs W), some (txs B), some (.int (i : Nat)), none, some (.int k2), some (.str (txt w)), none, none, none] = .ok true := by
        have c' : (B.length : Int) < 20 := by omega
        simp [ll, eb, c']
      rw [sIf_e, vw, t, atR_ok, ifC_t]
      refine need_to rfl ?_
      have fit : (B.map fun v => D.str (txt v)).length ≤ 16777215 := by rw [List.length_map]; omega
      simp [wlS, appF_e fit]
    · rcases List.mem_append.mp hv with m | m
      · exact bw v m
      · rw [List.mem_singleton.mp m]; exact mw
    · rw [List.pairwise_append]
      exact ⟨bp, List.pairwise_singleton _ _, fun x hx y hy => by rw [List.mem_singleton.mp hy]; exact hap rfl x hx⟩
  · refine ⟨B, wlS ns T W B (some (.frz (.int (i : Nat)))) (some (.own false s3)) (some (.frz (.int k2))) (some (.frz (.str (txt w)))), head _ ?_, rfl, fun e => c ⟨by rw [e]; decide, hb e⟩, bl, bw, bp⟩
    have t : (bAnd (bT (eOp dLt (eCall dLen (aCons (eVar 3) aNil)) (eC (.int 20)))) (bNot (bT (eCall F__law_clashes (aCons (eVar 3) (aCons (eVar 7) aNil)))))) [some (.scr ns), some T.d, some (txs W), some (txs B), some (.int (i : Nat)), none, some (.int k2), some (.str (txt w)), none, none, none] = .ok false := by
      by_cases c' : (B.length : Int) < 20
      · have : b = true := by
          cases b with
          | true => rfl
          | false => exact absurd ⟨by omega, rfl⟩ c
        subst this
        simp [ll, eb, c']
      · simp [ll, c']
    rw [sIf_e, vw, t, atR_ok, ifC_f]
    rfl
theorem wl2_e {ns : List Int} (hl : ns.length ≤ 63) {T : Tg} {W : List (List Nat)} (w0 : W ≠ []) (wl : W.length ≤ 9000000) (wa : ∀ v ∈ W, Asc v) : ∀ (l : List Nat) (B : List (List Nat)), (∀ i ∈ l, i + 2 ≤ 100) → B.length ≤ 20 → (∀ v ∈ B, v ∈ W) → (B.Pairwise fun a b => ¬ a <+: b ∧ ¬ b <+: a) → (l = [] → B ≠ []) →
    ∃ B', forL (tgN 4) B__law_world_1 [4, 5, 6, 7] (l.map fun i => .int ((i + 2 : Nat) : Int)) (wlS ns T W B none none none none) = .nx (wlS ns T W B' none none none none) ∧ B' ≠ [] ∧ B'.length ≤ 20 ∧ (∀ v ∈ B', v ∈ W) ∧ B'.Pairwise fun a b => ¬ a <+: b ∧ ¬ b <+: a
  | [], B, _, h1, h2, h4, h3 => ⟨B, rfl, h3 rfl, h1, h2, h4⟩
  | i :: l, B, hi, h1, h2, h4, _ => by
    obtain ⟨B1, ρ', e1, e2, n1, l1, m1, p1⟩ := wl1_e hl (T := T) w0 wl wa h1 h2 h4 (hi i List.mem_cons_self)
    obtain ⟨B2, e3, r⟩ := wl2_e hl (T := T) w0 wl wa l B1 (fun x hx => hi x (List.mem_cons_of_mem _ hx)) l1 m1 p1 fun _ => n1
    refine ⟨B2, ?_, r⟩
    rw [List.map_cons, forL_cons, tgN_e, forT_ok, e1, forK_nx, e2]
    exact e3
/-- the tongue all of whose signs end words, nothing barred -/
def Tg.open (T : Tg) : Tg := ⟨T.signs.map fun r => (r.1, r.2.1, r.2.1), [], [], T.long⟩
theorem open_codes {T : Tg} : T.open.codes = T.codes := by
  show (T.signs.map fun r => (r.1, r.2.1, r.2.1)).map (·.1) = T.signs.map (·.1)
  rw [List.map_map]
  rfl
theorem open_good {T : Tg} (h : Good T) : Good T.open := by
  refine ⟨by show 2 ≤ (T.signs.map _).length; rw [List.length_map]; exact h.lo, by show (T.signs.map _).length ≤ 6; rw [List.length_map]; exact h.hi, fun r hr => ?_, by
    have := h.nd
    rw [show T.open.signs.map (·.1) = T.signs.map (·.1) from open_codes]
    exact this, (fun _ h => nomatch h), .nil, (fun _ h => nomatch h), .nil, Nat.zero_le _, Nat.zero_le _, h.l0, h.l1⟩
  obtain ⟨x, hx, rfl⟩ := List.mem_map.mp hr
  have g := h.row x hx
  exact ⟨g.lo, g.hi, g.pr, .inr g.pr⟩
theorem open_words {T : Tg} (h : Good T) : T.open.words ≠ [] := by
  obtain ⟨r, rs, e⟩ : ∃ r rs, T.signs = r :: rs := by
    cases e : T.signs with
    | nil => have := h.lo; rw [e] at this; cases this
    | cons r rs => exact ⟨r, rs, rfl⟩
  have hr : (r.1, r.2.1, r.2.1) ∈ T.open.signs := List.mem_map.mpr ⟨r, by rw [e]; exact List.mem_cons_self, rfl⟩
  have m1 : [r.1] ∈ T.open.level 1 := List.mem_flatMap.mpr ⟨[], List.mem_singleton.mpr rfl, List.mem_map.mpr ⟨(r.1, r.2.1, r.2.1), List.mem_filter.mpr ⟨hr, rfl⟩, rfl⟩⟩
  have up : ∀ n, [r.1] ∈ T.open.upto (n + 1) := by
    intro n
    induction n with
    | zero => exact m1
    | succ n ih => exact List.mem_append_left _ ih
  have g := (h.row r (by rw [e]; exact List.mem_cons_self)).pr
  have en : T.open.ends r.1 = true := by
    refine List.any_eq_true.mpr ⟨_, hr, ?_⟩
    obtain ⟨x, y, e, _⟩ := g
    show (r.1 == r.1 && !isNon r.2.1) = true
    rw [e]
    simp
  have l0 := h.l0
  intro z
  have : [r.1] ∈ T.open.words := List.mem_filter.mpr ⟨by
    have := up (T.long - 1)
    rw [Nat.sub_add_cancel l0] at this
    exact this, by rw [show [r.1] = [] ++ [r.1] from rfl, isW_snoc]; exact en⟩
  rw [z] at this
  cases this
theorem words_few {T : Tg} (h : Good T) : T.words.length ≤ 4000000 := by
  have h1 := upto_le T h.hi T.long
  have h2 := six h.l1
  have h3 := List.length_filter_le T.isW (T.upto T.long)
  show ((T.upto T.long).filter T.isW).length ≤ _
  omega
theorem dRange_fromB {a n : Nat} (ha : a ≤ 1000) (h : n ≤ 1000) : dRange [.int (a : Nat), .int (n : Nat)] = .ok ((List.range (n - a)).map fun i => .int ((i + a : Nat) : Int)) := by
  rw [dRange2 (by omega) (by omega) (by omega) (by omega), show ((n : Int) - (a : Int)).toNat = n - a by omega]
  unfold rangeD
  congr 1
  exact List.map_congr_left fun i _ => by rw [Int.natCast_add, Int.add_comm]
theorem world_u (ns : List Int) : F__law_world [.scr ns] = outR (B__law_world [some (.frz (.scr ns)), none, none, none, none, none, none, none, none, none, none]) := by rfl
end Du

namespace Du
open PySem PySem.Spec PyProof.Rows L2 Dear
/-! ### k17: trees of branches, as data -/
set_option maxHeartbeats 400000
abbrev brE (e : Nat × D) : D := .tup [.str (txt [e.1]), e.2]
abbrev brD (l : List (Nat × D)) : D := .lst (l.map brE)
/-- a node: a leaf, or a list of branches, at most k lists deep -/
def TW (lf : D → Prop) (cs : List Nat) (B : Nat) : Nat → D → Prop
  | 0, d => lf d
  | k + 1, d => lf d ∨ ∃ l, d = brD l ∧ l.length ≤ B ∧ ∀ e ∈ l, e.1 ∈ cs ∧ TW lf cs B k e.2
def TL (lf : D → Prop) (cs : List Nat) (B k : Nat) (l : List (Nat × D)) : Prop := l.length ≤ B ∧ ∀ e ∈ l, e.1 ∈ cs ∧ TW lf cs B k e.2
def lfN (d : D) : Prop := ∃ n : Int, d = .int n
def lfT (d : D) : Prop := (∃ n : Int, d = .int n) ∨ d = .bl true
theorem brD_inj : ∀ {l m : List (Nat × D)}, brD l = brD m → l = m
  | [], [], _ => rfl
  | [], _ :: _, e => by simp at e
  | _ :: _, [], e => by simp at e
  | a :: l, b :: m, e => by
    have e1 : brE a :: l.map brE = brE b :: m.map brE := D.lst.inj e
    rw [List.cons.injEq] at e1
    have h1 := e1.1
    have h2 : l = m := brD_inj (congrArg D.lst e1.2)
    have h3 := D.tup.inj h1
    rw [List.cons.injEq, List.cons.injEq] at h3
    have h4 : [a.1] = [b.1] := txt_inj (D.str.inj h3.1)
    rw [h2]
    congr 1
    exact Prod.ext (List.singleton_inj.mp h4) h3.2.1
theorem TW.leaf {lf : D → Prop} {cs : List Nat} {B : Nat} : ∀ {k : Nat} {d : D}, lf d → TW lf cs B k d
  | 0, _, h => h
  | _ + 1, _, h => .inl h
theorem TW.list {lf : D → Prop} {cs : List Nat} {B k : Nat} {l : List (Nat × D)} (h : TL lf cs B k l) : TW lf cs B (k + 1) (brD l) := .inr ⟨l, rfl, h.1, h.2⟩
theorem TW.mono {lf lf' : D → Prop} {cs : List Nat} {B B' : Nat} (hl : ∀ d, lf d → lf' d) (hB : B ≤ B') : ∀ {k k' : Nat} {d : D}, k ≤ k' → TW lf cs B k d → TW lf' cs B' k' d
  | 0, _, _, _, h => .leaf (hl _ h)
  | _ + 1, 0, _, hk, _ => absurd hk (by omega)
  | k + 1, k' + 1, _, hk, h => by
    rcases h with h | ⟨l, rfl, h1, h2⟩
    · exact .leaf (hl _ h)
    · exact .inr ⟨l, rfl, by omega, fun e he => ⟨(h2 e he).1, TW.mono hl hB (by omega) (h2 e he).2⟩⟩
theorem TL.mono {lf lf' : D → Prop} {cs : List Nat} {B B' k k' : Nat} {l : List (Nat × D)} (hl : ∀ d, lf d → lf' d) (hB : B ≤ B') (hk : k ≤ k') (h : TL lf cs B k l) : TL lf' cs B' k' l := ⟨by have := h.1; omega, fun e he => ⟨(h.2 e he).1, (h.2 e he).2.mono hl hB hk⟩⟩
theorem TW.ly {cs : List Nat} {B : Nat} (hc : ∀ c ∈ cs, c < 128) : ∀ {k : Nat} {d : D}, TW lfT cs B k d → Ly (2 * k) d
  | 0, _, h => by
    rcases h with ⟨n, rfl⟩ | rfl
    · exact .int
    · exact .bl
  | k + 1, _, h => by
    rcases h with (⟨n, rfl⟩ | rfl) | ⟨l, rfl, h1, h2⟩
    · exact .int
    · exact .bl
    · refine .lst fun d hd => ?_
      obtain ⟨e, he, rfl⟩ := List.mem_map.mp hd
      refine .tup (forall_cons (.txt fun x hx => ?_) (forall_cons (TW.ly hc (h2 e he).2) forall_nil))
      rw [List.mem_singleton] at hx
      rw [hx]
      exact hc _ (h2 e he).1
theorem copied_e {cs : List Nat} {B : Nat} (hB : B ≤ 1000) : ∀ (k N : Nat) (d : D), TW lfT cs B k d → 2 * k + 1 ≤ N → F__law_copied N [d] = .ok d := by
  have leaf : ∀ (N : Nat) (d : D), (lfT d ∨ ∃ s, d = .str s) → 1 ≤ N → F__law_copied N [d] = .ok d := by
    intro N d h hN
    obtain ⟨M, rfl⟩ : ∃ M, N = M + 1 := ⟨N - 1, by omega⟩
    show outR (B__law_copied (F__law_copied M) [some (.frz d), none]) = _
    rcases h with (⟨n, rfl⟩ | rfl) | ⟨s, rfl⟩ <;> simp [B__law_copied_u]
  intro k
  induction k with
  | zero => exact fun N d h hN => leaf N d (.inl h) (by omega)
  | succ k ih =>
    intro N d h hN
    rcases h with h | ⟨l, rfl, h1, h2⟩
    · exact leaf N d (.inl h) (by omega)
    · obtain ⟨M, rfl⟩ : ∃ M, N = M + 2 := ⟨N - 2, by omega⟩
      have one : ∀ e ∈ l, F__law_copied (M + 1) [brE e] = .ok (brE e) := fun e he => by
        have e1 := leaf M (.str (txt [e.1])) (.inr ⟨_, rfl⟩) (by omega)
        have e2 := ih M e.2 (h2 e he).2 (by omega)
        show outR (B__law_copied (F__law_copied M) [some (.frz (brE e)), none]) = _
        have c : eComp [1] (iAny (eVar 0)) (tgN 1) bYes (eCall (F__law_copied M) (aCons (eVar 1) aNil)) [some (brE e), none] = .ok (.lst [.str (txt [e.1]), e.2]) := by
          have := eComp_all (F := id) (tg := tgN 1) (f := eCall (F__law_copied M) (aCons (eVar 1) aNil)) (ρ := [some (brE e), none]) (vs := [1]) (it := iAny (eVar 0)) (l := [.str (txt [e.1]), e.2]) id (by simp) (by simp) fun a ha => ⟨_, rfl, by simp, by
            rcases List.mem_cons.mp ha with rfl | ha
            · simp [e1]
            · rw [List.mem_singleton.mp ha]
              simp [e2]⟩
          simpa using this
        have t : dTuple [.lst [.str (txt [e.1]), e.2]] = .ok (brE e) := rfl
        generalize brE e = be at *
        generalize D.lst [.str (txt [e.1]), e.2] = bl at *
        obtain ⟨xs, rfl⟩ : ∃ xs, be = .tup xs := by
          unfold dTuple at t
          split at t <;> first | (split at t <;> first | (cases t; exact ⟨_, rfl⟩) | cases t) | (cases t; exact ⟨_, rfl⟩) | cases t
        simp [B__law_copied_u, c, t]
      show outR (B__law_copied (F__law_copied (M + 1)) [some (.frz (brD l)), none]) = _
      have c : eComp [1] (iAny (eVar 0)) (tgN 1) bYes (eCall (F__law_copied (M + 1)) (aCons (eVar 1) aNil)) [some (brD l), none] = .ok (brD l) :=
        eComp_all (F := brE) brE (by simp) (by omega) fun e he => ⟨_, rfl, by simp, by simp [one e he]⟩
      generalize l.map brE = dl at *
      simp [B__law_copied_u, c]
/-! turned -/
def tnS (rows : D) (many b : Int) (acc : List D) (x4 x5 : Option Slot) : Env := [some (.frz rows), some (.frz (.int many)), some (.frz (.int b)), some (.own false (.lst acc)), x4, x5]
theorem turned_loop {rec : List D → Res D} {cs : List Nat} {B k : Nat} {rows : D} {many b : Int} (hm : 0 < many)
    (hr : ∀ l, TW lfN cs B k (brD l) → ∃ d, rec [brD l, .int many, .int b] = .ok d ∧ TW lfN cs B k d) : ∀ (l : List (Nat × D)) (acc : List D), (∀ e ∈ l, e.1 ∈ cs ∧ TW lfN cs B k e.2) → acc.length + l.length ≤ 1000 →
      ∃ l' : List (Nat × D), l'.length = l.length ∧ (∀ e ∈ l', e.1 ∈ cs ∧ TW lfN cs B k e.2) ∧ forL (tgT [(tgN 4), (tgN 5)]) (B__law_turned_1 rec) [4, 5] (l.map brE) (tnS rows many b acc none none) = .nx (tnS rows many b (acc ++ l'.map brE) none none)
  | [], acc, _, _ => ⟨[], rfl, fun _ h => (nomatch h), by simp⟩
  | e :: l, acc, h, hl => by
    rw [List.length_cons] at hl
    obtain ⟨c, d⟩ := e
    obtain ⟨hc, hd⟩ := h (c, d) List.mem_cons_self
    have key : ∃ d', TW lfN cs B k d' ∧ B__law_turned_1 rec (tnS rows many b acc (some (.frz (.str (txt [c])))) (some (.frz d))) = .nx (tnS rows many b (acc ++ [brE (c, d')]) (some (.frz (.str (txt [c])))) (some (.frz d))) := by
      have leaf : ∀ n : Int, d = .int n → ∃ d', TW lfN cs B k d' ∧ B__law_turned_1 rec (tnS rows many b acc (some (.frz (.str (txt [c])))) (some (.frz d))) = .nx (tnS rows many b (acc ++ [brE (c, d')]) (some (.frz (.str (txt [c])))) (some (.frz d))) := by
        rintro n rfl
        refine ⟨.int ((n + b) % many), .leaf ⟨_, rfl⟩, ?_⟩
        simp [B__law_turned_1_u, tnS, hm, show acc.length ≤ 16777215 by omega]
      cases k with
      | zero => obtain ⟨n, e⟩ := hd; exact leaf n e
      | succ k =>
        rcases hd with ⟨n, e⟩ | ⟨l2, rfl, h1, h2⟩
        · exact leaf n e
        · obtain ⟨d', e', t'⟩ := hr l2 (.inr ⟨l2, rfl, h1, h2⟩)
          refine ⟨d', t', ?_⟩
          simp [B__law_turned_1_u, tnS, e', show acc.length ≤ 16777215 by omega]
    obtain ⟨d', t', e'⟩ := key
    obtain ⟨l', q1, q2, q3⟩ := turned_loop hm hr l (acc ++ [brE (c, d')]) (fun x hx => h x (List.mem_cons_of_mem _ hx)) (by rw [List.length_append, List.length_singleton]; omega)
    refine ⟨(c, d') :: l', by rw [List.length_cons, List.length_cons, q1], fun x hx => ?_, ?_⟩
    · rcases List.mem_cons.mp hx with rfl | hx
      · exact ⟨hc, t'⟩
      · exact q2 x hx
    · have tg : tgT [(tgN 4), (tgN 5)] (brE (c, d)) = .ok [(4, .str (txt [c])), (5, d)] := by simp
      have e0 : setS (tnS rows many b acc none none) [(4, .str (txt [c])), (5, d)] = tnS rows many b acc (some (.frz (.str (txt [c])))) (some (.frz d)) := rfl
      rw [List.map_cons, forL_cons, tg, forT_ok, e0, e', forK_nx]
      refine Eq.trans q3 ?_
      rw [List.append_assoc]
      rfl
theorem turned_e {cs : List Nat} {B : Nat} (hB : B ≤ 1000) {many b : Int} (hm : 0 < many) : ∀ (k N : Nat) (l : List (Nat × D)), TL lfN cs B k l → k + 1 ≤ N → ∃ l', F__law_turned N [brD l, .int many, .int b] = .ok (brD l') ∧ TL lfN cs B k l'
  | k, N, l, h, hN => by
    obtain ⟨M, rfl⟩ : ∃ M, N = M + 1 := ⟨N - 1, by omega⟩
    have hr : ∀ l2, TW lfN cs B k (brD l2) → ∃ d, F__law_turned M [brD l2, .int many, .int b] = .ok d ∧ TW lfN cs B k d := by
      intro l2 h2
      cases k with
      | zero =>
        obtain ⟨n, e⟩ := h2
        cases e
      | succ k =>
        rcases h2 with ⟨n, e⟩ | ⟨l3, e, q1, q2⟩
        · cases e
        · have := brD_inj e
          subst this
          obtain ⟨l4, e4, t4⟩ := turned_e hB hm k M l2 ⟨q1, q2⟩ (by omega)
          exact ⟨_, e4, .list t4⟩
    have hl := h.1
    obtain ⟨l', q1, q2, q3⟩ := turned_loop (rows := brD l) hm hr l [] h.2 (by rw [List.length_nil]; omega)
    refine ⟨l', ?_, ⟨by omega, q2⟩⟩
    show outR (B__law_turned (F__law_turned M) [some (.frz (brD l)), some (.frz (.int many)), some (.frz (.int b)), none, none, none]) = _
    have : B__law_turned (F__law_turned M) [some (.frz (brD l)), some (.frz (.int many)), some (.frz (.int b)), none, none, none] = .ro (brD l') (tnS (brD l) many b (l'.map brE) none none) ∨ B__law_turned (F__law_turned M) [some (.frz (brD l)), some (.frz (.int many)), some (.frz (.int b)), none, none, none] = .rt (brD l') [some (.frz (brD l)), some (.frz (.int many)), some (.frz (.int b)), some (.frz (brD l')), none, none] := by
      right
      rw [B__law_turned_u]
      refine seq_to (ρ' := tnS (brD l) many b [] none none) (by simp [tnS]) ?_
      refine seq_to (for_to (ds := l.map brE) (ρ' := tnS (brD l) many b [] none none) (by simp [tnS]) (by simp [tnS]) q3) ?_
      generalize brD l = dl
      simp [tnS]
    rcases this with e | e <;> rw [e] <;> rfl
end Du

namespace Du
open PySem PySem.Spec PyProof.Rows L2 Dear
/-! ### what grows of the ends of texts -/
set_option maxHeartbeats 400000
def belE (c : Nat) (ends : List (List Nat × Nat)) : List (List Nat × Nat) := (ends.filter fun e => decide (e.1.take 1 = [c])).map fun e => (e.1.drop 1, e.2)
def grB (gr : List (List Nat × Nat) → List D) (c : Nat) : List (List Nat × Nat) → List D
  | [] => []
  | [([], n)] => [.tup [.str (txt [c]), .int (n : Nat)]]
  | l => [.tup [.str (txt [c]), .lst (gr l)]]
def grT (cs : List Nat) : Nat → List (List Nat × Nat) → List D
  | 0, _ => []
  | k + 1, ends => cs.flatMap fun c => grB (grT cs k) c (belE c ends)
abbrev endD (e : List Nat × Nat) : D := .tup [.str (txt e.1), .int (e.2 : Nat)]
abbrev endsD (l : List (List Nat × Nat)) : D := .lst (l.map endD)
abbrev lettD (cs : List Nat) : D := .lst (cs.map fun c => .str (txt [c]))
theorem dSl_drop {w : List Nat} {j : Nat} (h : w.length ≤ 16777215) : dSl (.str (txt w)) (some (j : Int)) none = .ok (.str (txt (w.drop j))) := by
  have e1 : dSl (.str (txt w)) (some (j : Int)) none = (if fit (txt w).length = true then .ok (.str (cutS (txt w) (some (j : Int)) none)) else .bad) := rfl
  rw [e1, if_pos (fit_of (by rw [txt_length]; exact h))]
  rw [Dear.cut_from]
theorem bel_comp {c : Nat} {ends : List (List Nat × Nat)} (hl : ∀ e ∈ ends, e.1.length ≤ 1000) (hn : ends.length ≤ 1000) (x0 x2 x4 : Option D) :
    eComp [5, 6] (iAny (eVar 1)) (tgT [(tgN 5), (tgN 6)]) (bT (eOp dEq (eSl (eVar 5) pNo (pYes (eC (.int 1)))) (eVar 3))) (eTup (aCons (eSl (eVar 5) (pYes (eC (.int 1))) pNo) (aCons (eVar 6) aNil))) [x0, some (endsD ends), x2, some (.str (txt [c])), x4, none, none] = .ok (endsD (belE c ends)) := by
  unfold belE endsD
  rw [List.map_map]
  refine eComp_map (F := endD) (fun e => decide (e.1.take 1 = [c])) _ rfl (by omega) fun e he => ⟨[(5, .str (txt e.1)), (6, .int (e.2 : Nat))], rfl, by simp, ?_, fun _ => ?_⟩
  · have h1 := dSl_take (w := e.1) (j := 1) (by have := hl e he; omega)
    have h1 : dSl (.str (txt e.1)) none (some 1) = .ok (.str (txt (e.1.take 1))) := h1
    have h2 : (txt (e.1.take 1) = txt [c]) ↔ e.1.take 1 = [c] := ⟨txt_inj, fun z => by rw [z]⟩
    simp [h1, h2]
  · have h1 := dSl_drop (w := e.1) (j := 1) (by have := hl e he; omega)
    have h1 : dSl (.str (txt e.1)) (some 1) none = .ok (.str (txt (e.1.drop 1))) := h1
    simp [h1]
def isOne : List (List Nat × Nat) → Bool
  | [([], _)] => true
  | _ => false
theorem belE_len {c : Nat} {ends : List (List Nat × Nat)} {N : Nat} (h : ∀ e ∈ ends, e.1.length + 1 ≤ N + 1) : ∀ e ∈ belE c ends, e.1.length + 1 ≤ N := fun e he => by
  obtain ⟨a, ha, rfl⟩ := List.mem_map.mp he
  obtain ⟨h1, h2⟩ := List.mem_filter.mp ha
  have h3 : a.1.take 1 = [c] := of_decide_eq_true h2
  have h4 := h a h1
  have h5 : a.1 ≠ [] := fun z => by rw [z] at h3; cases h3
  have h6 := List.length_pos_iff.mpr h5
  show (a.1.drop 1).length + 1 ≤ N
  rw [List.length_drop]
  omega
theorem belE_asc {c : Nat} {ends : List (List Nat × Nat)} (h : ∀ e ∈ ends, Asc e.1) : ∀ e ∈ belE c ends, Asc e.1 := fun e he => by
  obtain ⟨a, ha, rfl⟩ := List.mem_map.mp he
  exact fun x hx => h a (List.mem_filter.mp ha).1 x (List.mem_of_mem_drop hx)
theorem ends_ly {l : List (List Nat × Nat)} (h : ∀ e ∈ l, Asc e.1) : Ly 2 (endsD l) := .lst fun d hd => by
  obtain ⟨e, he, rfl⟩ := List.mem_map.mp hd
  exact .tup (forall_cons (.txt (h e he)) (forall_cons .int forall_nil))
theorem ne_test {cs : List Nat} {l : List (List Nat × Nat)} {c : Nat} (h : ∀ e ∈ l, Asc e.1) (x2 : Option D) : bT (eOp dNe (eVar 4) (eLst aNil)) [some (lettD cs), x2, none, some (.str (txt [c])), some (endsD l), none, none] = .ok (decide (l ≠ [])) := by
  have e1 : dNe (endsD l) (.lst []) = .ok (.bl (!(l.map endD).isEmpty)) := by
    rw [dNe_of ((ends_ly h).lay (by decide)) ((Ly.lst (n := 0) forall_nil).lay (by decide))]
    unfold endsD
    rw [pyEq_nil]
  have e2 : (!(l.map endD).isEmpty) = decide (l ≠ []) := by cases l <;> rfl
  rw [e2] at e1
  generalize endsD l = ed at *
  generalize lettD cs = lt
  simp [e1]
theorem one_test {cs : List Nat} {l : List (List Nat × Nat)} {c : Nat} (hl : l.length ≤ 1000) (x2 : Option D) : bAnd (bT (eOp dEq (eCall dLen (aCons (eVar 4) aNil)) (eC (.int 1)))) (bT (eOp dEq (eOp dIx (eOp dIx (eVar 4) (eC (.int 0))) (eC (.int 0))) (eC (.str "")))) [some (lettD cs), x2, none, some (.str (txt [c])), some (endsD l), none, none] = .ok (isOne l) := by
  have dl : dLen [endsD l] = .ok (.int (l.length : Nat)) := by
    show dLen [.lst (l.map endD)] = _
    rw [dLen_lst (by rw [List.length_map]; omega), List.length_map]
  have e0 : (Str.ofString "" : Str) = txt [] := rfl
  match l, hl, dl with
  | [], _, dl =>
    generalize lettD cs = lt
    simp [dl, isOne]
  | [(w, n)], _, dl =>
    have i0 : dIx (endsD [(w, n)]) (.int 0) = .ok (endD (w, n)) := by simp
    have i1 : dIx (endD (w, n)) (.int 0) = .ok (.str (txt w)) := by simp
    generalize endsD [(w, n)] = ed at *
    generalize lettD cs = lt
    have te : (txt w = txt []) ↔ w = [] := ⟨txt_inj, fun z => by rw [z]⟩
    have : isOne [(w, n)] = decide (w = []) := by cases w <;> rfl
    rw [this]
    generalize endD (w, n) = en at *
    simp [dl, i0, i1, e0, te]
  | a :: b :: l, _, dl =>
    have : ¬ (((a :: b :: l).length : Nat) : Int) = 1 := by rw [List.length_cons, List.length_cons]; omega
    have h1 : isOne (a :: b :: l) = false := by cases a with | mk w n => cases w <;> rfl
    rw [h1]
    generalize ((a :: b :: l).length : Nat) = m at *
    generalize endsD (a :: b :: l) = ed at *
    generalize lettD cs = lt
    simp [dl, this]
end Du

namespace Du
open PySem PySem.Spec PyProof.Rows L2 Dear
/-! ### k17: the program's trees, the law's trees -/
set_option maxHeartbeats 400000
def gnS (cs : List Nat) (ends : List (List Nat × Nat)) (found : List D) (x3 x4 : Option Slot) : Env := [some (.frz (lettD cs)), some (.frz (endsD ends)), some (.own false (.lst found)), x3, x4, none, none]
theorem dIx0_ends {e : List Nat × Nat} {l : List (List Nat × Nat)} (h : (e :: l).length ≤ 1000) : dIx (endsD (e :: l)) (.int 0) = .ok (endD e) := by simp
theorem belE_le {c : Nat} {ends : List (List Nat × Nat)} : (belE c ends).length ≤ ends.length := by
  unfold belE
  rw [List.length_map]
  exact List.length_filter_le _ _
theorem bel_own {c : Nat} {cs : List Nat} {ends : List (List Nat × Nat)} {found : List D} (h1 : ∀ e ∈ ends, e.1.length ≤ 1000) (h2 : ends.length ≤ 1000) :
    sOwn 4 [] (eComp [5, 6] (iAny (eVar 1)) (tgT [(tgN 5), (tgN 6)]) (bT (eOp dEq (eSl (eVar 5) pNo (pYes (eC (.int 1)))) (eVar 3))) (eTup (aCons (eSl (eVar 5) (pYes (eC (.int 1))) pNo) (aCons (eVar 6) aNil)))) (gnS cs ends found (some (.frz (.str (txt [c])))) none) = .nx (gnS cs ends found (some (.frz (.str (txt [c])))) (some (.own false (endsD (belE c ends))))) := by
  have v : view [] (gnS cs ends found (some (.frz (.str (txt [c])))) none) = [some (lettD cs), some (endsD ends), none, some (.str (txt [c])), none, none, none] := rfl
  rw [own_to (d := endsD (belE c ends)) (by rw [v]; exact bel_comp h1 h2 _ _ _)]
  generalize endsD (belE c ends) = ed
  generalize endsD ends = ed2
  generalize lettD cs = lt
  simp [gnS]
/-- a branch more -/
theorem gn_app {cs : List Nat} {ends l : List (List Nat × Nat)} {found : List D} {c : Nat} {f : VEnv → Res D} {d : D} (hf : found.length ≤ 1000) (h : f [some (lettD cs), some (endsD ends), none, some (.str (txt [c])), some (endsD l), none, none] = .ok d) :
    ∃ ρ', need 2 (sApp 2 [4] f) (gnS cs ends found (some (.frz (.str (txt [c])))) (some (.own false (endsD l)))) = .nx ρ' ∧ clr [3, 4, 5, 6] ρ' = gnS cs ends (found ++ [d]) none none := by
  have v : view [4] (gnS cs ends found (some (.frz (.str (txt [c])))) (some (.own false (endsD l)))) = [some (lettD cs), some (endsD ends), none, some (.str (txt [c])), some (endsD l), none, none] := rfl
  have hf' : found.length ≤ 16777215 := by omega
  by_cases i : imm d = true
  · refine ⟨gnS cs ends (found ++ [d]) (some (.frz (.str (txt [c])))) (some (.own false (endsD l))), ?_, rfl⟩
    refine need_to rfl ?_
    rw [sApp_e, v, h, atR_ok, appC_e]
    generalize endsD l = ed
    generalize endsD ends = ed2
    generalize lettD cs = lt
    simp [gnS, i, hf']
  · refine ⟨gnS cs ends (found ++ [d]) (some (.frz (.str (txt [c])))) (some (.frz (endsD l))), ?_, rfl⟩
    refine need_to rfl ?_
    rw [sApp_e, v, h, atR_ok, appC_e]
    generalize endsD l = ed
    generalize endsD ends = ed2
    generalize lettD cs = lt
    simp [gnS, i, hf']
theorem isOne_e {l : List (List Nat × Nat)} : isOne l = true ↔ ∃ n, l = [([], n)] := by
  constructor
  · intro h
    match l, h with
    | [([], n)], _ => exact ⟨n, rfl⟩
  · rintro ⟨n, rfl⟩
    rfl
theorem grB_many {gr : List (List Nat × Nat) → List D} {c : Nat} {l : List (List Nat × Nat)} (h0 : l ≠ []) (h1 : isOne l = false) : grB gr c l = [brE (c, .lst (gr l))] := by
  match l, h0, h1 with
  | [((x :: xs), n)], _, _ => rfl
  | ([], n) :: b :: l, _, _ => rfl
  | (x :: xs, n) :: b :: l, _, _ => rfl
theorem gn_fst {cs : List Nat} {ends : List (List Nat × Nat)} {c : Nat} {e : List Nat × Nat} {l : List (List Nat × Nat)} (hl : (e :: l).length ≤ 1000) : eTup (aCons (eVar 3) (aCons (eOp dIx (eOp dIx (eVar 4) (eC (.int 0))) (eC (.int 1))) aNil)) [some (lettD cs), some (endsD ends), none, some (.str (txt [c])), some (endsD (e :: l)), none, none] = .ok (brE (c, .int (e.2 : Nat))) := by
  have e1 := dIx0_ends hl
  have e2 : dIx (endD e) (.int 1) = .ok (.int (e.2 : Nat)) := by simp
  generalize endsD (e :: l) = ed at *
  generalize endsD ends = ed2
  generalize lettD cs = lt
  generalize endD e = ee at *
  simp [e1, e2]
theorem gn_rec {rec : List D → Res D} {cs : List Nat} {ends l : List (List Nat × Nat)} {c : Nat} {d : D} (h : rec [lettD cs, endsD l] = .ok d) : eTup (aCons (eVar 3) (aCons (eCall rec (aCons (eVar 0) (aCons (eVar 4) aNil))) aNil)) [some (lettD cs), some (endsD ends), none, some (.str (txt [c])), some (endsD l), none, none] = .ok (brE (c, d)) := by
  generalize endsD l = ed at *
  generalize endsD ends = ed2
  generalize lettD cs = lt at *
  simp [h]
theorem grown_body {rec : List D → Res D} {gr : List (List Nat × Nat) → List D} {cs : List Nat} {ends : List (List Nat × Nat)} {found : List D} {c : Nat} (h1 : ∀ e ∈ ends, e.1.length ≤ 1000) (h2 : ends.length ≤ 1000) (ha : ∀ e ∈ ends, Asc e.1) (hf : found.length ≤ 1000)
    (hr : belE c ends ≠ [] → isOne (belE c ends) = false → rec [lettD cs, endsD (belE c ends)] = .ok (.lst (gr (belE c ends)))) :
    ∃ ρ', B_grown_1 rec (gnS cs ends found (some (.frz (.str (txt [c])))) none) = .nx ρ' ∧ clr [3, 4, 5, 6] ρ' = gnS cs ends (found ++ grB gr c (belE c ends)) none none := by
  have ow := bel_own (c := c) (cs := cs) (found := found) h1 h2
  have le := belE_le (c := c) (ends := ends)
  have la := belE_asc (c := c) ha
  have t1 := fun x2 => one_test (cs := cs) (c := c) (l := belE c ends) (by omega) x2
  have t2 := fun x2 => ne_test (cs := cs) (c := c) (l := belE c ends) la x2
  generalize belE c ends = l at *
  have v : view [4] (gnS cs ends found (some (.frz (.str (txt [c])))) (some (.own false (endsD l)))) = [some (lettD cs), some (endsD ends), none, some (.str (txt [c])), some (endsD l), none, none] := rfl
  rw [B_grown_1_u]
  by_cases o : isOne l = true
  · obtain ⟨n, rfl⟩ := isOne_e.mp o
    obtain ⟨ρ', e1, e2⟩ := gn_app (cs := cs) (ends := ends) (found := found) (c := c) hf (gn_fst (cs := cs) (ends := ends) (c := c) (e := ([], n)) (l := []) (by simp))
    refine ⟨ρ', seq_to ow ?_, e2⟩
    rw [sIf_e, v, t1, atR_ok, o, ifC_t]
    exact e1
  · have o : isOne l = false := by cases h : isOne l with
      | true => exact absurd h o
      | false => rfl
    by_cases z : l = []
    · subst z
      refine ⟨gnS cs ends found (some (.frz (.str (txt [c])))) (some (.own false (endsD []))), seq_to ow ?_, by
        show _ = gnS cs ends (found ++ []) none none
        rw [List.append_nil]
        rfl⟩
      rw [sIf_e, v, t1, atR_ok, o, ifC_f, sIf_e, v, t2, atR_ok]
      rfl
    · obtain ⟨ρ', e1, e2⟩ := gn_app (cs := cs) (ends := ends) (found := found) (c := c) hf (gn_rec (cs := cs) (ends := ends) (c := c) (hr z o))
      refine ⟨ρ', seq_to ow ?_, by rw [grB_many z o]; exact e2⟩
      rw [sIf_e, v, t1, atR_ok, o, ifC_f, sIf_e, v, t2, atR_ok, decide_eq_true z, ifC_t]
      exact e1
theorem grB_len {gr : List (List Nat × Nat) → List D} {c : Nat} {l : List (List Nat × Nat)} : (grB gr c l).length ≤ 1 := by
  unfold grB
  split <;> simp
theorem grown_loop {rec : List D → Res D} {gr : List (List Nat × Nat) → List D} {cs : List Nat} {ends : List (List Nat × Nat)} (h1 : ∀ e ∈ ends, e.1.length ≤ 1000) (h2 : ends.length ≤ 1000) (ha : ∀ e ∈ ends, Asc e.1)
    (hr : ∀ c, belE c ends ≠ [] → isOne (belE c ends) = false → rec [lettD cs, endsD (belE c ends)] = .ok (.lst (gr (belE c ends)))) : ∀ (l : List Nat) (found : List D), found.length + l.length ≤ 1000 →
      forL (tgN 3) (B_grown_1 rec) [3, 4, 5, 6] (l.map fun c => .str (txt [c])) (gnS cs ends found none none) = .nx (gnS cs ends (found ++ l.flatMap fun c => grB gr c (belE c ends)) none none)
  | [], found, _ => by rw [List.flatMap_nil, List.append_nil]; rfl
  | c :: l, found, hl => by
    rw [List.length_cons] at hl
    obtain ⟨ρ', e1, e2⟩ := grown_body (c := c) (found := found) h1 h2 ha (by omega) (hr c)
    have e0 : setS (gnS cs ends found none none) [(3, .str (txt [c]))] = gnS cs ends found (some (.frz (.str (txt [c])))) none := rfl
    have gl := grB_len (gr := gr) (c := c) (l := belE c ends)
    rw [List.map_cons, forL_cons, tgN_e, forT_ok, e0, e1, forK_nx, e2, grown_loop h1 h2 ha hr l _ (by rw [List.length_append]; omega), List.flatMap_cons, List.append_assoc]
theorem grown_e {cs : List Nat} (hc : cs.length ≤ 100) : ∀ (N : Nat) (ends : List (List Nat × Nat)), (∀ e ∈ ends, e.1.length + 1 ≤ N) → 1 ≤ N → N ≤ 500 → ends.length ≤ 1000 → (∀ e ∈ ends, Asc e.1) → F_grown N [lettD cs, endsD ends] = .ok (.lst (grT cs N ends))
  | 0, _, _, h, _, _, _ => absurd h (by decide)
  | N + 1, ends, hl, _, hN, h2, ha => by
    have lp := grown_loop (rec := F_grown N) (gr := grT cs N) (cs := cs) (ends := ends) (fun e he => by have := hl e he; omega) h2 ha (fun c h0 h1 => by
      obtain ⟨e, he⟩ := List.exists_mem_of_ne_nil _ h0
      have := belE_len (c := c) hl e he
      exact grown_e hc N _ (belE_len hl) (by omega) (by omega) (Nat.le_trans belE_le h2) (belE_asc ha)) cs [] (by rw [List.length_nil]; omega)
    show outR (B_grown (F_grown N) [some (.frz (lettD cs)), some (.frz (endsD ends)), none, none, none, none, none]) = _
    have : B_grown (F_grown N) [some (.frz (lettD cs)), some (.frz (endsD ends)), none, none, none, none, none] = .rt (.lst (grT cs (N + 1) ends)) [some (.frz (lettD cs)), some (.frz (endsD ends)), some (.frz (.lst (grT cs (N + 1) ends))), none, none, none, none] := by
      rw [B_grown_u]
      refine seq_to (ρ' := gnS cs ends [] none none) (by simp [gnS]) ?_
      refine seq_to (for_to (ds := cs.map fun c => .str (txt [c])) (ρ' := gnS cs ends [] none none) (by simp [gnS]) (by simp [gnS]) lp) ?_
      have e : ([] ++ cs.flatMap fun c => grB (grT cs N) c (belE c ends)) = grT cs (N + 1) ends := rfl
      rw [e]
      unfold gnS
      generalize grT cs (N + 1) ends = gt
      generalize endsD ends = ed2
      generalize lettD cs = lt
      simp
    rw [this]
    rfl
/-! the law's own -/
def hasE (l : List (List Nat × Nat)) : Bool := l.any fun e => decide (e.1 = [])
theorem has_test {cs : List Nat} {l : List (List Nat × Nat)} {c : Nat} (hl : l.length ≤ 1000) (x1 x2 : Option D) : bT (eOp dNe (eComp [5, 6] (iAny (eVar 4)) (tgT [(tgN 5), (tgN 6)]) (bT (eOp dEq (eVar 5) (eC (.str "")))) (eVar 5)) (eLst aNil)) [some (lettD cs), x1, x2, some (.str (txt [c])), some (endsD l), none, none] = .ok (hasE l) := by
  have c1 : eComp [5, 6] (iAny (eVar 4)) (tgT [(tgN 5), (tgN 6)]) (bT (eOp dEq (eVar 5) (eC (.str "")))) (eVar 5) [some (lettD cs), x1, x2, some (.str (txt [c])), some (endsD l), none, none] = .ok (.lst ((l.filter fun e => decide (e.1 = [])).map fun e => .str (txt e.1))) := by
    refine eComp_map (F := endD) (fun e => decide (e.1 = [])) (fun e => .str (txt e.1)) (by simp) (by omega) fun e he => ⟨[(5, .str (txt e.1)), (6, .int (e.2 : Nat))], rfl, by simp, ?_, fun _ => ?_⟩
    · have te : (txt e.1 = txt []) ↔ e.1 = [] := ⟨txt_inj, fun z => by rw [z]⟩
      have e0 : (Str.ofString "" : Str) = txt [] := rfl
      simp [e0, te]
    · simp
  have c2 : dNe (.lst ((l.filter fun e => decide (e.1 = [])).map fun e => .str (txt e.1))) (.lst []) = .ok (.bl (hasE l)) := by
    rw [dNe_nil fun d hd => by
      obtain ⟨e, he, rfl⟩ := List.mem_map.mp hd
      have := of_decide_eq_true (List.mem_filter.mp he).2
      rw [this]
      exact .txt fun _ h => (nomatch h)]
    unfold hasE
    congr 2
    clear c1 hl
    induction l with
    | nil => rfl
    | cons e l ih =>
      rw [List.filter_cons, List.any_cons]
      by_cases z : e.1 = []
      · rw [decide_eq_true z]; rfl
      · rw [decide_eq_false z]
        simpa using ih
  rw [bT_e, eOp_e, c1, eLst_e, aNil_e, bd_ok, lstC_e (by decide), op2_ok, c2]
  rfl
theorem lgrown_body {rec : List D → Res D} {cs : List Nat} {ends : List (List Nat × Nat)} {found : List D} {c m : Nat} (h1 : ∀ e ∈ ends, e.1.length ≤ 1000) (h2 : ends.length ≤ 1000) (ha : ∀ e ∈ ends, Asc e.1) (hf : found.length ≤ 1000)
    (hr : belE c ends ≠ [] → ∃ d, rec [lettD cs, endsD (belE c ends)] = .ok d ∧ TW lfN cs 100 m d) :
    ∃ (ρ' : Env) (l' : List (Nat × D)), B__law_grown_1 rec (gnS cs ends found (some (.frz (.str (txt [c])))) none) = .nx ρ' ∧ clr [3, 4, 5, 6] ρ' = gnS cs ends (found ++ l'.map brE) none none ∧ l'.length ≤ 1 ∧ ∀ e ∈ l', e.1 = c ∧ TW lfN cs 100 m e.2 := by
  have ow := bel_own (c := c) (cs := cs) (found := found) h1 h2
  have le := belE_le (c := c) (ends := ends)
  have la := belE_asc (c := c) ha
  have t1 := fun x1 x2 => has_test (cs := cs) (c := c) (l := belE c ends) (by omega) x1 x2
  have t2 := fun x2 => ne_test (cs := cs) (c := c) (l := belE c ends) la x2
  generalize belE c ends = l at *
  have v : view [4] (gnS cs ends found (some (.frz (.str (txt [c])))) (some (.own false (endsD l)))) = [some (lettD cs), some (endsD ends), none, some (.str (txt [c])), some (endsD l), none, none] := rfl
  rw [B__law_grown_1_u]
  by_cases z : l = []
  · subst z
    refine ⟨gnS cs ends found (some (.frz (.str (txt [c])))) (some (.own false (endsD []))), [], seq_to ow ?_, by
      rw [List.map_nil, List.append_nil]
      rfl, Nat.zero_le _, fun _ h => (nomatch h)⟩
    rw [sIf_e, v, t1, atR_ok, show hasE [] = false from rfl, ifC_f, sIf_e, v, t2, atR_ok]
    rfl
  · cases o : hasE l with
    | true =>
      match l, z with
      | e :: l, _ =>
        obtain ⟨ρ', e1, e2⟩ := gn_app (cs := cs) (ends := ends) (found := found) (c := c) hf (gn_fst (cs := cs) (ends := ends) (c := c) (e := e) (l := l) (by omega))
        refine ⟨ρ', [(c, .int (e.2 : Nat))], seq_to ow ?_, e2, Nat.le_refl _, fun x hx => ?_⟩
        · rw [sIf_e, v, t1, atR_ok, o, ifC_t]
          exact e1
        · rw [List.mem_singleton.mp hx]
          exact ⟨rfl, .leaf ⟨_, rfl⟩⟩
    | false =>
      obtain ⟨d, hd, td⟩ := hr z
      obtain ⟨ρ', e1, e2⟩ := gn_app (cs := cs) (ends := ends) (found := found) (c := c) hf (gn_rec (cs := cs) (ends := ends) (c := c) hd)
      refine ⟨ρ', [(c, d)], seq_to ow ?_, e2, Nat.le_refl _, fun x hx => ?_⟩
      · rw [sIf_e, v, t1, atR_ok, o, ifC_f, sIf_e, v, t2, atR_ok, decide_eq_true z, ifC_t]
        exact e1
      · rw [List.mem_singleton.mp hx]
        exact ⟨rfl, td⟩
theorem lgrown_loop {rec : List D → Res D} {cs : List Nat} {ends : List (List Nat × Nat)} {m : Nat} (h1 : ∀ e ∈ ends, e.1.length ≤ 1000) (h2 : ends.length ≤ 1000) (ha : ∀ e ∈ ends, Asc e.1)
    (hr : ∀ c, belE c ends ≠ [] → ∃ d, rec [lettD cs, endsD (belE c ends)] = .ok d ∧ TW lfN cs 100 m d) : ∀ (l : List Nat) (found : List D), (∀ c ∈ l, c ∈ cs) → found.length + l.length ≤ 1000 →
      ∃ l' : List (Nat × D), l'.length ≤ l.length ∧ (∀ e ∈ l', e.1 ∈ cs ∧ TW lfN cs 100 m e.2) ∧ forL (tgN 3) (B__law_grown_1 rec) [3, 4, 5, 6] (l.map fun c => .str (txt [c])) (gnS cs ends found none none) = .nx (gnS cs ends (found ++ l'.map brE) none none)
  | [], found, _, _ => ⟨[], Nat.le_refl _, fun _ h => (nomatch h), by rw [show ([] : List (Nat × D)).map brE = [] from rfl, List.append_nil]; rfl⟩
  | c :: l, found, hm, hl => by
    rw [List.length_cons] at hl
    obtain ⟨ρ', l1, e1, e2, n1, t1⟩ := lgrown_body (c := c) (found := found) h1 h2 ha (by omega) (hr c)
    obtain ⟨l2, n2, t2, e3⟩ := lgrown_loop h1 h2 ha hr l (found ++ l1.map brE) (fun x hx => hm x (List.mem_cons_of_mem _ hx)) (by rw [List.length_append, List.length_map]; omega)
    have e0 : setS (gnS cs ends found none none) [(3, .str (txt [c]))] = gnS cs ends found (some (.frz (.str (txt [c])))) none := rfl
    refine ⟨l1 ++ l2, by rw [List.length_append, List.length_cons]; omega, fun x hx => ?_, ?_⟩
    · rcases List.mem_append.mp hx with hx | hx
      · rw [(t1 x hx).1]
        exact ⟨hm c List.mem_cons_self, (t1 x hx).2⟩
      · exact t2 x hx
    · rw [List.map_cons, forL_cons, tgN_e, forT_ok, e0, e1, forK_nx, e2, e3, List.map_append, List.append_assoc]
theorem lgrown_e {cs : List Nat} (hc : cs.length ≤ 100) : ∀ (m N : Nat) (ends : List (List Nat × Nat)), (∀ e ∈ ends, e.1.length ≤ m) → m + 1 ≤ N → N ≤ 500 → ends.length ≤ 1000 → (∀ e ∈ ends, Asc e.1) → ∃ l, F__law_grown N [lettD cs, endsD ends] = .ok (brD l) ∧ TL lfN cs 100 m l
  | m, 0, _, _, h, _, _, _ => absurd h (by omega)
  | m, N + 1, ends, hl, hm, hN, h2, ha => by
    obtain ⟨l', n, t, lp⟩ := lgrown_loop (rec := F__law_grown N) (cs := cs) (ends := ends) (m := m) (fun e he => by have := hl e he; omega) h2 ha (fun c h0 => by
      cases m with
      | zero =>
        obtain ⟨e, he⟩ := List.exists_mem_of_ne_nil _ h0
        have := belE_len (c := c) (N := 0) (fun e he => by have := hl e he; omega) e he
        omega
      | succ m =>
        obtain ⟨l, e, t⟩ := lgrown_e hc m N (belE c ends) (fun e he => by
          have := belE_len (c := c) (N := m + 1) (fun e he => by have := hl e he; omega) e he
          omega) (by omega) (by omega) (Nat.le_trans belE_le h2) (belE_asc ha)
        exact ⟨_, e, .list t⟩) cs [] (fun _ h => h) (by rw [List.length_nil]; omega)
    refine ⟨l', ?_, by omega, t⟩
    show outR (B__law_grown (F__law_grown N) [some (.frz (lettD cs)), some (.frz (endsD ends)), none, none, none, none, none]) = _
    have : B__law_grown (F__law_grown N) [some (.frz (lettD cs)), some (.frz (endsD ends)), none, none, none, none, none] = .rt (brD l') [some (.frz (lettD cs)), some (.frz (endsD ends)), some (.frz (brD l')), none, none, none, none] := by
      rw [B__law_grown_u]
      refine seq_to (ρ' := gnS cs ends [] none none) (by simp [gnS]) ?_
      refine seq_to (for_to (ds := cs.map fun c => .str (txt [c])) (ρ' := gnS cs ends [] none none) (by simp [gnS]) (by simp [gnS]) lp) ?_
      rw [List.nil_append]
      show _ = Out.rt (.lst (l'.map brE)) [some (.frz (lettD cs)), some (.frz (endsD ends)), some (.frz (.lst (l'.map brE))), none, none, none, none]
      unfold gnS
      generalize l'.map brE = gt
      generalize endsD ends = ed2
      generalize lettD cs = lt
      simp
    rw [this]
    rfl
end Du

namespace Du
open PySem PySem.Spec PyProof.Rows L2 Dear
/-! ### k17: bent trees -/
set_option maxHeartbeats 400000
theorem br_take {l : List (Nat × D)} {j : Nat} : dSl (brD l) none (some (j : Int)) = .ok (brD (l.take j)) := by
  have e1 : dSl (brD l) none (some (j : Int)) = .ok (.lst (cutD (l.map brE) none (some (j : Int)))) := rfl
  rw [e1, cutD_pre, ← List.map_take]
theorem br_drop {l : List (Nat × D)} {j : Nat} (hj : j ≤ l.length) : dSl (brD l) (some (j : Int)) none = .ok (brD (l.drop j)) := by
  have e1 : dSl (brD l) (some (j : Int)) none = .ok (.lst (cutD (l.map brE) (some (j : Int)) none)) := rfl
  rw [e1, cutD_post (by rw [List.length_map]; exact hj), ← List.map_drop]
theorem br_add {l m : List (Nat × D)} (h : l.length + m.length ≤ 10000) : dAdd (brD l) (brD m) = .ok (brD (l ++ m)) := by
  rw [dAdd_lst (by rw [List.length_map, List.length_map]; omega), ← List.map_append]
theorem br_rev {l : List (Nat × D)} : dRev (brD l) = .ok (brD l.reverse) := by
  have : dRev (brD l) = .ok (.lst (l.map brE).reverse) := rfl
  rw [this, ← List.map_reverse]
theorem br_ix {l : List (Nat × D)} {j : Nat} {e : Nat × D} (h : l[j]? = some e) : dIx (brD l) (.int (j : Nat)) = .ok (brE e) := by
  rw [dIx_lst, atI_nat (by omega), Int.toNat_natCast, List.getElem?_map, h]
  rfl
theorem lett_ix {cs : List Nat} {j : Nat} {c : Nat} (h : cs[j]? = some c) : dIx (lettD cs) (.int (j : Nat)) = .ok (.str (txt [c])) := by
  rw [dIx_lst, atI_nat (by omega), Int.toNat_natCast, List.getElem?_map, h]
  rfl
theorem br_len {l : List (Nat × D)} (h : l.length ≤ 1000) : dLen [brD l] = .ok (.int (l.length : Nat)) := by
  rw [dLen_lst (by rw [List.length_map]; omega), List.length_map]
theorem lett_len {cs : List Nat} (h : cs.length ≤ 1000) : dLen [lettD cs] = .ok (.int (cs.length : Nat)) := by
  rw [dLen_lst (by rw [List.length_map]; omega), List.length_map]
/-- a drawn letter -/
theorem draw_lett {cs : List Nat} (h0 : cs ≠ []) (h : cs.length ≤ 1000) {s : D} (hs : Src s) : ∃ (j : Int) (s' : D) (o : Nat), F__law_draw [s, .int (cs.length : Nat)] = .ok (.int j, s') ∧ Src s' ∧ o ∈ cs ∧ dIx (lettD cs) (.int j) = .ok (.str (txt [o])) := by
  have := List.length_pos_iff.mpr h0
  obtain ⟨j, s', e, j0, j1, hs'⟩ := draw_e (m := ((cs.length : Nat) : Int)) (by omega) (by omega) hs
  obtain ⟨i, rfl⟩ : ∃ i : Nat, j = i := ⟨j.toNat, by omega⟩
  have hi : i < cs.length := by omega
  exact ⟨i, s', cs[i], e, hs', List.getElem_mem hi, lett_ix (List.getElem?_eq_getElem hi)⟩
def bhS (rd : D) (a : Int) (nd : D) (many : Int) (s : D) (x5 x6 x7 x8 x9 x10 x11 x12 x13 : Option Slot) : Env := [some (.frz rd), some (.frz (.int a)), some (.frz nd), some (.frz (.int many)), some (.own true s), x5, x6, x7, x8, x9, x10, x11, x12, x13]
theorem TL.splice {cs : List Nat} {B k : Nat} {l m : List (Nat × D)} (h : TL lfT cs B k l) (i j : Nat) (hm : (l.take i).length + m.length + (l.drop j).length ≤ B + 1) (hk : ∀ e ∈ m, e.1 ∈ cs ∧ TW lfT cs (B + 1) (k + 1) e.2) : TL lfT cs (B + 1) (k + 1) (l.take i ++ m ++ l.drop j) := by
  refine ⟨by rw [List.length_append, List.length_append]; exact hm, fun e he => ?_⟩
  rcases List.mem_append.mp he with he | he
  · rcases List.mem_append.mp he with he | he
    · have := h.2 e (List.mem_of_mem_take he)
      exact ⟨this.1, this.2.mono (fun _ h => h) (by omega) (by omega)⟩
    · exact hk e he
  · have := h.2 e (List.mem_of_mem_drop he)
    exact ⟨this.1, this.2.mono (fun _ h => h) (by omega) (by omega)⟩
theorem bent_here_e {cs : List Nat} {B k : Nat} (hB : B ≤ 900) (hk : k ≤ 20) (hcs : ∀ c ∈ cs, c < 128) (c0 : cs ≠ []) (c6 : cs.length ≤ 100) {many : Int} (m0 : 0 ≤ many) (m1 : many ≤ 1000) {rows : List (Nat × D)} (h : TL lfT cs B k rows) {a : Nat} (ha : a < rows.length) {s : D} (hs : Src s) :
    ∃ l' s', F__law_bent_here [brD rows, .int (a : Nat), lettD cs, .int many, s] = .ok (brD l', s') ∧ TL lfT cs (B + 1) (k + 1) l' ∧ Src s' := by
  have hl := h.1
  obtain ⟨⟨c, d⟩, ee⟩ : ∃ e, rows[a]? = some e := ⟨_, List.getElem?_eq_getElem ha⟩
  obtain ⟨hc, hd⟩ := h.2 (c, d) (List.mem_of_getElem? ee)
  have ix := br_ix ee
  obtain ⟨j, s1, o, e1, hs1, ho, ix1⟩ := draw_lett c0 (by omega) hs
  obtain ⟨n, s2, e2, n0, n1, hs2⟩ := draw_e (m := many + 1) (by omega) (by omega) hs1
  obtain ⟨w, s3, e3, w0, w1, hs3⟩ := draw_e (m := 10) (by decide) (by decide) hs2
  have ln := lett_len (cs := cs) (by omega)
  have rl := br_len (l := rows) (by omega)
  have rv := br_rev (l := rows)
  have tk := fun j => br_take (l := rows) (j := j)
  have dp := fun j hj => br_drop (l := rows) (j := j) hj
  have upd : ∀ {d : D}, TW lfT cs B k d → TW lfT cs (B + 1) (k + 1) d := fun t => t.mono (fun _ h => h) (by omega) (by omega)
  -- what comes out
  suffices key : ∃ (l' : List (Nat × D)) (s' : D) (ρ : Env), B__law_bent_here (bhS (brD rows) (a : Nat) (lettD cs) many s none none none none none none none none none) = .rt (brD l') ρ ∧ ownS ρ 4 = some (true, s') ∧ TL lfT cs (B + 1) (k + 1) l' ∧ Src s' by
    obtain ⟨l', s', ρ, q1, q2, q3, q4⟩ := key
    refine ⟨l', s', ?_, q3, q4⟩
    show outIO 4 (B__law_bent_here (bhS (brD rows) (a : Nat) (lettD cs) many s none none none none none none none none none)) = _
    rw [q1]
    show (match ownS ρ 4 with | some (true, o) => Res.ok (brD l', o) | _ => .bad) = _
    rw [q2]
  have pre : ∀ {g : Env → Out} {o' : Out}, g (bhS (brD rows) (a : Nat) (lettD cs) many s3 (some (.frz (.str (txt [c])))) (some (.frz d)) (some (.frz (.str (txt [o])))) (some (.frz (.int n))) (some (.frz (.int w))) none none none none) = o' →
      (sSeq (sAsg [] (eOp dIx (eVar 0) (eVar 1)) (tgT [(tgN 5), (tgN 6)])) (sSeq (sAsgM (mOp dIx (mP [] (eVar 2)) (mIO 0 4 F__law_draw (mAP [] (aCons (eCall dLen (aCons (eVar 2) aNil)) aNil)))) (tgN 7)) (sSeq (sAsgM (mIO 0 4 F__law_draw (mAP [] (aCons (eOp dAdd (eVar 3) (eC (.int 1))) aNil))) (tgN 8)) (sSeq (sAsgM (mIO 0 4 F__law_draw (mAP [] (aCons (eC (.int 10)) aNil))) (tgN 9)) g)))) (bhS (brD rows) (a : Nat) (lettD cs) many s none none none none none none none none none) = o' := by
    intro g o' hg
    clear tk dp rv rl upd
    generalize brD rows = rd at *
    generalize lettD cs = nd at *
    refine seq_to (ρ' := bhS rd (a : Nat) nd many s (some (.frz (.str (txt [c])))) (some (.frz d)) none none none none none none none) (by simp [bhS, ix]) ?_
    refine seq_to (ρ' := bhS rd (a : Nat) nd many s1 (some (.frz (.str (txt [c])))) (some (.frz d)) (some (.frz (.str (txt [o])))) none none none none none none) (by simp [bhS, ln, e1, ix1]) ?_
    refine seq_to (ρ' := bhS rd (a : Nat) nd many s2 (some (.frz (.str (txt [c])))) (some (.frz d)) (some (.frz (.str (txt [o])))) (some (.frz (.int n))) none none none none none) (by simp [bhS, e2]) ?_
    exact seq_to (by simp [bhS, e3]) hg
  rw [B__law_bent_here_u]
  by_cases c6' : w = 6
  · subst c6'
    refine ⟨rows.reverse, s3, bhS (brD rows) (a : Nat) (lettD cs) many s3 (some (.frz (.str (txt [c])))) (some (.frz d)) (some (.frz (.str (txt [o])))) (some (.frz (.int n))) (some (.frz (.int 6))) none none none none, pre ?_, rfl, ⟨by rw [List.length_reverse]; omega, fun e he => ?_⟩, hs3⟩
    · clear tk dp rl upd ix h
      generalize brD rows.reverse = rr at *
      generalize brD rows = rd at *
      generalize lettD cs = nd at *
      simp [bhS, rv]
    · have := h.2 e (List.mem_reverse.mp he)
      exact ⟨this.1, upd this.2⟩
  by_cases c9 : w = 9
  · subst c9
    obtain ⟨p, s4, e4, p0, p1, hs4⟩ := draw_e (m := (rows.length : Int) + 1) (by omega) (by omega) hs3
    obtain ⟨q, s5, e5, q0, q1, hs5⟩ := draw_e (m := 4) (by decide) (by decide) hs4
    obtain ⟨p, rfl⟩ : ∃ i : Nat, p = i := ⟨p.toNat, by omega⟩
    obtain ⟨x, ex, tx⟩ : ∃ x, dIx (.lst [.int n, .int n, .lst [], .bl true]) (.int q) = .ok x ∧ TW lfT cs (B + 1) (k + 1) x := by
      have : q = 0 ∨ q = 1 ∨ q = 2 ∨ q = 3 := by omega
      rcases this with rfl | rfl | rfl | rfl
      · exact ⟨_, by simp, .leaf (.inl ⟨n, rfl⟩)⟩
      · exact ⟨_, rfl, .leaf (.inl ⟨n, rfl⟩)⟩
      · exact ⟨.lst [], rfl, .inr ⟨[], rfl, Nat.zero_le _, fun _ h => (nomatch h)⟩⟩
      · exact ⟨_, rfl, .leaf (.inr rfl)⟩
    have tl := TL.splice h p p (m := [(o, x)]) (by rw [List.length_take, List.length_drop, List.length_singleton]; omega) (fun e he => by rw [List.mem_singleton.mp he]; exact ⟨ho, tx⟩)
    have t1 := tk p
    have t2 := dp p (by omega)
    have a1 := br_add (l := rows.take p) (m := [(o, x)]) (by rw [List.length_take, List.length_singleton]; omega)
    have a2 := br_add (l := rows.take p ++ [(o, x)]) (m := rows.drop p) (by rw [List.length_append, List.length_take, List.length_drop, List.length_singleton]; omega)
    refine ⟨rows.take p ++ [(o, x)] ++ rows.drop p, s5, bhS (brD rows) (a : Nat) (lettD cs) many s5 (some (.frz (.str (txt [c])))) (some (.frz d)) (some (.frz (.str (txt [o])))) (some (.frz (.int n))) (some (.frz (.int 9))) (some (.frz (.int (p : Nat)))) (some (.frz x)) none none, pre ?_, rfl, tl, hs5⟩
    have z : brD [(o, x)] = .lst [.tup [.str (txt [o]), x]] := rfl
    rw [z] at a1
    clear tk dp upd ix h ee hd e1 e2 e3
    generalize brD (rows.take p ++ [(o, x)] ++ rows.drop p) = rr at *
    generalize brD (rows.take p ++ [(o, x)]) = r3 at *
    generalize brD (rows.take p) = r1 at *
    generalize brD (rows.drop p) = r2 at *
    generalize brD rows = rd at *
    generalize lettD cs = nd at *
    simp [bhS, rl, e4, e5, ex, t1, t2, a1, a2]
  -- the others: some rows in the place of one
  suffices key : ∃ (M : List (Nat × D)) (x12 : Option Slot), M.length ≤ 2 ∧ (∀ e ∈ M, e.1 ∈ cs ∧ TW lfT cs (B + 1) (k + 1) e.2) ∧ ∀ {g : Env → Out} {o' : Out}, g (bhS (brD rows) (a : Nat) (lettD cs) many s3 (some (.frz (.str (txt [c])))) (some (.frz d)) (some (.frz (.str (txt [o])))) (some (.frz (.int n))) (some (.frz (.int w))) none none x12 (some (.frz (brD M)))) = o' →
      (sSeq (sAsg [] (eLst (aCons (eLst (aCons (eTup (aCons (eVar 7) (aCons (eVar 6) aNil))) aNil)) (aCons (eLst (aCons (eTup (aCons (eVar 5) (aCons (eLst (aCons (eTup (aCons (eVar 7) (aCons (eVar 6) aNil))) aNil)) aNil))) aNil)) (aCons (eLst (aCons (eTup (aCons (eVar 5) (aCons (eVar 8) aNil))) aNil)) (aCons (eLst aNil) (aCons (eLst (aCons (eTup (aCons (eVar 5) (aCons (eVar 6) aNil))) (aCons (eTup (aCons (eVar 7) (aCons (eVar 6) aNil))) aNil))) aNil)))))) (tgN 12))
(sSeq (sAsg [] (eOp dIx (eVar 12) (eCall dMin2 (aCons (eVar 9) (aCons (eC (.int 4)) aNil)))) (tgN 13))
(sSeq (sIf [] (bAnd (bT (eOp dEq (eVar 9) (eC (.int 5)))) (bAnd (bT (eIsi "list" (eVar 6))) (bT (eOp dNe (eVar 6) (eLst aNil)))))
(sAsg [] (eLst (aCons (eTup (aCons (eVar 5) (aCons (eOp dIx (eOp dIx (eVar 6) (eC (.int 0))) (eC (.int 1))) aNil))) aNil)) (tgN 13))
sPass)
(sSeq (sIf [] (bT (eOp dEq (eVar 9) (eC (.int 7))))
(sAsg [] (eLst (aCons (eTup (aCons (eVar 5) (aCons (eC (.bl true)) aNil))) aNil)) (tgN 13))
sPass)
(sSeq (sIf [] (bT (eOp dEq (eVar 9) (eC (.int 8))))
(sAsg [] (eLst (aCons (eTup (aCons (eVar 5) (aCons (eLst aNil) aNil))) aNil)) (tgN 13))
sPass) g))))) (bhS (brD rows) (a : Nat) (lettD cs) many s3 (some (.frz (.str (txt [c])))) (some (.frz d)) (some (.frz (.str (txt [o])))) (some (.frz (.int n))) (some (.frz (.int w))) none none none none) = o' by
    obtain ⟨M, x12, m2, mt, mk⟩ := key
    have tl := TL.splice h a (a + 1) (m := M) (by rw [List.length_take, List.length_drop]; omega) mt
    have t1 := tk a
    have t2 := dp (a + 1) (by omega)
    have a1 := br_add (l := rows.take a) (m := M) (by rw [List.length_take]; omega)
    have a2 := br_add (l := rows.take a ++ M) (m := rows.drop (a + 1)) (by rw [List.length_append, List.length_take, List.length_drop]; omega)
    refine ⟨rows.take a ++ M ++ rows.drop (a + 1), s3, bhS (brD rows) (a : Nat) (lettD cs) many s3 (some (.frz (.str (txt [c])))) (some (.frz d)) (some (.frz (.str (txt [o])))) (some (.frz (.int n))) (some (.frz (.int w))) none none x12 (some (.frz (brD M))), pre ?_, rfl, tl, hs3⟩
    refine seq_to (ρ' := bhS (brD rows) (a : Nat) (lettD cs) many s3 (some (.frz (.str (txt [c])))) (some (.frz d)) (some (.frz (.str (txt [o])))) (some (.frz (.int n))) (some (.frz (.int w))) none none none none) (by
      generalize brD rows = rd
      generalize lettD cs = nd
      simp [bhS, c6']) ?_
    refine seq_to (ρ' := bhS (brD rows) (a : Nat) (lettD cs) many s3 (some (.frz (.str (txt [c])))) (some (.frz d)) (some (.frz (.str (txt [o])))) (some (.frz (.int n))) (some (.frz (.int w))) none none none none) (by
      generalize brD rows = rd
      generalize lettD cs = nd
      simp [bhS, c9]) ?_
    refine mk ?_
    have z : ((a : Int) + 1) = ((a + 1 : Nat) : Int) := by omega
    rw [← z] at t2
    clear tk dp upd ix h ee hd e1 e2 e3 mk
    generalize brD (rows.take a ++ M ++ rows.drop (a + 1)) = rr at *
    generalize brD (rows.take a ++ M) = r3 at *
    generalize brD (rows.take a) = r1 at *
    generalize brD (rows.drop (a + 1)) = r2 at *
    generalize brD rows = rd at *
    generalize lettD cs = nd at *
    generalize brD M = md at *
    cases x12 with
    | none => simp [bhS, t1, t2, a1, a2]
    | some x => cases x <;> simp [bhS, t1, t2, a1, a2]
  clear pre ix rl rv tk dp e1 e2 e3 ix1 ln
  have td : TW lfT cs (B + 1) (k + 1) d := upd hd
  have b1 : ∀ {x : Nat} {t : D}, x ∈ cs → TW lfT cs (B + 1) (k + 1) t → ∀ e ∈ [(x, t)], e.1 ∈ cs ∧ TW lfT cs (B + 1) (k + 1) e.2 := fun hx ht e he => by rw [List.mem_singleton.mp he]; exact ⟨hx, ht⟩
  have deep : TW lfT cs (B + 1) (k + 1) (brD [(o, d)]) := .inr ⟨[(o, d)], rfl, by rw [List.length_singleton]; omega, fun e he => by
    rw [List.mem_singleton.mp he]
    exact ⟨ho, hd.mono (fun _ h => h) (by omega) (Nat.le_refl _)⟩⟩
  -- by the way
  obtain ⟨Mb, bl, bt, b13⟩ : ∃ Mb : List (Nat × D), Mb.length ≤ 2 ∧ (∀ e ∈ Mb, e.1 ∈ cs ∧ TW lfT cs (B + 1) (k + 1) e.2) ∧ dIx (.lst [brD [(o, d)], brD [(c, brD [(o, d)])], brD [(c, .int n)], .lst [], brD [(c, d), (o, d)]]) (.int (if (4 : Int) < w then 4 else w)) = .ok (brD Mb) := by
    have : w = 0 ∨ w = 1 ∨ w = 2 ∨ w = 3 ∨ 4 ≤ w := by omega
    rcases this with rfl | rfl | rfl | rfl | h4
    · exact ⟨[(o, d)], Nat.le_succ 1, b1 ho td, rfl⟩
    · exact ⟨[(c, brD [(o, d)])], Nat.le_succ 1, b1 hc deep, rfl⟩
    · exact ⟨[(c, .int n)], Nat.le_succ 1, b1 hc (.leaf (.inl ⟨n, rfl⟩)), rfl⟩
    · exact ⟨[], Nat.zero_le _, fun _ h => (nomatch h), rfl⟩
    · refine ⟨[(c, d), (o, d)], Nat.le_refl _, fun e he => ?_, ?_⟩
      · rcases List.mem_cons.mp he with rfl | he
        · exact ⟨hc, td⟩
        · rw [List.mem_singleton.mp he]; exact ⟨ho, td⟩
      · have : (if (4 : Int) < w then 4 else w) = 4 := by split <;> omega
        rw [this]
        rfl
  have z12 : D.lst [brD [(o, d)], brD [(c, brD [(o, d)])], brD [(c, .int n)], .lst [], brD [(c, d), (o, d)]] = .lst [.lst [.tup [.str (txt [o]), d]], .lst [.tup [.str (txt [c]), .lst [.tup [.str (txt [o]), d]]]], .lst [.tup [.str (txt [c]), .int n]], .lst [], .lst [.tup [.str (txt [c]), d], .tup [.str (txt [o]), d]]] := rfl
  rw [z12] at b13
  have pre : ∀ {g : Env → Out} {o' : Out}, g (bhS (brD rows) (a : Nat) (lettD cs) many s3 (some (.frz (.str (txt [c])))) (some (.frz d)) (some (.frz (.str (txt [o])))) (some (.frz (.int n))) (some (.frz (.int w))) none none (some (.frz (.lst [.lst [.tup [.str (txt [o]), d]], .lst [.tup [.str (txt [c]), .lst [.tup [.str (txt [o]), d]]]], .lst [.tup [.str (txt [c]), .int n]], .lst [], .lst [.tup [.str (txt [c]), d], .tup [.str (txt [o]), d]]]))) (some (.frz (brD Mb)))) = o' →
      (sSeq (sAsg [] (eLst (aCons (eLst (aCons (eTup (aCons (eVar 7) (aCons (eVar 6) aNil))) aNil)) (aCons (eLst (aCons (eTup (aCons (eVar 5) (aCons (eLst (aCons (eTup (aCons (eVar 7) (aCons (eVar 6) aNil))) aNil)) aNil))) aNil)) (aCons (eLst (aCons (eTup (aCons (eVar 5) (aCons (eVar 8) aNil))) aNil)) (aCons (eLst aNil) (aCons (eLst (aCons (eTup (aCons (eVar 5) (aCons (eVar 6) aNil))) (aCons (eTup (aCons (eVar 7) (aCons (eVar 6) aNil))) aNil))) aNil)))))) (tgN 12))
(sSeq (sAsg [] (eOp dIx (eVar 12) (eCall dMin2 (aCons (eVar 9) (aCons (eC (.int 4)) aNil)))) (tgN 13)) g)) (bhS (brD rows) (a : Nat) (lettD cs) many s3 (some (.frz (.str (txt [c])))) (some (.frz d)) (some (.frz (.str (txt [o])))) (some (.frz (.int n))) (some (.frz (.int w))) none none none none) = o' := by
    intro g o' hg
    generalize brD rows = rd at *
    generalize lettD cs = nd at *
    generalize brD Mb = md at *
    refine seq_to (ρ' := bhS rd (a : Nat) nd many s3 (some (.frz (.str (txt [c])))) (some (.frz d)) (some (.frz (.str (txt [o])))) (some (.frz (.int n))) (some (.frz (.int w))) none none (some (.frz (.lst [.lst [.tup [.str (txt [o]), d]], .lst [.tup [.str (txt [c]), .lst [.tup [.str (txt [o]), d]]]], .lst [.tup [.str (txt [c]), .int n]], .lst [], .lst [.tup [.str (txt [c]), d], .tup [.str (txt [o]), d]]]))) none) (by simp [bhS]) ?_
    refine seq_to (by
      generalize D.lst [.lst [.tup [.str (txt [o]), d]], .lst [.tup [.str (txt [c]), .lst [.tup [.str (txt [o]), d]]]], .lst [.tup [.str (txt [c]), .int n]], .lst [], .lst [.tup [.str (txt [c]), d], .tup [.str (txt [o]), d]]] = l12 at *
      have : dMin2 [.int w, .int 4] = .ok (.int (if (4 : Int) < w then 4 else w)) := by simp
      simp [bhS, this, b13]) hg
  clear b13 z12
  generalize D.lst [.lst [.tup [.str (txt [o]), d]], .lst [.tup [.str (txt [c]), .lst [.tup [.str (txt [o]), d]]]], .lst [.tup [.str (txt [c]), .int n]], .lst [], .lst [.tup [.str (txt [c]), d], .tup [.str (txt [o]), d]]] = l12 at *
  have idle5 : ∀ x13 : D, (w ≠ 5 ∨ (∃ n, d = .int n) ∨ d = .bl true ∨ d = .lst []) → (sIf [] (bAnd (bT (eOp dEq (eVar 9) (eC (.int 5)))) (bAnd (bT (eIsi "list" (eVar 6))) (bT (eOp dNe (eVar 6) (eLst aNil)))))
(sAsg [] (eLst (aCons (eTup (aCons (eVar 5) (aCons (eOp dIx (eOp dIx (eVar 6) (eC (.int 0))) (eC (.int 1))) aNil))) aNil)) (tgN 13))
sPass) (bhS (brD rows) (a : Nat) (lettD cs) many s3 (some (.frz (.str (txt [c])))) (some (.frz d)) (some (.frz (.str (txt [o])))) (some (.frz (.int n))) (some (.frz (.int w))) none none (some (.frz l12)) (some (.frz x13))) = .nx (bhS (brD rows) (a : Nat) (lettD cs) many s3 (some (.frz (.str (txt [c])))) (some (.frz d)) (some (.frz (.str (txt [o])))) (some (.frz (.int n))) (some (.frz (.int w))) none none (some (.frz l12)) (some (.frz x13))) := by
    intro x13 hx
    generalize brD rows = rd
    generalize lettD cs = nd
    by_cases w5 : w = 5
    · subst w5
      rcases hx with hx | ⟨m, rfl⟩ | rfl | rfl
      · exact absurd rfl hx
      · simp [bhS]
      · simp [bhS]
      · have : dNe (.lst []) (.lst []) = .ok (.bl false) := by rfl
        simp [bhS, this]
    · simp [bhS, w5]
  by_cases w7 : w = 7
  · subst w7
    refine ⟨[(c, .bl true)], some (.frz l12), Nat.le_succ 1, b1 hc (.leaf (.inr rfl)), fun {g o'} hg => pre ?_⟩
    refine seq_to (idle5 _ (.inl (by decide))) ?_
    generalize brD rows = rd at *
    generalize lettD cs = nd at *
    refine seq_to (ρ' := bhS rd (a : Nat) nd many s3 (some (.frz (.str (txt [c])))) (some (.frz d)) (some (.frz (.str (txt [o])))) (some (.frz (.int n))) (some (.frz (.int 7))) none none (some (.frz l12)) (some (.frz (brD [(c, .bl true)])))) (by simp [bhS]) ?_
    exact seq_to (by simp [bhS]) hg
  by_cases w8 : w = 8
  · subst w8
    refine ⟨[(c, brD [])], some (.frz l12), Nat.le_succ 1, b1 hc (.inr ⟨[], rfl, Nat.zero_le _, fun _ h => (nomatch h)⟩), fun {g o'} hg => pre ?_⟩
    refine seq_to (idle5 _ (.inl (by decide))) ?_
    generalize brD rows = rd at *
    generalize lettD cs = nd at *
    refine seq_to (ρ' := bhS rd (a : Nat) nd many s3 (some (.frz (.str (txt [c])))) (some (.frz d)) (some (.frz (.str (txt [o])))) (some (.frz (.int n))) (some (.frz (.int 8))) none none (some (.frz l12)) (some (.frz (brD Mb)))) (by simp [bhS]) ?_
    exact seq_to (by simp [bhS]) hg
  have idle78 : ∀ {g : Env → Out} {o' : Out} {x13 : D}, g (bhS (brD rows) (a : Nat) (lettD cs) many s3 (some (.frz (.str (txt [c])))) (some (.frz d)) (some (.frz (.str (txt [o])))) (some (.frz (.int n))) (some (.frz (.int w))) none none (some (.frz l12)) (some (.frz x13))) = o' →
      (sSeq (sIf [] (bT (eOp dEq (eVar 9) (eC (.int 7))))
(sAsg [] (eLst (aCons (eTup (aCons (eVar 5) (aCons (eC (.bl true)) aNil))) aNil)) (tgN 13))
sPass)
(sSeq (sIf [] (bT (eOp dEq (eVar 9) (eC (.int 8))))
(sAsg [] (eLst (aCons (eTup (aCons (eVar 5) (aCons (eLst aNil) aNil))) aNil)) (tgN 13))
sPass) g)) (bhS (brD rows) (a : Nat) (lettD cs) many s3 (some (.frz (.str (txt [c])))) (some (.frz d)) (some (.frz (.str (txt [o])))) (some (.frz (.int n))) (some (.frz (.int w))) none none (some (.frz l12)) (some (.frz x13))) = o' := by
    intro g o' x13 hg
    generalize brD rows = rd at *
    generalize lettD cs = nd at *
    refine seq_to (ρ' := bhS rd (a : Nat) nd many s3 (some (.frz (.str (txt [c])))) (some (.frz d)) (some (.frz (.str (txt [o])))) (some (.frz (.int n))) (some (.frz (.int w))) none none (some (.frz l12)) (some (.frz x13))) (by simp [bhS, w7]) ?_
    exact seq_to (by simp [bhS, w8]) hg
  by_cases w5 : w = 5 ∧ ∃ e l, d = brD (e :: l)
  · obtain ⟨rfl, e0, l0, rfl⟩ := w5
    have t0 : TW lfT cs (B + 1) (k + 1) e0.2 := by
      cases k with
      | zero => rcases hd with ⟨m, z⟩ | z <;> cases z
      | succ k =>
        rcases hd with (⟨m, z⟩ | z) | ⟨l2, z, q1, q2⟩
        · cases z
        · cases z
        · have := brD_inj z
          subst this
          exact (q2 e0 List.mem_cons_self).2.mono (fun _ h => h) (by omega) (by omega)
    refine ⟨[(c, e0.2)], some (.frz l12), Nat.le_succ 1, b1 hc t0, fun {g o'} hg => pre ?_⟩
    refine seq_to (ρ' := bhS (brD rows) (a : Nat) (lettD cs) many s3 (some (.frz (.str (txt [c])))) (some (.frz (brD (e0 :: l0)))) (some (.frz (.str (txt [o])))) (some (.frz (.int n))) (some (.frz (.int 5))) none none (some (.frz l12)) (some (.frz (brD [(c, e0.2)])))) ?_ (idle78 hg)
    have i0 : dIx (brD (e0 :: l0)) (.int 0) = .ok (brE e0) := br_ix (j := 0) rfl
    have i1 : dIx (brE e0) (.int 1) = .ok e0.2 := rfl
    have n0 : dNe (brD (e0 :: l0)) (.lst []) = .ok (.bl true) := by
      rw [dNe_of ((TW.ly hcs hd).lay (by omega)) lay_nil, pyEq_nil]
      rfl
    obtain ⟨xs, hx⟩ : ∃ xs, brD (e0 :: l0) = .lst xs := ⟨_, rfl⟩
    rw [hx] at i0 n0 ⊢
    generalize brE e0 = ee at *
    generalize brD rows = rd at *
    generalize lettD cs = nd at *
    have z : brD [(c, e0.2)] = .lst [.tup [.str (txt [c]), e0.2]] := rfl
    rw [z]
    simp [bhS, i0, i1, n0]
  · refine ⟨Mb, some (.frz l12), bl, bt, fun {g o'} hg => pre ?_⟩
    refine seq_to (idle5 _ ?_) (idle78 hg)
    by_cases w5' : w = 5
    · right
      have no : ∀ e l, d ≠ brD (e :: l) := fun e l z => w5 ⟨w5', e, l, z⟩
      cases k with
      | zero =>
        rcases hd with z | z
        · exact .inl z
        · exact .inr (.inl z)
      | succ k =>
        rcases hd with (z | z) | ⟨l2, z, q1, q2⟩
        · exact .inl z
        · exact .inr (.inl z)
        · cases l2 with
          | nil => exact .inr (.inr z)
          | cons e l => exact absurd z (no e l)
    · exact .inl w5'
end Du

namespace Du
open PySem PySem.Spec PyProof.Rows L2 Dear
/-! ### k17: bent, as the law drives it -/
set_option maxHeartbeats 400000
def bnS (rd nd : D) (many : Int) (s : D) (x4 x5 x6 : Option Slot) : Env := [some (.frz rd), some (.frz nd), some (.frz (.int many)), some (.own true s), x4, x5, x6]
theorem br_empty {l : List (Nat × D)} {cs : List Nat} {B k : Nat} (hcs : ∀ c ∈ cs, c < 128) (hk : k ≤ 20) (h : TL lfT cs B k l) : dEq (brD l) (.lst []) = .ok (.bl l.isEmpty) := by
  have t : TW lfT cs B (k + 1) (brD l) := .list h
  rw [dEq_of ((TW.ly hcs t).lay (by omega)) lay_nil, pyEq_nil, List.isEmpty_map]
theorem bent_e {cs : List Nat} {B : Nat} (hB : B ≤ 900) (hcs : ∀ c ∈ cs, c < 128) (c0 : cs ≠ []) (c6 : cs.length ≤ 100) {many : Int} (m0 : 1 ≤ many) (m1 : many ≤ 1000) : ∀ (k N : Nat) (rows : List (Nat × D)) (s : D), k ≤ 20 → TL lfT cs B k rows → k + 1 ≤ N → Src s →
    ∃ l' s', F__law_bent N [brD rows, lettD cs, .int many, s] = .ok (brD l', s') ∧ TL lfT cs (B + 1) (k + 1) l' ∧ Src s'
  | k, 0, _, _, _, _, h, _ => absurd h (by omega)
  | k, N + 1, rows, s, hk, h, hN, hs => by
    have hl := h.1
    have ln := lett_len (cs := cs) (by omega)
    have em := br_empty hcs hk h
    have rl := br_len (l := rows) (by omega)
    suffices key : ∃ (l' : List (Nat × D)) (s' : D) (ρ : Env), B__law_bent (F__law_bent N) (bnS (brD rows) (lettD cs) many s none none none) = .rt (brD l') ρ ∧ ownS ρ 3 = some (true, s') ∧ TL lfT cs (B + 1) (k + 1) l' ∧ Src s' by
      obtain ⟨l', s', ρ, q1, q2, q3, q4⟩ := key
      refine ⟨l', s', ?_, q3, q4⟩
      show outIO 3 (B__law_bent (F__law_bent N) (bnS (brD rows) (lettD cs) many s none none none)) = _
      rw [q1]
      show (match ownS ρ 3 with | some (true, o) => Res.ok (brD l', o) | _ => .bad) = _
      rw [q2]
    rw [B__law_bent_u]
    by_cases e0 : rows = []
    · subst e0
      obtain ⟨j, s1, o, e1, hs1, ho, ix1⟩ := draw_lett c0 (by omega) hs
      obtain ⟨n, s2, e2, n0, n1, hs2⟩ := draw_e (m := many) (by omega) (by omega) hs1
      refine ⟨[(o, .int n)], s2, bnS (brD []) (lettD cs) many s2 none none none, ?_, rfl, ⟨by rw [List.length_singleton]; omega, fun e he => by
        rw [List.mem_singleton.mp he]
        exact ⟨ho, .leaf (.inl ⟨n, rfl⟩)⟩⟩, hs2⟩
      have z : brD [(o, .int n)] = .lst [.tup [.str (txt [o]), .int n]] := rfl
      rw [z]
      have em : dEq (brD []) (.lst []) = .ok (.bl true) := em
      generalize brD [] = rd at *
      generalize lettD cs = nd at *
      simp [bnS, em, ln, e1, e2, ix1]
    · have lp := List.length_pos_iff.mpr e0
      obtain ⟨a, s1, e1, a0, a1, hs1⟩ := draw_e (m := ((rows.length : Nat) : Int)) (by omega) (by omega) hs
      obtain ⟨a, rfl⟩ : ∃ i : Nat, a = i := ⟨a.toNat, by omega⟩
      have ha : a < rows.length := by omega
      obtain ⟨⟨c, d⟩, ee⟩ : ∃ e, rows[a]? = some e := ⟨_, List.getElem?_eq_getElem ha⟩
      obtain ⟨hc, hd⟩ := h.2 (c, d) (List.mem_of_getElem? ee)
      have ix := br_ix ee
      have ne : dEq (brD rows) (.lst []) = .ok (.bl false) := by rw [em]; cases rows with
        | nil => exact absurd rfl e0
        | cons _ _ => rfl
      have pre : ∀ {g : Env → Out} {o' : Out}, g (bnS (brD rows) (lettD cs) many s1 (some (.frz (.int (a : Nat)))) (some (.frz (.str (txt [c])))) (some (.frz d))) = o' →
          (sSeq (sIf [] (bT (eOp dEq (eVar 0) (eLst aNil)))
(sRetM (mLst (mCons (mTup (mCons (mOp dIx (mP [] (eVar 1)) (mIO 0 3 F__law_draw (mAP [] (aCons (eCall dLen (aCons (eVar 1) aNil)) aNil)))) (mCons (mIO 0 3 F__law_draw (mAP [] (aCons (eVar 2) aNil))) mNil))) mNil)))
sPass)
(sSeq (sAsgM (mIO 0 3 F__law_draw (mAP [] (aCons (eCall dLen (aCons (eVar 0) aNil)) aNil))) (tgN 4))
(sSeq (sAsg [] (eOp dIx (eVar 0) (eVar 4)) (tgT [(tgN 5), (tgN 6)])) g))) (bnS (brD rows) (lettD cs) many s none none none) = o' := by
        intro g o' hg
        generalize brD rows = rd at *
        generalize lettD cs = nd at *
        refine seq_to (ρ' := bnS rd nd many s none none none) (by simp [bnS, ne]) ?_
        refine seq_to (ρ' := bnS rd nd many s1 (some (.frz (.int (a : Nat)))) none none) (by simp [bnS, rl, e1]) ?_
        exact seq_to (by simp [bnS, ix]) hg
      have here : ∀ s2, Src s2 → ∃ (l' : List (Nat × D)) (s' : D), (sRetM (mIO 4 3 F__law_bent_here (mCons (mP [] (eVar 0)) (mCons (mP [] (eVar 4)) (mCons (mP [] (eVar 1)) (mCons (mP [] (eVar 2)) (mAP [] aNil))))))) (bnS (brD rows) (lettD cs) many s2 (some (.frz (.int (a : Nat)))) (some (.frz (.str (txt [c])))) (some (.frz d))) = .rt (brD l') (bnS (brD rows) (lettD cs) many s' (some (.frz (.int (a : Nat)))) (some (.frz (.str (txt [c])))) (some (.frz d))) ∧ TL lfT cs (B + 1) (k + 1) l' ∧ Src s' := by
        intro s2 hs2
        obtain ⟨l', s', e, t, hs'⟩ := bent_here_e hB hk hcs c0 c6 (many := many) (by omega) m1 h ha hs2
        refine ⟨l', s', ?_, t, hs'⟩
        clear pre em ne ix
        generalize brD l' = ld at *
        generalize brD rows = rd at *
        generalize lettD cs = nd at *
        simp [bnS, e]
      by_cases il : ∃ l2, d = brD l2
      · obtain ⟨l2, rfl⟩ := il
        obtain ⟨b, s2, e2, b0, b1, hs2⟩ := draw_e (m := 2) (by decide) (by decide) hs1
        by_cases b1' : b = 1
        · subst b1'
          obtain ⟨k', rfl, t2⟩ : ∃ k', k = k' + 1 ∧ TL lfT cs B k' l2 := by
            cases k with
            | zero => rcases hd with ⟨n, z⟩ | z <;> cases z
            | succ k =>
              rcases hd with (⟨n, z⟩ | z) | ⟨l3, z, q1, q2⟩
              · cases z
              · cases z
              · have := brD_inj z
                subst this
                exact ⟨k, rfl, q1, q2⟩
          obtain ⟨l3, s3, e3, t3, hs3⟩ := bent_e hB hcs c0 c6 m0 m1 k' N l2 s2 (by omega) t2 (by omega) hs2
          have tl := TL.splice h a (a + 1) (m := [(c, brD l3)]) (by rw [List.length_take, List.length_drop, List.length_singleton]; omega) (fun e he => by rw [List.mem_singleton.mp he]; exact ⟨hc, (TW.list t3).mono (fun _ h => h) (Nat.le_refl _) (by omega)⟩)
          have t1 := br_take (l := rows) (j := a)
          have t2' := br_drop (l := rows) (j := a + 1) (by omega)
          have a1 := br_add (l := rows.take a) (m := [(c, brD l3)]) (by rw [List.length_take, List.length_singleton]; omega)
          have a2 := br_add (l := rows.take a ++ [(c, brD l3)]) (m := rows.drop (a + 1)) (by rw [List.length_append, List.length_take, List.length_drop, List.length_singleton]; omega)
          have z : ((a : Int) + 1) = ((a + 1 : Nat) : Int) := by omega
          rw [← z] at t2'
          have z2 : brD [(c, brD l3)] = .lst [.tup [.str (txt [c]), brD l3]] := rfl
          rw [z2] at a1
          refine ⟨rows.take a ++ [(c, brD l3)] ++ rows.drop (a + 1), s3, bnS (brD rows) (lettD cs) many s3 (some (.frz (.int (a : Nat)))) (some (.frz (.str (txt [c])))) (some (.frz (brD l2))), pre ?_, rfl, tl, hs3⟩
          clear pre em ne ix here z2
          obtain ⟨xs, hx⟩ : ∃ xs, brD l2 = .lst xs := ⟨_, rfl⟩
          rw [hx] at e3 ⊢
          generalize brD (rows.take a ++ [(c, brD l3)] ++ rows.drop (a + 1)) = rr at *
          generalize brD (rows.take a ++ [(c, brD l3)]) = r3 at *
          generalize brD (rows.take a) = r1 at *
          generalize brD (rows.drop (a + 1)) = r2 at *
          generalize brD rows = rd at *
          generalize lettD cs = nd at *
          generalize brD l3 = l3d at *
          simp [bnS, e2, e3, t1, t2', a1, a2]
        · obtain ⟨l', s', e, t, hs'⟩ := here s2 hs2
          refine ⟨l', s', _, pre (seq_to ?_ e), rfl, t, hs'⟩
          obtain ⟨xs, hx⟩ : ∃ xs, brD l2 = .lst xs := ⟨_, rfl⟩
          rw [hx]
          generalize brD rows = rd at *
          generalize lettD cs = nd at *
          simp [bnS, e2, b1']
      · obtain ⟨l', s', e, t, hs'⟩ := here s1 hs1
        refine ⟨l', s', _, pre (seq_to ?_ e), rfl, t, hs'⟩
        have leaf : lfT d := by
          cases k with
          | zero => exact hd
          | succ k =>
            rcases hd with z | ⟨l2, z, _⟩
            · exact z
            · exact absurd ⟨l2, z⟩ il
        generalize brD rows = rd at *
        generalize lettD cs = nd at *
        rcases leaf with ⟨n, rfl⟩ | rfl <;> simp [bnS]
end Du

namespace Du
open PySem PySem.Spec PyProof.Rows L2 Dear
/-! ### k17: a tree read -/
set_option maxHeartbeats 400000
def Tg.cm (T : Tg) (b : List Nat) (c : Nat) : Bool := decide (b.length < T.long) && T.comes (lastL b) c
def numD : D → Option Int
  | .int n => some n
  | _ => none
open Classical in
noncomputable def unbr (d : D) : Option (List (Nat × D)) := if h : ∃ l, d = brD l then some (Classical.choose h) else none
theorem unbr_brD (l : List (Nat × D)) : unbr (brD l) = some l := by
  unfold unbr
  have h : ∃ m, brD l = brD m := ⟨l, rfl⟩
  rw [dif_pos h, ← brD_inj (Classical.choose_spec h)]
theorem unbr_no {d : D} (h : ∀ l, d ≠ brD l) : unbr d = none := dif_neg fun ⟨l, e⟩ => h l e
abbrev Fo := List (Nat × List Nat)
open Classical in
noncomputable def rdL (T : Tg) (many : Nat) (rec : List Nat → Fo → D → Option Fo) (b : List Nat) : Int → Fo → List (Nat × D) → Option Fo
  | _, fo, [] => some fo
  | last, fo, e :: r => if (T.rk e.1 : Int) ≤ last ∨ T.cm b e.1 = false then none else
      match numD e.2 with
      | some n => if 0 ≤ n ∧ n < many ∧ (∀ p ∈ fo, (p.1 : Int) ≠ n) ∧ T.ends e.1 = true then rdL T many rec b (T.rk e.1) (fo ++ [(n.toNat, b ++ [e.1])]) r else none
      | none => match rec (b ++ [e.1]) fo e.2 with
        | some fo' => rdL T many rec b (T.rk e.1) fo' r
        | none => none
noncomputable def rdT (T : Tg) (many : Nat) : Nat → List Nat → Fo → D → Option Fo
  | 0, _, _, _ => none
  | k + 1, b, fo, d => match unbr d with
    | some (e :: r) => rdL T many (rdT T many k) b (-1) fo (e :: r)
    | _ => none
theorem rdT_br {T : Tg} {many k : Nat} {b : List Nat} {fo : Fo} {e : Nat × D} {r : List (Nat × D)} : rdT T many (k + 1) b fo (brD (e :: r)) = rdL T many (rdT T many k) b (-1) fo (e :: r) := by
  show (match unbr (brD (e :: r)) with | some (e :: r) => rdL T many (rdT T many k) b (-1) fo (e :: r) | _ => none) = _
  rw [unbr_brD]
theorem rdT_nil {T : Tg} {many k : Nat} {b : List Nat} {fo : Fo} : rdT T many k b fo (brD []) = none := by
  cases k with
  | zero => rfl
  | succ k =>
    show (match unbr (brD []) with | some (e :: r) => rdL T many (rdT T many k) b (-1) fo (e :: r) | _ => none) = _
    rw [unbr_brD]
theorem rdT_no {T : Tg} {many k : Nat} {b : List Nat} {fo : Fo} {d : D} (h : ∀ l, d ≠ brD l) : rdT T many k b fo d = none := by
  cases k with
  | zero => rfl
  | succ k =>
    show (match unbr d with | some (e :: r) => rdL T many (rdT T many k) b (-1) fo (e :: r) | _ => none) = _
    rw [unbr_no h]
/-- what is found: numbers within, each once -/
def FoOk (many : Nat) (fo : Fo) : Prop := (fo.map (·.1)).Nodup ∧ ∀ p ∈ fo, p.1 < many
theorem nodup_lt : ∀ {n : Nat} {l : List Nat}, l.Nodup → (∀ x ∈ l, x < n) → l.length ≤ n
  | 0, l, _, hl => by
    cases l with
    | nil => exact Nat.zero_le _
    | cons x l => exact absurd (hl x List.mem_cons_self) (by omega)
  | n + 1, l, h, hl => by
    by_cases m : n ∈ l
    · have h2 := nodup_lt (n := n) (h.erase n) fun x hx => by
        have h3 := hl x (List.mem_of_mem_erase hx)
        have h4 : x ≠ n := fun z => by
          subst z
          exact h.not_mem_erase hx
        omega
      rw [List.length_erase_of_mem m] at h2
      omega
    · have h2 := nodup_lt (n := n) h fun x hx => by
        have h3 := hl x hx
        have h4 : x ≠ n := fun z => m (z ▸ hx)
        omega
      omega
theorem FoOk.len {many : Nat} {fo : Fo} (h : FoOk many fo) : fo.length ≤ many := by
  have := nodup_lt h.1 fun x hx => by
    obtain ⟨p, hp, rfl⟩ := List.mem_map.mp hx
    exact h.2 p hp
  rwa [List.length_map] at this
theorem FoOk.add {many : Nat} {fo : Fo} (h : FoOk many fo) {n : Nat} {w : List Nat} (hn : n < many) (h1 : ∀ p ∈ fo, p.1 ≠ n) : FoOk many (fo ++ [(n, w)]) := by
  refine ⟨?_, fun p hp => ?_⟩
  · rw [List.map_append, List.nodup_append]
    refine ⟨h.1, List.nodup_cons.mpr ⟨List.not_mem_nil, .nil⟩, fun x hx y hy => ?_⟩
    obtain ⟨p, hp, rfl⟩ := List.mem_map.mp hx
    have : y = n := by simpa using hy
    rw [this]
    exact h1 p hp
  · rcases List.mem_append.mp hp with hp | hp
    · exact h.2 p hp
    · rw [List.mem_singleton.mp hp]
      exact hn
theorem rdL_ok {T : Tg} {many : Nat} {rec : List Nat → Fo → D → Option Fo} {b : List Nat} (hr : ∀ c fo d fo', FoOk many fo → rec (b ++ [c]) fo d = some fo' → FoOk many fo') : ∀ (l : List (Nat × D)) (last : Int) (fo fo' : Fo), FoOk many fo → rdL T many rec b last fo l = some fo' → FoOk many fo'
  | [], _, fo, fo', h, e => by cases e; exact h
  | x :: l, last, fo, fo', h, e => by
    unfold rdL at e
    split at e
    · cases e
    · split at e
      · rename_i n _
        split at e
        · rename_i hc
          obtain ⟨n0, n1, n2, _⟩ := hc
          refine rdL_ok hr l _ _ _ (h.add (by omega) fun p hp z => n2 p hp (by omega)) e
        · cases e
      · split at e
        · rename_i fo2 e2
          exact rdL_ok hr l _ _ _ (hr _ _ _ _ h e2) e
        · cases e
theorem rdT_ok {T : Tg} {many : Nat} : ∀ (k : Nat) (b : List Nat) (fo : Fo) (d : D) (fo' : Fo), FoOk many fo → rdT T many k b fo d = some fo' → FoOk many fo'
  | 0, _, _, _, _, _, e => nomatch e
  | k + 1, b, fo, d, fo', h, e => by
    by_cases hd : ∃ l, d = brD l
    · obtain ⟨l, rfl⟩ := hd
      cases l with
      | nil => rw [rdT_nil] at e; cases e
      | cons x l =>
        rw [rdT_br] at e
        exact rdL_ok (fun c fo d fo' => rdT_ok k (b ++ [c]) fo d fo') _ _ _ _ h e
    · rw [rdT_no fun l z => hd ⟨l, z⟩] at e
      cases e
/-! the law's reading -/
theorem forL_same_app {tg : Tgt} {g : Env → Out} {l : List Nat} {ds es : List D} {ρ : Env} (hs : ∀ d ∈ ds, ∃ as ρ', tg d = .ok as ∧ g (setS ρ as) = .nx ρ' ∧ clr l ρ' = ρ) : forL tg g l (ds ++ es) ρ = forL tg g l es ρ := by
  induction ds with
  | nil => rfl
  | cons d r ih =>
    obtain ⟨as, ρ', e1, e2, e3⟩ := hs d List.mem_cons_self
    rw [List.cons_append, forL_cons, e1, forT_ok, e2, forK_nx, e3]
    exact ih fun x hx => hs x (List.mem_cons_of_mem _ hx)
theorem level_snoc {T : Tg} {b : List Nat} {c : Nat} (hb : b ∈ T.level b.length) (hc : c ∈ T.codes) (h : T.comes (lastL b) c = true) : b ++ [c] ∈ T.level (b ++ [c]).length := by
  rw [List.length_append, List.length_singleton]
  show _ ∈ T.step (T.level b.length)
  unfold Tg.step
  refine List.mem_flatMap.mpr ⟨b, hb, ?_⟩
  unfold Tg.longer
  obtain ⟨r, hr, rfl⟩ := List.mem_map.mp hc
  exact List.mem_map.mpr ⟨r, List.mem_filter.mpr ⟨hr, h⟩, rfl⟩
theorem stands_c {T : Tg} (h : Good T) {b : List Nat} {c : Nat} (hb : b ∈ T.level b.length) (hl : b.length ≤ T.long) (hc : c ∈ T.codes) : F__law_stands [T.d, .str (txt (b ++ [c]))] = .ok (.bl (T.cm b c)) := by
  have h8 := h.l1
  by_cases h1 : b.length < T.long
  · cases h2 : T.comes (lastL b) c with
    | true =>
      have lv := level_snoc hb hc h2
      rw [stands_e h (by rw [List.length_append, List.length_singleton]; omega) lv]
      unfold Tg.cm
      rw [decide_eq_true h1, h2]
      rfl
    | false =>
      have hcm : T.cm b c = false := by unfold Tg.cm; rw [h2, Bool.and_false]
      rw [hcm]
      have st := level_steps hb
      have ln : (b ++ [c]).length = b.length + 1 := by rw [List.length_append, List.length_singleton]
      have turn : ∀ d ∈ (List.range' 0 b.length).map (fun i => D.int (i : Nat)), ∃ as ρ', tgN 3 d = .ok as ∧ B__law_stands_1 (setS (lsS T (b ++ [c])) as) = .nx ρ' ∧ clr [3] ρ' = lsS T (b ++ [c]) := by
        intro d hd
        obtain ⟨k, hk, rfl⟩ := List.mem_map.mp hd
        have hk : k < b.length := by simpa using hk
        obtain ⟨e, h1, h2, h3⟩ := st k hk
        have x1 := dIx_sign (w := b ++ [c]) (k := k) (c := e) (by omega) (by rw [List.getElem?_append_left hk]; exact h1)
        have x2 := dSl_take (w := b ++ [c]) (j := k) (by omega)
        rw [List.take_append_of_le_length (by omega)] at x2
        have x3 := dSl_last (w := b.take k) (by rw [List.length_take]; omega)
        have x4 := law_comes_e T (l := lastL (b.take k)) (c := e) (lastL_len _)
        have x5 : dIn true (.str (txt [e])) (txs (T.codes.map fun c => [c])) = .ok (.bl false) := by
          rw [dIn_txts, mem_one, decide_eq_true h2]; rfl
        refine ⟨_, [some (.frz T.d), some (.frz (.str (txt (b ++ [c])))), some (.own false (txs (T.codes.map fun c => [c]))), some (.frz (.int (k : Nat))), none], rfl, ?_, rfl⟩
        simp [lsS, B__law_stands_1_u, x1, x2, x3, x4, x5, h3]
      have last : B__law_stands_1 (setS (lsS T (b ++ [c])) [(3, .int (b.length : Nat))]) = .rt (.bl false) [some (.frz T.d), some (.frz (.str (txt (b ++ [c])))), some (.own false (txs (T.codes.map fun c => [c]))), some (.frz (.int (b.length : Nat))), none] := by
        have x1 := dIx_sign (w := b ++ [c]) (k := b.length) (c := c) (by omega) (by rw [List.getElem?_append_right (Nat.le_refl _), Nat.sub_self]; rfl)
        have x2 := dSl_take (w := b ++ [c]) (j := b.length) (by omega)
        rw [List.take_left] at x2
        have x3 := dSl_last (w := b) (by omega)
        have x4 := law_comes_e T (l := lastL b) (c := c) (lastL_len _)
        have x5 : dIn true (.str (txt [c])) (txs (T.codes.map fun c => [c])) = .ok (.bl false) := by
          rw [dIn_txts, mem_one, decide_eq_true hc]; rfl
        simp [lsS, B__law_stands_1_u, x1, x2, x3, x4, x5, h2]
      have f2 : forL (tgN 3) B__law_stands_1 [3] ((List.range' 0 (b.length + 1)).map fun i => D.int (i : Nat)) (lsS T (b ++ [c])) = .rt (.bl false) [some (.frz T.d), some (.frz (.str (txt (b ++ [c])))), some (.own false (txs (T.codes.map fun c => [c]))), some (.frz (.int (b.length : Nat))), none] := by
        rw [List.range'_concat, List.map_append, forL_same_app (l := [3]) turn, List.map_singleton, forL_cons]
        simp only [Nat.zero_add, Nat.one_mul]
        rw [tgN_e, forT_ok, last, forK_rt]
      have cd := codes_e (vs := [4]) (i := 4) (x := [some T.d, some (.str (txt (b ++ [c]))), none, none, none]) h rfl rfl (by decide) (by simp)
      have rg := rng_e (b.length + 1) (by omega)
      show outR (B__law_stands [some (.frz T.d), some (.frz (.str (txt (b ++ [c])))), none, none, none]) = _
      have : B__law_stands [some (.frz T.d), some (.frz (.str (txt (b ++ [c])))), none, none, none] = .rt (.bl false) [some (.frz T.d), some (.frz (.str (txt (b ++ [c])))), some (.own false (txs (T.codes.map fun c => [c]))), some (.frz (.int (b.length : Nat))), none] := by
        rw [B__law_stands_u]
        refine seq_to (ρ' := lsS T (b ++ [c])) (by rw [own_to cd]; simp [lsS]) ?_
        refine seq_to (ρ' := lsS T (b ++ [c])) (by
          have ix : dIx T.d (.int 3) = .ok (.int T.long) := by simp [Tg.d]
          have nl : ¬ ((T.long : Int) < ((b.length + 1 : Nat) : Int)) := by omega
          have nl' : ¬ ((T.long : Int) < (b.length : Int) + 1) := by omega
          simp [lsS, ix, txt_length, ln, show b.length + 1 ≤ 16777215 by omega, nl, nl']) ?_
        rw [sSeq_e, for_to (ds := (List.range' 0 (b.length + 1)).map fun i => D.int (i : Nat)) (ρ' := lsS T (b ++ [c])) (by
          have rg' : dRange [.int ((b.length : Int) + 1)] = .ok ((List.range' 0 (b.length + 1)).map fun i => D.int (i : Nat)) := rg
          simp [lsS, txt_length, ln, show b.length + 1 ≤ 16777215 by omega, rg']) (by simp [lsS]) f2]
        rfl
      rw [this]
      rfl
  · have hcm : T.cm b c = false := by unfold Tg.cm; rw [decide_eq_false h1]; rfl
    rw [hcm]
    have cd := codes_e (vs := [4]) (i := 4) (x := [some T.d, some (.str (txt (b ++ [c]))), none, none, none]) h rfl rfl (by decide) (by simp)
    show outR (B__law_stands [some (.frz T.d), some (.frz (.str (txt (b ++ [c])))), none, none, none]) = _
    have : B__law_stands [some (.frz T.d), some (.frz (.str (txt (b ++ [c])))), none, none, none] = .rt (.bl false) (lsS T (b ++ [c])) := by
      rw [B__law_stands_u]
      refine seq_to (ρ' := lsS T (b ++ [c])) (by rw [own_to cd]; simp [lsS]) ?_
      have ix : dIx T.d (.int 3) = .ok (.int T.long) := by simp [Tg.d]
      have nl' : (T.long : Int) < (b.length : Int) + 1 := by omega
      simp [lsS, ix, txt_length, List.length_append, show b.length + 1 ≤ 16777215 by omega, nl']
    rw [this]
    rfl
theorem word_c {T : Tg} (h : Good T) {b : List Nat} {c : Nat} (hb : b ∈ T.level b.length) (hc : c ∈ T.codes) (h1 : T.cm b c = true) : F__law_is_word [T.d, .str (txt (b ++ [c]))] = .ok (.bl (T.ends c)) := by
  unfold Tg.cm at h1
  rw [Bool.and_eq_true, decide_eq_true_eq] at h1
  have lv := level_snoc hb hc h1.2
  rw [List.length_append, List.length_singleton] at lv
  rw [is_word_e h (by omega) lv, isW_snoc]
end Du

namespace Du
open PySem PySem.Spec PyProof.Rows L2 Dear
/-! ### k17: the law's reading of a tree -/
set_option maxHeartbeats 400000
abbrev foD (fo : Fo) : D := .dct false (fo.map fun p => (.int (p.1 : Nat), .str (txt p.2)))
theorem fo_get {fo : Fo} {n : Int} (h : ∀ p ∈ fo, (p.1 : Int) ≠ n) : dGet (fo.map fun p => (D.int (p.1 : Nat), D.str (txt p.2))) (.int n) = none := dGet_none fun q hq => by
  obtain ⟨p, hp, rfl⟩ := List.mem_map.mp hq
  exact fun z => h p hp (D.int.inj z)
theorem fo_get2 {fo : Fo} {n : Int} (h : ¬ ∀ p ∈ fo, (p.1 : Int) ≠ n) : (dGet (fo.map fun p => (D.int (p.1 : Nat), D.str (txt p.2))) (.int n)).isSome = true := by
  cases e : dGet (fo.map fun p => (D.int (p.1 : Nat), D.str (txt p.2))) (.int n) with
  | some d => rfl
  | none =>
    refine absurd (fun p hp z => ?_) h
    unfold dGet at e
    rw [Option.map_eq_none_iff, List.find?_eq_none] at e
    exact e _ (List.mem_map.mpr ⟨p, hp, rfl⟩) (by simp [z])
theorem fo_in {fo : Fo} {n : Int} {neg : Bool} : dIn neg (.int n) (foD fo) = .ok (.bl (neg ^^ (dGet (fo.map fun p => (D.int (p.1 : Nat), D.str (txt p.2))) (.int n)).isSome)) := dIn_dct rfl
theorem fo_put {fo : Fo} {n : Nat} {w : List Nat} (h : ∀ p ∈ fo, (p.1 : Int) ≠ (n : Int)) : dPut (fo.map fun p => (D.int (p.1 : Nat), D.str (txt p.2))) (.int (n : Nat)) (.str (txt w)) = (fo ++ [(n, w)]).map fun p => (D.int (p.1 : Nat), D.str (txt p.2)) := by
  rw [dPut_new fun q hq => by
    obtain ⟨p, hp, rfl⟩ := List.mem_map.mp hq
    exact fun z => h p hp (D.int.inj z), List.map_append]
  rfl
def rsS (T : Tg) (many : Nat) (thing : D) (b : List Nat) (fo : D) (last : Int) (x7 x8 x9 : Option Slot) : Env := [some (.frz T.d), some (.frz (.int many)), some (.frz thing), some (.frz (.str (txt b))), some (.own true fo), some (.own false (lettD T.codes)), some (.frz (.int last)), x7, x8, x9, none]
section
variable {T : Tg} {many : Nat} {thing : D} {b : List Nat} {fo : Fo} {last : Int} {c : Nat} {rec : List D → Res (D × D)}
theorem idx5 (hc : c ∈ T.codes) (x0 x1 x2 x3 x4 x6 x8 x9 x10 : Option D) : eM isLst dIndex (eVar 5) (aCons (eVar 7) aNil) [x0, x1, x2, x3, x4, some (lettD T.codes), x6, some (.str (txt [c])), x8, x9, x10] = .ok (.int (T.rk c : Nat)) := by
  rw [eM_of2 (a := lettD T.codes) (as := [.str (txt [c])]) rfl rfl (by simp)]
  exact index_e hc
/-- text; refused at once -/
theorem reads_pre (h : Good T) (hb : b ∈ T.level b.length) (hl : b.length ≤ T.long) (hc : c ∈ T.codes) {d : D} (hd : (∃ n, d = .int n) ∨ d = .bl true ∨ ∃ xs, d = .lst xs) :
    if (T.rk c : Int) ≤ last ∨ d = .bl true ∨ T.cm b c = false then B__law_reads_1 rec (rsS T many thing b (foD fo) last (some (.frz (.str (txt [c])))) (some (.frz d)) none) = .rt (.bl false) (rsS T many thing b (foD fo) last (some (.frz (.str (txt [c])))) (some (.frz d)) (some (.frz (.str (txt (b ++ [c]))))))
    else ∀ o', (sIf [] (bT (eIsi "int" (eVar 8)))
(sSeq (sIf [4] (bOr (bNot (bT (eChain dLe dLt (eC (.int 0)) (eVar 8) (eVar 1)))) (bOr (bT (eOp (dIn false) (eVar 8) (eVar 4))) (bNot (bT (eCall F__law_is_word (aCons (eVar 0) (aCons (eVar 9) aNil)))))))
(sRet [] (eC (.bl false)))
sPass)
(sPutD 4 [] (eVar 9) (eVar 8)))
(sIfM (mNot (mTest (mIO 4 4 rec (mCons (mP [] (eVar 0)) (mCons (mP [] (eVar 1)) (mCons (mP [] (eVar 8)) (mCons (mP [] (eVar 9)) (mAP [] aNil))))))))
(sRet [] (eC (.bl false)))
sPass)) (rsS T many thing b (foD fo) (T.rk c : Nat) (some (.frz (.str (txt [c])))) (some (.frz d)) (some (.frz (.str (txt (b ++ [c])))))) = o' → B__law_reads_1 rec (rsS T many thing b (foD fo) last (some (.frz (.str (txt [c])))) (some (.frz d)) none) = o' := by
  have h8 := h.l1
  have st := stands_c h hb hl hc
  have i5 := idx5 (T := T) hc
  have ta : dAdd (.str (txt b)) (.str (txt [c])) = .ok (.str (txt (b ++ [c]))) := by simp [txt_app, txt_length, show b.length + 1 ≤ 16777215 by omega]
  have s1 : (sAsg [] (eOp dAdd (eVar 3) (eVar 7)) (tgN 9)) (rsS T many thing b (foD fo) last (some (.frz (.str (txt [c])))) (some (.frz d)) none) = .nx (rsS T many thing b (foD fo) last (some (.frz (.str (txt [c])))) (some (.frz d)) (some (.frz (.str (txt (b ++ [c])))))) := by
    generalize lettD T.codes = nd at *
    generalize T.d = td at *
    generalize foD fo = fd at *
    simp [rsS, ta]
  have t1 : (bOr (bT (eOp dLe (eM isLst dIndex (eVar 5) (aCons (eVar 7) aNil)) (eVar 6))) (bOr (bT (eIsi "bool" (eVar 8))) (bNot (bT (eCall F__law_stands (aCons (eVar 0) (aCons (eVar 9) aNil))))))) [some T.d, some (.int many), some thing, some (.str (txt b)), none, some (lettD T.codes), some (.int last), some (.str (txt [c])), some d, some (.str (txt (b ++ [c]))), none] = .ok (decide ((T.rk c : Int) ≤ last ∨ d = .bl true ∨ T.cm b c = false)) := by
    have ib : isKind "bool" d = .ok (.bl (decide (d = .bl true))) := by
      rcases hd with ⟨n, rfl⟩ | rfl | ⟨xs, rfl⟩
      · rw [decide_eq_false (by intro z; cases z)]; rfl
      · rw [decide_eq_true rfl]; rfl
      · rw [decide_eq_false (by intro z; cases z)]; rfl
    have e := i5 (some T.d) (some (.int many)) (some thing) (some (.str (txt b))) none (some (.int last)) (some d) (some (.str (txt (b ++ [c])))) none
    generalize lettD T.codes = nd at *
    generalize T.d = td at *
    by_cases c1 : (T.rk c : Int) ≤ last
    · simp [e, c1]
    · by_cases c2 : d = .bl true
      · subst c2
        simp [e, c1, ib]
      · cases c3 : T.cm b c <;> simp [e, c1, ib, c2, c3, st]
  have v5 : view [5] (rsS T many thing b (foD fo) last (some (.frz (.str (txt [c])))) (some (.frz d)) (some (.frz (.str (txt (b ++ [c])))))) = [some T.d, some (.int many), some thing, some (.str (txt b)), none, some (lettD T.codes), some (.int last), some (.str (txt [c])), some d, some (.str (txt (b ++ [c]))), none] := rfl
  split
  · rename_i hh
    rw [B__law_reads_1_u, seq_to s1 rfl, sSeq_e, sIf_e, v5, t1, atR_ok, decide_eq_true hh, ifC_t]
    rfl
  · rename_i hh
    intro o' ho
    rw [B__law_reads_1_u]
    refine seq_to s1 (seq_to (ρ' := rsS T many thing b (foD fo) last (some (.frz (.str (txt [c])))) (some (.frz d)) (some (.frz (.str (txt (b ++ [c])))))) ?_ (seq_to ?_ ho))
    · rw [sIf_e, v5, t1, atR_ok, decide_eq_false hh, ifC_f]
      rfl
    · rw [asg_to (d := .int (T.rk c : Nat)) (by rw [v5]; exact i5 _ _ _ _ _ _ _ _ _)]
      rfl
theorem reads_num (h : Good T) (hb : b ∈ T.level b.length) (hc : c ∈ T.codes) (hcm : T.cm b c = true) (ho : FoOk many fo) (hm : many ≤ 1000) {n : Int} {x9 : List Nat} (h9 : x9 = b ++ [c]) :
    (sIf [] (bT (eIsi "int" (eVar 8)))
(sSeq (sIf [4] (bOr (bNot (bT (eChain dLe dLt (eC (.int 0)) (eVar 8) (eVar 1)))) (bOr (bT (eOp (dIn false) (eVar 8) (eVar 4))) (bNot (bT (eCall F__law_is_word (aCons (eVar 0) (aCons (eVar 9) aNil)))))))
(sRet [] (eC (.bl false)))
sPass)
(sPutD 4 [] (eVar 9) (eVar 8)))
(sIfM (mNot (mTest (mIO 4 4 rec (mCons (mP [] (eVar 0)) (mCons (mP [] (eVar 1)) (mCons (mP [] (eVar 8)) (mCons (mP [] (eVar 9)) (mAP [] aNil))))))))
(sRet [] (eC (.bl false)))
sPass)) (rsS T many thing b (foD fo) last (some (.frz (.str (txt [c])))) (some (.frz (.int n))) (some (.frz (.str (txt x9))))) = 
    if 0 ≤ n ∧ n < many ∧ (∀ p ∈ fo, (p.1 : Int) ≠ n) ∧ T.ends c = true then .nx (rsS T many thing b (foD (fo ++ [(n.toNat, b ++ [c])])) last (some (.frz (.str (txt [c])))) (some (.frz (.int n))) (some (.frz (.str (txt (b ++ [c]))))))
    else .rt (.bl false) (rsS T many thing b (foD fo) last (some (.frz (.str (txt [c])))) (some (.frz (.int n))) (some (.frz (.str (txt (b ++ [c])))))) := by
  subst h9
  unfold rsS
  have wd := word_c h hb hc hcm
  have fin := fo_in (fo := fo) (n := n) (neg := false)
  have fl := ho.len
  split
  · rename_i hh
    obtain ⟨n0, n1, n2, n3⟩ := hh
    obtain ⟨m, rfl⟩ : ∃ m : Nat, n = m := ⟨n.toNat, by omega⟩
    rw [fo_get n2] at fin
    have pt := fo_put (w := b ++ [c]) n2
    rw [n3] at wd
    have lf : (fo.map fun p => (D.int (p.1 : Nat), D.str (txt p.2))).length ≤ 16777215 := by rw [List.length_map]; omega
    have z : ((m : Int)).toNat = m := by omega
    rw [z]
    unfold foD at fin ⊢
    rw [← pt]
    generalize lettD T.codes = nd at *
    generalize T.d = td at *
    generalize (fo.map fun p => (D.int (p.1 : Nat), D.str (txt p.2))) = kv at *
    simp [n1, fin, wd, lf]
  · rename_i hh
    by_cases n0 : 0 ≤ n
    · by_cases n1 : n < many
      · by_cases n2 : ∀ p ∈ fo, (p.1 : Int) ≠ n
        · have n3 : T.ends c = false := by
            cases e : T.ends c with
            | false => rfl
            | true => exact absurd ⟨n0, n1, n2, e⟩ hh
          rw [fo_get n2] at fin
          rw [n3] at wd
          generalize lettD T.codes = nd at *
          generalize T.d = td at *
          generalize foD fo = kv at *
          simp [n0, n1, fin, wd]
        · rw [fo_get2 n2] at fin
          generalize lettD T.codes = nd at *
          generalize T.d = td at *
          generalize foD fo = kv at *
          simp [n0, n1, fin]
      · generalize lettD T.codes = nd at *
        generalize T.d = td at *
        generalize foD fo = kv at *
        simp [n0, n1]
    · generalize lettD T.codes = nd at *
      generalize T.d = td at *
      generalize foD fo = kv at *
      simp [n0]
theorem reads_node {x9 : List Nat} {xs : List D} {o : D} {r : Bool} (hr : rec [T.d, .int many, .lst xs, .str (txt x9), foD fo] = .ok (.bl r, o)) :
    (sIf [] (bT (eIsi "int" (eVar 8)))
(sSeq (sIf [4] (bOr (bNot (bT (eChain dLe dLt (eC (.int 0)) (eVar 8) (eVar 1)))) (bOr (bT (eOp (dIn false) (eVar 8) (eVar 4))) (bNot (bT (eCall F__law_is_word (aCons (eVar 0) (aCons (eVar 9) aNil)))))))
(sRet [] (eC (.bl false)))
sPass)
(sPutD 4 [] (eVar 9) (eVar 8)))
(sIfM (mNot (mTest (mIO 4 4 rec (mCons (mP [] (eVar 0)) (mCons (mP [] (eVar 1)) (mCons (mP [] (eVar 8)) (mCons (mP [] (eVar 9)) (mAP [] aNil))))))))
(sRet [] (eC (.bl false)))
sPass)) (rsS T many thing b (foD fo) last (some (.frz (.str (txt [c])))) (some (.frz (.lst xs))) (some (.frz (.str (txt x9))))) = 
    if r = true then .nx (rsS T many thing b o last (some (.frz (.str (txt [c])))) (some (.frz (.lst xs))) (some (.frz (.str (txt x9)))))
    else .rt (.bl false) (rsS T many thing b o last (some (.frz (.str (txt [c])))) (some (.frz (.lst xs))) (some (.frz (.str (txt x9))))) := by
  unfold rsS
  generalize lettD T.codes = nd at *
  generalize T.d = td at *
  generalize foD fo = kv at *
  cases r <;> simp [hr]
/-- all branches of a list -/
theorem reads_loop (h : Good T) {B k : Nat} {recP : List Nat → Fo → D → Option Fo} (hb : b ∈ T.level b.length) (hl : b.length ≤ T.long) (hm : many ≤ 1000)
    (hok : ∀ c fo d fo', FoOk many fo → recP (b ++ [c]) fo d = some fo' → FoOk many fo')
    (hno : ∀ c fo, recP (b ++ [c]) fo (.bl true) = none)
    (hr : ∀ c fo l, c ∈ T.codes → T.cm b c = true → FoOk many fo → TW lfT T.codes B k (brD l) → match recP (b ++ [c]) fo (brD l) with
      | some fo' => rec [T.d, .int many, brD l, .str (txt (b ++ [c])), foD fo] = .ok (.bl true, foD fo')
      | none => ∃ o, rec [T.d, .int many, brD l, .str (txt (b ++ [c])), foD fo] = .ok (.bl false, o)) : ∀ (l : List (Nat × D)) (last : Int) (fo : Fo), (∀ e ∈ l, e.1 ∈ T.codes ∧ TW lfT T.codes B k e.2) → FoOk many fo →
      match rdL T many recP b last fo l with
      | some fo' => ∃ last', forL (tgT [(tgN 7), (tgN 8)]) (B__law_reads_1 rec) [7, 8, 9] (l.map brE) (rsS T many thing b (foD fo) last none none none) = .nx (rsS T many thing b (foD fo') last' none none none)
      | none => ∃ ρ o, forL (tgT [(tgN 7), (tgN 8)]) (B__law_reads_1 rec) [7, 8, 9] (l.map brE) (rsS T many thing b (foD fo) last none none none) = .rt (.bl false) ρ ∧ ownS ρ 4 = some (true, o)
  | [], last, fo, _, _ => ⟨last, rfl⟩
  | (c, d) :: l, last, fo, ht, ho => by
    obtain ⟨hc, td⟩ := ht (c, d) List.mem_cons_self
    have ht' := fun e he => ht e (List.mem_cons_of_mem (c, d) he)
    have tg : tgT [(tgN 7), (tgN 8)] (brE (c, d)) = .ok [(7, .str (txt [c])), (8, d)] := by simp
    have e0 : setS (rsS T many thing b (foD fo) last none none none) [(7, .str (txt [c])), (8, d)] = rsS T many thing b (foD fo) last (some (.frz (.str (txt [c])))) (some (.frz d)) none := rfl
    have shape : (∃ n, d = .int n) ∨ d = .bl true ∨ ∃ l2, d = brD l2 := by
      cases k with
      | zero =>
        rcases td with z | z
        · exact .inl z
        · exact .inr (.inl z)
      | succ k =>
        rcases td with (z | z) | ⟨l2, z, _⟩
        · exact .inl z
        · exact .inr (.inl z)
        · exact .inr (.inr ⟨l2, z⟩)
    have pre := reads_pre (thing := thing) (many := many) (fo := fo) (last := last) (rec := rec) h hb hl hc (d := d) (by
      rcases shape with z | z | ⟨l2, z⟩
      · exact .inl z
      · exact .inr (.inl z)
      · exact .inr (.inr ⟨_, z⟩))
    rw [List.map_cons, forL_cons, tg, forT_ok, e0]
    unfold rdL
    by_cases c1 : (T.rk c : Int) ≤ last ∨ T.cm b c = false
    · rw [if_pos c1]
      rw [if_pos (by rcases c1 with z | z; exact .inl z; exact .inr (.inr z))] at pre
      rw [pre, forK_rt]
      exact ⟨_, foD fo, rfl, rfl⟩
    · rw [if_neg c1]
      have hcm : T.cm b c = true := by
        cases e : T.cm b c with
        | true => rfl
        | false => exact absurd (.inr e) c1
      by_cases c2 : d = .bl true
      · subst c2
        rw [if_pos (.inr (.inl rfl))] at pre
        rw [pre, forK_rt]
        have nn : numD (.bl true) = none := rfl
        simp only [nn, hno]
        exact ⟨_, foD fo, rfl, rfl⟩
      · rw [if_neg (by rintro (z | z | z); exact c1 (.inl z); exact c2 z; exact c1 (.inr z))] at pre
        rcases shape with ⟨n, rfl⟩ | z | ⟨l2, rfl⟩
        · have bd := pre _ (reads_num (thing := thing) (last := (T.rk c : Nat)) (rec := rec) h hb hc hcm ho hm (n := n) rfl)
          rw [bd]
          simp only [numD]
          by_cases c3 : 0 ≤ n ∧ n < many ∧ (∀ p ∈ fo, (p.1 : Int) ≠ n) ∧ T.ends c = true
          · rw [if_pos c3, if_pos c3, forK_nx]
            exact reads_loop h hb hl hm hok hno hr l (T.rk c : Nat) _ ht' (ho.add (by omega) fun p hp z => c3.2.2.1 p hp (by omega))
          · rw [if_neg c3, if_neg c3, forK_rt]
            exact ⟨_, foD fo, rfl, rfl⟩
        · exact absurd z c2
        · have q := hr c fo l2 hc hcm ho td
          have nn : numD (brD l2) = none := rfl
          simp only [nn]
          cases e : recP (b ++ [c]) fo (brD l2) with
          | some fo' =>
            rw [e] at q
            have bd := pre _ (reads_node (thing := thing) (last := (T.rk c : Nat)) (c := c) (b := b) q)
            rw [bd, if_pos rfl, forK_nx]
            exact reads_loop h hb hl hm hok hno hr l (T.rk c : Nat) fo' ht' (hok _ _ _ _ ho e)
          | none =>
            rw [e] at q
            obtain ⟨o, q⟩ := q
            have bd := pre _ (reads_node (thing := thing) (last := (T.rk c : Nat)) (c := c) (b := b) q)
            rw [bd, if_neg Bool.false_ne_true, forK_rt]
            exact ⟨_, o, rfl, rfl⟩
end
theorem reads_e {T : Tg} (h : Good T) {B many : Nat} (hcs : ∀ c ∈ T.codes, c < 128) (hm : many ≤ 1000) : ∀ (k N : Nat) (l : List (Nat × D)) (b : List Nat) (fo : Fo), k ≤ 20 → TL lfT T.codes B k l → k + 1 ≤ N → b ∈ T.level b.length → b.length ≤ T.long → FoOk many fo →
    match rdT T many (k + 1) b fo (brD l) with
    | some fo' => F__law_reads N [T.d, .int many, brD l, .str (txt b), foD fo] = .ok (.bl true, foD fo')
    | none => ∃ o, F__law_reads N [T.d, .int many, brD l, .str (txt b), foD fo] = .ok (.bl false, o)
  | _, 0, _, _, _, _, _, hN, _, _, _ => absurd hN (by omega)
  | k, N + 1, l, b, fo, hk, t, hN, hb, hl, ho => by
    have em := br_empty hcs hk t
    have cd : eComp [10] (iAny (eOp dIx (eVar 0) (eC (.int 0)))) (tgN 10) bYes (eOp dIx (eVar 10) (eC (.int 0))) [some T.d, some (.int many), some (brD l), some (.str (txt b)), none, none, none, none, none, none, none] = .ok (lettD T.codes) := by
      have := codes_e (vs := [10]) (i := 10) (x := [some T.d, some (.int many), some (brD l), some (.str (txt b)), none, none, none, none, none, none, none]) h rfl rfl (by decide) (by simp)
      rw [this]
      unfold txs lettD
      rw [List.map_map]
      rfl
    let st : D → Int → Env := fun fd last => rsS T many (brD l) b fd last none none none
    have s1 : (sOwn 5 [] (eComp [10] (iAny (eOp dIx (eVar 0) (eC (.int 0)))) (tgN 10) bYes (eOp dIx (eVar 10) (eC (.int 0))))) [some (.frz T.d), some (.frz (.int many)), some (.frz (brD l)), some (.frz (.str (txt b))), some (.own true (foD fo)), none, none, none, none, none, none] = .nx [some (.frz T.d), some (.frz (.int many)), some (.frz (brD l)), some (.frz (.str (txt b))), some (.own true (foD fo)), some (.own false (lettD T.codes)), none, none, none, none, none] := by
      rw [own_to (d := lettD T.codes) cd]
      generalize lettD T.codes = nd
      generalize T.d = td
      generalize foD fo = kv
      simp
    have key : ∀ {o' : Out}, B__law_reads (F__law_reads N) [some (.frz T.d), some (.frz (.int many)), some (.frz (brD l)), some (.frz (.str (txt b))), some (.own true (foD fo)), none, none, none, none, none, none] = o' → F__law_reads (N + 1) [T.d, .int many, brD l, .str (txt b), foD fo] = outIO 4 o' := fun e => by rw [← e]; rfl
    cases l with
    | nil =>
      rw [rdT_nil]
      have em : dEq (brD []) (.lst []) = .ok (.bl true) := em
      refine ⟨foD fo, ?_⟩
      rw [key (o' := .rt (.bl false) [some (.frz T.d), some (.frz (.int many)), some (.frz (brD [])), some (.frz (.str (txt b))), some (.own true (foD fo)), some (.own false (lettD T.codes)), none, none, none, none, none]) ?_]
      · rfl
      · rw [B__law_reads_u]
        refine seq_to s1 ?_
        generalize lettD T.codes = nd
        generalize T.d = td
        generalize foD fo = kv
        simp [em]
    | cons x l =>
      have em : dEq (brD (x :: l)) (.lst []) = .ok (.bl false) := em
      have lp := reads_loop (thing := brD (x :: l)) (rec := F__law_reads N) h hb hl hm (recP := rdT T many k) (fun c fo d fo' => rdT_ok k (b ++ [c]) fo d fo') (fun c fo => rdT_no fun l z => nomatch z) (fun c fo l2 hc hcm ho t2 => by
        obtain ⟨k', rfl, t3⟩ : ∃ k', k = k' + 1 ∧ TL lfT T.codes B k' l2 := by
          cases k with
          | zero => rcases t2 with ⟨n, z⟩ | z <;> cases z
          | succ k =>
            rcases t2 with (⟨n, z⟩ | z) | ⟨l3, z, q1, q2⟩
            · cases z
            · cases z
            · have := brD_inj z
              subst this
              exact ⟨k, rfl, q1, q2⟩
        unfold Tg.cm at hcm
        rw [Bool.and_eq_true, decide_eq_true_eq] at hcm
        exact reads_e h hcs hm k' N l2 (b ++ [c]) fo (by omega) t3 (by omega) (level_snoc hb hc hcm.2) (by rw [List.length_append, List.length_singleton]; omega) ho) (x :: l) (-1) fo t.2 ho
      rw [rdT_br]
      have body : ∀ {o'}, forL (tgT [(tgN 7), (tgN 8)]) (B__law_reads_1 (F__law_reads N)) [7, 8, 9] ((x :: l).map brE) (rsS T many (brD (x :: l)) b (foD fo) (-1) none none none) = o' → B__law_reads (F__law_reads N) [some (.frz T.d), some (.frz (.int many)), some (.frz (brD (x :: l))), some (.frz (.str (txt b))), some (.own true (foD fo)), none, none, none, none, none, none] = seqK (sRet [] (eC (.bl true))) o' := by
        intro o' e
        rw [B__law_reads_u]
        refine seq_to s1 (seq_to (ρ' := [some (.frz T.d), some (.frz (.int many)), some (.frz (brD (x :: l))), some (.frz (.str (txt b))), some (.own true (foD fo)), some (.own false (lettD T.codes)), none, none, none, none, none]) ?_ (seq_to (ρ' := rsS T many (brD (x :: l)) b (foD fo) (-1) none none none) ?_ ?_))
        · obtain ⟨xs, hx⟩ : ∃ xs, brD (x :: l) = .lst xs := ⟨_, rfl⟩
          rw [hx] at em ⊢
          generalize lettD T.codes = nd
          generalize T.d = td
          generalize foD fo = kv
          simp [em]
        · generalize brD (x :: l) = bd
          unfold rsS
          generalize lettD T.codes = nd
          generalize T.d = td
          generalize foD fo = kv
          simp
        · rw [sSeq_e, for_to (ds := (x :: l).map brE) (ρ' := rsS T many (brD (x :: l)) b (foD fo) (-1) none none none) (by simp [rsS]) (by simp [rsS]) e]
      cases e : rdL T many (rdT T many k) b (-1) fo (x :: l) with
      | some fo' =>
        rw [e] at lp
        obtain ⟨last', lp⟩ := lp
        show F__law_reads (N + 1) _ = _
        rw [key (body lp)]
        generalize brD (x :: l) = bd
        unfold rsS
        generalize lettD T.codes = nd
        generalize T.d = td
        generalize foD fo' = kv
        rfl
      | none =>
        rw [e] at lp
        obtain ⟨ρ, o, lp, ow⟩ := lp
        refine ⟨o, ?_⟩
        rw [key (body lp)]
        show (match ownS ρ 4 with | some (true, o) => Res.ok (D.bl false, o) | _ => .bad) = _
        rw [ow]
end Du

namespace Du
open PySem PySem.Spec PyProof.Rows L2 Dear
/-! ### k17: the program's look at a tree -/
set_option maxHeartbeats 400000
theorem lett_in {T : Tg} {c : Nat} (hc : c ∈ T.codes) : dIn true (.str (txt [c])) (lettD T.codes) = .ok (.bl false) := by
  have e : lettD T.codes = .lst ((T.codes.map fun c => [c]).map fun v => .str (txt v)) := by rw [List.map_map]; rfl
  rw [e, dIn_txts, decide_eq_true (List.mem_map.mpr ⟨c, hc, rfl⟩)]
  rfl
theorem can_come_e {T : Tg} (h : Good T) {b : List Nat} {c : Nat} (hl : b.length ≤ 1000) : F_can_come [T.d, .str (txt b), .str (txt [c])] = .ok (.bl (T.cm b c)) := by
  have h8 := h.l1
  show outR (B_can_come [some (.frz T.d), some (.frz (.str (txt b))), some (.frz (.str (txt [c])))]) = _
  have d3 : dIx T.d (.int 3) = .ok (.int T.long) := by simp [Tg.d]
  have d1 : dIx T.d (.int 1) = .ok (txs T.firsts) := by simp [Tg.d]
  have d2 : dIx T.d (.int 2) = .ok (txs T.pairs) := by simp [Tg.d]
  have e0 : (Str.ofString "" : Str) = txt [] := rfl
  have lb : dLen [.str (txt b)] = .ok (.int (b.length : Nat)) := by simp [txt_length, show b.length ≤ 16777215 by omega]
  unfold Tg.cm
  by_cases h1 : b.length < T.long
  · have h1' : ¬ ((T.long : Int) ≤ (b.length : Int)) := by omega
    rw [decide_eq_true h1, Bool.true_and]
    by_cases h2 : b = []
    · subst h2
      have i1 : dIn true (.str (txt [c])) (txs T.firsts) = .ok (.bl (!decide ([c] ∈ T.firsts))) := by rw [dIn_txts, Bool.true_xor]
      have : T.comes (lastL []) c = !decide ([c] ∈ T.firsts) := rfl
      rw [this]
      generalize txs T.firsts = fs at *
      generalize txs T.pairs = ps at *
      generalize T.d = td at *
      simp only [List.length_nil] at h1' lb
      have hz : ¬ T.long = 0 := by omega
      simp [B_can_come_u, d3, d1, lb, hz, e0, i1]
    · obtain ⟨v, x, rfl⟩ : ∃ v x, b = v ++ [x] := ⟨b.dropLast, b.getLast h2, (List.dropLast_concat_getLast h2).symm⟩
      have lx : lastL (v ++ [x]) = [x] := by rw [lastL_eq, List.getLast?_concat]; rfl
      have nb : ¬ txt (v ++ [x]) = txt [] := fun z => h2 (txt_inj z)
      have il := dIx_last (w := v) (c := x) (by simp at hl; omega)
      have i2 : dIn true (.str (txt ([x] ++ [c]))) (txs T.pairs) = .ok (.bl (T.comes (lastL (v ++ [x])) c)) := by
        have z : T.comes [x] c = !decide ([x] ++ [c] ∈ T.pairs) := by
          unfold Tg.comes
          rw [if_neg (by simp)]
        rw [dIn_txts, lx, Bool.true_xor, z]
      have ad : dAdd (.str (txt [x])) (.str (txt [c])) = .ok (.str (txt ([x] ++ [c]))) := by simp [txt_app, txt_length]
      generalize T.comes (lastL (v ++ [x])) c = cc at *
      generalize txs T.firsts = fs at *
      generalize txs T.pairs = ps at *
      generalize T.d = td at *
      generalize (v ++ [x]).length = bl at *
      generalize txt (v ++ [x]) = tb at *
      generalize txt ([x] ++ [c]) = t2 at *
      simp [B_can_come_u, d3, d2, lb, h1', e0, nb, il, ad, i2]
  · have h1' : ((T.long : Int) ≤ (b.length : Int)) := by omega
    rw [decide_eq_false h1, Bool.false_and]
    generalize txs T.firsts = fs at *
    generalize txs T.pairs = ps at *
    generalize T.d = td at *
    simp [B_can_come_u, d3, lb, h1']
theorem branch_e {T : Tg} (h : Good T) {b : List Nat} {c : Nat} {d : D} {last : Int} (hc : c ∈ T.codes) (hl : b.length ≤ 1000) : FX_look_at_branch [T.d, .str (txt b), brE (c, d), .int last] = if (T.rk c : Int) ≤ last ∨ T.cm b c = false then .exc ⟨"NoTree", []⟩ else .ok (.int (T.rk c : Nat)) := by
  have cm := can_come_e h (b := b) (c := c) hl
  have li := lett_in (T := T) hc
  have ix := index_e hc
  have cd : eComp [6] (iAny (eOp dIx (eVar 0) (eC (.int 0)))) (tgN 6) bYes (eOp dIx (eVar 6) (eC (.int 0))) [some T.d, some (.str (txt b)), some (brE (c, d)), some (.int last), none, none, none] = .ok (lettD T.codes) := by
    have := codes_e (vs := [6]) (i := 6) (x := [some T.d, some (.str (txt b)), some (brE (c, d)), some (.int last), none, none, none]) h rfl rfl (by decide) (by simp)
    rw [this]
    unfold txs lettD
    rw [List.map_map]
    rfl
  have em : ∀ x0 x1 x3 x5 x6 : Option D, eM isLst dIndex (eVar 4) (aCons (eOp dIx (eVar 2) (eC (.int 0))) aNil) [x0, x1, some (brE (c, d)), x3, some (lettD T.codes), x5, x6] = .ok (.int (T.rk c : Nat)) := fun _ _ _ _ _ => by
    rw [eM_of2 (a := lettD T.codes) (as := [.str (txt [c])]) rfl rfl (by simp)]
    exact ix
  have s1 : (sOwn 4 [] (eComp [6] (iAny (eOp dIx (eVar 0) (eC (.int 0)))) (tgN 6) bYes (eOp dIx (eVar 6) (eC (.int 0))))) [some (.frz T.d), some (.frz (.str (txt b))), some (.frz (brE (c, d))), some (.frz (.int last)), none, none, none] = .nx [some (.frz T.d), some (.frz (.str (txt b))), some (.frz (brE (c, d))), some (.frz (.int last)), some (.own false (lettD T.codes)), none, none] := by
    rw [own_to (d := lettD T.codes) cd]
    generalize lettD T.codes = nd
    generalize T.d = td
    simp
  show outR (BX_look_at_branch [some (.frz T.d), some (.frz (.str (txt b))), some (.frz (brE (c, d))), some (.frz (.int last)), none, none, none]) = _
  have i0 : dIx (brE (c, d)) (.int 0) = .ok (.str (txt [c])) := by simp
  have ln : dLen [brE (c, d)] = .ok (.int 2) := by simp
  have ik : isKind "tuple" (brE (c, d)) = .ok (.bl true) := rfl
  have cn : nx F_can_come [T.d, .str (txt b), .str (txt [c])] = .ok (.bl (T.cm b c)) := by unfold nx; rw [cm]
  have pre : ∀ {g : Env → Out} {o' : Out}, g [some (.frz T.d), some (.frz (.str (txt b))), some (.frz (brE (c, d))), some (.frz (.int last)), some (.own false (lettD T.codes)), some (.frz (.int (T.rk c : Nat))), none] = o' →
      (sSeq (sOwn 4 [] (eComp [6] (iAny (eOp dIx (eVar 0) (eC (.int 0)))) (tgN 6) bYes (eOp dIx (eVar 6) (eC (.int 0)))))
(sSeq (sIf [4] (bOr (bNot (bT (eIsi "tuple" (eVar 2)))) (bOr (bT (eOp dNe (eCall dLen (aCons (eVar 2) aNil)) (eC (.int 2)))) (bT (eOp (dIn true) (eOp dIx (eVar 2) (eC (.int 0))) (eVar 4)))))
(sRaise ⟨"NoTree", []⟩)
sPass)
(sSeq (sAsg [4] (eM isLst dIndex (eVar 4) (aCons (eOp dIx (eVar 2) (eC (.int 0))) aNil)) (tgN 5)) g))) [some (.frz T.d), some (.frz (.str (txt b))), some (.frz (brE (c, d))), some (.frz (.int last)), none, none, none] = o' := by
    intro g o' hg
    refine seq_to s1 (seq_to (ρ' := [some (.frz T.d), some (.frz (.str (txt b))), some (.frz (brE (c, d))), some (.frz (.int last)), some (.own false (lettD T.codes)), none, none]) ?_ (seq_to ?_ hg))
    · generalize lettD T.codes = nd at *
      generalize T.d = td at *
      generalize brE (c, d) = be at *
      simp [i0, ln, ik, li]
    · have e := em (some T.d) (some (.str (txt b))) (some (.int last)) none none
      generalize lettD T.codes = nd at *
      generalize T.d = td at *
      generalize brE (c, d) = be at *
      rw [asg_to (d := .int (T.rk c : Nat)) e]
      rfl
  rw [BX_look_at_branch_u, pre rfl]
  generalize lettD T.codes = nd at *
  generalize T.d = td at *
  generalize brE (c, d) = be at *
  by_cases c1 : (T.rk c : Int) ≤ last
  · rw [if_pos (.inl c1)]
    simp [c1]
  · cases c2 : T.cm b c with
    | false =>
      rw [if_pos (.inr rfl)]
      rw [c2] at cn
      simp [c1, i0, cn]
    | true =>
      rw [if_neg (by rintro (z | z); exact c1 z; cases z)]
      rw [c2] at cn
      simp [c1, i0, cn]
def lkS (T : Tg) (many : Nat) (thing : D) (b : List Nat) (fo : D) (last : Int) (x6 x7 x8 : Option Slot) : Env := [some (.frz T.d), some (.frz (.int many)), some (.own true fo), some (.frz (.str (txt b))), some (.frz thing), some (.frz (.int last)), x6, x7, x8]
theorem whole_e {d : D} (hd : (∃ n, d = .int n) ∨ d = .bl true ∨ ∃ xs, d = .lst xs) : nx F_is_whole [d] = .ok (.bl (numD d).isSome) := by
  have : F_is_whole [d] = .ok (.bl (numD d).isSome) := by
    show outR (B_is_whole [some (.frz d)]) = _
    rcases hd with ⟨n, rfl⟩ | rfl | ⟨xs, rfl⟩ <;> simp [B_is_whole_u, numD]
  unfold nx
  rw [this]
section
variable {T : Tg} {many : Nat} {thing : D} {b : List Nat} {fo : Fo} {last : Int} {c : Nat} {rec : List D → RsX}
theorem look_pre (h : Good T) (hl : b.length ≤ 1000) (hc : c ∈ T.codes) {d : D} {g : Env → Out} :
    (sSeq (sAsg [] (eCall FX_look_at_branch (aCons (eVar 0) (aCons (eVar 3) (aCons (eVar 6) (aCons (eVar 5) aNil))))) (tgN 5)) (sSeq (sAsg [] (eVar 6) (tgT [(tgN 7), (tgN 8)])) g)) (lkS T many thing b (foD fo) last (some (.frz (brE (c, d)))) none none) =
    if (T.rk c : Int) ≤ last ∨ T.cm b c = false then .ex ⟨"NoTree", []⟩ (lkS T many thing b (foD fo) last (some (.frz (brE (c, d)))) none none)
    else g (lkS T many thing b (foD fo) (T.rk c : Nat) (some (.frz (brE (c, d)))) (some (.frz (.str (txt [c])))) (some (.frz d))) := by
  have be := branch_e h (d := d) (last := last) hc hl
  have tg : tgT [(tgN 7), (tgN 8)] (brE (c, d)) = .ok [(7, .str (txt [c])), (8, d)] := by simp
  unfold lkS
  split
  · rename_i hh
    rw [if_pos hh] at be
    generalize T.d = td at *
    generalize brE (c, d) = bd at *
    generalize foD fo = kv at *
    simp [be]
  · rename_i hh
    rw [if_neg hh] at be
    generalize T.d = td at *
    generalize brE (c, d) = bd at *
    generalize foD fo = kv at *
    refine seq_to (ρ' := [some (.frz td), some (.frz (.int many)), some (.own true kv), some (.frz (.str (txt b))), some (.frz thing), some (.frz (.int (T.rk c : Nat))), some (.frz bd), none, none]) (by simp [be]) ?_
    refine seq_to (by
      rw [sAsg_e]
      show atR (asgC [] _ (tgT [(tgN 7), (tgN 8)])) _ (.ok bd) = _
      rw [atR_ok, asgC_e, tg]
      rfl) ?_
    by_cases z : imm bd = true <;> simp [z]
end
end Du

namespace Du
open PySem PySem.Spec PyProof.Rows L2 Dear
/-! ### calls that change what is handed in and may raise: reckoned -/
section
variable {ρ : Env}
def ioXE (i : Nat) (t : Bool) (ρ : Env) : RsX → MO D
  | .ok d o => .ok d (ρ.set i (some (.own t o)))
  | .ex x o => .ex x (ρ.set i (some (.own t o)))
  | .bad => .bad
@[simp] theorem ioXE_ok {i : Nat} {t : Bool} {d o : D} : ioXE i t ρ (.ok d o) = .ok d (ρ.set i (some (.own t o))) := id rfl
@[simp] theorem ioXE_ex {i : Nat} {t : Bool} {x : Ex} {o : D} : ioXE i t ρ (.ex x o) = .ex x (ρ.set i (some (.own t o))) := id rfl
def ioXD (j i : Nat) (f : List D → RsX) (as : List D) (ρ : Env) : Option (Bool × D) → MO D
  | some (t, o) => ioXE i t ρ (f (as.insertIdx j o))
  | none => .bad
@[simp] theorem ioXD_e {j i : Nat} {f : List D → RsX} {as : List D} {t : Bool} {o : D} : ioXD j i f as ρ (some (t, o)) = ioXE i t ρ (f (as.insertIdx j o)) := id rfl
def ioXB (j i : Nat) (f : List D → RsX) (as : List D) (ρ : Env) : MO D := ioXD j i f as ρ (ownS ρ i)
@[simp] theorem ioXB_e {j i : Nat} {f : List D → RsX} {as : List D} : ioXB j i f as ρ = ioXD j i f as ρ (ownS ρ i) := id rfl
def ioXA (j i : Nat) (f : List D → RsX) (m : Env → MO (List D)) (ρ : Env) : Option (Bool × D) → MO D
  | some _ => md (ioXB j i f) (m ρ)
  | none => .bad
@[simp] theorem ioXA_e {j i : Nat} {f : List D → RsX} {m : Env → MO (List D)} {x : Bool × D} : ioXA j i f m ρ (some x) = md (ioXB j i f) (m ρ) := id rfl
@[simp] theorem mIOX_e {j i : Nat} {f : List D → RsX} {m : Env → MO (List D)} : mIOX j i f m ρ = ioXA j i f m ρ (ownS ρ i) := by
  unfold mIOX ioXA
  cases ownS ρ i with
  | none => rfl
  | some x =>
    show (m ρ).bind _ = md _ (m ρ)
    cases m ρ with
    | ok as ρ1 =>
      show (match ownS ρ1 i with | some (t, o) => _ | none => _) = ioXD j i f as ρ1 (ownS ρ1 i)
      cases ownS ρ1 i with
      | none => rfl
      | some y =>
        obtain ⟨t, o⟩ := y
        show (match f (as.insertIdx j o) with | .ok d o' => _ | .ex x o' => _ | .bad => _) = ioXE i t ρ1 (f (as.insertIdx j o))
        cases f (as.insertIdx j o) <;> rfl
    | ex x ρ1 => rfl
    | bad => rfl
end
end Du

namespace Du
open PySem PySem.Spec PyProof.Rows L2 Dear
/-! ### k17: the program's look at a tree, on -/
set_option maxHeartbeats 400000
theorem last_at {T : Tg} (h : Good T) {c : Nat} (hc : c ∈ T.codes) : ∃ l, dIx T.d (.int 0) = .ok (.lst (T.signs.map rowD)) ∧ dIx (.lst (T.signs.map rowD)) (.int (T.rk c : Nat)) = .ok l ∧ ∃ v, dIx l (.int 2) = .ok v ∧ dNotN v .non = .ok (.bl (T.ends c)) := by
  have g := rk_get hc
  unfold Tg.codes at g
  rw [List.getElem?_map] at g
  obtain ⟨r, hr, rfl⟩ := Option.map_eq_some_iff.mp g
  refine ⟨rowD r, by simp [Tg.d], ?_, r.2.2, by simp [rowD], ?_⟩
  · rw [dIx_lst, atI_nat (by omega), Int.toNat_natCast, List.getElem?_map, hr]
    rfl
  · rw [ends_of h.nd (List.mem_of_getElem? hr)]
    rfl
section
variable {T : Tg} {many : Nat} {thing : D} {b : List Nat} {fo : Fo} {last : Int} {c : Nat} {rec : List D → RsX}
theorem look_num (h : Good T) (hc : c ∈ T.codes) (ho : FoOk many fo) (hm : many ≤ 1000) (hl : b.length ≤ 1000) {n : Int} {be : D} :
    (sIf [] (bNot (bT (eCall (nx F_is_whole) (aCons (eVar 8) aNil))))
(sExprM (mIOX 2 2 rec (mCons (mP [] (eVar 0)) (mCons (mP [] (eVar 1)) (mAP [] (aCons (eOp dAdd (eVar 3) (eVar 7)) (aCons (eVar 8) aNil)))))))
(sIf [2] (bAnd (bT (eChain dLe dLt (eC (.int 0)) (eVar 8) (eVar 1))) (bAnd (bT (eOp (dIn true) (eVar 8) (eVar 2))) (bT (eOp dNotN (eOp dIx (eOp dIx (eOp dIx (eVar 0) (eC (.int 0))) (eVar 5)) (eC (.int 2))) (eC .non)))))
(sPutD 2 [] (eOp dAdd (eVar 3) (eVar 7)) (eVar 8))
(sRaise ⟨"NoTree", []⟩))) (lkS T many thing b (foD fo) (T.rk c : Nat) (some (.frz be)) (some (.frz (.str (txt [c])))) (some (.frz (.int n)))) =
    if 0 ≤ n ∧ n < many ∧ (∀ p ∈ fo, (p.1 : Int) ≠ n) ∧ T.ends c = true then .nx (lkS T many thing b (foD (fo ++ [(n.toNat, b ++ [c])])) (T.rk c : Nat) (some (.frz be)) (some (.frz (.str (txt [c])))) (some (.frz (.int n))))
    else .ex ⟨"NoTree", []⟩ (lkS T many thing b (foD fo) (T.rk c : Nat) (some (.frz be)) (some (.frz (.str (txt [c])))) (some (.frz (.int n)))) := by
  have wh := whole_e (d := .int n) (.inl ⟨n, rfl⟩)
  have wh : nx F_is_whole [.int n] = .ok (.bl true) := wh
  obtain ⟨l, q1, q2, v, q3, q4⟩ := last_at h hc
  have fin := fo_in (fo := fo) (n := n) (neg := true)
  have fl := ho.len
  have ta : dAdd (.str (txt b)) (.str (txt [c])) = .ok (.str (txt (b ++ [c]))) := by simp [txt_app, txt_length, show b.length + 1 ≤ 16777215 by omega]
  unfold lkS
  split
  · rename_i hh
    obtain ⟨n0, n1, n2, n3⟩ := hh
    obtain ⟨m, rfl⟩ : ∃ m : Nat, n = m := ⟨n.toNat, by omega⟩
    rw [fo_get n2] at fin
    have pt := fo_put (w := b ++ [c]) n2
    rw [n3] at q4
    have lf : (fo.map fun p => (D.int (p.1 : Nat), D.str (txt p.2))).length ≤ 16777215 := by rw [List.length_map]; omega
    have z : ((m : Int)).toNat = m := by omega
    rw [z]
    unfold foD at fin ⊢
    rw [← pt]
    generalize D.lst (T.signs.map rowD) = sg at *
    generalize T.d = td at *
    generalize (fo.map fun p => (D.int (p.1 : Nat), D.str (txt p.2))) = kv at *
    generalize txt (b ++ [c]) = t2 at *
    simp [n1, fin, wh, q1, q2, q3, q4, lf, ta]
  · rename_i hh
    by_cases n0 : 0 ≤ n
    · by_cases n1 : n < many
      · by_cases n2 : ∀ p ∈ fo, (p.1 : Int) ≠ n
        · have n3 : T.ends c = false := by
            cases e : T.ends c with
            | false => rfl
            | true => exact absurd ⟨n0, n1, n2, e⟩ hh
          rw [fo_get n2] at fin
          rw [n3] at q4
          generalize D.lst (T.signs.map rowD) = sg at *
          generalize T.d = td at *
          generalize foD fo = kv at *
          simp [n0, n1, fin, wh, q1, q2, q3, q4]
        · rw [fo_get2 n2] at fin
          generalize D.lst (T.signs.map rowD) = sg at *
          generalize T.d = td at *
          generalize foD fo = kv at *
          simp [n0, n1, fin, wh]
      · generalize D.lst (T.signs.map rowD) = sg at *
        generalize T.d = td at *
        generalize foD fo = kv at *
        simp [n0, n1, wh]
    · generalize D.lst (T.signs.map rowD) = sg at *
      generalize T.d = td at *
      generalize foD fo = kv at *
      simp [n0, wh]
def lkR (S : D → Env) : RsX → Out
  | .ok _ o => .nx (S o)
  | .ex x o => .ex x (S o)
  | .bad => .bad
theorem look_node (hl : b.length ≤ 1000) {d be : D} {r : RsX} (hw : nx F_is_whole [d] = .ok (.bl false)) (hr : rec [T.d, .int many, foD fo, .str (txt (b ++ [c])), d] = r) :
    (sIf [] (bNot (bT (eCall (nx F_is_whole) (aCons (eVar 8) aNil))))
(sExprM (mIOX 2 2 rec (mCons (mP [] (eVar 0)) (mCons (mP [] (eVar 1)) (mAP [] (aCons (eOp dAdd (eVar 3) (eVar 7)) (aCons (eVar 8) aNil)))))))
(sIf [2] (bAnd (bT (eChain dLe dLt (eC (.int 0)) (eVar 8) (eVar 1))) (bAnd (bT (eOp (dIn true) (eVar 8) (eVar 2))) (bT (eOp dNotN (eOp dIx (eOp dIx (eOp dIx (eVar 0) (eC (.int 0))) (eVar 5)) (eC (.int 2))) (eC .non)))))
(sPutD 2 [] (eOp dAdd (eVar 3) (eVar 7)) (eVar 8))
(sRaise ⟨"NoTree", []⟩))) (lkS T many thing b (foD fo) last (some (.frz be)) (some (.frz (.str (txt [c])))) (some (.frz d))) =
    lkR (fun o => lkS T many thing b o last (some (.frz be)) (some (.frz (.str (txt [c])))) (some (.frz d))) r := by
  have ta : dAdd (.str (txt b)) (.str (txt [c])) = .ok (.str (txt (b ++ [c]))) := by simp [txt_app, txt_length, show b.length + 1 ≤ 16777215 by omega]
  unfold lkS
  generalize T.d = td at *
  generalize foD fo = kv at *
  generalize txt (b ++ [c]) = t2 at *
  cases r <;> simp [hw, ta, hr, lkR] <;> rfl
theorem look_loop (h : Good T) {B k : Nat} {recP : List Nat → Fo → D → Option Fo} (hl : b.length ≤ 1000) (hm : many ≤ 1000)
    (hok : ∀ c fo d fo', FoOk many fo → recP (b ++ [c]) fo d = some fo' → FoOk many fo')
    (hno : ∀ c fo, T.cm b c = true → recP (b ++ [c]) fo (.bl true) = none ∧ ∃ o, rec [T.d, .int many, foD fo, .str (txt (b ++ [c])), .bl true] = .ex ⟨"NoTree", []⟩ o)
    (hr : ∀ c fo l, c ∈ T.codes → T.cm b c = true → FoOk many fo → TW lfT T.codes B k (brD l) → match recP (b ++ [c]) fo (brD l) with
      | some fo' => rec [T.d, .int many, foD fo, .str (txt (b ++ [c])), brD l] = .ok .non (foD fo')
      | none => ∃ o, rec [T.d, .int many, foD fo, .str (txt (b ++ [c])), brD l] = .ex ⟨"NoTree", []⟩ o) : ∀ (l : List (Nat × D)) (last : Int) (fo : Fo), (∀ e ∈ l, e.1 ∈ T.codes ∧ TW lfT T.codes B k e.2) → FoOk many fo →
      match rdL T many recP b last fo l with
      | some fo' => ∃ last', forL (tgN 6) (BX_look_at_tree_1 rec) [6, 7, 8] (l.map brE) (lkS T many thing b (foD fo) last none none none) = .nx (lkS T many thing b (foD fo') last' none none none)
      | none => ∃ ρ o, forL (tgN 6) (BX_look_at_tree_1 rec) [6, 7, 8] (l.map brE) (lkS T many thing b (foD fo) last none none none) = .ex ⟨"NoTree", []⟩ ρ ∧ ownS ρ 2 = some (true, o)
  | [], last, fo, _, _ => ⟨last, rfl⟩
  | (c, d) :: l, last, fo, ht, ho => by
    obtain ⟨hc, td⟩ := ht (c, d) List.mem_cons_self
    have ht' := fun e he => ht e (List.mem_cons_of_mem (c, d) he)
    have e0 : setS (lkS T many thing b (foD fo) last none none none) [(6, brE (c, d))] = lkS T many thing b (foD fo) last (some (.frz (brE (c, d)))) none none := rfl
    have shape : (∃ n, d = .int n) ∨ d = .bl true ∨ ∃ l2, d = brD l2 := by
      cases k with
      | zero =>
        rcases td with z | z
        · exact .inl z
        · exact .inr (.inl z)
      | succ k =>
        rcases td with (z | z) | ⟨l2, z, _⟩
        · exact .inl z
        · exact .inr (.inl z)
        · exact .inr (.inr ⟨l2, z⟩)
    rw [List.map_cons, forL_cons, tgN_e, forT_ok, e0, BX_look_at_tree_1_u, look_pre h hl hc]
    unfold rdL
    by_cases c1 : (T.rk c : Int) ≤ last ∨ T.cm b c = false
    · rw [if_pos c1, if_pos c1]
      exact ⟨_, foD fo, rfl, rfl⟩
    · rw [if_neg c1, if_neg c1]
      have hcm : T.cm b c = true := by
        cases e : T.cm b c with
        | true => rfl
        | false => exact absurd (.inr e) c1
      rcases shape with ⟨n, rfl⟩ | rfl | ⟨l2, rfl⟩
      · rw [look_num h hc ho hm hl]
        simp only [numD]
        by_cases c3 : 0 ≤ n ∧ n < many ∧ (∀ p ∈ fo, (p.1 : Int) ≠ n) ∧ T.ends c = true
        · rw [if_pos c3, if_pos c3, forK_nx]
          exact look_loop h hl hm hok hno hr l (T.rk c : Nat) _ ht' (ho.add (by omega) fun p hp z => c3.2.2.1 p hp (by omega))
        · rw [if_neg c3, if_neg c3]
          exact ⟨_, foD fo, rfl, rfl⟩
      · obtain ⟨z1, o, z2⟩ := hno c fo hcm
        have nn : numD (.bl true) = none := rfl
        simp only [nn, z1]
        rw [look_node hl (whole_e (d := .bl true) (.inr (.inl rfl))) z2]
        exact ⟨_, o, rfl, rfl⟩
      · have q := hr c fo l2 hc hcm ho td
        have nn : numD (brD l2) = none := rfl
        have wh := whole_e (d := brD l2) (.inr (.inr ⟨_, rfl⟩))
        rw [nn] at wh
        simp only [nn]
        cases e : recP (b ++ [c]) fo (brD l2) with
        | some fo' =>
          rw [e] at q
          rw [look_node hl wh q]
          simp only [lkR]
          rw [forK_nx]
          exact look_loop h hl hm hok hno hr l (T.rk c : Nat) fo' ht' (hok _ _ _ _ ho e)
        | none =>
          rw [e] at q
          obtain ⟨o, q⟩ := q
          rw [look_node hl wh q]
          exact ⟨_, o, rfl, rfl⟩
end
theorem look_tr {T : Tg} {many N : Nat} {b : List Nat} {fo : D} : FX_look_at_tree (N + 1) [T.d, .int many, fo, .str (txt b), .bl true] = .ex ⟨"NoTree", []⟩ fo := by
  show outIOX 2 (BX_look_at_tree (FX_look_at_tree N) [some (.frz T.d), some (.frz (.int many)), some (.own true fo), some (.frz (.str (txt b))), some (.frz (.bl true)), none, none, none, none]) = _
  have : BX_look_at_tree (FX_look_at_tree N) [some (.frz T.d), some (.frz (.int many)), some (.own true fo), some (.frz (.str (txt b))), some (.frz (.bl true)), none, none, none, none] = .ex ⟨"NoTree", []⟩ [some (.frz T.d), some (.frz (.int many)), some (.own true fo), some (.frz (.str (txt b))), some (.frz (.bl true)), none, none, none, none] := by
    rw [BX_look_at_tree_u]
    generalize T.d = td
    simp
  rw [this]
  rfl
theorem look_e' {T : Tg} (h : Good T) {B many : Nat} (hcs : ∀ c ∈ T.codes, c < 128) (hm : many ≤ 1000) : ∀ (k N : Nat) (l : List (Nat × D)) (b : List Nat) (fo : Fo), k ≤ 20 → TL lfT T.codes B k l → k + 2 ≤ N → b.length + k ≤ 1000 → FoOk many fo →
    match rdT T many (k + 1) b fo (brD l) with
    | some fo' => FX_look_at_tree N [T.d, .int many, foD fo, .str (txt b), brD l] = .ok .non (foD fo')
    | none => ∃ o, FX_look_at_tree N [T.d, .int many, foD fo, .str (txt b), brD l] = .ex ⟨"NoTree", []⟩ o
  | _, 0, _, _, _, _, _, hN, _, _ => absurd hN (by omega)
  | k, N + 1, l, b, fo, hk, t, hN, hl, ho => by
    have em := br_empty hcs hk t
    have key : ∀ {o' : Out}, BX_look_at_tree (FX_look_at_tree N) [some (.frz T.d), some (.frz (.int many)), some (.own true (foD fo)), some (.frz (.str (txt b))), some (.frz (brD l)), none, none, none, none] = o' → FX_look_at_tree (N + 1) [T.d, .int many, foD fo, .str (txt b), brD l] = outIOX 2 o' := fun e => by rw [← e]; rfl
    cases l with
    | nil =>
      rw [rdT_nil]
      have em : dEq (brD []) (.lst []) = .ok (.bl true) := em
      refine ⟨foD fo, ?_⟩
      rw [key (o' := .ex ⟨"NoTree", []⟩ [some (.frz T.d), some (.frz (.int many)), some (.own true (foD fo)), some (.frz (.str (txt b))), some (.frz (brD [])), none, none, none, none]) ?_]
      · rfl
      · rw [BX_look_at_tree_u]
        generalize T.d = td
        generalize foD fo = kv
        simp [em]
    | cons x l =>
      have em : dEq (brD (x :: l)) (.lst []) = .ok (.bl false) := em
      have lp := look_loop (thing := brD (x :: l)) (rec := FX_look_at_tree N) (b := b) (many := many) h (by omega) hm (recP := rdT T many k) (fun c fo d fo' => rdT_ok k (b ++ [c]) fo d fo') (fun c fo _ => ⟨rdT_no (fun l z => (nomatch z)), by
        obtain ⟨M, rfl⟩ : ∃ M, N = M + 1 := ⟨N - 1, by omega⟩
        exact ⟨_, look_tr⟩⟩) (fun c fo l2 hc hcm ho t2 => by
        obtain ⟨k', rfl, t3⟩ : ∃ k', k = k' + 1 ∧ TL lfT T.codes B k' l2 := by
          cases k with
          | zero => rcases t2 with ⟨n, z⟩ | z <;> cases z
          | succ k =>
            rcases t2 with (⟨n, z⟩ | z) | ⟨l3, z, q1, q2⟩
            · cases z
            · cases z
            · have := brD_inj z
              subst this
              exact ⟨k, rfl, q1, q2⟩
        exact look_e' h hcs hm k' N l2 (b ++ [c]) fo (by omega) t3 (by omega) (by rw [List.length_append, List.length_singleton]; omega) ho) (x :: l) (-1) fo t.2 ho
      rw [rdT_br]
      have body : BX_look_at_tree (FX_look_at_tree N) [some (.frz T.d), some (.frz (.int many)), some (.own true (foD fo)), some (.frz (.str (txt b))), some (.frz (brD (x :: l))), none, none, none, none] = forL (tgN 6) (BX_look_at_tree_1 (FX_look_at_tree N)) [6, 7, 8] ((x :: l).map brE) (lkS T many (brD (x :: l)) b (foD fo) (-1) none none none) := by
        rw [BX_look_at_tree_u]
        refine seq_to (ρ' := [some (.frz T.d), some (.frz (.int many)), some (.own true (foD fo)), some (.frz (.str (txt b))), some (.frz (brD (x :: l))), none, none, none, none]) ?_ (seq_to (ρ' := lkS T many (brD (x :: l)) b (foD fo) (-1) none none none) ?_ ?_)
        · obtain ⟨xs, hx⟩ : ∃ xs, brD (x :: l) = .lst xs := ⟨_, rfl⟩
          rw [hx] at em ⊢
          generalize T.d = td
          generalize foD fo = kv
          simp [em]
        · generalize brD (x :: l) = bd
          unfold lkS
          generalize T.d = td
          generalize foD fo = kv
          simp
        · rw [for_to (ds := (x :: l).map brE) (ρ' := lkS T many (brD (x :: l)) b (foD fo) (-1) none none none) (by simp [lkS]) (by simp [lkS]) rfl]
      cases e : rdL T many (rdT T many k) b (-1) fo (x :: l) with
      | some fo' =>
        rw [e] at lp
        obtain ⟨last', lp⟩ := lp
        show FX_look_at_tree (N + 1) _ = _
        rw [key (body.trans lp)]
        rfl
      | none =>
        rw [e] at lp
        obtain ⟨ρ, o, lp, ow⟩ := lp
        refine ⟨o, ?_⟩
        rw [key (body.trans lp)]
        show (match ownS ρ 2 with | some (true, o) => RsX.ex ⟨"NoTree", []⟩ o | _ => .bad) = _
        rw [ow]
end Du

namespace Du
open PySem PySem.Spec PyProof.Rows L2 Dear
/-! ### k17: what was read grows again -/
set_option maxHeartbeats 400000
abbrev Ends' := List (List Nat × Nat)
noncomputable def cutE (rec : D → Ends') (d : D) : Ends' := match numD d with
  | some n => [([], n.toNat)]
  | none => rec d
noncomputable def lvL (rec : D → Ends') (l : List (Nat × D)) : Ends' := l.flatMap fun e => (cutE rec e.2).map fun p => (e.1 :: p.1, p.2)
noncomputable def lvD : Nat → D → Ends'
  | 0, _ => []
  | k + 1, d => match unbr d with
    | some l => lvL (lvD k) l
    | none => []
def Ris (T : Tg) : Nat → D → Prop
  | 0, _ => False
  | k + 1, d => ∃ l, d = brD l ∧ l ≠ [] ∧ (l.Pairwise fun a b => T.rk a.1 < T.rk b.1) ∧ ∀ e ∈ l, (∃ n : Nat, e.2 = .int n) ∨ (numD e.2 = none ∧ Ris T k e.2)
theorem lvD_br {k : Nat} {l : List (Nat × D)} : lvD (k + 1) (brD l) = lvL (lvD k) l := by
  show (match unbr (brD l) with | some l => lvL (lvD k) l | none => []) = _
  rw [unbr_brD]
theorem rdL_lv {T : Tg} {many : Nat} {recP : List Nat → Fo → D → Option Fo} {recL : D → Ends'} {recR : D → Prop} {b : List Nat}
    (hr : ∀ c fo d fo', recP (b ++ [c]) fo d = some fo' → fo' = fo ++ (recL d).map (fun p => (p.2, (b ++ [c]) ++ p.1)) ∧ recR d) : ∀ (l : List (Nat × D)) (last : Int) (fo fo' : Fo), rdL T many recP b last fo l = some fo' →
      fo' = fo ++ (lvL recL l).map (fun p => (p.2, b ++ p.1)) ∧ (∀ e ∈ l, last < T.rk e.1) ∧ (l.Pairwise fun a b => T.rk a.1 < T.rk b.1) ∧ ∀ e ∈ l, (∃ n : Nat, e.2 = .int n) ∨ (numD e.2 = none ∧ recR e.2)
  | [], last, fo, fo', e => by
    cases e
    exact ⟨by simp [lvL], fun _ h => (nomatch h), .nil, fun _ h => (nomatch h)⟩
  | x :: l, last, fo, fo', e => by
    unfold rdL at e
    split at e
    · cases e
    · rename_i c1
      have c1' : last < (T.rk x.1 : Int) := by
        by_cases z : (T.rk x.1 : Int) ≤ last
        · exact absurd (.inl z) c1
        · omega
      have fin : ∀ fo2 : Fo, fo2 = fo ++ (cutE recL x.2).map (fun p => (p.2, b ++ (x.1 :: p.1))) → ((∃ n : Nat, x.2 = .int n) ∨ (numD x.2 = none ∧ recR x.2)) → rdL T many recP b (T.rk x.1) fo2 l = some fo' →
          fo' = fo ++ (lvL recL (x :: l)).map (fun p => (p.2, b ++ p.1)) ∧ (∀ e ∈ x :: l, last < T.rk e.1) ∧ ((x :: l).Pairwise fun a b => T.rk a.1 < T.rk b.1) ∧ ∀ e ∈ x :: l, (∃ n : Nat, e.2 = .int n) ∨ (numD e.2 = none ∧ recR e.2) := by
        intro fo2 h2 hx e2
        obtain ⟨q1, q2, q3, q4⟩ := rdL_lv hr l _ _ _ e2
        refine ⟨?_, fun y hy => ?_, List.pairwise_cons.mpr ⟨fun y hy => by have := q2 y hy; omega, q3⟩, fun y hy => ?_⟩
        · rw [q1, h2]
          unfold lvL
          rw [List.flatMap_cons, List.map_append, List.append_assoc, List.map_map]
          rfl
        · rcases List.mem_cons.mp hy with rfl | hy
          · exact c1'
          · have := q2 y hy; omega
        · rcases List.mem_cons.mp hy with rfl | hy
          · exact hx
          · exact q4 y hy
      split at e
      · rename_i n hn
        split at e
        · rename_i hc
          obtain ⟨n0, _⟩ := hc
          have hx : x.2 = .int n := by
            revert hn
            cases x.2 <;> intro hn <;> simp [numD] at hn
            rw [hn]
          refine fin _ ?_ (.inl ⟨n.toNat, by rw [hx]; congr 1; omega⟩) e
          unfold cutE
          rw [hn]
          rfl
        · cases e
      · rename_i hn
        split at e
        · rename_i fo2 e2
          obtain ⟨q1, q2⟩ := hr _ _ _ _ e2
          refine fin _ ?_ (.inr ⟨hn, q2⟩) e
          unfold cutE
          rw [hn, q1]
          congr 1
          refine List.map_congr_left fun p _ => ?_
          rw [List.append_assoc]
          rfl
        · cases e
theorem rdT_lv {T : Tg} {many : Nat} : ∀ (k : Nat) (b : List Nat) (fo : Fo) (d : D) (fo' : Fo), rdT T many k b fo d = some fo' → fo' = fo ++ (lvD k d).map (fun p => (p.2, b ++ p.1)) ∧ Ris T k d
  | 0, _, _, _, _, e => nomatch e
  | k + 1, b, fo, d, fo', e => by
    by_cases hd : ∃ l, d = brD l
    · obtain ⟨l, rfl⟩ := hd
      cases l with
      | nil => rw [rdT_nil] at e; cases e
      | cons x l =>
        rw [rdT_br] at e
        obtain ⟨q1, _, q3, q4⟩ := rdL_lv (recL := lvD k) (recR := Ris T k) (fun c fo d fo' => rdT_lv k (b ++ [c]) fo d fo') _ _ _ _ e
        rw [lvD_br]
        exact ⟨q1, x :: l, rfl, List.cons_ne_nil _ _, q3, q4⟩
    · rw [rdT_no fun l z => hd ⟨l, z⟩] at e
      cases e
theorem lvD_ne {k : Nat} {d : D} {p : List Nat × Nat} (h : p ∈ lvD k d) : p.1 ≠ [] := by
  cases k with
  | zero => cases h
  | succ k =>
    unfold lvD at h
    split at h
    · unfold lvL at h
      obtain ⟨e, _, h⟩ := List.mem_flatMap.mp h
      obtain ⟨q, _, rfl⟩ := List.mem_map.mp h
      exact List.cons_ne_nil _ _
    · cases h
theorem ris_lv {T : Tg} : ∀ {k : Nat} {d : D}, Ris T k d → lvD k d ≠ []
  | 0, _, h => h.elim
  | k + 1, d, h => by
    obtain ⟨l, rfl, ne, _, hl⟩ := h
    rw [lvD_br]
    match l, ne, hl with
    | x :: l, _, hl =>
      unfold lvL cutE
      rw [List.flatMap_cons]
      rcases hl x List.mem_cons_self with ⟨n, e⟩ | ⟨e, r⟩
      · rw [e]
        simp [numD]
      · have := ris_lv r
        rw [e]
        simp [this]
theorem belE_app {c : Nat} {a b : Ends'} : belE c (a ++ b) = belE c a ++ belE c b := by
  unfold belE
  rw [List.filter_append, List.map_append]
theorem belE_perm {c : Nat} {a b : Ends'} (h : a.Perm b) : (belE c a).Perm (belE c b) := (h.filter _).map _
theorem belE_part {c x : Nat} {a : Ends'} : belE c (a.map fun p => (x :: p.1, p.2)) = if x = c then a else [] := by
  unfold belE
  induction a with
  | nil => split <;> rfl
  | cons p a ih =>
    rw [List.map_cons, List.filter_cons]
    by_cases h : x = c
    · subst h
      rw [if_pos rfl] at ih ⊢
      rw [if_pos (by simp), List.map_cons, ih]
      rfl
    · rw [if_neg h] at ih ⊢
      rw [if_neg (by simpa using h), ih]
theorem belE_lv {rec : D → Ends'} {c : Nat} : ∀ {l : List (Nat × D)}, belE c (lvL rec l) = (l.filter fun e => decide (e.1 = c)).flatMap fun e => cutE rec e.2
  | [] => rfl
  | x :: l => by
    have ih := belE_lv (rec := rec) (c := c) (l := l)
    unfold lvL at ih ⊢
    rw [List.flatMap_cons, belE_app, belE_part, ih, List.filter_cons]
    by_cases h : x.1 = c
    · rw [if_pos h, if_pos (decide_eq_true h), List.flatMap_cons]
    · rw [if_neg h, if_neg (by simpa using h), List.nil_append]
theorem flatMap_same {α β : Type} {f g : α → List β} : ∀ {l : List α}, (∀ a ∈ l, f a = g a) → l.flatMap f = l.flatMap g
  | [], _ => rfl
  | a :: l, h => by rw [List.flatMap_cons, List.flatMap_cons, h a List.mem_cons_self, flatMap_same fun x hx => h x (List.mem_cons_of_mem _ hx)]
/-- at most one branch of a sign -/
theorem one_of {rk : Nat → Nat} {c : Nat} : ∀ {l : List (Nat × D)}, (l.Pairwise fun a b => rk a.1 < rk b.1) → (l.filter fun e => decide (e.1 = c)) = [] ∨ ∃ e ∈ l, e.1 = c ∧ (l.filter fun e => decide (e.1 = c)) = [e]
  | [], _ => .inl rfl
  | x :: l, h => by
    obtain ⟨h1, h2⟩ := List.pairwise_cons.mp h
    rw [List.filter_cons]
    by_cases z : x.1 = c
    · rw [if_pos (decide_eq_true z)]
      right
      refine ⟨x, List.mem_cons_self, z, ?_⟩
      congr 1
      rw [List.filter_eq_nil_iff]
      intro y hy e
      have e : y.1 = c := of_decide_eq_true e
      have := h1 y hy
      rw [z, e] at this
      omega
    · rw [if_neg (by simpa using z)]
      rcases one_of h2 with q | ⟨e, q1, q2, q3⟩
      · exact .inl q
      · exact .inr ⟨e, List.mem_cons_of_mem _ q1, q2, q3⟩
theorem sorted_parts {rk : Nat → Nat} : ∀ (cs : List Nat) (l : List (Nat × D)), (cs.Pairwise fun a b => rk a < rk b) → (l.Pairwise fun a b => rk a.1 < rk b.1) → (∀ e ∈ l, e.1 ∈ cs) → (cs.flatMap fun c => l.filter fun e => decide (e.1 = c)) = l
  | [], l, _, _, h => by
    cases l with
    | nil => rfl
    | cons x l => exact absurd (h x List.mem_cons_self) List.not_mem_nil
  | c :: cs, l, hc, hl, h => by
    obtain ⟨c1, c2⟩ := List.pairwise_cons.mp hc
    rw [List.flatMap_cons]
    cases l with
    | nil =>
      have := sorted_parts cs [] c2 .nil (fun _ h => (nomatch h))
      rw [this]
      rfl
    | cons x l =>
      obtain ⟨l1, l2⟩ := List.pairwise_cons.mp hl
      by_cases z : x.1 = c
      · have no : ∀ y ∈ l, y.1 ≠ c := fun y hy e => by
          have := l1 y hy
          rw [z, e] at this
          omega
        have f1 : ((x :: l).filter fun e => decide (e.1 = c)) = [x] := by
          rw [List.filter_cons, if_pos (decide_eq_true z)]
          congr 1
          rw [List.filter_eq_nil_iff]
          exact fun y hy e => no y hy (of_decide_eq_true e)
        have f2 : (cs.flatMap fun c => (x :: l).filter fun e => decide (e.1 = c)) = cs.flatMap fun c => l.filter fun e => decide (e.1 = c) := by
          refine flatMap_same fun c' hc' => ?_
          rw [List.filter_cons, if_neg]
          simp only [decide_eq_true_eq]
          intro e
          have := c1 c' hc'
          rw [← e, z] at this
          omega
        rw [f1, f2, sorted_parts cs l c2 l2 fun y hy => by
          rcases List.mem_cons.mp (h y (List.mem_cons_of_mem _ hy)) with q | q
          · exact absurd q (no y hy)
          · exact q]
        rfl
      · have xc : x.1 ∈ cs := by
          rcases List.mem_cons.mp (h x List.mem_cons_self) with q | q
          · exact absurd q z
          · exact q
        have no : ∀ y ∈ x :: l, y.1 ≠ c := fun y hy e => by
          have k1 := c1 _ xc
          rcases List.mem_cons.mp hy with rfl | hy
          · exact z e
          · have := l1 y hy
            rw [e] at this
            omega
        have f1 : ((x :: l).filter fun e => decide (e.1 = c)) = [] := by
          rw [List.filter_eq_nil_iff]
          exact fun y hy e => no y hy (of_decide_eq_true e)
        rw [f1, List.nil_append]
        exact sorted_parts cs (x :: l) c2 hl fun y hy => by
          rcases List.mem_cons.mp (h y hy) with q | q
          · exact absurd q (no y hy)
          · exact q
theorem isOne_no {l : Ends'} (h : ∀ p ∈ l, p.1 ≠ []) : isOne l = false := by
  cases e : isOne l with
  | false => rfl
  | true =>
    obtain ⟨n, rfl⟩ := isOne_e.mp e
    exact absurd rfl (h _ List.mem_cons_self)
/-- the ends of a risen tree, in any order, grow that tree -/
theorem grows {T : Tg} (h : Good T) {B : Nat} : ∀ (k N : Nat) (l : List (Nat × D)) (ends : Ends'), TL lfT T.codes B k l → Ris T (k + 1) (brD l) → ends.Perm (lvD (k + 1) (brD l)) → k + 1 ≤ N → grT T.codes N ends = l.map brE
  | _, 0, _, _, _, _, _, hN => absurd hN (by omega)
  | k, N + 1, l, ends, t, r, p, hN => by
    obtain ⟨l', e, ne, hp, hl⟩ := r
    have := brD_inj e
    subst this
    rw [lvD_br] at p
    have part : ∀ c, grB (grT T.codes N) c (belE c ends) = (l.filter fun e => decide (e.1 = c)).map brE := by
      intro c
      have q := belE_perm (c := c) p
      rw [belE_lv] at q
      rcases one_of (rk := T.rk) (c := c) hp with z | ⟨x, hx, rfl, z⟩
      · rw [z] at q ⊢
        have := q.eq_nil
        rw [this]
        rfl
      · rw [z] at q ⊢
        rw [List.flatMap_singleton] at q
        obtain ⟨c, d⟩ := x
        rcases hl (c, d) hx with ⟨n, en⟩ | ⟨en, rn⟩
        · have en : d = .int n := en
          subst en
          have q : (belE c ends).Perm [([], n)] := q
          rw [List.perm_singleton.mp q]
          rfl
        · have en : numD d = none := en
          have q : (belE c ends).Perm (lvD k d) := by
            unfold cutE at q
            dsimp only at q
            rw [en] at q
            exact q
          have nn : belE c ends ≠ [] := fun z => ris_lv rn (List.Perm.nil_eq (z ▸ q)).symm
          have no := isOne_no (l := belE c ends) fun p hp => lvD_ne (q.mem_iff.mp hp)
          rw [grB_many nn no]
          obtain ⟨k', l2, rfl, rfl, t2⟩ : ∃ k' l2, k = k' + 1 ∧ d = brD l2 ∧ TL lfT T.codes B k' l2 := by
            have td := (t.2 (c, d) hx).2
            cases k with
            | zero => exact rn.elim
            | succ k =>
              rcases td with (⟨n, z⟩ | z) | ⟨l3, z, q1, q2⟩
              · have z : d = .int n := z
                rw [z] at en; cases en
              · have z : d = .bl true := z
                obtain ⟨l4, e4, _⟩ := rn
                have e4 : d = brD l4 := e4
                rw [z] at e4
                cases e4
              · exact ⟨k, l3, rfl, z, q1, q2⟩
          rw [grows h k' N l2 (belE c ends) t2 rn q (by omega)]
          rfl
    have all : grT T.codes (N + 1) ends = (T.codes.flatMap fun c => l.filter fun e => decide (e.1 = c)).map brE := by
      show (T.codes.flatMap fun c => grB (grT T.codes N) c (belE c ends)) = _
      rw [List.map_flatMap]
      exact flatMap_same fun c _ => part c
    rw [all, sorted_parts (rk := T.rk) T.codes l (rk_lt h.nd) hp fun e he => (t.2 e he).1]
/-! the told book -/
noncomputable def bkF (fo : Fo) (i : Nat) : List Nat := ((fo.find? fun p => decide (p.1 = i)).map (·.2)).getD []
noncomputable def bkW (fo : Fo) (many : Nat) : List (List Nat) := (List.range many).map (bkF fo)
theorem bk_at : ∀ {fo : Fo}, (fo.map (·.1)).Nodup → ∀ q ∈ fo, bkF fo q.1 = q.2
  | [], _, _, h => nomatch h
  | p :: fo, nd, q, hq => by
    rw [List.map_cons, List.nodup_cons] at nd
    unfold bkF
    rw [List.find?_cons]
    by_cases z : p.1 = q.1
    · rw [decide_eq_true z]
      rcases List.mem_cons.mp hq with e | e
      · rw [e]; rfl
      · exact absurd (z ▸ List.mem_map.mpr ⟨q, e, rfl⟩) nd.1
    · rw [decide_eq_false z]
      rcases List.mem_cons.mp hq with e | e
      · exact absurd (by rw [e]) z
      · exact bk_at nd.2 q e
theorem keys_all {l : List Nat} {n : Nat} (h : l.Nodup) (hl : ∀ x ∈ l, x < n) (hn : l.length = n) : (List.range n).Perm l := (List.perm_ext_iff_of_nodup List.nodup_range h).mpr fun i => by
  rw [List.mem_range]
  constructor
  · intro hi
    by_cases m : i ∈ l
    · exact m
    · have := nodup_lt (n := n) (List.nodup_cons.mpr ⟨m, h⟩) fun x hx => by
        rcases List.mem_cons.mp hx with rfl | hx
        · exact hi
        · exact hl x hx
      rw [List.length_cons] at this
      omega
  · exact hl i
theorem bk_zip {fo : Fo} {many : Nat} (h : FoOk many fo) (hn : fo.length = many) : (bkW fo many).zipIdx.Perm (fo.map fun q => (q.2, q.1)) := by
  have e1 : (bkW fo many).zipIdx = (List.range many).map fun i => (bkF fo i, i) := by
    unfold bkW
    refine List.ext_getElem? fun i => ?_
    rw [List.getElem?_zipIdx, List.getElem?_map, List.getElem?_map, Nat.zero_add]
    by_cases hi : i < many
    · rw [List.getElem?_range hi]; rfl
    · rw [List.getElem?_eq_none (by rw [List.length_range]; omega)]; rfl
  have e2 : (fo.map fun q => (q.2, q.1)) = (fo.map (·.1)).map fun i => (bkF fo i, i) := by
    rw [List.map_map]
    exact List.map_congr_left fun q hq => by
      show _ = (bkF fo q.1, q.1)
      rw [bk_at h.1 q hq]
  rw [e1, e2]
  exact (keys_all h.1 (fun x hx => by
    obtain ⟨p, hp, rfl⟩ := List.mem_map.mp hx
    exact h.2 p hp) (by rw [List.length_map]; exact hn)).map _
theorem regrown {T : Tg} (h : Good T) {B many k : Nat} {l : List (Nat × D)} (t : TL lfT T.codes B k l) {fo : Fo} (e : rdT T many (k + 1) [] [] (brD l) = some fo) (hn : fo.length = many) (hk : k + 1 ≤ 12) : grT T.codes 12 (bkW fo many).zipIdx = l.map brE ∧ (∀ v ∈ bkW fo many, ∃ p ∈ lvD (k + 1) (brD l), p.1 = v) := by
  have ok := rdT_ok (k + 1) [] [] (brD l) fo ⟨.nil, fun _ h => (nomatch h)⟩ e
  obtain ⟨q1, q2⟩ := rdT_lv _ _ _ _ _ e
  have z : (fo.map fun q => (q.2, q.1)) = lvD (k + 1) (brD l) := by
    rw [q1, List.nil_append, List.map_map]
    conv => rhs; rw [← List.map_id (lvD (k + 1) (brD l))]
    exact List.map_congr_left fun p _ => rfl
  have p := bk_zip ok hn
  rw [z] at p
  refine ⟨grows h k 12 l _ t q2 p hk, fun v hv => ?_⟩
  obtain ⟨i, hi, rfl⟩ := List.getElem_of_mem hv
  have : ((bkW fo many)[i], i) ∈ (bkW fo many).zipIdx := by
    rw [List.mem_zipIdx_iff_getElem?]
    exact List.getElem?_eq_getElem hi
  exact ⟨_, p.mem_iff.mp this, rfl⟩
end Du

namespace Du
open PySem PySem.Spec PyProof.Rows L2 Dear
set_option maxHeartbeats 400000
theorem lookX_e {T : Tg} (h : Good T) : FX_look_at_tongue [T.d] = .ok .non := by
  have h0 := h.lo
  have h1 := h.hi
  have hl : (T.signs.map rowD).length ≤ 16777215 := by rw [List.length_map]; omega
  have c2 : ∀ x0 x2 x3 x4 x5 : Option D, eComp [6] (iAny (eVar 1)) (tgN 6) bYes (eOp dIx (eVar 6) (eC (.int 0))) [x0, some (.lst (T.signs.map rowD)), x2, x3, x4, x5, none] = .ok (txs ((T.signs.map (·.1)).map fun c => [c])) := by
    intro x0 x2 x3 x4 x5
    have : ((T.signs.map (·.1)).map fun c => [c]).map (fun v => D.str (txt v)) = ((T.signs.map rowD)).map fun d => match d with | .tup (x :: _) => x | _ => .non := by
      rw [List.map_map, List.map_map, List.map_map]
      exact List.map_congr_left fun r _ => rfl
    unfold txs
    rw [this, eComp_of (ds := T.signs.map rowD) (fun _ => true) (fun d => match d with | .tup (x :: _) => x | _ => .non) (by simp) hl, filter_yes]
    intro d hd
    obtain ⟨r, hr, rfl⟩ := List.mem_map.mp hd
    refine ⟨_, rfl, by simp, by simp, fun _ => ?_⟩
    simp [rowD]
  have u1 := unlike_e (n := 1) (cs := T.signs.map (·.1)) (by omega) (by have := h.fl; omega) h.fnd (fun v hv => by
    obtain ⟨c, e, m⟩ := h.fs v hv
    subst e
    exact ⟨rfl, fun x hx => by rw [List.mem_singleton.mp hx]; exact m⟩)
  have ph : ∀ v ∈ T.pairs, v.length = 2 ∧ ∀ c ∈ v, c ∈ T.signs.map (·.1) := fun v hv => by
    obtain ⟨a, b, e, m1, m2⟩ := h.ps v hv
    subst e
    refine ⟨rfl, fun x hx => ?_⟩
    rcases List.mem_cons.mp hx with e | hx
    · rw [e]; exact m1
    · rw [List.mem_singleton.mp hx]; exact m2
  have u2 := unlike_e (n := 2) (cs := T.signs.map (·.1)) (by omega) (by have := h.pl; omega) h.pnd ph
  have w1 : F_is_whole [.int (T.long : Nat)] = .ok (.bl true) := by rfl
  have l0 := h.l0
  have l1 := h.l1
  show outR (BX_look_at_tongue [some (.frz T.d), none, none, none, none, none, none]) = _
  have s1 := are_signs_e h
  simp at u1 u2
  have s1 := nx_ok s1
  have u1 := nx_ok u1
  have u2 := nx_ok u2
  have w1 := nx_ok w1
  simp [BX_look_at_tongue_u, Tg.d, s1, c2, u1, u2, w1, show (1 : Int) ≤ T.long by omega, show (T.long : Int) ≤ 8 by omega]

end Du

namespace Du
open PySem PySem.Spec PyProof.Rows L2 Dear
/-! ### defs by hand over the layer's expressions -/
theorem vw_nil {K : PySem.W.Frag} {F : Hp} : Vw K F [] [] := ⟨rfl, fun i d e => by simp at e⟩
theorem vw_cons {K : PySem.W.Frag} {F : Hp} {σ : St} {ρ : VEnv} {v : Option V} {d : Option D} (h : ∀ x, d = some x → ∃ u, v = some u ∧ Dt K F u x) (r : Vw K F σ ρ) : Vw K F (v :: σ) (d :: ρ) := ⟨by rw [List.length_cons, List.length_cons, r.len], fun i e he => by
  cases i with
  | zero =>
    have he : some d = some (some e) := he
    cases he
    obtain ⟨u, rfl, hu⟩ := h e rfl
    exact ⟨u, rfl, hu⟩
  | succ i => exact r.get i e he⟩
theorem vw_some {K : PySem.W.Frag} {F : Hp} {σ : St} {ρ : VEnv} {v : V} {d : D} (h : Dt K F v d) (r : Vw K F σ ρ) : Vw K F (some v :: σ) (some d :: ρ) := vw_cons (fun x e => by cases e; exact ⟨v, rfl, h⟩) r
theorem vw_none {K : PySem.W.Frag} {F : Hp} {σ : St} {ρ : VEnv} {v : Option V} (r : Vw K F σ ρ) : Vw K F (v :: σ) (none :: ρ) := vw_cons (fun x e => nomatch e) r
theorem numbered_zip {α : Type} (f : α → D) : ∀ (l : List α) (k : Nat), numbered k (l.map f) = (l.zipIdx k).map fun e => .tup [.int (e.2 : Nat), f e.1]
  | [], _ => rfl
  | a :: l, k => by
    rw [List.map_cons, List.zipIdx_cons, List.map_cons, ← numbered_zip f l (k + 1)]
    rfl
end Du

namespace Du
open PySem PySem.Spec PyProof.Rows L2 Dear
/-! ### k17: books told, trees of them -/
set_option maxHeartbeats 400000
theorem lvD_len {lf : D → Prop} {cs : List Nat} {B : Nat} : ∀ {k j : Nat} {d : D}, TW lf cs B j d → ∀ p ∈ lvD k d, p.1.length ≤ k ∧ ((∀ l, ¬ lf (brD l)) → ∀ c ∈ p.1, c ∈ cs)
  | 0, _, _, _, _, h => nomatch h
  | k + 1, j, d, t, p, h => by
    unfold lvD at h
    split at h
    · rename_i l hl
      have hd : d = brD l := by
        unfold unbr at hl
        split at hl
        · rename_i ex
          have := Classical.choose_spec ex
          cases hl
          exact this
        · cases hl
      subst hd
      unfold lvL at h
      obtain ⟨e, he, h⟩ := List.mem_flatMap.mp h
      obtain ⟨q, hq, rfl⟩ := List.mem_map.mp h
      cases j with
      | zero =>
        refine ⟨?_, fun no => absurd t (no l)⟩
        rw [List.length_cons]
        unfold cutE at hq
        split at hq
        · rw [List.mem_singleton.mp hq]; simp
        · have := (lvD_len (lf := fun _ => True) (cs := cs) (B := B) (j := 0) (k := k) (d := e.2) trivial q hq).1
          omega
      | succ j =>
        rcases t with t | ⟨l2, z, t1, t2⟩
        · refine ⟨?_, fun no => absurd t (no l)⟩
          rw [List.length_cons]
          unfold cutE at hq
          split at hq
          · rw [List.mem_singleton.mp hq]; simp
          · have := (lvD_len (lf := fun _ => True) (cs := cs) (B := B) (j := 0) (k := k) (d := e.2) trivial q hq).1
            omega
        · have := brD_inj z
          subst this
          obtain ⟨hc, te⟩ := t2 e he
          unfold cutE at hq
          split at hq
          · rw [List.mem_singleton.mp hq]
            exact ⟨by simp, fun _ c hc' => by rw [List.mem_singleton.mp hc']; exact hc⟩
          · obtain ⟨i1, i2⟩ := lvD_len te q hq
            refine ⟨by rw [List.length_cons]; omega, fun no c hc' => ?_⟩
            rcases List.mem_cons.mp hc' with rfl | hc'
            · exact hc
            · exact i2 no c hc'
    · cases h
theorem tree_of_e {T : Tg} (h : Good T) {W : List (List Nat)} (hW : W.length ≤ 1000) (hl : ∀ v ∈ W, v.length ≤ 11) (hc : ∀ v ∈ W, ∀ c ∈ v, c ∈ T.codes) : F_tree_of [T.d, txs W] = .ok (.lst (grT T.codes 12 W.zipIdx)) := by
  have lk := look_e h
  have h6 := h.hi
  have c1 : eComp [3] (iAny (eOp dIx (eVar 0) (eC (.int 0)))) (tgN 3) bYes (eOp dIx (eVar 3) (eC (.int 0))) [some T.d, some (txs W), none, none, none, none] = .ok (lettD T.codes) := by
    have := codes_e (vs := [3]) (i := 3) (x := [some T.d, some (txs W), none, none, none, none]) h rfl rfl (by decide) (by simp)
    rw [this]
    unfold txs lettD
    rw [List.map_map]
    rfl
  have c2 : ∀ x0 x2, eComp [4, 5] (iEnumD (aCons (eVar 1) aNil)) (tgT [(tgN 4), (tgN 5)]) bYes (eTup (aCons (eVar 5) (aCons (eVar 4) aNil))) [x0, some (txs W), x2, none, none, none] = .ok (endsD W.zipIdx) := by
    intro x0 x2
    refine eComp_all (F := fun e : List Nat × Nat => .tup [.int (e.2 : Nat), .str (txt e.1)]) _ (by
      have := numbered_zip (fun v => D.str (txt v)) W 0
      rw [← this]
      rfl) (by rw [List.length_zipIdx]; omega) fun e he => ⟨[(4, .int (e.2 : Nat)), (5, .str (txt e.1))], rfl, by simp, ?_⟩
    generalize txs W = wd
    simp
  have g := grown_e (cs := T.codes) (by unfold Tg.codes; rw [List.length_map]; omega) 12 W.zipIdx (fun e he => by
    have := hl e.1 (List.fst_mem_of_mem_zipIdx (x := e) he)
    omega) (by decide) (by decide) (by rw [List.length_zipIdx]; exact hW) (fun e he => cods_asc h (hc e.1 (List.fst_mem_of_mem_zipIdx (x := e) he)))
  show outR (B_tree_of [some (.frz T.d), some (.frz (txs W)), none, none, none, none]) = _
  have : B_tree_of [some (.frz T.d), some (.frz (txs W)), none, none, none, none] = .rt (.lst (grT T.codes 12 W.zipIdx)) [some (.frz T.d), some (.frz (txs W)), some (.frz (lettD T.codes)), none, none, none] := by
    rw [B_tree_of_u]
    refine seq_to (ρ' := [some (.frz T.d), some (.frz (txs W)), none, none, none, none]) (by
      generalize txs W = wd
      generalize T.d = td at *
      simp [lk]) ?_
    refine seq_to (ρ' := [some (.frz T.d), some (.frz (txs W)), some (.own false (lettD T.codes)), none, none, none]) (by
      rw [own_to (d := lettD T.codes) c1]
      generalize lettD T.codes = nd
      generalize txs W = wd
      generalize T.d = td
      simp) ?_
    have c2' := c2 (some T.d) (some (lettD T.codes))
    generalize grT T.codes 12 W.zipIdx = gt at *
    generalize endsD W.zipIdx = ed at *
    generalize lettD T.codes = nd at *
    generalize txs W = wd at *
    generalize T.d = td at *
    simp [c2', g]
  rw [this]
  rfl
theorem book_u (ds : List D) (a b c : D) (e : ds = [a, b, c]) : FX_book_of ds = outR (BX_book_of [some (.frz a), some (.frz b), some (.frz c), none, none]) := by subst e; rfl
theorem fo_len {fo : Fo} : dLen [foD fo] = .ok (.int (fo.length : Nat)) := by
  have : dLen [foD fo] = .ok (.int ((fo.map fun p => (D.int (p.1 : Nat), D.str (txt p.2))).length : Nat)) := rfl
  rw [this, List.length_map]
theorem told_e {many : Nat} {fo : Fo} (ho : FoOk many fo) (hn : fo.length = many) {x : VEnv} {q v : Nat} {vs : List Nat} {it : VEnv → Res (List D)} (hv : vs = [v]) (hx : (wipeD x vs)[q]? = some (some (foD fo))) (hvq : v ≠ q) (hv2 : v < x.length) (hi : it x = .ok ((List.range' 0 many).map fun i => D.int (i : Nat))) (hm : many ≤ 1000) :
    eComp vs it (tgN v) bYes (eOp dIx (eVar q) (eVar v)) x = .ok (txs (bkW fo many)) := by
  subst hv
  unfold txs bkW
  rw [List.map_map, List.range_eq_range']
  refine eComp_all (F := fun i : Nat => .int (i : Nat)) _ hi (by rw [List.length_range']; omega) fun i hi => ⟨[(v, .int (i : Nat))], rfl, by simp, ?_⟩
  have hi : i < many := by simpa using hi
  have m : i ∈ fo.map (·.1) := (keys_all ho.1 (fun x hx => by
    obtain ⟨p, hp, rfl⟩ := List.mem_map.mp hx
    exact ho.2 p hp) (by rw [List.length_map]; exact hn)).mem_iff.mp (List.mem_range.mpr hi)
  obtain ⟨p, hp, rfl⟩ := List.mem_map.mp m
  have g1 : (setAllD (wipeD x [v]) [(v, .int (p.1 : Nat))])[v]? = some (some (.int (p.1 : Nat))) := by simp [hv2]
  have g2 : (setAllD (wipeD x [v]) [(v, .int (p.1 : Nat))])[q]? = some (some (foD fo)) := by
    show ((wipeD x [v]).set v (some (.int (p.1 : Nat))))[q]? = _
    rw [List.getElem?_set_ne hvq]
    exact hx
  rw [eOp_e, eVar_e, eVar_e, g1, g2, varC_e, varC_e, op2_ok, dIx_dct rfl]
  have : dGet (fo.map fun p => (D.int (p.1 : Nat), D.str (txt p.2))) (.int (p.1 : Nat)) = some (.str (txt p.2)) := dGet_some (by
    rw [List.map_map]
    have : ((fun x => x.1) ∘ fun p : Nat × List Nat => (D.int (p.1 : Nat), D.str (txt p.2))) = fun p => D.int ((p.1 : Nat) : Int) := rfl
    rw [this]
    have e : (fo.map fun p => D.int ((p.1 : Nat) : Int)) = (fo.map (·.1)).map fun n : Nat => D.int (n : Int) := by rw [List.map_map]; rfl
    rw [e]
    exact List.Pairwise.map _ (fun a b h z => h (by have := D.int.inj z; omega)) ho.1) (List.mem_map.mpr ⟨p, hp, rfl⟩)
  rw [this]
  show Res.ok (D.str (txt p.2)) = .ok (.str (txt (bkF fo p.1)))
  rw [bk_at ho.1 p hp]
theorem book_e {T : Tg} (h : Good T) {B many k : Nat} (hcs : ∀ c ∈ T.codes, c < 128) (hm : many ≤ 1000) {l : List (Nat × D)} (t : TL lfT T.codes B k l) (hk : k + 2 ≤ 12) :
    match rdT T many (k + 1) [] [] (brD l) with
    | some fo => FX_book_of [T.d, .int many, brD l] = if fo.length = many then .ok (txs (bkW fo many)) else .exc ⟨"NoTree", []⟩
    | none => FX_book_of [T.d, .int many, brD l] = .exc ⟨"NoTree", []⟩ := by
  have lk := lookX_e h
  have e0 : (Str.ofString "" : Str) = txt [] := rfl
  have tr := look_e' h hcs hm k 12 l [] [] (by omega) t hk (by rw [List.length_nil]; omega) ⟨.nil, fun _ h => (nomatch h)⟩
  have f0 : foD [] = .dct false [] := rfl
  have pre : ∀ {g : Env → Out} {o' : Out}, g [some (.frz T.d), some (.frz (.int many)), some (.frz (brD l)), some (.own false (foD [])), none] = o' → (sSeq (sExpr [] (eCall FX_look_at_tongue (aCons (eVar 0) aNil))) (sSeq (sOwn 3 [] eDct0) g)) [some (.frz T.d), some (.frz (.int many)), some (.frz (brD l)), none, none] = o' := by
    intro g o' hg
    generalize brD l = bd at *
    refine seq_to (ρ' := [some (.frz T.d), some (.frz (.int many)), some (.frz bd), none, none]) (by
      generalize T.d = td at *
      simp [lk]) (seq_to ?_ hg)
    generalize T.d = td at *
    rw [f0]
    simp
  cases e : rdT T many (k + 1) [] [] (brD l) with
  | none =>
    rw [e] at tr
    obtain ⟨o, tr⟩ := tr
    show FX_book_of _ = _
    rw [book_u _ _ _ _ rfl, BX_book_of_u, pre (o' := .ex ⟨"NoTree", []⟩ [some (.frz T.d), some (.frz (.int many)), some (.frz (brD l)), some (.own false o), none]) ?_]
    · rfl
    · generalize brD l = bd at *
      generalize foD [] = f at *
      generalize T.d = td at *
      rw [sSeq_e]
      have : sExprM (mIOX 2 3 (FX_look_at_tree 12) (mCons (mP [] (eVar 0)) (mCons (mP [] (eVar 1)) (mAP [] (aCons (eC (.str "")) (aCons (eVar 2) aNil)))))) [some (.frz td), some (.frz (.int many)), some (.frz bd), some (.own false f), none] = .ex ⟨"NoTree", []⟩ [some (.frz td), some (.frz (.int many)), some (.frz bd), some (.own false o), none] := by
        simp [e0, tr]
        rfl
      rw [this]
      rfl
  | some fo =>
    rw [e] at tr
    have tr : FX_look_at_tree 12 [T.d, .int many, foD [], .str (txt []), brD l] = .ok .non (foD fo) := tr
    have ok := rdT_ok (k + 1) [] [] (brD l) fo ⟨.nil, fun _ h => (nomatch h)⟩ e
    have fl := ok.len
    have s3 : sExprM (mIOX 2 3 (FX_look_at_tree 12) (mCons (mP [] (eVar 0)) (mCons (mP [] (eVar 1)) (mAP [] (aCons (eC (.str "")) (aCons (eVar 2) aNil)))))) [some (.frz T.d), some (.frz (.int many)), some (.frz (brD l)), some (.own false (foD [])), none] = .nx [some (.frz T.d), some (.frz (.int many)), some (.frz (brD l)), some (.own false (foD fo)), none] := by
      generalize brD l = bd at *
      generalize foD [] = f at *
      generalize foD fo = f2 at *
      generalize T.d = td at *
      simp [e0, tr]
    have ln := fo_len (fo := fo)
    show FX_book_of _ = _
    by_cases hn : fo.length = many
    · rw [if_pos hn]
      have cc := told_e ok hn (x := [some T.d, some (.int many), some (brD l), some (foD fo), none]) (q := 3) (v := 4) (vs := [4]) (it := iRange (aCons (eVar 1) aNil)) rfl rfl (by decide) (by simp) (by
        have := rng_e many hm
        generalize T.d = td
        generalize foD fo = f
        generalize brD l = bd
        simp [this]) hm
      rw [book_u _ _ _ _ rfl, BX_book_of_u, pre (o' := .rt (txs (bkW fo many)) [some (.frz T.d), some (.frz (.int many)), some (.frz (brD l)), some (.frz (foD fo)), none]) ?_]
      · rfl
      · refine seq_to s3 (seq_to (ρ' := [some (.frz T.d), some (.frz (.int many)), some (.frz (brD l)), some (.own false (foD fo)), none]) ?_ ?_)
        · generalize brD l = bd at *
          generalize foD fo = f2 at *
          generalize T.d = td at *
          simp [ln, hn]
        · have v : view [3] [some (.frz T.d), some (.frz (.int many)), some (.frz (brD l)), some (.own false (foD fo)), none] = [some T.d, some (.int many), some (brD l), some (foD fo), none] := rfl
          rw [sRet_e, v, cc]
          generalize brD l = bd at *
          generalize foD fo = f2 at *
          generalize T.d = td at *
          generalize bkW fo many = w
          simp
    · rw [if_neg hn]
      have hn' : ¬ ((fo.length : Nat) : Int) = (many : Int) := by omega
      rw [book_u _ _ _ _ rfl, BX_book_of_u, pre (o' := .ex ⟨"NoTree", []⟩ [some (.frz T.d), some (.frz (.int many)), some (.frz (brD l)), some (.own false (foD fo)), none]) ?_]
      · rfl
      · refine seq_to s3 ?_
        generalize brD l = bd at *
        generalize fo.length = fln at *
        generalize foD fo = f2 at *
        generalize T.d = td at *
        simp [ln, hn']
end Du

namespace Du
open PySem PySem.Spec PyProof.Rows L2 Dear
/-! ### k17: what the law finds right, in plain facts -/
set_option maxHeartbeats 400000
structure RtOk (T : Tg) (many : Nat) (l : List (Nat × D)) : Prop where
  g : Good T
  m : many ≤ 1000
  t : ∃ B k, B ≤ 1000 ∧ k ≤ 10 ∧ TL lfT T.codes B k l
theorem RtOk.cs {T : Tg} {many : Nat} {l : List (Nat × D)} (h : RtOk T many l) : ∀ c ∈ T.codes, c < 128 := fun c hc => by
  have := cods_asc h.g (w := [c]) (fun x hx => by rw [List.mem_singleton.mp hx]; exact hc) c (List.mem_singleton.mpr rfl)
  exact this
theorem RtOk.cp {T : Tg} {many : Nat} {l : List (Nat × D)} (h : RtOk T many l) : F__law_copied 24 [brD l] = .ok (brD l) := by
  obtain ⟨B, k, hB, hk, t⟩ := h.t
  exact copied_e hB (k + 1) 24 _ (.list t) (by omega)
theorem RtOk.self {T : Tg} {many : Nat} {l : List (Nat × D)} (h : RtOk T many l) : lay (brD l) = true := by
  obtain ⟨B, k, hB, hk, t⟩ := h.t
  exact (TW.ly h.cs (TW.list t)).lay (by omega)
theorem RtOk.cases {T : Tg} {many : Nat} {l : List (Nat × D)} (h : RtOk T many l) :
    (∃ fo : Fo, FoOk many fo ∧ fo.length = many ∧ FX_book_of [T.d, .int many, brD l] = .ok (txs (bkW fo many)) ∧ F__law_reads 12 [T.d, .int many, brD l, .str (txt []), foD []] = .ok (.bl true, foD fo) ∧ F_tree_of [T.d, txs (bkW fo many)] = .ok (brD l) ∧ lay (txs (bkW fo many)) = true) ∨
    (FX_book_of [T.d, .int many, brD l] = .exc ⟨"NoTree", []⟩ ∧ ((∃ o, F__law_reads 12 [T.d, .int many, brD l, .str (txt []), foD []] = .ok (.bl false, o)) ∨ ∃ fo : Fo, fo.length ≠ many ∧ F__law_reads 12 [T.d, .int many, brD l, .str (txt []), foD []] = .ok (.bl true, foD fo))) := by
  obtain ⟨B, k, hB, hk, t⟩ := h.t
  have bk := book_e h.g h.cs h.m t (by omega)
  have rd := reads_e h.g h.cs h.m k 12 l [] [] (by omega) t (by omega) (List.mem_singleton.mpr rfl) (Nat.zero_le _) ⟨.nil, fun _ h => (nomatch h)⟩
  cases e : rdT T many (k + 1) [] [] (brD l) with
  | none =>
    rw [e] at bk rd
    exact .inr ⟨bk, .inl rd⟩
  | some fo =>
    rw [e] at bk rd
    have bk : FX_book_of [T.d, .int many, brD l] = if fo.length = many then .ok (txs (bkW fo many)) else .exc ⟨"NoTree", []⟩ := bk
    by_cases hn : fo.length = many
    · rw [if_pos hn] at bk
      left
      have ok := rdT_ok (k + 1) [] [] (brD l) fo ⟨.nil, fun _ h => (nomatch h)⟩ e
      obtain ⟨gr, wm⟩ := regrown h.g t e hn (by omega)
      have ln : ∀ v ∈ bkW fo many, v.length ≤ 11 ∧ ∀ c ∈ v, c ∈ T.codes := fun v hv => by
        obtain ⟨p, hp, rfl⟩ := wm v hv
        obtain ⟨i1, i2⟩ := lvD_len (TW.list t) p hp
        exact ⟨by omega, i2 fun l z => by
          rcases z with ⟨n, z⟩ | z <;> cases z⟩
      refine ⟨fo, ok, hn, bk, rd, ?_, (Ly.txts (n := 0) fun v hv => cods_asc h.g (ln v hv).2).lay (by decide)⟩
      have tr := tree_of_e h.g (W := bkW fo many) (by unfold bkW; rw [List.length_map, List.length_range]; exact h.m) (fun v hv => (ln v hv).1) (fun v hv => (ln v hv).2)
      rw [tr, gr]
    · rw [if_neg hn] at bk
      exact .inr ⟨bk, .inr ⟨fo, hn, rd⟩⟩
end Du

namespace Dear
open PySem PySem.Spec PyProof.Rows L2
set_option maxHeartbeats 400000
def spNoTree (C : Addr) : Sp := fun vs H Q _ => ∃ a : Addr, vs = [.ref a] ∧ H a = some (ExK (.ref C) none a) ∧ ∀ H', Same H H' → Q (.bl true) H'
section
variable {P : Program} {w : World} {K : PySem.W.Frag} {mg : Str → Option Value} {base : Heap}
theorem o__law_is_refusal (T : Txt K mg) : OkF P w K mg base CX0 1 "_law_is_refusal" ["_law_kept"] (spNoTree T.A.NoTree) := by
  refine T.f__law_is_refusal.ok c__law_is_refusal (fun vs H Q E h => ?_) (fun f cdv A outer s H vs Q E hr h => ?_)
  · obtain ⟨a, rfl, _⟩ := h
    rfl
  · obtain ⟨a, rfl, eA, k⟩ := h
    have at2 : ∀ {H' : Hp}, Same H H' → ExAt H' T.A.NoTree a := fun {H'} sx => .inl (sx _ _ eA)
    refine ⟨_, (pss_cons (ps_if (PW.pt (pw_or (pt_not (pt_val (pe_callB (call_isY_k K) (by rfl) T.b_isinstance (by decide +kernel) (pa_cons (pv 0) (pa_cons (pe_glob (v := .ref T.A.NoTree) rfl T.C_NoTree rfl) pa_nil))))) (pw_or1 (pt_not (pt_val (pe_callB (call_isY_k K) (by rfl) T.b_isinstance (by decide +kernel) (pa_cons (pv 0) (pa_cons (pe_bltn (v := .ty "ValueError") (by rfl) T.b_ValueError (by decide +kernel) rfl) pa_nil))))))))
(pss_one (ps_ret pe_bl))
pss_nil)
(pss_cons (ps_if (pt_val (pe_callB (call_isYT_k K) (by rfl) T.b_isinstance (by decide +kernel) (pa_cons (pv 0) (pa_cons (pe_tup (pa_cons (pe_glob (v := .ref T.A.BadSign) rfl T.C_BadSign rfl) (pa_cons (pe_glob (v := .ref T.A.NoBook) rfl T.C_NoBook rfl) (pa_cons (pe_glob (v := .ref T.A.NoCount) rfl T.C_NoCount rfl) (pa_cons (pe_glob (v := .ref T.A.NoNumber) rfl T.C_NoNumber rfl) (pa_cons (pe_glob (v := .ref T.A.NoRow) rfl T.C_NoRow rfl) (pa_cons (pe_glob (v := .ref T.A.NoText) rfl T.C_NoText rfl) (pa_cons (pe_glob (v := .ref T.A.NoThing) rfl T.C_NoThing rfl) pa_nil)))))))) pa_nil))))
(pss_one (ps_ret pe_bl))
pss_nil)
(pss_one (ps_ret (pe_not (pe_callB (call_isYT_k K) (by rfl) T.b_isinstance (by decide +kernel) (pa_cons (pv 0) (pa_cons (pe_tup (pa_cons (pe_glob (v := .ref T.A.NoTongue) rfl T.C_NoTongue rfl) (pa_cons (pe_glob (v := .ref T.A.NoTurn) rfl T.C_NoTurn rfl) (pa_cons (pe_glob (v := .ref T.A.NoUndo) rfl T.C_NoUndo rfl) (pa_cons (pe_glob (v := .ref T.A.NoWants) rfl T.C_NoWants rfl) (pa_cons (pe_glob (v := .ref T.A.TooMany) rfl T.C_TooMany rfl) (pa_cons (pe_glob (v := .ref T.A.Unknown) rfl T.C_Unknown rfl) pa_nil))))))) pa_nil)))))))), ?_⟩
    refine ⟨_, rfl, a, _, _, _, _, rfl, at2 (Same.refl _), T.X_NoTree.c, .own _, T.q_NoTree_NoTree, _, rfl, iteF ?_⟩
    refine ⟨_, rfl, a, _, _, _, _, rfl, at2 (Same.refl _), T.X_NoTree.c, .ty _, T.q_NoTree_ValueError, _, rfl, iteF ?_⟩
    refine ⟨_, rfl, (by show 7 ≤ sizeLine; decide), fun p1 hp1 => ?_⟩
    have v1 := Same.upd (o := .tup [.ref T.A.BadSign, .ref T.A.NoBook, .ref T.A.NoCount, .ref T.A.NoNumber, .ref T.A.NoRow, .ref T.A.NoText, .ref T.A.NoThing]) hp1
    refine ⟨a, _, p1, _, _, false, rfl, at2 v1, T.X_NoTree.c, upd_same, cls_all (cs := [_, _, _, _, _, _, _]), kit_none ?_, ?_⟩
    · intro x hx
      simp only [List.map_cons, List.map_nil, List.mem_cons, List.not_mem_nil, or_false] at hx
      rcases hx with rfl | rfl | rfl | rfl | rfl | rfl | rfl
      · exact T.q_NoTree_BadSign
      · exact T.q_NoTree_NoBook
      · exact T.q_NoTree_NoCount
      · exact T.q_NoTree_NoNumber
      · exact T.q_NoTree_NoRow
      · exact T.q_NoTree_NoText
      · exact T.q_NoTree_NoThing
    refine ⟨false, rfl, iteF ?_⟩
    refine ⟨_, rfl, (by show 6 ≤ sizeLine; decide), fun p2 hp2 => ?_⟩
    have v2 := v1.trans (Same.upd (o := .tup [.ref T.A.NoTongue, .ref T.A.NoTurn, .ref T.A.NoUndo, .ref T.A.NoWants, .ref T.A.TooMany, .ref T.A.Unknown]) hp2)
    refine ⟨a, _, p2, _, _, false, rfl, at2 v2, T.X_NoTree.c, upd_same, cls_all (cs := [_, _, _, _, _, _]), kit_none ?_, false, rfl, ?_⟩
    · intro x hx
      simp only [List.map_cons, List.map_nil, List.mem_cons, List.not_mem_nil, or_false] at hx
      rcases hx with rfl | rfl | rfl | rfl | rfl | rfl
      · exact T.q_NoTree_NoTongue
      · exact T.q_NoTree_NoTurn
      · exact T.q_NoTree_NoUndo
      · exact T.q_NoTree_NoWants
      · exact T.q_NoTree_TooMany
      · exact T.q_NoTree_Unknown
    exact k _ v2
end
end Dear

namespace Du
open PySem PySem.Spec PyProof.Rows L2 Dear
set_option maxHeartbeats 800000
open Classical in
noncomputable def F__law_right : List D → Res D := fun ds => if ∃ r : Tg × Nat × List (Nat × D), RtOk r.1 r.2.1 r.2.2 ∧ ds = [r.1.d, .int (r.2.1 : Nat), brD r.2.2] then .ok (.bl true) else .bad
theorem gx_gr {F H G' H' : Hp} {q : Addr} {o : HO} (g : Gx q F (upd H q o) G' H') (hq : H q = none) : Gr F H G' H' := ⟨fun a u e => g.hh a u (ne_of_none e hq) (by rw [upd_ne (ne_of_none e hq)]; exact e), g.ff, g.fh, fun a u e => by
  rcases g.nw a u e with z | z
  · exact .inl z
  · by_cases n : a = q
    · subst n
      exact .inr hq
    · rw [upd_ne n] at z
      exact .inr z⟩
theorem gx_free {F H G' H' : Hp} {q : Addr} {o : HO} (g : Gx q F (upd H q o) G' H') (fq : F q = none) : G' q = none := by
  cases e : G' q with
  | none => rfl
  | some u =>
    rcases g.nw q u e with z | z
    · rw [fq] at z; cases z
    · rw [upd_same] at z; cases z
section
variable {P : Program} {w : World} {K : PySem.W.Frag} {mg : Str → Option Value} {base : Heap}
theorem ok__law_right (T : Txt K mg) : OkF P w K mg base CX0 (59 + 1) "_law_right" ["_law_tongue_here", "_law_many", "_law_thing"] (sp0 K F__law_right) := by
  have o_book_of := okX_book_of (P := P) (w := w) (base := base) T
  have o__law_is_refusal := o__law_is_refusal (P := P) (w := w) (base := base) T
  have o__law_reads := ok__law_reads (P := P) (w := w) (base := base) T 12
  refine T.f__law_right.ok c__law_right (fun vs H Q E h => ?_) (fun f cdv A outer s H vs Q E hr h => ?_)
  · obtain ⟨ds, G, sG, hd, d, e, _⟩ := h
    unfold F__law_right at e
    split at e
    · rename_i z
      obtain ⟨r, _, rfl⟩ := z
      exact hd.length
    · cases e
  · obtain ⟨ds, G, sG, hd, d, e, Z⟩ := h
    unfold F__law_right at e
    split at e
    · rename_i z
      obtain ⟨⟨U, many, l⟩, ok, rfl⟩ := z
      cases e
      dsimp only at ok hd
      cases hd with
      | cons d1 hd =>
      cases hd with
      | cons d2 hd =>
      cases hd with
      | cons d3 hd =>
      cases hd
      have := d2.intE
      subst this
      rename_i v1 v3
      refine ⟨_, (pss_cons (ps_set (i := 3) c__law_right.nd rfl (Or.inl rfl) pe_non)
        (pss_cons (ps_set (i := 4) c__law_right.nd rfl (Or.inl rfl) pe_non)
        (pss_cons (ps_set (i := 5) c__law_right.nd rfl (Or.inl rfl) (fe_call (K := K) (ok__law_copied T 24) hr (fa_cons (fe_var 2) fa_nil)))
        (pss_cons (ps_try_kept (i := 6) (j := 3) rfl rfl rfl c__law_right.nd rfl rfl (by decide) rfl rfl ⟨rfl, by decide, Or.inl T.C_DearError⟩ takes0 (fun W pn xe tk _ =>
          (pss_one (ps_set (i := 4) c__law_right.nd rfl (Or.inl rfl) (pe_cx o_book_of hr tk (pa_cons (pv 0) (pa_cons (pv 1) (pa_cons (pv 2) pa_nil))))))))
        (pss_cons (ps_if (ft_cmp (K := K) (xm := none) (op_neA (K := K) hr.units) opd_ne gb_ne (fe_var 2) (fe_var 5))
        (pss_one (ps_ret pe_bl))
        pss_nil)
        (pss_cons (ps_set (i := 7) c__law_right.nd rfl (Or.inr rfl) pe_dnewK)
        (pss_cons (ps_if (PW.pt (pw_or (pt_not (pt_val (pe_c o__law_reads hr (pa_cons (pv 0) (pa_cons (pv 1) (pa_cons (pv 2) (pa_cons pe_str (pa_cons (pv 7) pa_nil)))))))) (pw_or1 (ft_cmp (K := K) (xm := none) (op_neA (K := K) hr.units) opd_ne gb_ne (fe_callB (cr_len (K := K)) cd_len T.b_len (fa_cons (fe_var 7) fa_nil)) (fe_var 1)))))
        (pss_one (ps_ret (pe_c o__law_is_refusal hr (pa_cons (pv 3) pa_nil))))
        pss_nil)
        (pss_cons (ps_if (ft_w (K := K) (xm := none) (fw_or (ft_cmp op_notN opd_notN gb_notN (fe_var 3) fe_non) (fw_or (ft_not (ft_tru (fe_isi (t := "list") tn_list (fe_var 4) (pe_bltn (v := .ty "list") (by rfl) T.b_list (by decide +kernel) rfl) T.b_isinstance))) (fw_or1 (ft_cmp (op_neA (K := K) hr.units) opd_ne gb_ne (fe_var 4) (fe_comp [("_law_number", 8)] c__law_right.nd (fi_range1 T.b_range (fa_cons (fe_var 1) fa_nil) (h1 := len1)) (fun _ _ _ _ _ => (fg_name 8 c__law_right.nd)) (fun _ _ _ _ _ => fts_nil) (fun _ _ _ _ _ => (fe_ix (ix_A (K := K) (u1 hr.units)) opd_ix (fe_var 7) (fe_var 8))) (blkOk_by (own := [("_law_number", 8)]) (N := n__law_right) (sc := defScope s__law_right) (by decide +kernel))))))))
        (pss_one (ps_ret pe_bl))
        pss_nil)
        (pss_one (ps_ret (fe_cmp (K := K) (xm := none) (op_eqA (K := K) hr.units) opd_eq (fe_call (ok_tree_of T) hr (fa_cons (fe_var 0) (fa_cons (fe_var 4) fa_nil))) (fe_var 2)))))))))))), ?_⟩
      have vw : ∀ {F : Hp} {x3 x4 x5 x6 x7 x8 : Option V}, Same G F → Vw K F [some v1, some (.int (many : Nat)), some v3, x3, x4, x5, x6, x7, x8] [some U.d, some (.int (many : Nat)), some (brD l), none, none, none, none, none, none] := fun s => vw_some (d1.same s) (vw_some (.int _) (vw_some (d3.same s) (vw_none (vw_none (vw_none (vw_none (vw_none (vw_none vw_nil))))))))
      refine ⟨G, _, sG, vw (.refl _), ?_⟩
      have c0 : eCall (F__law_copied 24) (aCons (eVar 2) aNil) [some U.d, some (.int (many : Nat)), some (brD l), none, none, none, none, none, none] = .ok (brD l) := by
        have := ok.cp
        generalize brD l = ld at *
        generalize U.d = td
        simp [this]
      rw [c0]
      intro v5 F1 H1 g1 d5
      have t5 : bT (eOp dNe (eVar 2) (eVar 5)) [some U.d, some (.int (many : Nat)), some (brD l), none, none, some (brD l), none, none, none] = .ok false := by
        have := dNe_self ok.self
        generalize brD l = ld at *
        generalize U.d = td
        simp [this]
      -- the reading of the tree, with a dict of its own
      have rd : ∀ {r : Bool} {o : D} {F H : Hp} {q : Addr}, Same G F → Same F H → H q = none → F__law_reads 12 [U.d, .int (many : Nat), brD l, .str (txt []), foD []] = .ok (.bl r, o) → ∀ {Q : VK} {E : XK}, (∀ G' H', Gx q F (upd H q (.dK [])) G' H' → Ow K G' H' q o → Q (.bl r) H') → spIO K 4 (F__law_reads 12) ([v1, .int (many : Nat), v3, .str (txt []), .ref q] ++ []) (upd H q (.dK [])) Q E := by
        intro r o F H q s1 s2 hq e Q E k
        refine ⟨[U.d, .int (many : Nat), brD l, .str (txt []), foD []], F, q, foD [], fun a o h => ?_, rfl, ?_, rfl, rfl, s2.free hq, ⟨[], upd_same, .nil, rfl⟩, _, _, e, fun v G' H' g dv ow => ?_⟩
        · have := s2 _ _ h
          rw [upd_ne (ne_of_none this hq)]
          exact this
        · intro j v hj hv
          match j, hj, hv with
          | 0, _, hv => cases hv; exact ⟨_, rfl, d1.same s1⟩
          | 1, _, hv => cases hv; exact ⟨_, rfl, .int _⟩
          | 2, _, hv => cases hv; exact ⟨_, rfl, d3.same s1⟩
          | 3, _, hv => cases hv; exact ⟨_, rfl, .str _⟩
          | 4, hj, _ => exact absurd rfl hj
          | j + 5, _, hv => simp at hv
        · have := dv.blE
          subst this
          exact k G' H' g ow
      rcases ok.cases with ⟨fo, fok, fn, bk, rd1, tr, lw⟩ | ⟨bk, bad⟩
      · refine ⟨_, rfl, _, rfl, _, rfl, [U.d, .int (many : Nat), brD l], F1, g1.fh, .cons (d1.same g1.ff) (.cons (.int _) (.cons (d3.same g1.ff) .nil)), ?_⟩
        rw [bk]
        intro v4 F2 H2 g2 d4
        have g12 := g1.trans g2
        refine ⟨F2, [some U.d, some (.int (many : Nat)), some (brD l), none, none, some (brD l), none, none, none], g2.fh, vw_some (d1.same g12.ff) (vw_some (.int _) (vw_some (d3.same g12.ff) (vw_none (vw_none (vw_some (d5.same g2.ff) (vw_none (vw_none (vw_none vw_nil)))))))), ?_⟩
        rw [t5]
        intro b F3 H3 g3 hb
        cases hb
        refine iteF ?_
        have g13 := g12.trans g3
        intro q hq
        refine ⟨_, rfl, _, rfl, _, rfl, _, rfl, ?_⟩
        refine rd g13.ff g3.fh hq rd1 (E := fun _ _ _ => False) fun G4 H4 g4 ow => ?_
        have F3q : F3 q = none := g3.fh.free hq
        have G4q := gx_free g4 F3q
        obtain ⟨ob, hob⟩ := ow.some
        have s48 : Same G4 (upd G4 q ob) := sm_upd G4q
        have f8 : Same (upd G4 q ob) H4 := fun a o h => by
          by_cases n : a = q
          · subst n
            rw [upd_same] at h
            rw [hob, h]
          · rw [upd_ne n] at h
            exact g4.fh _ _ h
        have d7 : Dt K (upd G4 q ob) (.ref q) (foD fo) := ow.dt s48 fun o h => by
          rw [hob] at h
          cases h
          exact upd_same
        have g4' := gx_gr g4 hq
        have g38 : Gr F3 H3 (upd G4 q ob) H4 := ⟨g4'.hh, g4'.ff.trans s48, f8, fun a o h => by
          by_cases n : a = q
          · subst n
            exact .inr hq
          · rw [upd_ne n] at h
            exact g4'.nw a o h⟩
        have g18 := g13.trans g38
        refine ⟨true, rfl, ?_⟩
        refine iteF ?_
        have vw8 : ∀ {F : Hp} {x6 x8 : Option V}, Same (upd G4 q ob) F → Vw K F [some v1, some (.int (many : Nat)), some v3, some .non, some v4, some v5, x6, some (.ref q), x8] [some U.d, some (.int (many : Nat)), some (brD l), some .non, some (txs (bkW fo many)), some (brD l), none, some (foD fo), none] := fun s => vw_some (d1.same (g18.ff.trans s)) (vw_some (.int _) (vw_some (d3.same (g18.ff.trans s)) (vw_some .non (vw_some (d4.same ((g3.trans g38).ff.trans s)) (vw_some (d5.same ((g2.trans (g3.trans g38)).ff.trans s)) (vw_none (vw_some (d7.same s) (vw_none vw_nil))))))))
        have ln := fo_len (fo := fo)
        have t6 : bT (eOp dNe (eCall dLen (aCons (eVar 7) aNil)) (eVar 1)) [some U.d, some (.int (many : Nat)), some (brD l), some .non, some (txs (bkW fo many)), some (brD l), none, some (foD fo), none] = .ok false := by
          rw [fn] at ln
          generalize foD fo = f at *
          generalize brD l = ld
          generalize txs (bkW fo many) = w
          generalize U.d = td
          simp [ln]
        refine ⟨_, _, f8, vw8 (.refl _), ?_⟩
        rw [t6]
        intro b F9 H9 g9 hb
        cases hb
        refine iteF ?_
        have t7 : bOr (bT (eOp dNotN (eVar 3) (eC .non))) (bOr (bNot (bT (eIsi "list" (eVar 4)))) (bT (eOp dNe (eVar 4) (eComp [8] (iRange (aCons (eVar 1) aNil)) (tgN 8) bYes (eOp dIx (eVar 7) (eVar 8)))))) [some U.d, some (.int (many : Nat)), some (brD l), some .non, some (txs (bkW fo many)), some (brD l), none, some (foD fo), none] = .ok false := by
          have cc := told_e fok fn (x := [some U.d, some (.int (many : Nat)), some (brD l), some .non, some (txs (bkW fo many)), some (brD l), none, some (foD fo), none]) (q := 7) (v := 8) (vs := [8]) (it := iRange (aCons (eVar 1) aNil)) rfl rfl (by decide) (by simp) (by
            have := rng_e many ok.m
            generalize txs (bkW fo many) = w
            generalize U.d = td
            generalize foD fo = f
            generalize brD l = bd
            simp [this]) ok.m
          have self := dNe_self lw
          obtain ⟨xs, hx⟩ : ∃ xs, txs (bkW fo many) = .lst xs := ⟨_, rfl⟩
          rw [hx] at cc self ⊢
          generalize U.d = td at *
          generalize foD fo = f at *
          generalize brD l = bd at *
          simp [cc, self]
        refine ⟨F9, _, g9.fh, vw8 g9.ff, ?_⟩
        show Po _ _ _ _ _ _ (bOr _ (bOr _ (bT (eOp dNe (eVar 4) (eComp [8] _ _ _ _)))) _) _
        rw [t7]
        intro b F10 H10 g10 hb
        cases hb
        refine iteF ?_
        have t8 : eOp dEq (eCall F_tree_of (aCons (eVar 0) (aCons (eVar 4) aNil))) (eVar 2) [some U.d, some (.int (many : Nat)), some (brD l), some .non, some (txs (bkW fo many)), some (brD l), none, some (foD fo), none] = .ok (.bl true) := by
          have self := dEq_self ok.self
          generalize U.d = td at *
          generalize txs (bkW fo many) = w at *
          generalize foD fo = f at *
          generalize brD l = bd at *
          simp [tr, self]
        refine ⟨F10, _, g10.fh, vw8 (g9.ff.trans g10.ff), ?_⟩
        rw [t8]
        intro v F11 H11 g11 dv
        exact Z _ _ _ (g18.trans (g9.trans (g10.trans g11))) dv
      · refine ⟨_, rfl, _, rfl, _, rfl, [U.d, .int (many : Nat), brD l], F1, g1.fh, .cons (d1.same g1.ff) (.cons (.int _) (.cons (d3.same g1.ff) .nil)), ?_⟩
        rw [bk]
        intro C dd F2 H2 g2 hx'
        obtain ⟨hc, hd0⟩ := hx'
        have hd0 : dd = none := hd0
        subst hd0
        have ec : C = .ref T.A.NoTree := by
          have := T.C_NoTree
          rw [this] at hc
          exact (Option.some.inj hc).symm
        subst ec
        refine ⟨true, T.m_NoTree, fun _ a ha => ?_, fun q => nomatch q⟩
        have g12 := (g1.trans g2).trans (Gr.hid (o := ExK (.ref T.A.NoTree) none a) g2.fh ha)
        refine ⟨F2, [some U.d, some (.int (many : Nat)), some (brD l), none, none, some (brD l), none, none, none], g12.fh, vw_some (d1.same g12.ff) (vw_some (.int _) (vw_some (d3.same g12.ff) (vw_none (vw_none (vw_some (d5.same g2.ff) (vw_none (vw_none (vw_none vw_nil)))))))), ?_⟩
        rw [t5]
        intro b F3 H3 g3 hb
        cases hb
        refine iteF ?_
        have g13 := g12.trans g3
        have ha3 : H3 a = some (ExK (.ref T.A.NoTree) none a) := g3.hh _ _ upd_same
        intro q hq
        have F3q : F3 q = none := g3.fh.free hq
        have fin : ∀ {H4 : Hp} {G4 : Hp}, Gr F3 H3 G4 H4 → ∀ H5, Same H4 H5 → Q (.bl true) H5 := fun {H4 G4} g4 H5 s5 => Z _ _ _ (g13.trans (g4.trans ⟨s5, .refl _, g4.fh.trans s5, fun _ _ h => .inl h⟩)) (.bl _)
        refine ⟨_, rfl, _, rfl, _, rfl, _, rfl, ?_⟩
        rcases bad with ⟨o, rd1⟩ | ⟨fo, fn, rd1⟩
        · refine rd g13.ff g3.fh hq rd1 (E := fun _ _ _ => False) fun G4 H4 g4 ow => ?_
          have g4' := gx_gr g4 hq
          refine ⟨false, rfl, ?_⟩
          refine iteT ?_
          refine iteT ?_
          exact ⟨_, rfl, a, rfl, g4'.hh _ _ ha3, fun H5 s5 => fin g4' H5 s5⟩
        · refine rd g13.ff g3.fh hq rd1 (E := fun _ _ _ => False) fun G4 H4 g4 ow => ?_
          have G4q := gx_free g4 F3q
          obtain ⟨ob, hob⟩ := ow.some
          have s48 : Same G4 (upd G4 q ob) := sm_upd G4q
          have f8 : Same (upd G4 q ob) H4 := fun a o h => by
            by_cases n : a = q
            · subst n
              rw [upd_same] at h
              rw [hob, h]
            · rw [upd_ne n] at h
              exact g4.fh _ _ h
          have d7 : Dt K (upd G4 q ob) (.ref q) (foD fo) := ow.dt s48 fun o h => by
            rw [hob] at h
            cases h
            exact upd_same
          have g4' := gx_gr g4 hq
          refine ⟨true, rfl, ?_⟩
          refine iteF ?_
          have ln := fo_len (fo := fo)
          have fn' : ¬ ((fo.length : Nat) : Int) = (many : Int) := by omega
          have t6 : bT (eOp dNe (eCall dLen (aCons (eVar 7) aNil)) (eVar 1)) [some U.d, some (.int (many : Nat)), none, none, none, none, none, some (foD fo), none] = .ok true := by
            generalize foD fo = f at *
            generalize fo.length = fln at *
            generalize U.d = td
            simp [ln, fn']
          refine ⟨_, [some U.d, some (.int (many : Nat)), none, none, none, none, none, some (foD fo), none], f8, vw_some (d1.same ((g13.ff.trans g4'.ff).trans s48)) (vw_some (.int _) (vw_none (vw_none (vw_none (vw_none (vw_none (vw_some d7 (vw_none vw_nil)))))))), ?_⟩
          rw [t6]
          intro b F9 H9 g9 hb
          cases hb
          refine iteT ?_
          exact ⟨_, rfl, a, rfl, g9.hh _ _ (g4'.hh _ _ ha3), fun H5 s5 => fin g4' H5 fun a o h => s5 _ _ (g9.hh _ _ h)⟩
    · cases e
end
end Du

namespace Du
open PySem PySem.Spec PyProof.Rows L2 Dear
noncomputable def B_law_1 : Env → Out := (sAsgM (mIO 3 8 (F__law_bent 12) (mCons (mP [] (eVar 9)) (mCons (mP [4] (eVar 4)) (mCons (mP [] (eVar 5)) (mAP [] aNil))))) (tgN 9))
theorem B_law_1_u (ρ : Env) : B_law_1 ρ = (sAsgM (mIO 3 8 (F__law_bent 12) (mCons (mP [] (eVar 9)) (mCons (mP [4] (eVar 4)) (mCons (mP [] (eVar 5)) (mAP [] aNil))))) (tgN 9)) ρ := rfl
noncomputable def B_law_2 : Env → Out := (sSeq (sOwn 8 [] (eCall F__law_source (aCons (eCall F__law_cell (aCons (eVar 0) (aCons (eVar 7) aNil))) (aCons (eOp dAdd (eC (.int 200)) (eVar 7)) aNil))))
(sSeq (sAsg [] (eVar 6) (tgN 9))
(sSeq (sIfM (mTest (mOp dEq (mIO 0 8 F__law_draw (mAP [] (aCons (eC (.int 2)) aNil))) (mP [] (eC (.int 1)))))
(sAsgM (mApp (F__law_turned 12) (mCons (mP [] (eVar 6)) (mCons (mP [] (eVar 5)) (mCons (mIO 0 8 F__law_draw (mAP [] (aCons (eVar 5) aNil))) mNil)))) (tgN 9))
sPass)
(sSeq (sForM (mRange1 (mIO 0 8 F__law_draw (mAP [] (aCons (eC (.int 4)) aNil)))) (tgN 10)
B_law_1
[10])
(sIf [] (bNot (bT (eCall F__law_right (aCons (eVar 1) (aCons (eVar 5) (aCons (eVar 9) aNil))))))
(sRet [] (eC (.bl false)))
sPass)))))
theorem B_law_2_u (ρ : Env) : B_law_2 ρ = (sSeq (sOwn 8 [] (eCall F__law_source (aCons (eCall F__law_cell (aCons (eVar 0) (aCons (eVar 7) aNil))) (aCons (eOp dAdd (eC (.int 200)) (eVar 7)) aNil))))
(sSeq (sAsg [] (eVar 6) (tgN 9))
(sSeq (sIfM (mTest (mOp dEq (mIO 0 8 F__law_draw (mAP [] (aCons (eC (.int 2)) aNil))) (mP [] (eC (.int 1)))))
(sAsgM (mApp (F__law_turned 12) (mCons (mP [] (eVar 6)) (mCons (mP [] (eVar 5)) (mCons (mIO 0 8 F__law_draw (mAP [] (aCons (eVar 5) aNil))) mNil)))) (tgN 9))
sPass)
(sSeq (sForM (mRange1 (mIO 0 8 F__law_draw (mAP [] (aCons (eC (.int 4)) aNil)))) (tgN 10)
B_law_1
[10])
(sIf [] (bNot (bT (eCall F__law_right (aCons (eVar 1) (aCons (eVar 5) (aCons (eVar 9) aNil))))))
(sRet [] (eC (.bl false)))
sPass))))) ρ := rfl
noncomputable def B_law : Env → Out := (sSeq (sAsg [] (eCall F__law_world (aCons (eVar 0) aNil)) (tgT [(tgN 1), (tgN 2)]))
(sSeq (sAsg [] (eCall F__law_copy (aCons (eVar 1) aNil)) (tgN 3))
(sSeq (sOwn 4 [] (eComp [11] (iAny (eOp dIx (eVar 1) (eC (.int 0)))) (tgN 11) bYes (eOp dIx (eVar 11) (eC (.int 0)))))
(sSeq (sAsg [] (eCall dLen (aCons (eVar 2) aNil)) (tgN 5))
(sSeq (sAsg [] (eCall F__law_tree (aCons (eVar 1) (aCons (eVar 2) aNil))) (tgN 6))
(sSeq (sFor [] (iRange (aCons (eC (.int 2)) (aCons (eCall dMax2 (aCons (eC (.int 10)) (aCons (eCall dMin2 (aCons (eCall dLen (aCons (eVar 0) aNil)) (aCons (eC (.int 63)) aNil))) aNil))) aNil))) (tgN 7)
B_law_2
[7, 8, 9, 10])
(sRet [] (eOp dEq (eVar 1) (eVar 3)))))))))
theorem B_law_u (ρ : Env) : B_law ρ = (sSeq (sAsg [] (eCall F__law_world (aCons (eVar 0) aNil)) (tgT [(tgN 1), (tgN 2)]))
(sSeq (sAsg [] (eCall F__law_copy (aCons (eVar 1) aNil)) (tgN 3))
(sSeq (sOwn 4 [] (eComp [11] (iAny (eOp dIx (eVar 1) (eC (.int 0)))) (tgN 11) bYes (eOp dIx (eVar 11) (eC (.int 0)))))
(sSeq (sAsg [] (eCall dLen (aCons (eVar 2) aNil)) (tgN 5))
(sSeq (sAsg [] (eCall F__law_tree (aCons (eVar 1) (aCons (eVar 2) aNil))) (tgN 6))
(sSeq (sFor [] (iRange (aCons (eC (.int 2)) (aCons (eCall dMax2 (aCons (eC (.int 10)) (aCons (eCall dMin2 (aCons (eCall dLen (aCons (eVar 0) aNil)) (aCons (eC (.int 63)) aNil))) aNil))) aNil))) (tgN 7)
B_law_2
[7, 8, 9, 10])
(sRet [] (eOp dEq (eVar 1) (eVar 3))))))))) ρ := rfl
noncomputable def F_law : List D → Res D := runD (["_law_script"] : List Str).length n_law.length B_law
theorem ok_law {P : Program} {w : World} {K : PySem.W.Frag} {mg : Str → Option Value} {base : Heap} (T : Txt K mg) {f : Addr} {fd : FuncData} (F : L2.Fun K "law" "law" s_law f fd) : FnOk P w K mg base CX0 (60 + 1) f fd ["_law_script"] (sp0 K F_law) :=
  okL (g := B_law) F c_law fun f cdv A outer s H E hr => 
(fss_cons (fs_asg (L := []) (fe_call (ok__law_world T) hr (fa_cons (fe_var 0) fa_nil)) (fg_tup (fgs_cons (fg_name 1 c_law.nd) (fgs_cons (fg_name 2 c_law.nd) fgs_nil))))
(fss_cons (fs_asg (L := []) (fe_call (ok__law_copy T) hr (fa_cons (fe_var 1) fa_nil)) (fg_name 3 c_law.nd))
(fss_cons (fs_ownLc (L := []) 4 [("_law_one", 11)] c_law.nd (fi_any (fe_ix (ix_A (K := K) (u1 hr.units)) opd_ix (fe_var 1) fe_int)) (fun _ _ _ _ _ => (fg_name 11 c_law.nd)) (fun _ _ _ _ _ => fts_nil) (fun _ _ _ _ _ => (fe_ix (ix_A (K := K) (u1 hr.units)) opd_ix (fe_var 11) fe_int)) (blkOk_by (own := [("_law_one", 11)]) (N := n_law) (sc := defScope s_law) (by decide +kernel)) (sw_true rfl rfl rfl (by decide +kernel)))
(fss_cons (fs_asg (L := []) (fe_callB (cr_len (K := K)) cd_len T.b_len (fa_cons (fe_var 2) fa_nil)) (fg_name 5 c_law.nd))
(fss_cons (fs_asg (L := []) (fe_call (ok__law_tree T) hr (fa_cons (fe_var 1) (fa_cons (fe_var 2) fa_nil))) (fg_name 6 c_law.nd))
(fss_cons (fs_for (L := []) [7, 8, 9, 10] PassesOwn.never (fi_range2 T.b_range (fa_cons fe_int (fa_cons (fe_callB (call_max2 rfl) cd_max2 T.b_max (fa_cons fe_int (fa_cons (fe_callB (call_min2 rfl) cd_min2 T.b_min (fa_cons (fe_callB (cr_len (K := K)) cd_len T.b_len (fa_cons (fe_var 0) fa_nil)) (fa_cons fe_int fa_nil))) fa_nil))) fa_nil)) len2) (fg_name 7 c_law.nd)
(fss_cons (fs_own (L := []) 8 (fw_call (ok__law_source T) hr (fa_cons (fe_call (ok__law_cell T) hr (fa_cons (fe_var 0) (fa_cons (fe_var 7) fa_nil))) (fa_cons (fe_op (op_addA K) opd_add fe_int (fe_var 7)) fa_nil))) c_law.nd)
(fss_cons (fs_asg (L := []) (fe_var 6) (fg_name 9 c_law.nd))
(fss_cons (fs_ifM (mt_cmp (op_eqA (K := K) hr.units) opd_eq (me_io (ok__law_draw T) hr (mio_here 8 (ma_p (L := []) (fa_cons fe_int fa_nil)))) (me_p (L := []) fe_int))
(fss_one (fs_asgM (me_call (ok__law_turned T 12) hr (ma_cons (me_p (L := []) (fe_var 6)) (ma_cons (me_p (L := []) (fe_var 5)) (ma_cons (me_io (ok__law_draw T) hr (mio_here 8 (ma_p (L := []) (fa_cons (fe_var 5) fa_nil)))) ma_nil)))) (fg_name 9 c_law.nd)))
fss_nil)
(fss_cons (fs_forM [10] PassesOwn.never (mi_range1 T.b_range (me_io (ok__law_draw T) hr (mio_here 8 (ma_p (L := []) (fa_cons fe_int fa_nil))))) (fg_name 10 c_law.nd)
(fss_one (fs_asgM (me_io (ok__law_bent T 12) hr (mio_cons (me_p (L := []) (fe_var 9)) (mio_cons (me_p (L := [4]) (fe_var 4)) (mio_cons (me_p (L := []) (fe_var 5)) (mio_here 8 (ma_p (L := []) fa_nil)))))) (fg_name 9 c_law.nd))))
(fss_one (fs_if (L := []) (ft_not (ft_tru (fe_call (ok__law_right T) hr (fa_cons (fe_var 1) (fa_cons (fe_var 5) (fa_cons (fe_var 9) fa_nil))))))
(fss_one (fs_ret (L := []) fe_bl))
fss_nil)))))))
(fss_one (fs_ret (L := []) (fe_cmp (op_eqA (K := K) hr.units) opd_eq (fe_var 1) (fe_var 3))))))))))

end Du

namespace Du
open PySem PySem.Spec PyProof.Rows L2 Dear
/-! ### k17: the world, the law's tree -/
set_option maxHeartbeats 400000
theorem world_e (ns : List Int) (hl : ns.length ≤ 63) : ∃ (T : Tg) (B : List (List Nat)), F__law_world [.scr ns] = .ok (.tup [T.d, txs B]) ∧ Good T ∧ B ≠ [] ∧ B.length ≤ 20 ∧ (∀ v ∈ B, v ∈ T.words) ∧ (B.Pairwise fun a b => ¬ a <+: b ∧ ¬ b <+: a) ∧ T.long ≤ 4 := by
  obtain ⟨T0, et, h0, _, z4, hz4, hz5⟩ := tongueB_e ns hl 0 4 (by decide) (by decide) (by decide) [4, 4, 4] (by decide) (by simp)
  have l4 : T0.long ≤ 4 := by
    have : z4 = 4 := by
      have := List.mem_of_getElem? hz4
      simpa using this
    omega
  have et' : F__law_tongue [.scr ns, .int 0, .int 4, .lst [.int 4, .int 4, .int 4]] = .ok T0.d := et
  obtain ⟨M, hM, m6, eM⟩ : ∃ M : Nat, M ≤ 63 ∧ 6 ≤ M ∧ (if (if (63 : Int) < (ns.length : Int) then (63 : Int) else (ns.length : Int)) > 6 then (if (63 : Int) < (ns.length : Int) then (63 : Int) else (ns.length : Int)) else 6) = (M : Nat) := by
    by_cases c1 : (63 : Int) < (ns.length : Int)
    · omega
    · by_cases c2 : (ns.length : Int) > 6
      · exact ⟨ns.length, by omega, by omega, by simp [c1, c2]⟩
      · exact ⟨6, by decide, by decide, by simp [c1, c2]⟩
  have r1 := dRange_fromB (a := 2) (n := M) (by decide) (by omega)
  have key : ∀ T, Good T → T.words ≠ [] → (∀ h : Env → Out, True) → ∃ B, B ≠ [] ∧ B.length ≤ 20 ∧ (∀ v ∈ B, v ∈ T.words) ∧ (B.Pairwise fun a b => ¬ a <+: b ∧ ¬ b <+: a) ∧
      (sSeq (sOwn 3 [] (eLst aNil)) (sSeq (sFor [] (iRange (aCons (eC (.int 2)) (aCons (eCall dMax2 (aCons (eC (.int 6)) (aCons (eCall dMin2 (aCons (eCall dLen (aCons (eVar 0) aNil)) (aCons (eC (.int 63)) aNil))) aNil))) aNil))) (tgN 4) B__law_world_1 [4, 5, 6, 7]) (sRet [3] (eTup (aCons (eVar 1) (aCons (eVar 3) aNil)))))) [some (.frz (.scr ns)), some (.frz T.d), some (.frz (txs T.words)), none, none, none, none, none, none, none, none] = .rt (.tup [T.d, txs B]) [some (.frz (.scr ns)), some (.frz T.d), some (.frz (txs T.words)), some (.frz (txs B)), none, none, none, none, none, none, none] := by
    intro T h w0 _
    obtain ⟨B, e1, n0, n1, mb, pb⟩ := wl2_e hl (T := T) w0 (Nat.le_trans (words_few h) (by decide)) (fun v hv => codes_asc h (words_ok h hv).2.1) (List.range (M - 2)) [] (fun i hi => by rw [List.mem_range] at hi; omega) (Nat.zero_le _) (fun _ h => nomatch h) .nil (fun e => by
      have : (List.range (M - 2)).length = 0 := by rw [e]; rfl
      rw [List.length_range] at this
      omega)
    refine ⟨B, n0, n1, mb, pb, ?_⟩
    refine seq_to (ρ' := wlS ns T T.words [] none none none none) (by
      rw [own_to (d := .lst []) (by rfl)]
      rfl) ?_
    refine seq_to (for_to (ds := (List.range (M - 2)).map fun i => .int ((i + 2 : Nat) : Int)) (ρ' := wlS ns T T.words [] none none none none) (by
      have v : view [] (wlS ns T T.words [] none none none none) = [some (.scr ns), some T.d, some (txs T.words), none, none, none, none, none, none, none, none] := rfl
      rw [v, iRange_e]
      simp only [aCons_e, aNil_e, eCall_e, eC_e]
      have l1 : eVar 0 [some (.scr ns), some T.d, some (txs T.words), none, none, none, none, none, none, none, none] = .ok (.scr ns) := rfl
      rw [l1, cons2_ok, bd_ok, dLen_scr (by omega), cons2_ok, cons2_ok, bd_ok, dMin2_e, cons2_ok, cons2_ok, bd_ok, dMax2_e, eM, cons2_ok, cons2_ok, bd_ok]
      exact r1) rfl e1) ?_
    have v : view [3] (wlS ns T T.words B none none none none) = [some (.scr ns), some T.d, some (txs T.words), some (txs B), none, none, none, none, none, none, none] := rfl
    rw [sRet_e, v]
    rfl
  have pre : ∀ (T : Tg) (o : Out), Good T → (T0.words ≠ [] → T = T0) → (T0.words = [] → T = T0.open) →
      (sSeq (sOwn 3 [] (eLst aNil)) (sSeq (sFor [] (iRange (aCons (eC (.int 2)) (aCons (eCall dMax2 (aCons (eC (.int 6)) (aCons (eCall dMin2 (aCons (eCall dLen (aCons (eVar 0) aNil)) (aCons (eC (.int 63)) aNil))) aNil))) aNil))) (tgN 4) B__law_world_1 [4, 5, 6, 7]) (sRet [3] (eTup (aCons (eVar 1) (aCons (eVar 3) aNil)))))) [some (.frz (.scr ns)), some (.frz T.d), some (.frz (txs T.words)), none, none, none, none, none, none, none, none] = o →
      B__law_world [some (.frz (.scr ns)), none, none, none, none, none, none, none, none, none, none] = o := by
    intro T o h t1 t2 e
    rw [B__law_world_u]
    refine seq_to (ρ' := [some (.frz (.scr ns)), some (.frz T0.d), none, none, none, none, none, none, none, none, none]) (by simp [et']) ?_
    refine seq_to (ρ' := [some (.frz (.scr ns)), some (.frz T0.d), some (.frz (txs T0.words)), none, none, none, none, none, none, none, none]) (by simp [law_words_e h0]) ?_
    refine seq_to (ρ' := [some (.frz (.scr ns)), some (.frz T.d), some (.frz (txs T.words)), none, none, none, none, none, none, none, none]) ?_ e
    have v : view [] [some (.frz (.scr ns)), some (.frz T0.d), some (.frz (txs T0.words)), none, none, none, none, none, none, none, none] = [some (.scr ns), some T0.d, some (txs T0.words), none, none, none, none, none, none, none, none] := rfl
    have c : bT (eOp dEq (eVar 2) (eLst aNil)) [some (.scr ns), some T0.d, some (txs T0.words), none, none, none, none, none, none, none, none] = .ok (decide (T0.words = [])) := by
      rw [bT_e, eOp_e, eLst_e, aNil_e, bd_ok, lstC_e (by decide)]
      show bd dTru (dEq (txs T0.words) (.lst [])) = _
      rw [dEq_nil (fun d hd => by
        obtain ⟨x, hx, rfl⟩ := List.mem_map.mp hd
        exact .txt (codes_asc h0 (words_ok h0 hx).2.1)), bd_ok, dTru_bl]
      cases T0.words <;> rfl
    rw [sIf_e, v, c, atR_ok]
    by_cases z : T0.words = []
    · have et2 := t2 z
      subst et2
      rw [decide_eq_true z, ifC_t]
      refine seq_to (ρ' := [some (.frz (.scr ns)), some (.frz T0.open.d), some (.frz (txs T0.words)), none, none, none, none, none, none, none, none]) ?_ ?_
      · rw [asg_to (d := T0.open.d) (by
          rw [v, eTup_e]
          simp only [aCons_e, aNil_e, eLst_e, bd_ok, eOp_e, eC_e]
          have cc : eComp [8, 9, 10] (iAny (eOp dIx (eVar 1) (eC (.int 0)))) (tgT [(tgN 8), (tgN 9), (tgN 10)]) bYes (eTup (aCons (eVar 8) (aCons (eVar 9) (aCons (eVar 9) aNil)))) [some (.scr ns), some T0.d, some (txs T0.words), none, none, none, none, none, none, none, none] = .ok (.lst (T0.signs.map fun r => .tup [.str (txt [r.1]), r.2.1, r.2.1])) := by
            have := h0.hi
            refine eComp_all (F := rowD) _ (by simp [Tg.d]) (by omega) fun r hr => ⟨_, rfl, rfl, ?_⟩
            rfl
          rw [cc, lstC_e (by decide)]
          show bd tupC (cons2 (.ok _) (cons2 (.ok _) (cons2 (.ok _) (cons2 (op2 dIx (.ok T0.d) (.ok (.int 3))) (.ok []))))) = _
          have d3 : dIx T0.d (.int 3) = .ok (.int (T0.long : Nat)) := by simp [Tg.d]
          rw [op2_ok, d3]
          show Res.ok (D.tup [.lst (T0.signs.map fun r => .tup [.str (txt [r.1]), r.2.1, r.2.1]), .lst [], .lst [], .int T0.long]) = _
          unfold Tg.open Tg.d
          rw [List.map_map]
          rfl)]
        rfl
      · simp [law_words_e h]
    · have et2 := t1 z
      subst et2
      rw [decide_eq_false z, ifC_f]
      rfl
  by_cases z : T0.words = []
  · obtain ⟨B, n0, n1, mb, pb, e⟩ := key T0.open (open_good h0) (open_words h0) fun _ => trivial
    refine ⟨T0.open, B, ?_, open_good h0, n0, n1, mb, pb, l4⟩
    rw [world_u, pre T0.open _ (open_good h0) (fun n => absurd z n) (fun _ => rfl) e]
    rfl
  · obtain ⟨B, n0, n1, mb, pb, e⟩ := key T0 h0 z fun _ => trivial
    refine ⟨T0, B, ?_, h0, n0, n1, mb, pb, l4⟩
    rw [world_u, pre T0 _ h0 (fun _ => rfl) (fun n => absurd n z) e]
    rfl
theorem copyB_e {T : Tg} : F__law_copy [T.d] = .ok T.d := by
  show outR (B__law_copy [some (.frz T.d)]) = _
  simp [B__law_copy_u, Tg.d]
theorem sourceW_e (c : Int) (k : Nat) (hk : k ≤ 1000) : ∃ d, F__law_source [.int c, .int k] = .ok d ∧ Src d := by
  obtain ⟨a, ha, ea⟩ : ∃ a : Int, 0 ≤ a ∧ (if c < 0 then -c else c) = a := ⟨_, by split <;> omega, rfl⟩
  have f1 := cmulL (a := 104729) (b := k) (by omega) (by omega)
  have f2 := cmul (a := a % 1000003 + 104729 * k + 7) (b := 48271) (by omega) (by omega) (by omega) (by omega)
  refine ⟨.lst [.int (a * (if decide ((10 : Int) ^ 18 ≤ a) = true then 1 else 0)), .int ((a % 1000003 + 104729 * k + 7) * 48271 % 2147483647)], ?_, _, _, rfl, by omega, by omega⟩
  show outO (B__law_source [some (.frz (.int c)), some (.frz (.int k)), none, none]) = _
  have f4 : CMulA a (if (1000000000000000000 : Int) ≤ a then 1 else 0) := cmulR (by split <;> omega) (by split <;> omega)
  simp [B__law_source, ea, f1, f2, f4]
theorem ltree_e {T : Tg} (h : Good T) {W : List (List Nat)} (hW : W.length ≤ 1000) (hl : ∀ v ∈ W, v.length ≤ 4) (hc : ∀ v ∈ W, ∀ c ∈ v, c ∈ T.codes) : ∃ l, F__law_tree [T.d, txs W] = .ok (brD l) ∧ TL lfN T.codes 100 4 l := by
  have h6 := h.hi
  have c1 : eComp [2] (iAny (eOp dIx (eVar 0) (eC (.int 0)))) (tgN 2) bYes (eOp dIx (eVar 2) (eC (.int 0))) [some T.d, some (txs W), none, none, none] = .ok (lettD T.codes) := by
    have := codes_e (vs := [2]) (i := 2) (x := [some T.d, some (txs W), none, none, none]) h rfl rfl (by decide) (by simp)
    rw [this]
    unfold txs lettD
    rw [List.map_map]
    rfl
  have c2 : eComp [3, 4] (iEnumD (aCons (eVar 1) aNil)) (tgT [(tgN 3), (tgN 4)]) bYes (eTup (aCons (eVar 4) (aCons (eVar 3) aNil))) [some T.d, some (txs W), none, none, none] = .ok (endsD W.zipIdx) := by
    refine eComp_all (F := fun e : List Nat × Nat => .tup [.int (e.2 : Nat), .str (txt e.1)]) _ (by
      have := numbered_zip (fun v => D.str (txt v)) W 0
      rw [← this]
      rfl) (by rw [List.length_zipIdx]; omega) fun e he => ⟨[(3, .int (e.2 : Nat)), (4, .str (txt e.1))], rfl, by simp, ?_⟩
    generalize txs W = wd
    generalize T.d = td
    simp
  obtain ⟨l, g, t⟩ := lgrown_e (cs := T.codes) (by unfold Tg.codes; rw [List.length_map]; omega) 4 12 W.zipIdx (fun e he => hl e.1 (List.fst_mem_of_mem_zipIdx (x := e) he)) (by decide) (by decide) (by rw [List.length_zipIdx]; exact hW) (fun e he => cods_asc h (hc e.1 (List.fst_mem_of_mem_zipIdx (x := e) he)))
  refine ⟨l, ?_, t⟩
  show outR (B__law_tree [some (.frz T.d), some (.frz (txs W)), none, none, none]) = _
  rw [B__law_tree_u]
  generalize brD l = ld at *
  generalize endsD W.zipIdx = ed at *
  generalize lettD T.codes = nd at *
  generalize txs W = wd at *
  generalize T.d = td at *
  simp [c1, c2, g]
end Du

namespace Du
open PySem PySem.Spec PyProof.Rows L2 Dear
/-! ### k17: the law -/
set_option maxHeartbeats 400000
def twS (ns : List Int) (T : Tg) (W : List (List Nat)) (x4 : Slot) (many : Nat) (tr : D) (x7 x8 x9 x10 : Option Slot) : Env := [some (.frz (.scr ns)), some (.frz T.d), some (.frz (txs W)), some (.frz T.d), some x4, some (.frz (.int many)), some (.frz tr), x7, x8, x9, x10, none]
def NmS (cs : List Nat) (x : Slot) : Prop := x = .own false (lettD cs) ∨ x = .frz (lettD cs)
theorem bend_once {ns : List Int} {T : Tg} (h : Good T) {W : List (List Nat)} {x4 : Slot} (h4 : NmS T.codes x4) {many : Nat} (m0 : 1 ≤ many) (m1 : many ≤ 20) {tr : D} {x7 x10 : Option Slot} {s : D} (hs : Src s) {B k : Nat} {l : List (Nat × D)} (t : TL lfT T.codes B k l) (hB : B ≤ 900) (hk : k + 1 ≤ 12) :
    ∃ (l' : List (Nat × D)) (s' : D), B_law_1 (twS ns T W x4 many tr x7 (some (.own false s)) (some (.frz (brD l))) x10) = .nx (twS ns T W (.frz (lettD T.codes)) many tr x7 (some (.own false s')) (some (.frz (brD l'))) x10) ∧ TL lfT T.codes (B + 1) (k + 1) l' ∧ Src s' := by
  have lo := h.lo
  have hi := h.hi
  have cl : T.codes.length = T.signs.length := by unfold Tg.codes; rw [List.length_map]
  obtain ⟨l', s', e, t', hs'⟩ := bent_e hB (fun c hc => cods_asc h (w := [c]) (fun x hx => by rw [List.mem_singleton.mp hx]; exact hc) c (List.mem_singleton.mpr rfl)) (fun z => by rw [z, List.length_nil] at cl; omega) (by omega) (many := (many : Int)) (by omega) (by omega) k 12 l s (by omega) t hk hs
  refine ⟨l', s', ?_, t', hs'⟩
  rw [B_law_1_u]
  obtain ⟨ds, hd⟩ : ∃ ds, lettD T.codes = .lst ds := ⟨_, rfl⟩
  unfold twS
  unfold NmS at h4
  obtain ⟨ds2, hd2⟩ : ∃ ds, brD l = .lst ds := ⟨_, rfl⟩
  obtain ⟨ds3, hd3⟩ : ∃ ds, brD l' = .lst ds := ⟨_, rfl⟩
  rw [hd] at e h4 ⊢
  rw [hd2, hd3] at e ⊢
  generalize T.d = td at *
  generalize txs W = wd at *
  rcases h4 with rfl | rfl <;> rcases x7 with _ | (_ | _) <;> rcases x10 with _ | (_ | _) <;> simp [e]
theorem bends {ns : List Int} {T : Tg} (h : Good T) {W : List (List Nat)} {many : Nat} (m0 : 1 ≤ many) (m1 : many ≤ 20) {tr : D} {x7 : Option Slot} : ∀ (n : Nat) (ds : List D) (x4 : Slot) (s : D) (B k : Nat) (l : List (Nat × D)), ds.length = n → NmS T.codes x4 → Src s → TL lfT T.codes B k l → B + n ≤ 900 → k + n ≤ 10 →
    ∃ (l' : List (Nat × D)) (s' : D) (x4' : Slot), forL (tgN 10) B_law_1 [10] ds (twS ns T W x4 many tr x7 (some (.own false s)) (some (.frz (brD l))) none) = .nx (twS ns T W x4' many tr x7 (some (.own false s')) (some (.frz (brD l'))) none) ∧ NmS T.codes x4' ∧ TL lfT T.codes (B + n) (k + n) l' ∧ Src s'
  | 0, [], x4, s, B, k, l, _, h4, hs, t, _, _ => ⟨l, s, x4, rfl, h4, t, hs⟩
  | 0, _ :: _, _, _, _, _, _, e, _, _, _, _, _ => by simp at e
  | n + 1, [], _, _, _, _, _, e, _, _, _, _, _ => by simp at e
  | n + 1, d :: ds, x4, s, B, k, l, e, h4, hs, t, hB, hk => by
    obtain ⟨l1, s1, e1, t1, hs1⟩ := bend_once (ns := ns) (W := W) (tr := tr) (x7 := x7) (x10 := some (.frz d)) h h4 m0 m1 hs t (by omega) (by omega)
    obtain ⟨l2, s2, x2, e2, h2, t2, hs2⟩ := bends h m0 m1 n ds (.frz (lettD T.codes)) s1 (B + 1) (k + 1) l1 (by simpa using e) (.inr rfl) hs1 t1 (by omega) (by omega)
    refine ⟨l2, s2, x2, ?_, h2, by rw [show B + (n + 1) = B + 1 + n by omega, show k + (n + 1) = k + 1 + n by omega]; exact t2, hs2⟩
    have e0 : setS (twS ns T W x4 many tr x7 (some (.own false s)) (some (.frz (brD l))) none) [(10, d)] = twS ns T W x4 many tr x7 (some (.own false s)) (some (.frz (brD l))) (some (.frz d)) := rfl
    rw [forL_cons, tgN_e, forT_ok, e0, e1, forK_nx]
    exact e2
theorem turn_once {ns : List Int} (hl : ns.length ≤ 63) {T : Tg} (h : Good T) {W : List (List Nat)} {x4 : Slot} (h4 : NmS T.codes x4) {many : Nat} (m0 : 1 ≤ many) (m1 : many ≤ 20) {l : List (Nat × D)} (t : TL lfN T.codes 100 4 l) (hr : ∀ l', RtOk T many l' → F__law_right [T.d, .int many, brD l'] = .ok (.bl true)) {i : Nat} (hi : i ≤ 100) :
    ∃ ρ' x4', B_law_2 (setS (twS ns T W x4 many (brD l) none none none none) [(7, .int (i : Nat))]) = .nx ρ' ∧ clr [7, 8, 9, 10] ρ' = twS ns T W x4' many (brD l) none none none none ∧ NmS T.codes x4' := by
  obtain ⟨c, ec⟩ := cell_e ns hl i
  obtain ⟨s, es, hs⟩ := sourceW_e c (200 + i) (by omega)
  have es' : F__law_source [.int c, .int (200 + (i : Int))] = .ok s := es
  obtain ⟨k1, s1, e1, a0, a1, hs1⟩ := draw_e (m := 2) (by decide) (by decide) hs
  -- the thing ahead of the bends
  obtain ⟨l1, s2, hs2, t1, step⟩ : ∃ (l1 : List (Nat × D)) (s2 : D), Src s2 ∧ TL lfT T.codes 100 4 l1 ∧ (sIfM (mTest (mOp dEq (mIO 0 8 F__law_draw (mAP [] (aCons (eC (.int 2)) aNil))) (mP [] (eC (.int 1)))))
(sAsgM (mApp (F__law_turned 12) (mCons (mP [] (eVar 6)) (mCons (mP [] (eVar 5)) (mCons (mIO 0 8 F__law_draw (mAP [] (aCons (eVar 5) aNil))) mNil)))) (tgN 9))
sPass) (twS ns T W x4 many (brD l) (some (.frz (.int (i : Nat)))) (some (.own false s)) (some (.frz (brD l))) none) = .nx (twS ns T W x4 many (brD l) (some (.frz (.int (i : Nat)))) (some (.own false s2)) (some (.frz (brD l1))) none) := by
    by_cases c1 : k1 = 1
    · subst c1
      obtain ⟨b, s2, e2, b0, b1, hs2⟩ := draw_e (m := (many : Int)) (by omega) (by omega) hs1
      obtain ⟨l1, e3, t3⟩ := turned_e (B := 100) (by decide) (many := (many : Int)) (b := b) (by omega) 4 12 l t (by decide)
      refine ⟨l1, s2, hs2, t3.mono (fun d ⟨n, e⟩ => .inl ⟨n, e⟩) (Nat.le_refl _) (Nat.le_refl _), ?_⟩
      unfold twS
      generalize brD l1 = l1d at *
      generalize brD l = ld at *
      generalize T.d = td at *
      generalize txs W = wd at *
      cases x4 <;> simp [e1, e2, e3]
    · refine ⟨l, s1, hs1, t.mono (fun d ⟨n, e⟩ => .inl ⟨n, e⟩) (Nat.le_refl _) (Nat.le_refl _), ?_⟩
      unfold twS
      generalize brD l = ld at *
      generalize T.d = td at *
      generalize txs W = wd at *
      cases x4 <;> simp [e1, c1]
  obtain ⟨n, s3, e3, n0, n1, hs3⟩ := draw_e (m := 4) (by decide) (by decide) hs2
  obtain ⟨n, rfl⟩ : ∃ j : Nat, n = j := ⟨n.toNat, by omega⟩
  obtain ⟨l2, s4, x4', e4, h4', t4, hs4⟩ := bends (ns := ns) (W := W) (tr := brD l) (x7 := some (.frz (.int (i : Nat)))) h m0 m1 n (rangeD 0 n) x4 s3 100 4 l1 (by simp [rangeD]) h4 hs3 t1 (by omega) (by omega)
  have rt := hr l2 ⟨h, by omega, 100 + n, 4 + n, by omega, by omega, t4⟩
  refine ⟨twS ns T W x4' many (brD l) (some (.frz (.int (i : Nat)))) (some (.own false s4)) (some (.frz (brD l2))) none, x4', ?_, rfl, h4'⟩
  rw [B_law_2_u]
  have e0 : setS (twS ns T W x4 many (brD l) none none none none) [(7, .int (i : Nat))] = twS ns T W x4 many (brD l) (some (.frz (.int (i : Nat)))) none none none := rfl
  rw [e0]
  refine seq_to (ρ' := twS ns T W x4 many (brD l) (some (.frz (.int (i : Nat)))) (some (.own false s)) none none) ?_ (seq_to (ρ' := twS ns T W x4 many (brD l) (some (.frz (.int (i : Nat)))) (some (.own false s)) (some (.frz (brD l))) none) ?_ (seq_to step (seq_to (ρ' := twS ns T W x4' many (brD l) (some (.frz (.int (i : Nat)))) (some (.own false s4)) (some (.frz (brD l2))) none) ?_ ?_)))
  · obtain ⟨a, b, rfl, _, _⟩ := hs
    unfold twS
    generalize brD l = ld
    generalize T.d = td
    generalize txs W = wd
    cases x4 <;> simp [ec, es']
  · obtain ⟨ds, hd⟩ : ∃ ds, brD l = .lst ds := ⟨_, rfl⟩
    unfold twS
    rw [hd]
    generalize T.d = td
    generalize txs W = wd
    cases x4 <;> simp
  · have dr : (mIO 0 8 F__law_draw (mAP [] (aCons (eC (.int 4)) aNil))) (twS ns T W x4 many (brD l) (some (.frz (.int (i : Nat)))) (some (.own false s2)) (some (.frz (brD l1))) none) = .ok (.int (n : Nat)) (twS ns T W x4 many (brD l) (some (.frz (.int (i : Nat)))) (some (.own false s3)) (some (.frz (brD l1))) none) := by
      unfold twS
      generalize brD l = ld
      generalize brD l1 = l1d
      generalize T.d = td
      generalize txs W = wd
      cases x4 <;> simp [e3]
    unfold sForM
    rw [mAt_e, mRange1_of dr (by omega) (by omega), ats_ok, Int.toNat_natCast]
    exact e4
  · unfold twS
    generalize brD l2 = l2d at *
    generalize brD l = ld at *
    generalize T.d = td at *
    generalize txs W = wd at *
    cases x4' <;> simp [rt]
theorem turns {ns : List Int} (hl : ns.length ≤ 63) {T : Tg} (h : Good T) {W : List (List Nat)} {many : Nat} (m0 : 1 ≤ many) (m1 : many ≤ 20) {l : List (Nat × D)} (t : TL lfN T.codes 100 4 l) (hr : ∀ l', RtOk T many l' → F__law_right [T.d, .int many, brD l'] = .ok (.bl true)) : ∀ (js : List Nat) (x4 : Slot), NmS T.codes x4 → (∀ i ∈ js, i + 2 ≤ 100) →
    ∃ x4', forL (tgN 7) B_law_2 [7, 8, 9, 10] (js.map fun i => .int ((i + 2 : Nat) : Int)) (twS ns T W x4 many (brD l) none none none none) = .nx (twS ns T W x4' many (brD l) none none none none)
  | [], x4, _, _ => ⟨x4, rfl⟩
  | j :: js, x4, h4, hj => by
    obtain ⟨ρ', x4', e1, e2, h4'⟩ := turn_once hl (W := W) h h4 m0 m1 t hr (hj j List.mem_cons_self)
    obtain ⟨x5, e3⟩ := turns hl h m0 m1 t hr js x4' h4' fun x hx => hj x (List.mem_cons_of_mem _ hx)
    refine ⟨x5, ?_⟩
    rw [List.map_cons, forL_cons, tgN_e, forT_ok, e1, forK_nx, e2]
    exact e3
theorem law17_u (ns : List Int) : F_law [.scr ns] = outR (B_law [some (.frz (.scr ns)), none, none, none, none, none, none, none, none, none, none, none]) := by rfl
theorem law_of_right (ns : List Int) (hl : ns.length ≤ 63) (hr : ∀ T many l', RtOk T many l' → F__law_right [T.d, .int (many : Nat), brD l'] = .ok (.bl true)) : F_law [.scr ns] = .ok (.bl true) := by
  obtain ⟨T, W, ew, h, n0, n20, mb, pb, l4⟩ := world_e ns hl
  have m0 : 1 ≤ W.length := by have := List.length_pos_iff.mpr n0; omega
  have lv : ∀ v ∈ W, v.length ≤ 4 ∧ ∀ c ∈ v, c ∈ T.codes := fun v hv => by
    obtain ⟨m, hm, hw, _⟩ := words_level (mb v hv)
    have := level_w T _ v hw
    exact ⟨by omega, words_cods (mb v hv)⟩
  obtain ⟨l, et, tl⟩ := ltree_e h (W := W) (by omega) (fun v hv => (lv v hv).1) (fun v hv => (lv v hv).2)
  have h6 := h.hi
  obtain ⟨M, hM, eM⟩ : ∃ M : Nat, M ≤ 63 ∧ (if (if (63 : Int) < (ns.length : Int) then (63 : Int) else (ns.length : Int)) > 10 then (if (63 : Int) < (ns.length : Int) then (63 : Int) else (ns.length : Int)) else 10) = (M : Nat) := by
    by_cases c1 : (63 : Int) < (ns.length : Int)
    · omega
    · by_cases c2 : (ns.length : Int) > 10
      · exact ⟨ns.length, by omega, by simp [c1, c2]⟩
      · exact ⟨10, by decide, by simp [c1, c2]⟩
  have r1 := dRange_fromB (a := 2) (n := M) (by decide) (by omega)
  obtain ⟨x4', lp⟩ := turns hl (W := W) (many := W.length) h m0 n20 tl (fun l' => hr T _ l') (List.range (M - 2)) (.own false (lettD T.codes)) (.inl rfl) (fun i hi => by rw [List.mem_range] at hi; omega)
  have de := dEq_self (h.ly.lay (by decide))
  have cc : eComp [11] (iAny (eOp dIx (eVar 1) (eC (.int 0)))) (tgN 11) bYes (eOp dIx (eVar 11) (eC (.int 0))) [some (.scr ns), some T.d, some (txs W), some T.d, none, none, none, none, none, none, none, none] = .ok (lettD T.codes) := by
    have d0 : dIx T.d (.int 0) = .ok (.lst (T.signs.map rowD)) := by simp [Tg.d]
    unfold lettD Tg.codes
    rw [List.map_map]
    refine eComp_all (F := rowD) _ (by
      have it : dItems (.lst (T.signs.map rowD)) = .ok (T.signs.map rowD) := rfl
      generalize txs W = wd
      generalize T.d = td at *
      generalize T.signs.map rowD = sr at *
      simp [d0, it]) (by omega) fun r hr => ⟨_, rfl, by simp, ?_⟩
    generalize txs W = wd
    generalize T.d = td
    simp [rowD]
  have ll : dLen [txs W] = .ok (.int (W.length : Nat)) := by rw [dLen_lst (by rw [List.length_map]; omega), List.length_map]
  rw [law17_u]
  suffices key : ∃ ρ, B_law [some (.frz (.scr ns)), none, none, none, none, none, none, none, none, none, none, none] = .rt (.bl true) ρ by
    obtain ⟨ρ, e⟩ := key
    rw [e]
    rfl
  refine ⟨twS ns T W x4' W.length (brD l) none none none none, ?_⟩
  rw [B_law_u]
  refine seq_to (ρ' := [some (.frz (.scr ns)), some (.frz T.d), some (.frz (txs W)), none, none, none, none, none, none, none, none, none]) (by simp [ew]) ?_
  refine seq_to (ρ' := [some (.frz (.scr ns)), some (.frz T.d), some (.frz (txs W)), some (.frz T.d), none, none, none, none, none, none, none, none]) (by simp [copyB_e]) ?_
  refine seq_to (ρ' := [some (.frz (.scr ns)), some (.frz T.d), some (.frz (txs W)), some (.frz T.d), some (.own false (lettD T.codes)), none, none, none, none, none, none, none]) (by
    rw [own_to (d := lettD T.codes) cc]
    generalize lettD T.codes = nd
    generalize txs W = wd
    generalize T.d = td
    simp) ?_
  refine seq_to (ρ' := [some (.frz (.scr ns)), some (.frz T.d), some (.frz (txs W)), some (.frz T.d), some (.own false (lettD T.codes)), some (.frz (.int (W.length : Nat))), none, none, none, none, none, none]) (by
    generalize lettD T.codes = nd
    generalize W.length = wl at *
    generalize txs W = wd at *
    generalize T.d = td
    simp [ll]) ?_
  refine seq_to (ρ' := twS ns T W (.own false (lettD T.codes)) W.length (brD l) none none none none) (by
    obtain ⟨ds, hd⟩ : ∃ ds, brD l = .lst ds := ⟨_, rfl⟩
    unfold twS
    rw [hd] at et ⊢
    generalize lettD T.codes = nd
    generalize W.length = wl at *
    generalize txs W = wd at *
    generalize T.d = td at *
    simp [et]) ?_
  refine seq_to (for_to (ds := (List.range (M - 2)).map fun i => .int ((i + 2 : Nat) : Int)) (ρ' := twS ns T W (.own false (lettD T.codes)) W.length (brD l) none none none none) (by
    have v : view [] (twS ns T W (.own false (lettD T.codes)) W.length (brD l) none none none none) = [some (.scr ns), some T.d, some (txs W), some T.d, none, some (.int (W.length : Nat)), some (brD l), none, none, none, none, none] := rfl
    rw [v, iRange_e]
    simp only [aCons_e, aNil_e, eCall_e, eC_e]
    have l1 : eVar 0 [some (.scr ns), some T.d, some (txs W), some T.d, none, some (.int (W.length : Nat)), some (brD l), none, none, none, none, none] = .ok (.scr ns) := rfl
    rw [l1, cons2_ok, bd_ok, dLen_scr (by omega), cons2_ok, cons2_ok, bd_ok, dMin2_e, cons2_ok, cons2_ok, bd_ok, dMax2_e, eM, cons2_ok, cons2_ok, bd_ok]
    exact r1) rfl lp) ?_
  unfold twS
  generalize brD l = ld at *
  generalize W.length = wl at *
  generalize txs W = wd at *
  generalize T.d = td at *
  cases x4' <;> simp [de]
end Du

namespace Du
open PySem PySem.Spec PyProof.Rows L2 Dear
theorem law_e (ns : List Int) (hl : ns.length ≤ 63) : F_law [.scr ns] = .ok (.bl true) := law_of_right ns hl fun T many l' ok => by
  unfold F__law_right
  exact if_pos ⟨(T, many, l'), ok, rfl⟩
end Du

namespace Dear
open PySem PySem.Spec PyProof.Rows L2
/-- law's: a list of at most 63 ints is handed in, True comes out -/
def spLaw (K : PySem.W.Frag) : Sp := fun vs H Q _ => ∃ (a : Addr) (ns : List Int), vs = [.ref a] ∧ SqL K H a (ns.map V.int) ∧ ns.length ≤ 63 ∧ ∀ H', Q (.bl true) H'
end Dear

namespace Dear
open PySem PySem.Spec PyProof.Rows L2
theorem ok_law {P : Program} {w : World} {K : PySem.W.Frag} {mg : Str → Option Value} {base : Heap} (T : Txt K mg) {f : Addr} {fd : FuncData} (F : L2.Fun K "law" "law" s_law f fd) : FnOk P w K mg base CX0 100 f fd ["_law_script"] (spLaw K) := (Du.law_of (Du.ok_law T F) Du.law_e).mono (by decide)
end Dear

namespace Dear
open PySem PySem.Spec PyProof.Rows L2
theorem walk {l : PySem.W.OpenLaw} {q : Program} {loose : List Str} {XP : (Str → Option Value) → Heap → Prop} {YP : World → Heap → Prop} {d : DefRec} {K : Params → PySem.W.Frag} (hn : l.most = some 63) (hdf : d.params.defaults = [])
    (hY : ∀ (w : World) (h : Heap), YP w h → (K w.params).In h)
    (F : ∀ (w : World) (mg : Str → Option Value) (fa : Addr) (h : Heap), (K w.params).In h → h.Ns mainGlobals mg → mg d.name = some (.ref fa) →
      ∃ fd : FuncData, (∀ (s : Shared) (u : Value), BindsTo s fd ⟨[u], []⟩ [("_law_script", u)]) ∧ ∀ base : Heap, (K w.params).In base → base.Ns mainGlobals mg → FnOk l.prog w (K w.params) mg base CX0 100 fa fd ["_law_script"] (spLaw (K w.params))) :
    PySem.W.WalkO q loose XP YP l.row.toRowW d [] (fun f vs => PySem.call f vs) :=
  L2.walk_of (n := 63) (k := 100) (x := "_law_script") (CX := fun _ => CX0) (sp := fun w => spLaw (K w.params)) hn (by decide) hdf ⟨rfl, by decide, by decide⟩ hY F (fun _ _ a ns hl _ hS => ⟨a, ns, rfl, hS, hl, fun _ => rfl⟩) fun _ _ _ _ _ z => z
theorem fin {l : PySem.W.OpenLaw} {w : World} {K : PySem.W.Frag} {h : Heap} {mg : Str → Option Value} {fa : Addr} (X : K.In h) (G : h.Ns mainGlobals mg) (hfa : mg "law" = some (.ref fa)) (T : Txt K mg) :
    ∃ fd : FuncData, (∀ (s : Shared) (v : Value), BindsTo s fd ⟨[v], []⟩ [("_law_script", v)]) ∧ ∀ base : Heap, K.In base → base.Ns mainGlobals mg → FnOk l.prog w K mg base CX0 100 fa fd ["_law_script"] (spLaw K) := by
  obtain ⟨f, fd, hm, F, hb⟩ := id T.f_law
  have e := hfa.symm.trans hm
  cases e
  refine ⟨fd, fun s v => ?_, fun base _ _ => (ok_law T F).mono (by decide)⟩
  obtain ⟨oc, od, kV, doc, pm, an, cdv, ct, osl, rfl, lk, hcd⟩ := F.ex
  exact .of_eq rfl
end Dear

open PySem PySem.W PyProof.Rows
set_option maxRecDepth 100000 in
set_option maxHeartbeats 0 in
theorem PySem.Challenge.cw_dearsigns_k17_whole_whatever_tree_holds : PySem.Challenge.rw_dearsigns_k17_whole_whatever_tree.Holds := by
  w_on; o_law; k_head; (case hw => w_witness2)
  k_fill
  refine Dear.walk (l := PySem.Challenge.rw_dearsigns_k17_whole_whatever_tree) rfl rfl (fun w h Y => PySem.W.kIn_of Y) ?F
  case F =>
    intro w mg fa h KX G hmg
    refine Dear.fin KX G hmg ?T
    case T =>
      refine' Dear.txt_mk KX G ?g_DearError ?i_DearError ?t_DearError ?g_NoNumber ?i_NoNumber ?t_NoNumber ?g_NoBook ?i_NoBook ?t_NoBook ?g_NoTree ?i_NoTree ?t_NoTree ?g_TooMany ?i_TooMany ?t_TooMany ?g_NoCount ?i_NoCount ?t_NoCount ?g_NoUndo ?i_NoUndo ?t_NoUndo ?g_NoTurn ?i_NoTurn ?t_NoTurn ?g_NoRow ?i_NoRow ?t_NoRow ?g_Unknown ?i_Unknown ?t_Unknown ?g_NoTongue ?i_NoTongue ?t_NoTongue ?g_NoWants ?i_NoWants ?t_NoWants ?g_NoThing ?i_NoThing ?t_NoThing ?g_BadSign ?i_BadSign ?t_BadSign ?g_NoText ?i_NoText ?t_NoText ?b_DearError ?x1_NoTree ?x2_NoTree ?x3_NoTree ?x4_NoTree ?x5_NoTree ?x6_NoTree ?x7_NoTree ?x8_NoTree ?x9_NoTree ?x10_NoTree ?x11_NoTree ?d1 ?d2 ?d3 ?xl_NoTongue ?sa_NoTongue ?x2_NoTongue ?x3_NoTongue ?x4_NoTongue ?x5_NoTongue ?x6_NoTongue ?x7_NoTongue ?x8_NoTongue ?x9_NoTongue ?x10_NoTongue ?x11_NoTongue ?fn_NoTongue ?i1_NoTongue ?i2_NoTongue ?i3_NoTongue ?i4_NoTongue ?i5_NoTongue ?q_NoTree_DearError ?q_NoTree_NoNumber ?n_NoTree_NoNumber ?q_NoTree_NoBook ?n_NoTree_NoBook ?q_NoTree_NoTree ?q_NoTree_TooMany ?n_NoTree_TooMany ?q_NoTree_NoCount ?n_NoTree_NoCount ?q_NoTree_NoUndo ?n_NoTree_NoUndo ?q_NoTree_NoTurn ?n_NoTree_NoTurn ?q_NoTree_NoRow ?n_NoTree_NoRow ?q_NoTree_Unknown ?n_NoTree_Unknown ?q_NoTree_NoTongue ?n_NoTree_NoTongue ?q_NoTree_NoWants ?n_NoTree_NoWants ?q_NoTree_NoThing ?n_NoTree_NoThing ?q_NoTree_BadSign ?n_NoTree_BadSign ?q_NoTree_NoText ?n_NoTree_NoText ?q_NoTree_ValueError ?a1 ?l1 ?c1 ?k1 ?a2 ?l2 ?c2 ?k2 ?a3 ?l3 ?c3 ?k3 ?a4 ?l4 ?c4 ?k4 ?a5 ?l5 ?c5 ?k5 ?a6 ?l6 ?c6 ?k6 ?a7 ?l7 ?c7 ?k7 ?a8 ?l8 ?c8 ?k8 ?a9 ?l9 ?c9 ?k9 ?a10 ?l10 ?c10 ?k10 ?a11 ?l11 ?c11 ?k11 ?a12 ?l12 ?c12 ?k12 ?a13 ?l13 ?c13 ?k13 ?a14 ?l14 ?c14 ?k14 ?a15 ?l15 ?c15 ?k15 ?a16 ?l16 ?c16 ?k16 ?a17 ?l17 ?c17 ?k17 ?a18 ?l18 ?c18 ?k18 ?a19 ?l19 ?c19 ?k19 ?a20 ?l20 ?c20 ?k20 ?a21 ?l21 ?c21 ?k21 ?a22 ?l22 ?c22 ?k22 ?a23 ?l23 ?c23 ?k23 ?a24 ?l24 ?c24 ?k24 ?a25 ?l25 ?c25 ?k25 ?a26 ?l26 ?c26 ?k26 ?a27 ?l27 ?c27 ?k27 ?a28 ?l28 ?c28 ?k28 ?a29 ?l29 ?c29 ?k29 ?a30 ?l30 ?c30 ?k30 ?a31 ?l31 ?c31 ?k31 ?a32 ?l32 ?c32 ?k32 ?a33 ?l33 ?c33 ?k33 ?a34 ?l34 ?c34 ?k34 ?a35 ?l35 ?c35 ?k35 ?a36 ?l36 ?c36 ?k36 ?a37 ?l37 ?c37 ?k37 ?a38 ?l38 ?c38 ?k38 ?a39 ?l39 ?c39 ?k39 ?a40 ?a41 ?a42 ?a43 ?a44 ?a45 ?a46 ?a47 ?a48 ?a49 ?a50 ?a51 ?a52 ?a53 ?a54 ?a55 ?a56 ?a57 ?a58
      (case g_DearError => k_is); (case i_DearError => k_is); (case t_DearError => k_is); (case g_NoNumber => k_is); (case i_NoNumber => k_is); (case t_NoNumber => k_is); (case g_NoBook => k_is); (case i_NoBook => k_is)
      (case t_NoBook => k_is); (case g_NoTree => k_is); (case i_NoTree => k_is); (case t_NoTree => k_is); (case g_TooMany => k_is); (case i_TooMany => k_is); (case t_TooMany => k_is); (case g_NoCount => k_is)
      (case i_NoCount => k_is); (case t_NoCount => k_is); (case g_NoUndo => k_is); (case i_NoUndo => k_is); (case t_NoUndo => k_is); (case g_NoTurn => k_is); (case i_NoTurn => k_is); (case t_NoTurn => k_is)
      (case g_NoRow => k_is); (case i_NoRow => k_is); (case t_NoRow => k_is); (case g_Unknown => k_is); (case i_Unknown => k_is); (case t_Unknown => k_is); (case g_NoTongue => k_is); (case i_NoTongue => k_is)
      (case t_NoTongue => k_is); (case g_NoWants => k_is); (case i_NoWants => k_is); (case t_NoWants => k_is); (case g_NoThing => k_is); (case i_NoThing => k_is); (case t_NoThing => k_is); (case g_BadSign => k_is)
      (case i_BadSign => k_is); (case t_BadSign => k_is); (case g_NoText => k_is); (case i_NoText => k_is); (case t_NoText => k_is); (case b_DearError => k_is); (case x1_NoTree => k_exc); (case x2_NoTree => k_is)
      (case x3_NoTree => k_is); (case x4_NoTree => k_is); (case x5_NoTree => k_is); (case x6_NoTree => k_is); (case x7_NoTree => k_is); (case x8_NoTree => k_is); (case x9_NoTree => k_is); (case x10_NoTree => k_is)
      (case x11_NoTree => k_is); (case d1 => k_is); (case d2 => k_is); (case d3 => k_is); (case xl_NoTongue => k_is); (case sa_NoTongue => k_is); (case x2_NoTongue => k_is); (case x3_NoTongue => k_is)
      (case x4_NoTongue => k_is); (case x5_NoTongue => k_is); (case x6_NoTongue => k_is); (case x7_NoTongue => k_is); (case x8_NoTongue => k_is); (case x9_NoTongue => k_is); (case x10_NoTongue => k_is); (case x11_NoTongue => k_is)
      (case fn_NoTongue => k_is); (case i1_NoTongue => k_is); (case i2_NoTongue => k_is); (case i3_NoTongue => k_is); (case i4_NoTongue => k_is); (case i5_NoTongue => k_is); (case q_NoTree_DearError => k_is); (case q_NoTree_NoNumber => k_is)
      (case n_NoTree_NoNumber => rfl); (case q_NoTree_NoBook => k_is); (case n_NoTree_NoBook => rfl); (case q_NoTree_NoTree => k_is); (case q_NoTree_TooMany => k_is); (case n_NoTree_TooMany => rfl); (case q_NoTree_NoCount => k_is); (case n_NoTree_NoCount => rfl)
      (case q_NoTree_NoUndo => k_is); (case n_NoTree_NoUndo => rfl); (case q_NoTree_NoTurn => k_is); (case n_NoTree_NoTurn => rfl); (case q_NoTree_NoRow => k_is); (case n_NoTree_NoRow => rfl); (case q_NoTree_Unknown => k_is); (case n_NoTree_Unknown => rfl)
      (case q_NoTree_NoTongue => k_is); (case n_NoTree_NoTongue => rfl); (case q_NoTree_NoWants => k_is); (case n_NoTree_NoWants => rfl); (case q_NoTree_NoThing => k_is); (case n_NoTree_NoThing => rfl); (case q_NoTree_BadSign => k_is); (case n_NoTree_BadSign => rfl)
      (case q_NoTree_NoText => k_is); (case n_NoTree_NoText => rfl); (case q_NoTree_ValueError => k_is); (case a1 => k_is); (case l1 => k_is); (case c1 => k_is); (case k1 => k_is); (case a2 => k_is)
      (case l2 => k_is); (case c2 => k_is); (case k2 => k_is); (case a3 => k_is); (case l3 => k_is); (case c3 => k_is); (case k3 => k_is); (case a4 => k_is)
      (case l4 => k_is); (case c4 => k_is); (case k4 => k_is); (case a5 => k_is); (case l5 => k_is); (case c5 => k_is); (case k5 => k_is); (case a6 => k_is)
      (case l6 => k_is); (case c6 => k_is); (case k6 => k_is); (case a7 => k_is); (case l7 => k_is); (case c7 => k_is); (case k7 => k_is); (case a8 => k_is)
      (case l8 => k_is); (case c8 => k_is); (case k8 => k_is); (case a9 => k_is); (case l9 => k_is); (case c9 => k_is); (case k9 => k_is); (case a10 => k_is)
      (case l10 => k_is); (case c10 => k_is); (case k10 => k_is); (case a11 => k_is); (case l11 => k_is); (case c11 => k_is); (case k11 => k_is); (case a12 => k_is)
      (case l12 => k_is); (case c12 => k_is); (case k12 => k_is); (case a13 => k_is); (case l13 => k_is); (case c13 => k_is); (case k13 => k_is); (case a14 => k_is)
      (case l14 => k_is); (case c14 => k_is); (case k14 => k_is); (case a15 => k_is); (case l15 => k_is); (case c15 => k_is); (case k15 => k_is); (case a16 => k_is)
      (case l16 => k_is); (case c16 => k_is); (case k16 => k_is); (case a17 => k_is); (case l17 => k_is); (case c17 => k_is); (case k17 => k_is); (case a18 => k_is)
      (case l18 => k_is); (case c18 => k_is); (case k18 => k_is); (case a19 => k_is); (case l19 => k_is); (case c19 => k_is); (case k19 => k_is); (case a20 => k_is)
      (case l20 => k_is); (case c20 => k_is); (case k20 => k_is); (case a21 => k_is); (case l21 => k_is); (case c21 => k_is); (case k21 => k_is); (case a22 => k_is)
      (case l22 => k_is); (case c22 => k_is); (case k22 => k_is); (case a23 => k_is); (case l23 => k_is); (case c23 => k_is); (case k23 => k_is); (case a24 => k_is)
      (case l24 => k_is); (case c24 => k_is); (case k24 => k_is); (case a25 => k_is); (case l25 => k_is); (case c25 => k_is); (case k25 => k_is); (case a26 => k_is)
      (case l26 => k_is); (case c26 => k_is); (case k26 => k_is); (case a27 => k_is); (case l27 => k_is); (case c27 => k_is); (case k27 => k_is); (case a28 => k_is)
      (case l28 => k_is); (case c28 => k_is); (case k28 => k_is); (case a29 => k_is); (case l29 => k_is); (case c29 => k_is); (case k29 => k_is); (case a30 => k_is)
      (case l30 => k_is); (case c30 => k_is); (case k30 => k_is); (case a31 => k_is); (case l31 => k_is); (case c31 => k_is); (case k31 => k_is); (case a32 => k_is)
      (case l32 => k_is); (case c32 => k_is); (case k32 => k_is); (case a33 => k_is); (case l33 => k_is); (case c33 => k_is); (case k33 => k_is); (case a34 => k_is)
      (case l34 => k_is); (case c34 => k_is); (case k34 => k_is); (case a35 => k_is); (case l35 => k_is); (case c35 => k_is); (case k35 => k_is); (case a36 => k_is)
      (case l36 => k_is); (case c36 => k_is); (case k36 => k_is); (case a37 => k_is); (case l37 => k_is); (case c37 => k_is); (case k37 => k_is); (case a38 => k_is)
      (case l38 => k_is); (case c38 => k_is); (case k38 => k_is); (case a39 => k_is); (case l39 => k_is); (case c39 => k_is); (case k39 => k_is); (case a40 => k_is)
      (case a41 => k_is); (case a42 => k_is); (case a43 => k_is); (case a44 => k_is); (case a45 => k_is); (case a46 => k_is); (case a47 => k_is); (case a48 => k_is)
      (case a49 => k_is); (case a50 => k_is); (case a51 => k_is); (case a52 => k_is); (case a53 => k_is); (case a54 => k_is); (case a55 => k_is); (case a56 => k_is)
      (case a57 => k_is); (case a58 => k_is)
#print axioms PySem.Challenge.cw_dearsigns_k17_whole_whatever_tree_holds

