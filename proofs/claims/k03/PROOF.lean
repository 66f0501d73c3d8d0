import PyProof.Rows.All
import Wide.All
import OpenK.AllK
import Wide.FinOn
import HandS.ForMost
import HandS.Wide
import HandS.IsInst
import HandS.Flow
import HandS.Walk
import Flt.Len
import PySem.Challenge.RW_dearsigns_k03_what_is_what
set_option Elab.async false
set_option linter.all false
set_option maxRecDepth 100000
set_option maxHeartbeats 4000000

namespace Dear
open PySem PySem.Spec PyProof.Rows L2
/-! ### a def of the text, and a def with its promise -/
def Df (K : PySem.W.Frag) (mg : Str → Option Value) (x : Str) (st : Stmt) (ps : List Str) : Prop :=
  ∃ (f : Addr) (fd : FuncData), mg x = some (.ref f) ∧ Fun K x x st f fd ∧ Binds K fd ps []
def OkF (P : Program) (w : World) (K : PySem.W.Frag) (mg : Str → Option Value) (base : Heap) (CX : CXT) (k : Nat) (x : Str) (ps : List Str) (sp : Sp) : Prop :=
  ∃ (f : Addr) (fd : FuncData), mg x = some (.ref f) ∧ PySem.W.keepIn K (.ref f) = true ∧ Binds K fd ps [] ∧ FnOk P w K mg base CX k f fd ps sp
section
variable {P : Program} {w : World} {K : PySem.W.Frag} {mg : Str → Option Value} {base : Heap}
theorem Df.ok {x : Str} {st : Stmt} {N ps : List Str} {k : Nat} {sp : Sp} (D : Df K mg x st ps) (S : FnScope N ps (defScope st)) (len : ∀ vs H Q E, sp vs H Q E → vs.length = ps.length)
    (hbody : ∀ (f : Addr) (cdv : Value) (A : Around) (outer : List Env) (s : Shared) (H : Hp) (vs : List V) (Q : VK) (E : XK), Room k (A.deeper (envOfC x (defScope st) s.heap.objs.size f cdv)) → sp vs H Q E →
      ∃ t, PSs (cxOf CX0 P w K mg base N x (defScope st) f cdv A outer s H E).nox (defBody st) t ∧ t { nx := fun _ H' => Q .non H', rt := Q } (start N vs) H) : OkF P w K mg base CX0 (k + 1) x ps sp := by
  obtain ⟨f, fd, hm, F, hb⟩ := D
  exact ⟨f, fd, hm, F.kp, hb, F.ok S len (hbody f)⟩
end
section
variable {X : Cx}
theorem pe_c {k k' : Nat} {x : Str} {ps : List Str} {sp : Sp} {e : Expr} {es : List Expr} {t : TA} {p pos : Pos} (O : OkF X.prog X.w X.K X.mg X.base CX0 k x ps sp) (hr : Room k' X.A) (ha : PA X (e :: es) t) (hk : k ≤ k' := by decide) (hg : Gl X x := by rfl)
    (hdb : (x == ("__debug__" : Str)) = false := by decide) (he : starEach (e :: es) X.env = (false, eval e X.env) :: starEach es X.env := by rfl) (hpl : (backTo pos (starEach es X.env)).any (·.1) = false := by rfl) :
    PE X (.Call (.Name x p) (e :: es) [] pos) (tCall sp [] E0 t) := by
  obtain ⟨f, fd, hm, hkp, hb, F⟩ := O
  exact pe_call F (hr.mono hk) hg hm hkp hb .nil pass0 ha hdb he hpl
theorem pe_gi {x : Str} {i : Int} {pos : Pos} (h : ∃ t, X.mg x = some (.int i t)) (hg : Gl X x := by rfl) (hd : (x == ("__debug__" : Str)) = false := by decide) : PE X (.Name x pos) (tC (.int i)) := by
  obtain ⟨t, h⟩ := h
  exact pe_glob hg h ⟨_, rfl⟩ hd
theorem pe_gs {x : Str} {z : Str} {pos : Pos} (h : ∃ t, X.mg x = some (.str z t)) (hg : Gl X x := by rfl) (hd : (x == ("__debug__" : Str)) = false := by decide) : PE X (.Name x pos) (tC (.str z)) := by
  obtain ⟨t, h⟩ := h
  exact pe_glob hg h ⟨_, rfl⟩ hd
end
/-! ### the rules with the written part K named -/
section
variable {X : Cx} (K : PySem.W.Frag)
theorem ix_list_k (h : X.K = K := by rfl) : IxR X (rIxL K) := h ▸ ix_list
theorem ix_tup_k (h : X.K = K := by rfl) : IxR X (rIxT K) := h ▸ ix_tup
theorem sl_list_k (h : X.K = K := by rfl) : SlR X (rSlL K) := h ▸ sl_list
theorem sl_tup_k (h : X.K = K := by rfl) : SlR X (rSlT K) := h ▸ sl_tup
theorem op_in_seq_k (h : X.K = K := by rfl) : OpR X (compareOp .In) (rIn K false) := h ▸ op_in_seq
theorem op_notIn_seq_k (h : X.K = K := by rfl) : OpR X (compareOp .NotIn) (rIn K true) := h ▸ op_notIn_seq
def rLen : List V → Hp → VK → Prop := fun xs H Q => ∃ p ys, xs = [.ref p] ∧ (SqL K H p ys ∨ SqT K H p ys) ∧ Q (.int ys.length) H
theorem call_len_seq_k (h : X.K = K := by rfl) : CallR X (.builtin "len") (rLen K) := h ▸ call_len_seq
def rListOf : List V → Hp → VK → Prop := fun xs H Q => ∃ p ys, xs = [.ref p] ∧ (SqL K H p ys ∨ SqT K H p ys) ∧ ∀ l, H l = none → Q (.ref l) (upd H l (.lst ys))
theorem call_list_of_k (h : X.K = K := by rfl) : CallR X (.type "list") (rListOf K) := h ▸ call_list_of
def rTupOf : List V → Hp → VK → Prop := fun xs H Q => ∃ p ys, xs = [.ref p] ∧ ((SqL K H p ys ∧ ∀ l, H l = none → Q (.ref l) (upd H l (.tup ys))) ∨ (SqT K H p ys ∧ Q (.ref p) H))
theorem call_tuple_of_k (h : X.K = K := by rfl) : CallR X (.type "tuple") (rTupOf K) := h ▸ call_tuple_of
theorem cr_sum_k (hc : X.calm = true) (h : X.K = K := by rfl) : CallR X (.builtin "sum") (rSum K) := h ▸ cr_sum hc
theorem cr_max_k (hc : X.calm = true) (h : X.K = K := by rfl) : CallR X (.builtin "max") (rMax K) := h ▸ cr_max hc
theorem cr_min_k (hc : X.calm = true) (h : X.K = K := by rfl) : CallR X (.builtin "min") (rMin K) := h ▸ cr_min hc
theorem cr_any_k (hc : X.calm = true) (h : X.K = K := by rfl) : CallR X (.builtin "any") (rAny K) := h ▸ cr_any hc
theorem cr_all_k (hc : X.calm = true) (h : X.K = K := by rfl) : CallR X (.builtin "all") (rAll K) := h ▸ cr_all hc
theorem cr_sorted_k (h : X.K = K := by rfl) : CallR X (.builtin "sorted") (rSorted K) := h ▸ cr_sorted
theorem mt_index_k (h : X.K = K := by rfl) : MtR X "list.index" (rIndex K) := h ▸ mt_index
theorem op_eqD_k (hu : X.A.units + 64 < cLine) (h : X.K = K := by rfl) : OpR X (compareOp .Eq) (rEqD K) := h ▸ op_eqD hu
theorem op_neD_k (hu : X.A.units + 64 < cLine) (h : X.K = K := by rfl) : OpR X (compareOp .NotEq) (rNeD K) := h ▸ op_neD hu
theorem call_isi_k (h : X.K = K := by rfl) : CallR X (.builtin "isinstance") (rIsi K) := h ▸ call_isi
theorem call_isiT_k (h : X.K = K := by rfl) : CallR X (.builtin "isinstance") (rIsiT K) := h ▸ call_isiT
theorem op_catT_k (h : X.K = K := by rfl) : OpR X (binaryOp .Add) (rCatT K) := h ▸ op_catT
theorem pi_list_k {tg l : Expr} {tl : TE} (hl : PE X l tl) (h : X.K = K := by rfl) : PI X tg l (iList K tl) := h ▸ pi_list hl
theorem pi_tup_k {tg l : Expr} {tl : TE} (hl : PE X l tl) (h : X.K = K := by rfl) : PI X tg l (iTup K tl) := h ▸ pi_tup hl
def rJoin : V → List V → Hp → VK → Prop := fun x xs H Q => ∃ a p, ∃ ys : List Str, x = .str a ∧ xs = [.ref p] ∧ (SqL K H p (ys.map V.str) ∨ SqT K H p (ys.map V.str)) ∧ (ys.map (·.length)).sum + ys.length * a.length ≤ 16777216 ∧ Q (.str (Txt.join a ys)) H
theorem pe_join_k {o e : Expr} {to te : TE} {apos pos : Pos} (ho : PE X o to) (he : PE X e te) (h : X.K = K := by rfl) (hs : starEach [e] X.env = [(false, eval e X.env)] := by rfl) (hbase : attributeBase o "join" X.env (eval o X.env) = eval o X.env := by rfl) (hline : (apos.endLine == pos.line) = true := by rfl) :
    PE X (.Call (.Attribute o "join" apos) [e] [] pos) (tM1 (rJoin K) to te) := h ▸ pe_join ho he hs hbase hline
end
/-! ### heaps -/
/-- all that was tracked, but for what stands at l, is as it was -/
def But (l : Addr) (H H' : Hp) : Prop := ∀ b o, H b = some o → b ≠ l → H' b = some o
theorem But.refl (l : Addr) (H : Hp) : But l H H := fun _ _ h _ => h
theorem But.trans {l : Addr} {H H1 H2 : Hp} (a : But l H H1) (b : But l H1 H2) : But l H H2 := fun c o h n => b c o (a c o h n) n
theorem But.of {l : Addr} {H H1 : Hp} (a : Same H H1) : But l H H1 := fun c o h _ => a c o h
theorem But.upd {l : Addr} {H : Hp} {o : HO} : But l H (upd H l o) := fun b _ h n => by rw [upd_ne n]; exact h
theorem Same.upd {H : Hp} {l : Addr} {o : HO} (h : H l = none) : Same H (upd H l o) := fun b u e => by
  rw [upd_ne (ne_of_none e h)]
  exact e
theorem But.new {l : Addr} {H H1 : Hp} {p : Addr} {o : HO} (a : But l H H1) (h : H1 p = none) : But l H (L2.upd H1 p o) := a.trans (.of (Same.upd h))
theorem Same.new {H H1 : Hp} {p : Addr} {o : HO} (a : Same H H1) (h : H1 p = none) : Same H (L2.upd H1 p o) := a.trans (Same.upd h)
/-- the ends of an if -/
theorem itb {b : Bool} {A B : Prop} (h1 : b = true → A) (h2 : b = false → B) : if b = true then A else B := by
  cases b with
  | true => exact iteT (h1 rfl)
  | false => exact iteF (h2 rfl)
theorem itd {c : Prop} [Decidable c] {A B : Prop} (h1 : c → A) (h2 : ¬ c → B) : if decide c = true then A else B := itb (fun h => h1 (of_decide_eq_true h)) fun h => h2 (of_decide_eq_false h)
theorem itnd {c : Prop} [Decidable c] {A B : Prop} (h1 : ¬ c → A) (h2 : c → B) : if (!decide c) = true then A else B := itb (fun h => h1 (by simpa using h)) fun h => h2 (by simpa using h)
/-! ### readings, step by step -/
section
variable {σ : L2.St} {H : Hp} {D : Ends} {t1 t2 : TS} {te : TE} {i : Nat} {c : TT}
theorem s_seq (h : t1 { D with nx := t2 D } σ H) : tSeq t1 t2 D σ H := h
theorem s_set (h : te σ H fun v H' => D.nx (σ.set i (some v)) H') : tAsg te (gName i) D σ H := h
theorem s_ret (h : te σ H D.rt) : tRet te D σ H := h
theorem s_if (h : c σ H fun b H' => if b = true then t1 D σ H' else t2 D σ H') : tIfS c t1 t2 D σ H := h
theorem s_op {r : R2} {ta tb : TE} {Q : VK} (h : ta σ H fun x H1 => tb σ H1 fun y H2 => r x y H2 Q) : tOp r ta tb σ H Q := h
theorem s_nx (h : D.nx σ H) : tNext D σ H := h
end
end Dear

namespace Dear
open PySem PySem.Spec PyProof.Rows L2
/-! ### data, and how the heap bears them -/
inductive D where
  | non | bl (b : Bool) | int (i : Int) | str (z : Str) | lst (ds : List D) | tup (ds : List D) | dct
def kind : D → String
  | .non => "NoneType" | .bl _ => "bool" | .int _ => "int" | .str _ => "str" | .lst _ => "list" | .tup _ => "tuple" | .dct => "dict"
mutual
inductive Dt (H : Hp) : V → D → Prop
  | non : Dt H .non .non
  | bl (b : Bool) : Dt H (.bl b) (.bl b)
  | int (i : Int) : Dt H (.int i) (.int i)
  | str (z : Str) : Dt H (.str z) (.str z)
  | lst {a : Addr} {xs : List V} {ds : List D} : H a = some (.lst xs) → DtAll H xs ds → Dt H (.ref a) (.lst ds)
  | tup {a : Addr} {xs : List V} {ds : List D} : H a = some (.tup xs) → DtAll H xs ds → Dt H (.ref a) (.tup ds)
  | dct {a : Addr} {kvs : List (Key × V)} : H a = some (.dK kvs) → Dt H (.ref a) .dct
inductive DtAll (H : Hp) : List V → List D → Prop
  | nil : DtAll H [] []
  | cons {v : V} {vs : List V} {d : D} {ds : List D} : Dt H v d → DtAll H vs ds → DtAll H (v :: vs) (d :: ds)
end
mutual
theorem Dt.same {H H' : Hp} (s : Same H H') : ∀ {v : V} {d : D}, Dt H v d → Dt H' v d
  | _, _, .non => .non
  | _, _, .bl b => .bl b
  | _, _, .int i => .int i
  | _, _, .str z => .str z
  | _, _, .lst h a => .lst (s _ _ h) (DtAll.same s a)
  | _, _, .tup h a => .tup (s _ _ h) (DtAll.same s a)
  | _, _, .dct h => .dct (s _ _ h)
theorem DtAll.same {H H' : Hp} (s : Same H H') : ∀ {vs : List V} {ds : List D}, DtAll H vs ds → DtAll H' vs ds
  | _, _, .nil => .nil
  | _, _, .cons a b => .cons (Dt.same s a) (DtAll.same s b)
end
theorem DtAll.length {H : Hp} : ∀ {vs : List V} {ds : List D}, DtAll H vs ds → vs.length = ds.length
  | _, _, .nil => rfl
  | _, _, .cons _ b => by rw [List.length_cons, List.length_cons, DtAll.length b]
theorem DtAll.get {H : Hp} : ∀ {vs : List V} {ds : List D} {i : Nat} {v : V}, DtAll H vs ds → vs[i]? = some v → ∃ d, ds[i]? = some d ∧ Dt H v d
  | _, _, _, _, .nil, e => by simp at e
  | _, _, 0, _, .cons a _, e => by
    simp at e
    subst e
    exact ⟨_, rfl, a⟩
  | _, _, i + 1, v, .cons _ b, e => by
    obtain ⟨d, h1, h2⟩ := DtAll.get (i := i) (v := v) b (by simpa using e)
    exact ⟨d, by simpa using h1, h2⟩
theorem DtAll.app {H : Hp} : ∀ {vs us : List V} {ds es : List D}, DtAll H vs ds → DtAll H us es → DtAll H (vs ++ us) (ds ++ es)
  | _, _, _, _, .nil, s => s
  | _, _, _, _, .cons a b, s => .cons a (DtAll.app b s)
theorem DtAll.map {α : Type} {H : Hp} {f : α → V} {g : α → D} (h : ∀ a, Dt H (f a) (g a)) : ∀ l : List α, DtAll H (l.map f) (l.map g)
  | [] => .nil
  | a :: l => .cons (h a) (DtAll.map h l)
theorem Dt.ty {K : PySem.W.Frag} {H : Hp} {v : V} {d : D} (h : Dt H v d) : TyX K H v (.type (kind d)) := by
  cases h with
  | non => exact .base .non
  | bl b => exact .base (.bl b)
  | int i => exact .base (.int i)
  | str z => exact .base (.str z)
  | lst h _ => exact .base (.lst h)
  | tup h _ => exact .base (.tup h)
  | dct h => exact .base (.dK h)
/-! ### a heap without one object -/
def Off (l : Addr) (H : Hp) : Hp := fun b => if b = l then none else H b
theorem Off.sub (l : Addr) (H : Hp) : Same (Off l H) H := fun b o e => by
  unfold Off at e
  by_cases h : b = l
  · rw [if_pos h] at e
    cases e
  · rw [if_neg h] at e
    exact e
theorem off_ne {l b : Addr} {H : Hp} (h : b ≠ l) : Off l H b = H b := if_neg h
theorem But.off {l : Addr} {H H' : Hp} (a : But l H H') : Same (Off l H) (Off l H') := fun b o e => by
  by_cases h : b = l
  · have z := (if_pos h).symm.trans e
    cases z
  · rw [off_ne h] at e ⊢
    exact a b o e h
theorem sOff {l : Addr} {H H' : Hp} (a : Same H H') : Same (Off l H) (Off l H') := (But.of a).off
theorem Dt.on {l : Addr} {H : Hp} {v : V} {d : D} (h : Dt (Off l H) v d) : Dt H v d := h.same (Off.sub l H)
/-! ### what a display makes -/
def Mk (l : Addr) (σ : L2.St) (t : TE) (H : Hp) (d : D) : Prop := ∀ H1, Same H H1 → ∀ Q : VK, (∀ v H2, Same H1 H2 → Dt (Off l H2) v d → Q v H2) → t σ H1 Q
def MkA (l : Addr) (σ : L2.St) (t : TA) (H : Hp) (ds : List D) : Prop := ∀ H1, Same H H1 → ∀ Q : List V → Hp → Prop, (∀ vs H2, Same H1 H2 → DtAll (Off l H2) vs ds → Q vs H2) → t σ H1 Q
section
variable {l : Addr} {σ : L2.St} {H : Hp}
theorem mk_c {v : V} {d : D} (h : Dt (Off l H) v d) : Mk l σ (tC v) H d := fun H1 s _ q => q v H1 (Same.refl _) (h.same (sOff s))
theorem mk_var {i : Nat} {v : V} {d : D} (e : σ[i]? = some (some v)) (h : Dt (Off l H) v d) : Mk l σ (tVar i) H d := fun H1 s _ q => ⟨v, e, q v H1 (Same.refl _) (h.same (sOff s))⟩
theorem mka_nil : MkA l σ tNil H [] := fun H1 _ _ q => q [] H1 (Same.refl _) .nil
theorem mka_cons {t : TE} {u : TA} {d : D} {ds : List D} (h1 : Mk l σ t H d) (h2 : MkA l σ u H ds) : MkA l σ (tCons t u) H (d :: ds) := fun H1 s Q q => by
  refine h1 H1 s _ fun v H2 s2 d2 => ?_
  refine h2 H2 (s.trans s2) _ fun vs H3 s3 d3 => ?_
  exact q (v :: vs) H3 (s2.trans s3) (.cons (d2.same (sOff s3)) d3)
theorem sz_lit {n : Nat} (h : n ≤ 1000) : n ≤ sizeLine := Nat.le_of_lt (small1000 h)
theorem mk_tup {u : TA} {ds : List D} (h : MkA l σ u H ds) {o : HO} (hl : H l = some o) (hz : Nat.ble ds.length 1000 = true := by rfl) : Mk l σ (tTup u) H (.tup ds) := fun H1 s Q q => by
  refine h H1 s _ fun vs H2 s2 d2 => ?_
  refine ⟨sz_lit (by rw [d2.length]; exact Nat.le_of_ble_eq_true hz), fun p hp => ?_⟩
  have ne : p ≠ l := fun e => by
    subst e
    rw [s2 _ _ (s _ _ hl)] at hp
    cases hp
  exact q (.ref p) _ (s2.trans (Same.upd hp)) (.tup (by rw [off_ne ne]; exact upd_same) (d2.same (sOff (Same.upd hp))))
theorem mk_lst {u : TA} {ds : List D} (h : MkA l σ u H ds) {o : HO} (hl : H l = some o) (hz : Nat.ble ds.length 1000 = true := by rfl) : Mk l σ (tLst u) H (.lst ds) := fun H1 s Q q => by
  refine h H1 s _ fun vs H2 s2 d2 => ?_
  refine ⟨sz_lit (by rw [d2.length]; exact Nat.le_of_ble_eq_true hz), fun p hp => ?_⟩
  have ne : p ≠ l := fun e => by
    subst e
    rw [s2 _ _ (s _ _ hl)] at hp
    cases hp
  exact q (.ref p) _ (s2.trans (Same.upd hp)) (.lst (by rw [off_ne ne]; exact upd_same) (d2.same (sOff (Same.upd hp))))
theorem mk_dnew {o : HO} (hl : H l = some o) : Mk l σ tDNewK H .dct := fun H1 s Q q p hp => by
  have ne : p ≠ l := fun e => by
    subst e
    rw [s _ _ hl] at hp
    cases hp
  exact q (.ref p) _ (Same.upd hp) (.dct (by rw [off_ne ne]; exact upd_same))
theorem mk_neg {i : Int} : Mk l σ (tUn (rU fun i => .int (-i)) (tC (.int i))) H (.int (-i)) := fun H1 _ _ q => ⟨i, rfl, q _ H1 (Same.refl _) (.int _)⟩
/-- {k: v} -/
theorem mk_disp1 {o : HO} {k : Int} {v : V} (hl : H l = some o) : Mk l σ (tDisp [(tC (.int k), tC v)]) H .dct := fun H1 s Q q p hp => by
  have ne : p ≠ l := fun e => by
    subst e
    rw [s _ _ hl] at hp
    cases hp
  refine ⟨upd_same, [(.inl k, v)], rfl, (by show 1 ≤ 15; decide), ?_⟩
  rw [upd_upd]
  exact q (.ref p) _ (Same.upd hp) (.dct (by rw [off_ne ne]; exact upd_same))
theorem Mk.go {t : TE} {d : D} (h : Mk l σ t H d) {Q : VK} (q : ∀ v H2, Same H H2 → Dt (Off l H2) v d → Q v H2) : t σ H Q := h H (Same.refl H) Q q
/-- xs + [..] -/
theorem mk_cat {t u : TE} {ds es : List D} (h1 : Mk l σ t H (.lst ds)) (h2 : Mk l σ u H (.lst es)) {o : HO} (hl : H l = some o) (hz : Nat.ble (ds.length + es.length) 1000 = true := by rfl) : Mk l σ (tOp rCat t u) H (.lst (ds ++ es)) := fun H1 s Q q => by
  refine h1 H1 s _ fun v H2 s2 d2 => ?_
  refine h2 H2 (s.trans s2) _ fun v3 H3 s3 d3 => ?_
  cases d2 with
  | lst ha2 hall2 =>
    cases d3 with
    | lst ha3 hall3 =>
      have ha2' := s3 _ _ (Off.sub _ _ _ _ ha2)
      have ha3' := Off.sub _ _ _ _ ha3
      refine ⟨_, _, _, _, rfl, rfl, ha2', ha3', sz_lit (by rw [hall2.length, hall3.length]; exact Nat.le_of_ble_eq_true hz), fun p hp => ?_⟩
      have ne : p ≠ l := fun e => by
        subst e
        rw [s3 _ _ (s2 _ _ (s _ _ hl))] at hp
        cases hp
      exact q (.ref p) _ ((s2.trans s3).trans (Same.upd hp)) (.lst (by rw [off_ne ne]; exact upd_same) (((hall2.same (sOff s3)).app hall3).same (sOff (Same.upd hp))))
end
/-! ### sizes of data -/
abbrev Asc (z : Str) : Prop := ∀ c ∈ z.cps.toList, c < 128
mutual
def Ok : D → Prop
  | .int i => i.natAbs < 2 ^ 300
  | .str z => z.length ≤ 3000 ∧ Asc z
  | .lst ds => OkAll ds
  | .tup ds => OkAll ds
  | _ => True
def OkAll : List D → Prop
  | [] => True
  | d :: ds => Ok d ∧ OkAll ds
end
theorem OkAll.mem : ∀ {ds : List D} {d : D}, OkAll ds → d ∈ ds → Ok d
  | [], _, _, m => by simp at m
  | e :: r, d, h, m => by
    rcases List.mem_cons.mp m with rfl | m
    · exact h.1
    · exact OkAll.mem h.2 m
/-- places of a list -/
theorem at_lt {α : Type} {xs : List α} {r : Int} (h0 : 0 ≤ r) (h1 : r < xs.length) : ∃ v, atI xs r = some v ∧ v ∈ xs ∧ xs[r.toNat]? = some v := by
  obtain ⟨n, rfl⟩ := Int.eq_ofNat_of_zero_le h0
  have hn : n < xs.length := by omega
  exact ⟨xs[n], atI_nat (by simp [hn]), List.getElem_mem hn, by simp [hn]⟩
/-! ### the law's draws -/
def Src (H : Hp) (l : Addr) : Prop := ∃ n s : Int, H l = some (.lst [.int n, .int s]) ∧ 0 ≤ n ∧ 0 ≤ s ∧ s < 2147483647
theorem Src.same {H H' : Hp} {l : Addr} (h : Src H l) (s : Same H H') : Src H' l := by
  obtain ⟨n, z, e, r⟩ := h
  exact ⟨n, z, s _ _ e, r⟩
theorem Src.some {H : Hp} {l : Addr} (h : Src H l) : ∃ o, H l = Option.some o := by
  obtain ⟨n, z, e, r⟩ := h
  exact ⟨_, e⟩
theorem Src.ne {H : Hp} {l p : Addr} (h : Src H l) (hp : H p = none) : p ≠ l := fun e => by
  obtain ⟨o, ho⟩ := h.some
  rw [e, ho] at hp
  cases hp
theorem bit_lt (k : Bool) : -(2 ^ 64) < (if k = true then 1 else 0 : Int) ∧ (if k = true then 1 else 0 : Int) < 2 ^ 64 := by
  cases k <;> decide
theorem bit_ge (k : Bool) : 0 ≤ (if k = true then 1 else 0 : Int) := by
  cases k <;> decide
def spSource : Sp := fun vs H Q _ => ∃ (c k : Int), vs = [.int c, .int k] ∧ ∀ (l : Addr) (H' : Hp), H l = none → Same H H' → Src H' l → Q (.ref l) H'
def spDraw : Sp := fun vs H Q _ => ∃ (l : Addr) (m : Int), vs = [.ref l, .int m] ∧ Src H l ∧ 0 < m ∧ m.natAbs.log2 < 9000 ∧ ∀ (r : Int) (H' : Hp), 0 ≤ r → r < m → But l H H' → Src H' l → Q (.int r) H'
theorem log_small {m : Int} {n : Nat} (h0 : 0 < n) (h : m.natAbs < 2 ^ n) (hn : n ≤ 9000) : m.natAbs.log2 < 9000 := Nat.lt_of_lt_of_le (PySem.Flt.log2_lt_of h0 h) hn
end Dear

namespace Dear
open PySem PySem.Spec PyProof.Rows L2
/-! ### kinds of things -/
def isInt : D → Bool
  | .int _ => true
  | _ => false
def isBl : D → Bool
  | .bl _ => true
  | _ => false
def isStr : D → Bool
  | .str _ => true
  | _ => false
def isLst : D → Bool
  | .lst _ => true
  | _ => false
def isTup : D → Bool
  | .tup _ => true
  | _ => false
def isDct : D → Bool
  | .dct => true
  | _ => false
theorem kd_int : ∀ d : D, kitB (kind d) "int" = some (isInt d || isBl d)
  | .non => (by decide +kernel : kitB "NoneType" "int" = some false)
  | .bl _ => (by decide +kernel : kitB "bool" "int" = some true)
  | .int _ => (by decide +kernel : kitB "int" "int" = some true)
  | .str _ => (by decide +kernel : kitB "str" "int" = some false)
  | .lst _ => (by decide +kernel : kitB "list" "int" = some false)
  | .tup _ => (by decide +kernel : kitB "tuple" "int" = some false)
  | .dct => (by decide +kernel : kitB "dict" "int" = some false)
theorem kd_bool : ∀ d : D, kitB (kind d) "bool" = some (isBl d)
  | .non => (by decide +kernel : kitB "NoneType" "bool" = some false)
  | .bl _ => (by decide +kernel : kitB "bool" "bool" = some true)
  | .int _ => (by decide +kernel : kitB "int" "bool" = some false)
  | .str _ => (by decide +kernel : kitB "str" "bool" = some false)
  | .lst _ => (by decide +kernel : kitB "list" "bool" = some false)
  | .tup _ => (by decide +kernel : kitB "tuple" "bool" = some false)
  | .dct => (by decide +kernel : kitB "dict" "bool" = some false)
theorem kd_str : ∀ d : D, kitB (kind d) "str" = some (isStr d)
  | .non => (by decide +kernel : kitB "NoneType" "str" = some false)
  | .bl _ => (by decide +kernel : kitB "bool" "str" = some false)
  | .int _ => (by decide +kernel : kitB "int" "str" = some false)
  | .str _ => (by decide +kernel : kitB "str" "str" = some true)
  | .lst _ => (by decide +kernel : kitB "list" "str" = some false)
  | .tup _ => (by decide +kernel : kitB "tuple" "str" = some false)
  | .dct => (by decide +kernel : kitB "dict" "str" = some false)
theorem kd_list : ∀ d : D, kitB (kind d) "list" = some (isLst d)
  | .non => (by decide +kernel : kitB "NoneType" "list" = some false)
  | .bl _ => (by decide +kernel : kitB "bool" "list" = some false)
  | .int _ => (by decide +kernel : kitB "int" "list" = some false)
  | .str _ => (by decide +kernel : kitB "str" "list" = some false)
  | .lst _ => (by decide +kernel : kitB "list" "list" = some true)
  | .tup _ => (by decide +kernel : kitB "tuple" "list" = some false)
  | .dct => (by decide +kernel : kitB "dict" "list" = some false)
theorem kd_tuple : ∀ d : D, kitB (kind d) "tuple" = some (isTup d)
  | .non => (by decide +kernel : kitB "NoneType" "tuple" = some false)
  | .bl _ => (by decide +kernel : kitB "bool" "tuple" = some false)
  | .int _ => (by decide +kernel : kitB "int" "tuple" = some false)
  | .str _ => (by decide +kernel : kitB "str" "tuple" = some false)
  | .lst _ => (by decide +kernel : kitB "list" "tuple" = some false)
  | .tup _ => (by decide +kernel : kitB "tuple" "tuple" = some true)
  | .dct => (by decide +kernel : kitB "dict" "tuple" = some false)
theorem kd_dict : ∀ d : D, kitB (kind d) "dict" = some (isDct d)
  | .non => (by decide +kernel : kitB "NoneType" "dict" = some false)
  | .bl _ => (by decide +kernel : kitB "bool" "dict" = some false)
  | .int _ => (by decide +kernel : kitB "int" "dict" = some false)
  | .str _ => (by decide +kernel : kitB "str" "dict" = some false)
  | .lst _ => (by decide +kernel : kitB "list" "dict" = some false)
  | .tup _ => (by decide +kernel : kitB "tuple" "dict" = some false)
  | .dct => (by decide +kernel : kitB "dict" "dict" = some true)
/-! ### is_whole, divisor, lowest, is_fraction, is_name -/
def spWhole : Sp := fun vs H Q _ => ∃ (v : V) (d : D), vs = [v] ∧ Dt H v d ∧ Q (.bl (isInt d)) H
def spDivisor : Sp := fun vs H Q _ => ∃ (a b : Int), vs = [.int a, .int b] ∧ 0 ≤ a ∧ 0 ≤ b ∧ Q (.int (Int.gcd a b)) H
/-- in lowest terms -/
def lowT (t b : Int) : Int := t / (Int.gcd b t : Int)
def lowB (t b : Int) : Int := b / (Int.gcd b t : Int)
def spLowest : Sp := fun vs H Q _ => ∃ (t b : Int), vs = [.int t, .int b] ∧ 0 < b ∧ b.natAbs.log2 < 9000 ∧ ∀ (p : Addr) (H' : Hp), H p = none → Same H H' → H' p = some (.tup [.int (lowT t b), .int (lowB t b)]) → Q (.ref p) H'
def isFr : D → Bool
  | .tup [.int t, .int b] => decide (0 < b) && (Int.gcd b t == 1)
  | _ => false
theorem isFr_len : ∀ {ds : List D}, ds.length ≠ 2 → isFr (.tup ds) = false
  | [], _ => rfl
  | [d], _ => by cases d <;> rfl
  | [_, _], h => absurd rfl h
  | d :: e :: _ :: _, _ => by cases d <;> cases e <;> rfl
def spFr : Sp := fun vs H Q _ => ∃ (v : V) (d : D), vs = [v] ∧ Dt H v d ∧ Ok d ∧ ∀ H', Same H H' → Q (.bl (isFr d)) H'
def letters : Str := "abcdefghijklmnopqrstuvwxyz"
def isNm : D → Bool
  | .str z => decide (1 ≤ z.length ∧ z.length ≤ 8) && z.cps.toList.all fun c => decide (c ∈ letters.cps.toList)
  | _ => false
def spNm : Sp := fun vs H Q _ => ∃ (v : V) (d : D), vs = [v] ∧ Dt H v d ∧ Ok d ∧ ∀ H', Same H H' → Q (.bl (isNm d)) H'
theorem gcd_step {a b : Int} (h0 : 0 ≤ a) (h : 0 < b) : Int.gcd b (a % b) = Int.gcd a b := by
  obtain ⟨m, rfl⟩ := Int.eq_ofNat_of_zero_le h0
  obtain ⟨n, rfl⟩ := Int.eq_ofNat_of_zero_le (Int.le_of_lt h)
  show Nat.gcd n (((m : Int) % (n : Int)).natAbs) = Nat.gcd m n
  rw [← Int.natCast_emod, Int.natAbs_natCast, Nat.gcd_comm n, ← Nat.gcd_rec, Nat.gcd_comm]
theorem abs_if (t : Int) : (if t < 0 then -t else t) = (t.natAbs : Int) := by
  split <;> omega
theorem gcd_abs (b t : Int) : Int.gcd b (t.natAbs : Int) = Int.gcd b t := by
  show Nat.gcd b.natAbs ((t.natAbs : Int).natAbs) = Nat.gcd b.natAbs t.natAbs
  rw [Int.natAbs_natCast]
theorem gcd_pos {b : Int} (t : Int) (h : 0 < b) : 0 < (Int.gcd b t : Int) := by
  have h1 : 0 < Int.gcd b t := Nat.gcd_pos_of_pos_left _ (by omega)
  omega
theorem gcd_le {b : Int} (t : Int) (h : 0 < b) : (Int.gcd b t : Int) ≤ b := by
  have h1 : Int.gcd b t ≤ b.natAbs := Nat.le_of_dvd (by omega) (Nat.gcd_dvd_left _ _)
  omega
theorem gcd_log {b : Int} (t : Int) (h : 0 < b) (hl : b.natAbs.log2 < 9000) : ((Int.gcd b t : Nat) : Int).natAbs.log2 < 9000 := by
  have h1 := gcd_le t h
  have h2 : b.natAbs < 2 ^ 9000 := Nat.lt_of_lt_of_le Nat.lt_log2_self (Nat.pow_le_pow_right (by decide) hl)
  have h3 : ((Int.gcd b t : Nat) : Int).natAbs < 2 ^ 9000 := Nat.lt_of_le_of_lt (by omega) h2
  exact PySem.Flt.log2_lt_of (by decide) h3
/-- a fraction is in lowest terms just where it is what lowest makes of it -/
theorem low_eq {t b : Int} (h : 0 < b) : ((lowT t b == t) && (lowB t b == b)) = (Int.gcd b t == 1) := by
  have g0 := gcd_pos t h
  by_cases e : Int.gcd b t = 1
  · have e1 : lowT t b = t := by unfold lowT; rw [e]; exact Int.ediv_one t
    have e2 : lowB t b = b := by unfold lowB; rw [e]; exact Int.ediv_one b
    rw [e1, e2, e]
    simp
  · have e3 : lowB t b ≠ b := by
      unfold lowB
      have g2 : (Int.gcd b t : Int) ≠ 1 := by omega
      have := Int.ediv_lt_self_of_pos_of_ne_one h g2
      omega
    have e4 : (lowB t b == b) = false := by simpa using e3
    have e5 : (Int.gcd b t == 1) = false := by simpa using e
    rw [e4, e5, Bool.and_false]
/-! ### texts -/
theorem in_letters_asc {c : Nat} (h : c ∈ letters.cps.toList) : c < 128 := by
  have : ∀ c ∈ letters.cps.toList, c < 128 := by decide +kernel
  exact this c h
end Dear

namespace Dear
open PySem PySem.Spec PyProof.Rows L2
/-! ### texts and lists of texts -/
theorem join_tl (ys : List Str) : (Txt.join "" ys).cps.toList = (ys.map fun y => y.cps.toList).flatten := by
  rw [TL.join_eq]
  have e := TL.tl_join ("" : Str) ys
  have e0 : TL.tl ("" : Str) = [] := by decide +kernel
  rw [e0] at e
  have g : ∀ l : List (List Nat), TL.joinL [] l = l.flatten := by
    intro l
    induction l with
    | nil => rfl
    | cons a r ih =>
      cases r with
      | nil => simp [TL.joinL]
      | cons b r =>
        rw [List.flatten_cons, ← ih]
        simp [TL.joinL]
  rw [g] at e
  exact e
/-- texts of one sign each -/
def Ones (ys : List Str) : Prop := ∀ y ∈ ys, y.length = 1 ∧ Asc y
theorem ones_join {ys : List Str} (h : Ones ys) : (Txt.join "" ys).length = ys.length ∧ Asc (Txt.join "" ys) := by
  constructor
  · rw [TL.len_tl, TL.tl, join_tl]
    induction ys with
    | nil => rfl
    | cons a r ih =>
      rw [List.map_cons, List.flatten_cons, List.length_append, ih fun y hy => h y (List.mem_cons_of_mem _ hy), List.length_cons]
      have h1 := (h a List.mem_cons_self).1
      rw [TL.len_tl] at h1
      have h2 : a.cps.toList.length = 1 := h1
      show a.cps.toList.length + r.length = r.length + 1
      omega
  · intro c hc
    rw [join_tl] at hc
    obtain ⟨l, hl, hc⟩ := List.mem_flatten.mp hc
    obtain ⟨y, hy, rfl⟩ := List.mem_map.mp hl
    exact (h y hy).2 c hc
theorem ones_size {ys : List Str} (h : Ones ys) (hl : ys.length ≤ 1000) : (ys.map (·.length)).sum + ys.length * ("" : Str).length ≤ 16777216 := by
  have e : (ys.map (·.length)).sum = ys.length := by
    clear hl
    induction ys with
    | nil => rfl
    | cons a r ih =>
      rw [List.map_cons, List.sum_cons, ih fun y hy => h y (List.mem_cons_of_mem _ hy), (h a List.mem_cons_self).1, List.length_cons]
      omega
  have e0 : ("" : Str).length = 0 := by decide +kernel
  rw [e, e0]
  omega
theorem dp_strs {K : PySem.W.Frag} {H : Hp} : ∀ ys : List Str, DpAll K H (ys.map V.str) (ys.map PyData.str)
  | [] => .nil
  | y :: ys => .cons (.str y) (dp_strs ys)
theorem strOk_asc {z : Str} (h : Asc z) : PyData.strOk z = true := by
  unfold PyData.strOk
  rw [Array.all_eq_true']
  intro c hc
  have := h c (by simpa using hc)
  simp
  omega
theorem depth_strs : ∀ ys : List Str, PyData.depthAll (ys.map PyData.str) = 0
  | [] => rfl
  | y :: ys => by
    rw [List.map_cons]
    show max (PyData.depth (.str y)) (PyData.depthAll (ys.map PyData.str)) = 0
    rw [depth_strs ys]
    rfl
theorem lay_strs : ∀ {ys : List Str}, (∀ y ∈ ys, Asc y) → PyData.canLayAll0 (ys.map PyData.str) = true
  | [], _ => rfl
  | y :: ys, h => by
    rw [List.map_cons]
    show (PyData.canLay0 (.str y) && PyData.canLayAll0 (ys.map PyData.str)) = true
    rw [lay_strs fun z hz => h z (List.mem_cons_of_mem _ hz), Bool.and_true]
    exact strOk_asc (h y List.mem_cons_self)
theorem shaped_strs {ys : List Str} (h : ∀ y ∈ ys, Asc y) : SeqAt.shaped (.list (ys.map PyData.str)) = true := by
  show (PyData.canLayAll0 (ys.map PyData.str) && decide (PyData.depthAll (ys.map PyData.str) + 1 ≤ 64)) = true
  rw [lay_strs h, depth_strs]
  rfl
theorem shaped_nil : SeqAt.shaped (.list []) = true := by decide +kernel
theorem eqv_nil : ∀ ds : List PyData, PyData.eqv (.list ds) (.list []) = ds.isEmpty
  | [] => by simp [PyData.eqv, PyData.eqvAll]
  | _ :: _ => by simp [PyData.eqv, PyData.eqvAll]
theorem all_empty {α β : Type} (l : List α) (p : α → Bool) (f : α → β) : l.all p = ((l.filter fun c => !p c).map f).isEmpty := by
  induction l with
  | nil => rfl
  | cons a r ih =>
    rw [List.all_cons, ih, List.filter_cons]
    cases p a <;> simp
theorem asc_one {c : Nat} (h : c < 128) : Asc ⟨#[c]⟩ := fun x hx => by
  have : x = c := by simpa using hx
  omega
theorem ixN_lt {n : Nat} {r : Int} (h0 : 0 ≤ r) (h1 : r < n) : ixN n r = some r.toNat := by
  unfold ixN
  rw [if_pos h0, if_pos h1]
theorem off_some {l p : Addr} {H : Hp} {o : HO} (h : Off l H p = some o) : p ≠ l ∧ H p = some o := by
  have ne : p ≠ l := fun e => by
    have z := (if_pos e).symm.trans h
    cases z
  rw [off_ne ne] at h
  exact ⟨ne, h⟩
theorem mem_cut {xs : List V} {lo hi : Option Int} {v : V} (h : v ∈ cutV xs lo hi) : v ∈ xs := List.mem_of_mem_drop (List.mem_of_mem_take h)
theorem get_ints {ns : List Int} {xs : List V} (h : ∀ v ∈ xs, v ∈ ns.map V.int) {i : Nat} {v : V} (e : xs[i]? = some v) : ∃ z, v = .int z ∧ z ∈ ns := by
  have := h v (List.mem_of_getElem? e)
  obtain ⟨z, hz, rfl⟩ := List.mem_map.mp this
  exact ⟨z, rfl, hz⟩
end Dear

namespace Dear
open PySem PySem.Spec PyProof.Rows L2
/-- law's: a list of at most 63 ints is handed in, True comes out -/
def spLaw (K : PySem.W.Frag) : Sp := fun vs H Q _ => ∃ (a : Addr) (ns : List Int), vs = [.ref a] ∧ SqL K H a (ns.map V.int) ∧ ns.length ≤ 63 ∧ ∀ H', Q (.bl true) H'
end Dear

namespace Dear
open PySem PySem.Spec PyProof.Rows L2
def top (i : Nat) : Stmt := PySem.Challenge.pw_dearsigns_k03_what_is_what.main.body.getD i (.Pass ⟨0, 0, 0, 0⟩)
abbrev s_is_whole : Stmt := top 3
abbrev s_is_name : Stmt := top 4
abbrev s_divisor : Stmt := top 5
abbrev s_is_fraction : Stmt := top 6
abbrev s__law_cell : Stmt := top 8
abbrev s__law_source : Stmt := top 9
abbrev s__law_draw : Stmt := top 10
abbrev s__law_lowest : Stmt := top 11
abbrev s__law_whole : Stmt := top 12
abbrev s__law_is_fraction : Stmt := top 13
abbrev s__law_number : Stmt := top 14
abbrev s__law_text : Stmt := top 15
abbrev s__law_thing : Stmt := top 16
abbrev s__law_named : Stmt := top 17
abbrev s_law : Stmt := top 18
abbrev n_is_whole : List Str := ["thing"]
theorem c_is_whole : FnScope n_is_whole ["thing"] (defScope s_is_whole) := ⟨rfl, rfl, rfl, by decide +kernel, rfl, by decide +kernel, by decide +kernel⟩
abbrev n_is_name : List Str := ["thing", "sign"]
theorem c_is_name : FnScope n_is_name ["thing"] (defScope s_is_name) := ⟨rfl, rfl, rfl, by decide +kernel, rfl, by decide +kernel, by decide +kernel⟩
abbrev n_divisor : List Str := ["one", "other"]
theorem c_divisor : FnScope n_divisor ["one", "other"] (defScope s_divisor) := ⟨rfl, rfl, rfl, by decide +kernel, rfl, by decide +kernel, by decide +kernel⟩
abbrev n_is_fraction : List Str := ["thing", "top", "bottom"]
theorem c_is_fraction : FnScope n_is_fraction ["thing"] (defScope s_is_fraction) := ⟨rfl, rfl, rfl, by decide +kernel, rfl, by decide +kernel, by decide +kernel⟩
abbrev n__law_cell : List Str := ["_law_script", "_law_k"]
theorem c__law_cell : FnScope n__law_cell ["_law_script", "_law_k"] (defScope s__law_cell) := ⟨rfl, rfl, rfl, by decide +kernel, rfl, by decide +kernel, by decide +kernel⟩
abbrev n__law_source : List Str := ["_law_cell_here", "_law_k", "_law_number_here", "_law_seed"]
theorem c__law_source : FnScope n__law_source ["_law_cell_here", "_law_k"] (defScope s__law_source) := ⟨rfl, rfl, rfl, by decide +kernel, rfl, by decide +kernel, by decide +kernel⟩
abbrev n__law_draw : List Str := ["_law_source_here", "_law_many", "_law_digit"]
theorem c__law_draw : FnScope n__law_draw ["_law_source_here", "_law_many"] (defScope s__law_draw) := ⟨rfl, rfl, rfl, by decide +kernel, rfl, by decide +kernel, by decide +kernel⟩
abbrev n__law_lowest : List Str := ["_law_top", "_law_bottom", "_law_one", "_law_other"]
theorem c__law_lowest : FnScope n__law_lowest ["_law_top", "_law_bottom"] (defScope s__law_lowest) := ⟨rfl, rfl, rfl, by decide +kernel, rfl, by decide +kernel, by decide +kernel⟩
abbrev n__law_whole : List Str := ["_law_found"]
theorem c__law_whole : FnScope n__law_whole ["_law_found"] (defScope s__law_whole) := ⟨rfl, rfl, rfl, by decide +kernel, rfl, by decide +kernel, by decide +kernel⟩
abbrev n__law_is_fraction : List Str := ["_law_found"]
theorem c__law_is_fraction : FnScope n__law_is_fraction ["_law_found"] (defScope s__law_is_fraction) := ⟨rfl, rfl, rfl, by decide +kernel, rfl, by decide +kernel, by decide +kernel⟩
abbrev n__law_number : List Str := ["_law_source_here", "_law_wide"]
theorem c__law_number : FnScope n__law_number ["_law_source_here"] (defScope s__law_number) := ⟨rfl, rfl, rfl, by decide +kernel, rfl, by decide +kernel, by decide +kernel⟩
abbrev n__law_text : List Str := ["_law_source_here", "_law_letters", "_law_some", "_law_found", "_law_k"]
theorem c__law_text : FnScope n__law_text ["_law_source_here"] (defScope s__law_text) := ⟨rfl, rfl, rfl, by decide +kernel, rfl, by decide +kernel, by decide +kernel⟩
abbrev n__law_thing : List Str := ["_law_source_here", "_law_way", "_law_one", "_law_other", "_law_odd", "_law_some"]
theorem c__law_thing : FnScope n__law_thing ["_law_source_here"] (defScope s__law_thing) := ⟨rfl, rfl, rfl, by decide +kernel, rfl, by decide +kernel, by decide +kernel⟩
abbrev n__law_named : List Str := ["_law_thing_here", "_law_sign"]
theorem c__law_named : FnScope n__law_named ["_law_thing_here"] (defScope s__law_named) := ⟨rfl, rfl, rfl, by decide +kernel, rfl, by decide +kernel, by decide +kernel⟩
abbrev n_law : List Str := ["_law_script", "_law_k", "_law_cell_here", "_law_source_here", "_law_turn", "_law_thing_here", "_law_found", "_law_one"]
theorem c_law : FnScope n_law ["_law_script"] (defScope s_law) := ⟨rfl, rfl, rfl, by decide +kernel, rfl, by decide +kernel, by decide +kernel⟩
/-- what the top has left -/
structure Txt (K : PySem.W.Frag) (mg : Str → Option Value) : Prop where
  f_is_whole : Df K mg "is_whole" s_is_whole ["thing"]
  f_is_name : Df K mg "is_name" s_is_name ["thing"]
  f_divisor : Df K mg "divisor" s_divisor ["one", "other"]
  f_is_fraction : Df K mg "is_fraction" s_is_fraction ["thing"]
  f__law_cell : Df K mg "_law_cell" s__law_cell ["_law_script", "_law_k"]
  f__law_source : Df K mg "_law_source" s__law_source ["_law_cell_here", "_law_k"]
  f__law_draw : Df K mg "_law_draw" s__law_draw ["_law_source_here", "_law_many"]
  f__law_lowest : Df K mg "_law_lowest" s__law_lowest ["_law_top", "_law_bottom"]
  f__law_whole : Df K mg "_law_whole" s__law_whole ["_law_found"]
  f__law_is_fraction : Df K mg "_law_is_fraction" s__law_is_fraction ["_law_found"]
  f__law_number : Df K mg "_law_number" s__law_number ["_law_source_here"]
  f__law_text : Df K mg "_law_text" s__law_text ["_law_source_here"]
  f__law_thing : Df K mg "_law_thing" s__law_thing ["_law_source_here"]
  f__law_named : Df K mg "_law_named" s__law_named ["_law_thing_here"]
  f_law : Df K mg "law" s_law ["_law_script"]
  g_LETTERS : ∃ t, mg "LETTERS" = some (.str "abcdefghijklmnopqrstuvwxyz" t)
  g_LONGEST : ∃ t, mg "LONGEST" = some (.int 8 t)
  b_abs : mg "abs" = none
  b_all : mg "all" = none
  b_bool : mg "bool" = none
  b_enumerate : mg "enumerate" = none
  b_int : mg "int" = none
  b_isinstance : mg "isinstance" = none
  b_len : mg "len" = none
  b_max : mg "max" = none
  b_range : mg "range" = none
  b_str : mg "str" = none
  b_tuple : mg "tuple" = none
theorem txt_mk {K : PySem.W.Frag} {h : Heap} {mg : Str → Option Value} (X : K.In h) (G : h.Ns mainGlobals mg)
    {f1 : Addr} {od1 an1 : Option Addr} {sl1 : Array (Option Value)} {oc1 kV1 dc1 pm1 cd1 ct1 : Value}
    {f2 : Addr} {od2 an2 : Option Addr} {sl2 : Array (Option Value)} {oc2 kV2 dc2 pm2 cd2 ct2 : Value}
    {f3 : Addr} {od3 an3 : Option Addr} {sl3 : Array (Option Value)} {oc3 kV3 dc3 pm3 cd3 ct3 : Value}
    {f4 : Addr} {od4 an4 : Option Addr} {sl4 : Array (Option Value)} {oc4 kV4 dc4 pm4 cd4 ct4 : Value}
    {f5 : Addr} {od5 an5 : Option Addr} {sl5 : Array (Option Value)} {oc5 kV5 dc5 pm5 cd5 ct5 : Value}
    {f6 : Addr} {od6 an6 : Option Addr} {sl6 : Array (Option Value)} {oc6 kV6 dc6 pm6 cd6 ct6 : Value}
    {f7 : Addr} {od7 an7 : Option Addr} {sl7 : Array (Option Value)} {oc7 kV7 dc7 pm7 cd7 ct7 : Value}
    {f8 : Addr} {od8 an8 : Option Addr} {sl8 : Array (Option Value)} {oc8 kV8 dc8 pm8 cd8 ct8 : Value}
    {f9 : Addr} {od9 an9 : Option Addr} {sl9 : Array (Option Value)} {oc9 kV9 dc9 pm9 cd9 ct9 : Value}
    {f10 : Addr} {od10 an10 : Option Addr} {sl10 : Array (Option Value)} {oc10 kV10 dc10 pm10 cd10 ct10 : Value}
    {f11 : Addr} {od11 an11 : Option Addr} {sl11 : Array (Option Value)} {oc11 kV11 dc11 pm11 cd11 ct11 : Value}
    {f12 : Addr} {od12 an12 : Option Addr} {sl12 : Array (Option Value)} {oc12 kV12 dc12 pm12 cd12 ct12 : Value}
    {f13 : Addr} {od13 an13 : Option Addr} {sl13 : Array (Option Value)} {oc13 kV13 dc13 pm13 cd13 ct13 : Value}
    {f14 : Addr} {od14 an14 : Option Addr} {sl14 : Array (Option Value)} {oc14 kV14 dc14 pm14 cd14 ct14 : Value}
    {f15 : Addr} {od15 an15 : Option Addr} {sl15 : Array (Option Value)} {oc15 kV15 dc15 pm15 cd15 ct15 : Value}
    {t16 : Tok}
    {t17 : Tok}
    (a1 : PySem.W.nsIn K mainGlobals "is_whole" = some (some (.ref f1))) (l1 : K.lookup f1 = some ⟨oc1, od1, .func (PySem.W.fnOf "is_whole" "is_whole" (defArgs s_is_whole) (defBody s_is_whole) (defScope s_is_whole) .none kV1 dc1 pm1 an1 cd1 ct1), sl1⟩) (c1 : PySem.W.codeIn K cd1 "is_whole" = true) (k1 : PySem.W.keepIn K (.ref f1) = true)
    (a2 : PySem.W.nsIn K mainGlobals "is_name" = some (some (.ref f2))) (l2 : K.lookup f2 = some ⟨oc2, od2, .func (PySem.W.fnOf "is_name" "is_name" (defArgs s_is_name) (defBody s_is_name) (defScope s_is_name) .none kV2 dc2 pm2 an2 cd2 ct2), sl2⟩) (c2 : PySem.W.codeIn K cd2 "is_name" = true) (k2 : PySem.W.keepIn K (.ref f2) = true)
    (a3 : PySem.W.nsIn K mainGlobals "divisor" = some (some (.ref f3))) (l3 : K.lookup f3 = some ⟨oc3, od3, .func (PySem.W.fnOf "divisor" "divisor" (defArgs s_divisor) (defBody s_divisor) (defScope s_divisor) .none kV3 dc3 pm3 an3 cd3 ct3), sl3⟩) (c3 : PySem.W.codeIn K cd3 "divisor" = true) (k3 : PySem.W.keepIn K (.ref f3) = true)
    (a4 : PySem.W.nsIn K mainGlobals "is_fraction" = some (some (.ref f4))) (l4 : K.lookup f4 = some ⟨oc4, od4, .func (PySem.W.fnOf "is_fraction" "is_fraction" (defArgs s_is_fraction) (defBody s_is_fraction) (defScope s_is_fraction) .none kV4 dc4 pm4 an4 cd4 ct4), sl4⟩) (c4 : PySem.W.codeIn K cd4 "is_fraction" = true) (k4 : PySem.W.keepIn K (.ref f4) = true)
    (a5 : PySem.W.nsIn K mainGlobals "_law_cell" = some (some (.ref f5))) (l5 : K.lookup f5 = some ⟨oc5, od5, .func (PySem.W.fnOf "_law_cell" "_law_cell" (defArgs s__law_cell) (defBody s__law_cell) (defScope s__law_cell) .none kV5 dc5 pm5 an5 cd5 ct5), sl5⟩) (c5 : PySem.W.codeIn K cd5 "_law_cell" = true) (k5 : PySem.W.keepIn K (.ref f5) = true)
    (a6 : PySem.W.nsIn K mainGlobals "_law_source" = some (some (.ref f6))) (l6 : K.lookup f6 = some ⟨oc6, od6, .func (PySem.W.fnOf "_law_source" "_law_source" (defArgs s__law_source) (defBody s__law_source) (defScope s__law_source) .none kV6 dc6 pm6 an6 cd6 ct6), sl6⟩) (c6 : PySem.W.codeIn K cd6 "_law_source" = true) (k6 : PySem.W.keepIn K (.ref f6) = true)
    (a7 : PySem.W.nsIn K mainGlobals "_law_draw" = some (some (.ref f7))) (l7 : K.lookup f7 = some ⟨oc7, od7, .func (PySem.W.fnOf "_law_draw" "_law_draw" (defArgs s__law_draw) (defBody s__law_draw) (defScope s__law_draw) .none kV7 dc7 pm7 an7 cd7 ct7), sl7⟩) (c7 : PySem.W.codeIn K cd7 "_law_draw" = true) (k7 : PySem.W.keepIn K (.ref f7) = true)
    (a8 : PySem.W.nsIn K mainGlobals "_law_lowest" = some (some (.ref f8))) (l8 : K.lookup f8 = some ⟨oc8, od8, .func (PySem.W.fnOf "_law_lowest" "_law_lowest" (defArgs s__law_lowest) (defBody s__law_lowest) (defScope s__law_lowest) .none kV8 dc8 pm8 an8 cd8 ct8), sl8⟩) (c8 : PySem.W.codeIn K cd8 "_law_lowest" = true) (k8 : PySem.W.keepIn K (.ref f8) = true)
    (a9 : PySem.W.nsIn K mainGlobals "_law_whole" = some (some (.ref f9))) (l9 : K.lookup f9 = some ⟨oc9, od9, .func (PySem.W.fnOf "_law_whole" "_law_whole" (defArgs s__law_whole) (defBody s__law_whole) (defScope s__law_whole) .none kV9 dc9 pm9 an9 cd9 ct9), sl9⟩) (c9 : PySem.W.codeIn K cd9 "_law_whole" = true) (k9 : PySem.W.keepIn K (.ref f9) = true)
    (a10 : PySem.W.nsIn K mainGlobals "_law_is_fraction" = some (some (.ref f10))) (l10 : K.lookup f10 = some ⟨oc10, od10, .func (PySem.W.fnOf "_law_is_fraction" "_law_is_fraction" (defArgs s__law_is_fraction) (defBody s__law_is_fraction) (defScope s__law_is_fraction) .none kV10 dc10 pm10 an10 cd10 ct10), sl10⟩) (c10 : PySem.W.codeIn K cd10 "_law_is_fraction" = true) (k10 : PySem.W.keepIn K (.ref f10) = true)
    (a11 : PySem.W.nsIn K mainGlobals "_law_number" = some (some (.ref f11))) (l11 : K.lookup f11 = some ⟨oc11, od11, .func (PySem.W.fnOf "_law_number" "_law_number" (defArgs s__law_number) (defBody s__law_number) (defScope s__law_number) .none kV11 dc11 pm11 an11 cd11 ct11), sl11⟩) (c11 : PySem.W.codeIn K cd11 "_law_number" = true) (k11 : PySem.W.keepIn K (.ref f11) = true)
    (a12 : PySem.W.nsIn K mainGlobals "_law_text" = some (some (.ref f12))) (l12 : K.lookup f12 = some ⟨oc12, od12, .func (PySem.W.fnOf "_law_text" "_law_text" (defArgs s__law_text) (defBody s__law_text) (defScope s__law_text) .none kV12 dc12 pm12 an12 cd12 ct12), sl12⟩) (c12 : PySem.W.codeIn K cd12 "_law_text" = true) (k12 : PySem.W.keepIn K (.ref f12) = true)
    (a13 : PySem.W.nsIn K mainGlobals "_law_thing" = some (some (.ref f13))) (l13 : K.lookup f13 = some ⟨oc13, od13, .func (PySem.W.fnOf "_law_thing" "_law_thing" (defArgs s__law_thing) (defBody s__law_thing) (defScope s__law_thing) .none kV13 dc13 pm13 an13 cd13 ct13), sl13⟩) (c13 : PySem.W.codeIn K cd13 "_law_thing" = true) (k13 : PySem.W.keepIn K (.ref f13) = true)
    (a14 : PySem.W.nsIn K mainGlobals "_law_named" = some (some (.ref f14))) (l14 : K.lookup f14 = some ⟨oc14, od14, .func (PySem.W.fnOf "_law_named" "_law_named" (defArgs s__law_named) (defBody s__law_named) (defScope s__law_named) .none kV14 dc14 pm14 an14 cd14 ct14), sl14⟩) (c14 : PySem.W.codeIn K cd14 "_law_named" = true) (k14 : PySem.W.keepIn K (.ref f14) = true)
    (a15 : PySem.W.nsIn K mainGlobals "law" = some (some (.ref f15))) (l15 : K.lookup f15 = some ⟨oc15, od15, .func (PySem.W.fnOf "law" "law" (defArgs s_law) (defBody s_law) (defScope s_law) .none kV15 dc15 pm15 an15 cd15 ct15), sl15⟩) (c15 : PySem.W.codeIn K cd15 "law" = true) (k15 : PySem.W.keepIn K (.ref f15) = true)
    (a16 : PySem.W.nsIn K mainGlobals "LETTERS" = some (some (.str "abcdefghijklmnopqrstuvwxyz" t16)))
    (a17 : PySem.W.nsIn K mainGlobals "LONGEST" = some (some (.int 8 t17)))
    (a18 : PySem.W.nsIn K mainGlobals "abs" = some none)
    (a19 : PySem.W.nsIn K mainGlobals "all" = some none)
    (a20 : PySem.W.nsIn K mainGlobals "bool" = some none)
    (a21 : PySem.W.nsIn K mainGlobals "enumerate" = some none)
    (a22 : PySem.W.nsIn K mainGlobals "int" = some none)
    (a23 : PySem.W.nsIn K mainGlobals "isinstance" = some none)
    (a24 : PySem.W.nsIn K mainGlobals "len" = some none)
    (a25 : PySem.W.nsIn K mainGlobals "max" = some none)
    (a26 : PySem.W.nsIn K mainGlobals "range" = some none)
    (a27 : PySem.W.nsIn K mainGlobals "str" = some none)
    (a28 : PySem.W.nsIn K mainGlobals "tuple" = some none)
    : Txt K mg :=
  ⟨⟨f1, _, PySem.W.mg_of X G a1, fun_mk (st := s_is_whole) l1 c1 k1, (fun_mk (st := s_is_whole) l1 c1 k1).binds (ps := ["thing"]) fun _ _ _ _ _ _ us hl => match us, hl with | [_], _ => rfl⟩,
   ⟨f2, _, PySem.W.mg_of X G a2, fun_mk (st := s_is_name) l2 c2 k2, (fun_mk (st := s_is_name) l2 c2 k2).binds (ps := ["thing"]) fun _ _ _ _ _ _ us hl => match us, hl with | [_], _ => rfl⟩,
   ⟨f3, _, PySem.W.mg_of X G a3, fun_mk (st := s_divisor) l3 c3 k3, (fun_mk (st := s_divisor) l3 c3 k3).binds (ps := ["one", "other"]) fun _ _ _ _ _ _ us hl => match us, hl with | [_, _], _ => rfl⟩,
   ⟨f4, _, PySem.W.mg_of X G a4, fun_mk (st := s_is_fraction) l4 c4 k4, (fun_mk (st := s_is_fraction) l4 c4 k4).binds (ps := ["thing"]) fun _ _ _ _ _ _ us hl => match us, hl with | [_], _ => rfl⟩,
   ⟨f5, _, PySem.W.mg_of X G a5, fun_mk (st := s__law_cell) l5 c5 k5, (fun_mk (st := s__law_cell) l5 c5 k5).binds (ps := ["_law_script", "_law_k"]) fun _ _ _ _ _ _ us hl => match us, hl with | [_, _], _ => rfl⟩,
   ⟨f6, _, PySem.W.mg_of X G a6, fun_mk (st := s__law_source) l6 c6 k6, (fun_mk (st := s__law_source) l6 c6 k6).binds (ps := ["_law_cell_here", "_law_k"]) fun _ _ _ _ _ _ us hl => match us, hl with | [_, _], _ => rfl⟩,
   ⟨f7, _, PySem.W.mg_of X G a7, fun_mk (st := s__law_draw) l7 c7 k7, (fun_mk (st := s__law_draw) l7 c7 k7).binds (ps := ["_law_source_here", "_law_many"]) fun _ _ _ _ _ _ us hl => match us, hl with | [_, _], _ => rfl⟩,
   ⟨f8, _, PySem.W.mg_of X G a8, fun_mk (st := s__law_lowest) l8 c8 k8, (fun_mk (st := s__law_lowest) l8 c8 k8).binds (ps := ["_law_top", "_law_bottom"]) fun _ _ _ _ _ _ us hl => match us, hl with | [_, _], _ => rfl⟩,
   ⟨f9, _, PySem.W.mg_of X G a9, fun_mk (st := s__law_whole) l9 c9 k9, (fun_mk (st := s__law_whole) l9 c9 k9).binds (ps := ["_law_found"]) fun _ _ _ _ _ _ us hl => match us, hl with | [_], _ => rfl⟩,
   ⟨f10, _, PySem.W.mg_of X G a10, fun_mk (st := s__law_is_fraction) l10 c10 k10, (fun_mk (st := s__law_is_fraction) l10 c10 k10).binds (ps := ["_law_found"]) fun _ _ _ _ _ _ us hl => match us, hl with | [_], _ => rfl⟩,
   ⟨f11, _, PySem.W.mg_of X G a11, fun_mk (st := s__law_number) l11 c11 k11, (fun_mk (st := s__law_number) l11 c11 k11).binds (ps := ["_law_source_here"]) fun _ _ _ _ _ _ us hl => match us, hl with | [_], _ => rfl⟩,
   ⟨f12, _, PySem.W.mg_of X G a12, fun_mk (st := s__law_text) l12 c12 k12, (fun_mk (st := s__law_text) l12 c12 k12).binds (ps := ["_law_source_here"]) fun _ _ _ _ _ _ us hl => match us, hl with | [_], _ => rfl⟩,
   ⟨f13, _, PySem.W.mg_of X G a13, fun_mk (st := s__law_thing) l13 c13 k13, (fun_mk (st := s__law_thing) l13 c13 k13).binds (ps := ["_law_source_here"]) fun _ _ _ _ _ _ us hl => match us, hl with | [_], _ => rfl⟩,
   ⟨f14, _, PySem.W.mg_of X G a14, fun_mk (st := s__law_named) l14 c14 k14, (fun_mk (st := s__law_named) l14 c14 k14).binds (ps := ["_law_thing_here"]) fun _ _ _ _ _ _ us hl => match us, hl with | [_], _ => rfl⟩,
   ⟨f15, _, PySem.W.mg_of X G a15, fun_mk (st := s_law) l15 c15 k15, (fun_mk (st := s_law) l15 c15 k15).binds (ps := ["_law_script"]) fun _ _ _ _ _ _ us hl => match us, hl with | [_], _ => rfl⟩,
   ⟨_, PySem.W.mg_of X G a16⟩,
   ⟨_, PySem.W.mg_of X G a17⟩,
   PySem.W.mg_none_of X G a18,
   PySem.W.mg_none_of X G a19,
   PySem.W.mg_none_of X G a20,
   PySem.W.mg_none_of X G a21,
   PySem.W.mg_none_of X G a22,
   PySem.W.mg_none_of X G a23,
   PySem.W.mg_none_of X G a24,
   PySem.W.mg_none_of X G a25,
   PySem.W.mg_none_of X G a26,
   PySem.W.mg_none_of X G a27,
   PySem.W.mg_none_of X G a28⟩
end Dear


namespace Dear
open PySem PySem.Spec PyProof.Rows L2
section
variable {P : Program} {w : World} {K : PySem.W.Frag} {mg : Str → Option Value} {base : Heap}
theorem o__law_source (T : Txt K mg) : OkF P w K mg base CX0 1 "_law_source" ["_law_cell_here", "_law_k"] spSource := by
  refine T.f__law_source.ok c__law_source (fun vs H Q E h => ?_) (fun f cdv A outer s H vs Q E hr h => ?_)
  · obtain ⟨c, k, rfl, _⟩ := h
    rfl
  · obtain ⟨c, k, rfl, q⟩ := h
    refine ⟨_, (pss_cons (ps_set (i := 2) c__law_source.nd rfl (Or.inl rfl) (pe_callB call_abs (by rfl) T.b_abs (by decide +kernel) (pa_cons (pv 0) pa_nil)))
(pss_cons (ps_set (i := 3) c__law_source.nd rfl (Or.inl rfl) (pe_op op_mod (pe_op op_mul (pe_op op_add (pe_op op_add (pe_op op_mod (pv 2) pe_int) (pe_op op_mul pe_int (pv 1))) pe_int) pe_int) pe_int))
(pss_one (ps_ret (pe_lst (pa_cons (pe_op op_mul (pv 2) (pe_callTy call_int1 (by rfl) T.b_int (by decide +kernel) (pa_cons (pe_cmpR op_ge (pv 2) (pe_op op_pow pe_int pe_int) (nomark _)) pa_nil))) (pa_cons (pv 3) pa_nil))))))), ?_⟩
    refine ⟨_, rfl, _, rfl, ?_⟩
    refine ⟨_, rfl, _, _, rfl, rfl, (by show (0 : Int) < 1000003; decide), _, rfl, _, _, rfl, rfl, .inl ⟨by decide, by decide⟩, _, _, rfl, rfl, _, _, rfl, rfl, _, _, rfl, rfl, .inr ⟨by decide, by decide⟩, _, _, rfl, rfl, (by show (0 : Int) < 2147483647; decide), ?_⟩
    refine ⟨_, rfl, _, rfl, _, _, rfl, rfl, ⟨by decide, by decide, by decide⟩, _, _, rfl, rfl, .inr ⟨_, rfl, _, _, rfl, rfl, .inr (bit_lt _), _, rfl, (by show 2 ≤ sizeLine; decide), fun l hl => ?_⟩⟩
    · refine q l _ hl (Same.upd hl) ⟨_, _, upd_same, ?_, Int.emod_nonneg _ (by decide), Int.emod_lt_of_pos _ (by decide)⟩
      refine Int.mul_nonneg ?_ ?_
      · split <;> omega
      · exact bit_ge _
theorem o__law_draw (T : Txt K mg) : OkF P w K mg base CX0 1 "_law_draw" ["_law_source_here", "_law_many"] spDraw := by
  refine T.f__law_draw.ok c__law_draw (fun vs H Q E h => ?_) (fun f cdv A outer s H vs Q E hr h => ?_)
  · obtain ⟨l, m, rfl, _⟩ := h
    rfl
  · obtain ⟨l, m, rfl, ⟨n, z, h1, hn, hz, hz2⟩, hm, hm9, q⟩ := h
    refine ⟨_, (pss_cons (ps_if (pt_cmpR op_gt (pe_ix (ix_list_k K) (pv 0) pe_int (fun _ _ => rfl)) pe_int (nomark _))
(pss_cons (ps_set (i := 2) c__law_draw.nd rfl (Or.inl rfl) (pe_op op_mod (pe_ix (ix_list_k K) (pv 0) pe_int (fun _ _ => rfl)) (pv 1)))
(pss_cons (ps_asg (pe_op op_fdivW (pe_ix (ix_list_k K) (pv 0) pe_int (fun _ _ => rfl)) (pv 1)) (pg_sub (pv 0) pe_int set_list))
(pss_one (ps_ret (pv 2)))))
pss_nil)
(pss_cons (ps_asg (pe_op op_mod (pe_op op_add (pe_op op_mul (pe_ix (ix_list_k K) (pv 0) pe_int (fun _ _ => rfl)) pe_int) pe_int) pe_int) (pg_sub (pv 0) pe_int set_list))
(pss_one (ps_ret (pe_op op_mod (pe_op op_fdivW (pe_op op_mod (pe_op op_mul (pe_ix (ix_list_k K) (pv 0) pe_int (fun _ _ => rfl)) (pe_ix (ix_list_k K) (pv 0) pe_int (fun _ _ => rfl))) pe_int) pe_int) (pv 1)))))), ?_⟩
    refine ⟨_, rfl, _, _, _, _, rfl, rfl, SqL.of h1, rfl, _, _, rfl, rfl, _, rfl, itd (fun c => ?_) fun c => ?_⟩
    · refine ⟨_, rfl, _, _, _, _, rfl, rfl, SqL.of h1, rfl, _, rfl, _, _, rfl, rfl, hm, ?_⟩
      refine ⟨_, rfl, _, _, _, _, rfl, rfl, SqL.of h1, rfl, _, rfl, _, _, rfl, rfl, ⟨hm, hm9⟩, _, rfl, _, _, _, _, rfl, rfl, h1, rfl, ?_⟩
      refine ⟨_, rfl, ?_⟩
      exact q _ _ (Int.emod_nonneg _ (by omega)) (Int.emod_lt_of_pos _ hm) But.upd ⟨_, _, upd_same, Int.ediv_nonneg (by omega) (by omega), hz, hz2⟩
    · refine ⟨_, rfl, _, _, _, _, rfl, rfl, SqL.of h1, rfl, _, _, rfl, rfl, .inr ⟨by decide, by decide⟩, _, _, rfl, rfl, _, _, rfl, rfl, (by show (0 : Int) < 2147483647; decide), _, rfl, _, _, _, _, rfl, rfl, h1, rfl, ?_⟩
      have b0 : 0 ≤ (z * 48271 + 11) % 2147483647 := Int.emod_nonneg _ (by decide)
      have b1 : (z * 48271 + 11) % 2147483647 < 2147483647 := Int.emod_lt_of_pos _ (by decide)
      refine ⟨_, rfl, _, _, _, _, rfl, rfl, SqL.of upd_same, rfl, _, rfl, _, _, _, _, rfl, rfl, SqL.of upd_same, rfl, _, _, rfl, rfl, .inl ⟨by omega, by omega⟩, _, _, rfl, rfl, (by show (0 : Int) < 2147483629; decide), _, _, rfl, rfl, ⟨by decide, by decide⟩, _, rfl, _, _, rfl, rfl, hm, ?_⟩
      exact q _ _ (Int.emod_nonneg _ (by omega)) (Int.emod_lt_of_pos _ hm) But.upd ⟨_, _, upd_same, hn, b0, b1⟩
end
end Dear

namespace Dear
open PySem PySem.Spec PyProof.Rows L2
section
variable {P : Program} {w : World} {K : PySem.W.Frag} {mg : Str → Option Value} {base : Heap}
theorem o_is_whole (T : Txt K mg) : OkF P w K mg base CX0 1 "is_whole" ["thing"] spWhole := by
  refine T.f_is_whole.ok c_is_whole (fun vs H Q E h => ?_) (fun f cdv A outer s H vs Q E hr h => ?_)
  · obtain ⟨v, n, rfl, _⟩ := h
    rfl
  · obtain ⟨v, d, rfl, hI, k⟩ := h
    refine ⟨_, (pss_one (ps_ret (pe_and (pe_callB (call_isi_k K) (by rfl) T.b_isinstance (by decide +kernel) (pa_cons (pv 0) (pa_cons (pe_bltn (v := .ty "int") (by rfl) T.b_int (by decide +kernel) rfl) pa_nil))) (pe_one (pe_not (pe_callB (call_isi_k K) (by rfl) T.b_isinstance (by decide +kernel) (pa_cons (pv 0) (pa_cons (pe_bltn (v := .ty "bool") (by rfl) T.b_bool (by decide +kernel) rfl) pa_nil)))))))), ?_⟩
    refine ⟨_, rfl, _, _, _, _, _, rfl, .ty _, hI.ty, kit_ty (kd_int d), _, rfl, ?_⟩
    cases d with
    | int i => exact iteT ⟨_, rfl, _, _, _, _, _, rfl, .ty _, hI.ty, kit_ty (kd_bool _), _, rfl, k⟩
    | bl i => exact iteT ⟨_, rfl, _, _, _, _, _, rfl, .ty _, hI.ty, kit_ty (kd_bool _), _, rfl, k⟩
    | non => exact iteF k
    | str z => exact iteF k
    | lst z => exact iteF k
    | tup z => exact iteF k
    | dct => exact iteF k
theorem o_divisor (T : Txt K mg) : OkF P w K mg base CX0 1 "divisor" ["one", "other"] spDivisor := by
  refine T.f_divisor.ok c_divisor (fun vs H Q E h => ?_) (fun f cdv A outer s H vs Q E hr h => ?_)
  · obtain ⟨v, n, rfl, _⟩ := h
    rfl
  · obtain ⟨a, b, rfl, ha, hb, k⟩ := h
    refine ⟨_, (pss_cons (ps_while PassesOwn.never (pt_cmpR op_gt (pv 1) pe_int (nomark _))
(pss_one (ps_par (by rfl) c_divisor.nd (i := 0) (j := 1) rfl rfl (by decide) rfl rfl (pa_cons (pv 1) (pa_cons (pe_op op_mod (pv 0) (pv 1)) pa_nil)) (by rfl))))
(pss_one (ps_ret (pv 0)))), ?_⟩
    refine while_by (fun σ H' => H' = H ∧ ∃ x y : Int, σ = [some (.int x), some (.int y)] ∧ 0 ≤ x ∧ 0 ≤ y ∧ Int.gcd x y = Int.gcd a b) (fun σ _ => match σ with | [_, some (.int y)] => y.toNat | _ => 0) ⟨rfl, a, b, rfl, ha, hb, rfl⟩ ?_ ?_
    · rintro σ H' ⟨rfl, x, y, rfl, hx, hy, e⟩
      refine ⟨_, rfl, _, _, rfl, rfl, _, rfl, itd (fun c => ?_) fun c => ?_⟩
      · refine ⟨_, rfl, _, rfl, _, rfl, _, _, rfl, rfl, c, _, _, rfl, ⟨rfl, y, x % y, rfl, hy, Int.emod_nonneg _ (by omega), ?_⟩, ?_⟩
        · rw [gcd_step hx c]
          exact e
        · show (x % y).toNat < y.toNat
          have := Int.emod_lt_of_pos x c
          omega
      · have : y = 0 := by omega
        subst this
        refine ⟨_, rfl, ?_⟩
        rw [← e, Int.gcd_zero_right] at k
        have e2 : ((x.natAbs : Nat) : Int) = x := by omega
        rw [e2] at k
        exact k
    · rintro σ H Q Q' hq ⟨v, e1, i, j, e2, e3, x, e4, q⟩
      exact ⟨v, e1, i, j, e2, e3, x, e4, hq _ _ q⟩
theorem o_is_fraction (T : Txt K mg) : OkF P w K mg base CX0 2 "is_fraction" ["thing"] spFr := by
  have o_is_whole := o_is_whole (P := P) (w := w) (base := base) T
  have o_divisor := o_divisor (P := P) (w := w) (base := base) T
  refine T.f_is_fraction.ok c_is_fraction (fun vs H Q E h => ?_) (fun f cdv A outer s H vs Q E hr h => ?_)
  · obtain ⟨v, n, rfl, _⟩ := h
    rfl
  · obtain ⟨v, d, rfl, hI, ok, k⟩ := h
    refine ⟨_, (pss_cons (ps_if (PW.pt (pw_or (pt_not (pt_val (pe_callB (call_isi_k K) (by rfl) T.b_isinstance (by decide +kernel) (pa_cons (pv 0) (pa_cons (pe_bltn (v := .ty "tuple") (by rfl) T.b_tuple (by decide +kernel) rfl) pa_nil))))) (pw_or1 (pt_cmpR op_ne (pe_callB (call_len_seq_k K) (by rfl) T.b_len PySem.boot_len (pa_cons (pv 0) pa_nil)) pe_int (nomark _)))))
(pss_one (ps_ret pe_bl))
pss_nil)
(pss_cons (ps_asg (pv 0) (pg_tup rfl (pgs_cons (pg_name (i := 1) c_is_fraction.nd rfl (Or.inl rfl)) (pgs_cons (pg_name (i := 2) c_is_fraction.nd rfl (Or.inl rfl)) pgs_nil))))
(pss_cons (ps_if (PW.pt (pw_or (pt_not (pt_val (pe_c o_is_whole hr (pa_cons (pv 1) pa_nil)))) (pw_or (pt_not (pt_val (pe_c o_is_whole hr (pa_cons (pv 2) pa_nil)))) (pw_or1 (pt_cmpR op_lt (pv 2) pe_int (nomark _))))))
(pss_one (ps_ret pe_bl))
pss_nil)
(pss_one (ps_ret (pe_cmpR op_eq (pe_c o_divisor hr (pa_cons (pv 2) (pa_cons (pe_callB call_abs (by rfl) T.b_abs (by decide +kernel) (pa_cons (pv 1) pa_nil)) pa_nil))) pe_int (nomark _))))))), ?_⟩
    refine ⟨_, rfl, _, _, _, _, _, rfl, .ty _, hI.ty, kit_ty (kd_tuple d), _, rfl, ?_⟩
    have other : isTup d = false → isFr d = false := fun e => by
      cases d with
      | tup z => cases e
      | _ => rfl
    cases e : isTup d with
    | false =>
      rw [other e] at k
      exact iteT (k H (Same.refl H))
    | true =>
      refine iteF ?_
      cases hI with
      | tup ha hall =>
        rename_i a xs ds
        refine ⟨_, rfl, _, _, rfl, .inr (SqT.of ha), rfl, _, rfl, ?_⟩
        by_cases hl : xs.length = 2
        · have e2 : decide (V.int ((xs.length : Nat) : Int) = V.int 2) = true := by rw [hl]; decide
          rw [e2]
          refine iteF ?_
          match xs, ds, hall, hl with
          | [x, y], _, .cons (d := d1) h1 (.cons (d := d2) h2 .nil), _ =>
            refine ⟨_, rfl, _, _, rfl, SqT.of ha, rfl, _, _, rfl, _, _, rfl, rfl, ?_⟩
            refine ⟨_, rfl, _, _, rfl, h1, _, rfl, ?_⟩
            cases h1 with
            | int t =>
              refine iteF ⟨_, rfl, _, _, rfl, h2, _, rfl, ?_⟩
              cases h2 with
              | int b =>
                refine iteF ⟨_, rfl, _, _, rfl, rfl, _, rfl, itd (fun c => ?_) fun c => ?_⟩
                · have e3 : isFr (.tup [.int t, .int b]) = false := by
                    show (decide (0 < b) && _) = false
                    rw [decide_eq_false (by omega), Bool.false_and]
                  rw [e3] at k
                  exact k H (Same.refl H)
                · refine ⟨_, rfl, _, rfl, _, rfl, _, _, rfl, by omega, ?_, rfl, ?_⟩
                  · split <;> omega
                  · rw [abs_if, gcd_abs]
                    have e3 : isFr (.tup [.int t, .int b]) = decide (V.int ((Int.gcd b t : Nat) : Int) = V.int 1) := by
                      show (decide (0 < b) && (Int.gcd b t == 1)) = _
                      rw [decide_eq_true (by omega), Bool.true_and, dec_int]
                      by_cases z : Int.gcd b t = 1
                      · rw [z]; rfl
                      · have z1 : (Int.gcd b t == 1) = false := by simpa using z
                        have z2 : (((Int.gcd b t : Nat) : Int) == 1) = false := by
                          simp only [beq_eq_false_iff_ne, ne_eq]
                          omega
                        rw [z1, z2]
                    rw [e3] at k
                    exact k H (Same.refl H)
              | _ => exact iteT (k H (Same.refl H))
            | _ => exact iteT (k H (Same.refl H))
        · have e2 : decide (V.int ((xs.length : Nat) : Int) = V.int 2) = false := by
            rw [dec_int]
            simp only [beq_eq_false_iff_ne, ne_eq]
            omega
          rw [e2]
          refine iteT ?_
          have e3 : isFr (.tup ds) = false := isFr_len (by rw [← hall.length]; exact hl)
          rw [e3] at k
          exact k H (Same.refl H)
      | non => cases e
      | bl _ => cases e
      | int _ => cases e
      | str _ => cases e
      | lst _ _ => cases e
      | dct _ => cases e
theorem o_is_name (T : Txt K mg) : OkF P w K mg base CX0 1 "is_name" ["thing"] spNm := by
  refine T.f_is_name.ok c_is_name (fun vs H Q E h => ?_) (fun f cdv A outer s H vs Q E hr h => ?_)
  · obtain ⟨v, n, rfl, _⟩ := h
    rfl
  · obtain ⟨v, d, rfl, hI, ok, k⟩ := h
    refine ⟨_, (pss_cons (ps_if (PW.pt (pw_or (pt_not (pt_val (pe_callB (call_isi_k K) (by rfl) T.b_isinstance (by decide +kernel) (pa_cons (pv 0) (pa_cons (pe_bltn (v := .ty "str") (by rfl) T.b_str (by decide +kernel) rfl) pa_nil))))) (pw_or1 (pt_not (pt_chain op_le op_le pe_int (pe_callB call_len_str (by rfl) T.b_len PySem.boot_len (pa_cons (pv 0) pa_nil)) (pe_gi T.g_LONGEST))))))
(pss_one (ps_ret pe_bl))
pss_nil)
(pss_one (ps_ret (pe_callB (cr_all_k K rfl) (by rfl) T.b_all (by decide +kernel) (pa_cons (pe_lc (own := [("sign", 1)]) (g := gName 1) (tt := tYes) (by rfl) c_is_name.nd (pi_str (pv 0)) (blkOk_by (own := [("sign", 1)]) (N := n_is_name) (sc := defScope s_is_name) (by decide +kernel)) (fun _ _ _ _ _ => (pg_name (i := 1) c_is_name.nd rfl (Or.inl rfl))) (fun _ _ _ _ _ => pts_nil) (fun _ _ _ _ _ => (pe_cmpR op_in_sign (pv 1) (pe_gs T.g_LETTERS) rfl))) pa_nil))))), ?_⟩
    refine ⟨_, rfl, _, _, _, _, _, rfl, .ty _, hI.ty, kit_ty (kd_str d), _, rfl, ?_⟩
    cases hI with
    | str z =>
      have hz : z.length ≤ sizeLine := Nat.le_trans ok.1 (by decide)
      refine iteF ⟨_, rfl, _, rfl, hz, _, _, rfl, rfl, _, rfl, itd (fun c1 => ?_) fun c1 => ?_⟩
      · refine ⟨_, _, rfl, rfl, _, rfl, itnd (fun c2 => ?_) fun c2 => ?_⟩
        · have e3 : isNm (.str z) = false := by
            show (decide (1 ≤ z.length ∧ z.length ≤ 8) && _) = false
            rw [decide_eq_false (by omega), Bool.false_and]
          rw [e3] at k
          exact k H (Same.refl H)
        · refine ⟨_, rfl, z, rfl, fun D hD => lc_it walk_str (fun i H' => ∃ bs : List Bool, bs = (z.cps.toList.take i).map (fun c => decide (c ∈ letters.cps.toList)) ∧ H' = upd H D (.lst (bs.map V.bl))) ⟨[], rfl, rfl⟩ (fun _ _ _ _ => trivial) ?_ ?_⟩
          · rintro i x H' H'' hi ⟨bs, eb, rfl⟩ ⟨rfl, c, hc, rfl⟩
            refine ⟨rfl, _, rfl, _, _, rfl, rfl, _, upd_same, ?_, ?_⟩
            · rw [List.length_map, eb, List.length_map, List.length_take]
              exact Nat.lt_of_le_of_lt (Nat.min_le_left _ _) (Nat.lt_of_lt_of_le hi (by show z.length ≤ _; exact hz))
            · refine ⟨bs ++ [decide (c ∈ letters.cps.toList)], ?_, ?_⟩
              · have hc' : z.cps.toList[i]? = some c := by rw [Array.getElem?_toList]; exact hc
                rw [eb, List.take_succ, hc']
                simp
              · rw [upd_upd, List.map_append]
                rfl
          · rintro H' ⟨bs, eb, rfl⟩
            refine ⟨D, bs, rfl, SqL.of upd_same, ?_⟩
            have e3 : isNm (.str z) = bs.all id := by
              show (decide (1 ≤ z.length ∧ z.length ≤ 8) && _) = _
              rw [decide_eq_true (by omega), Bool.true_and, eb]
              have e4 : z.cps.toList.take z.cps.size = z.cps.toList := by rw [← Array.length_toList, List.take_length]
              rw [e4, List.all_map]
              rfl
            rw [e3] at k
            exact k _ (Same.upd hD)
      · have e3 : isNm (.str z) = false := by
          show (decide (1 ≤ z.length ∧ z.length ≤ 8) && _) = false
          rw [decide_eq_false (by omega), Bool.false_and]
        rw [e3] at k
        exact ⟨_, rfl, iteT (k H (Same.refl H))⟩
    | non => exact iteT (k H (Same.refl H))
    | bl _ => exact iteT (k H (Same.refl H))
    | int _ => exact iteT (k H (Same.refl H))
    | lst _ _ => exact iteT (k H (Same.refl H))
    | tup _ _ => exact iteT (k H (Same.refl H))
    | dct _ => exact iteT (k H (Same.refl H))
end
end Dear

namespace Dear
open PySem PySem.Spec PyProof.Rows L2
section
variable {P : Program} {w : World} {K : PySem.W.Frag} {mg : Str → Option Value} {base : Heap}
theorem o__law_whole (T : Txt K mg) : OkF P w K mg base CX0 1 "_law_whole" ["_law_found"] spWhole := by
  refine T.f__law_whole.ok c__law_whole (fun vs H Q E h => ?_) (fun f cdv A outer s H vs Q E hr h => ?_)
  · obtain ⟨v, n, rfl, _⟩ := h
    rfl
  · obtain ⟨v, d, rfl, hI, k⟩ := h
    refine ⟨_, (pss_one (ps_ret (pe_and (pe_callB (call_isi_k K) (by rfl) T.b_isinstance (by decide +kernel) (pa_cons (pv 0) (pa_cons (pe_bltn (v := .ty "int") (by rfl) T.b_int (by decide +kernel) rfl) pa_nil))) (pe_one (pe_not (pe_callB (call_isi_k K) (by rfl) T.b_isinstance (by decide +kernel) (pa_cons (pv 0) (pa_cons (pe_bltn (v := .ty "bool") (by rfl) T.b_bool (by decide +kernel) rfl) pa_nil)))))))), ?_⟩
    refine ⟨_, rfl, _, _, _, _, _, rfl, .ty _, hI.ty, kit_ty (kd_int d), _, rfl, ?_⟩
    cases d with
    | int i => exact iteT ⟨_, rfl, _, _, _, _, _, rfl, .ty _, hI.ty, kit_ty (kd_bool _), _, rfl, k⟩
    | bl i => exact iteT ⟨_, rfl, _, _, _, _, _, rfl, .ty _, hI.ty, kit_ty (kd_bool _), _, rfl, k⟩
    | non => exact iteF k
    | str z => exact iteF k
    | lst z => exact iteF k
    | tup z => exact iteF k
    | dct => exact iteF k
theorem o__law_lowest (T : Txt K mg) : OkF P w K mg base CX0 1 "_law_lowest" ["_law_top", "_law_bottom"] spLowest := by
  refine T.f__law_lowest.ok c__law_lowest (fun vs H Q E h => ?_) (fun f cdv A outer s H vs Q E hr h => ?_)
  · obtain ⟨v, n, rfl, _⟩ := h
    rfl
  · obtain ⟨t, b, rfl, hb, hl, k⟩ := h
    refine ⟨_, (pss_cons (ps_set (i := 2) c__law_lowest.nd rfl (Or.inl rfl) (pv 1))
(pss_cons (ps_set (i := 3) c__law_lowest.nd rfl (Or.inl rfl) (pe_callB call_abs (by rfl) T.b_abs (by decide +kernel) (pa_cons (pv 0) pa_nil)))
(pss_cons (ps_while PassesOwn.never (pt_cmpR op_gt (pv 3) pe_int (nomark _))
(pss_one (ps_par (by rfl) c__law_lowest.nd (i := 2) (j := 3) rfl rfl (by decide) rfl rfl (pa_cons (pv 3) (pa_cons (pe_op op_mod (pv 2) (pv 3)) pa_nil)) (by rfl))))
(pss_one (ps_ret (pe_tup (pa_cons (pe_op op_fdivW (pv 0) (pv 2)) (pa_cons (pe_op op_fdivW (pv 1) (pv 2)) pa_nil)))))))), ?_⟩
    refine ⟨_, rfl, ?_⟩
    refine ⟨_, rfl, _, rfl, ?_⟩
    rw [abs_if]
    refine while_by (fun σ H' => H' = H ∧ ∃ x y : Int, σ = [some (.int t), some (.int b), some (.int x), some (.int y)] ∧ 0 ≤ x ∧ 0 ≤ y ∧ Int.gcd x y = Int.gcd b t) (fun σ _ => match σ with | [_, _, _, some (.int y)] => y.toNat | _ => 0) ⟨rfl, b, _, rfl, by omega, by omega, gcd_abs b t⟩ ?_ ?_
    · rintro σ H' ⟨rfl, x, y, rfl, hx, hy, e⟩
      refine ⟨_, rfl, _, _, rfl, rfl, _, rfl, itd (fun c => ?_) fun c => ?_⟩
      · refine ⟨_, rfl, _, rfl, _, rfl, _, _, rfl, rfl, c, _, _, rfl, ⟨rfl, y, x % y, rfl, hy, Int.emod_nonneg _ (by omega), ?_⟩, ?_⟩
        · rw [gcd_step hx c]
          exact e
        · show (x % y).toNat < y.toNat
          have := Int.emod_lt_of_pos x c
          omega
      · have : y = 0 := by omega
        subst this
        rw [Int.gcd_zero_right] at e
        have e2 : x = ((Int.gcd b t : Nat) : Int) := by omega
        subst e2
        refine ⟨_, rfl, _, rfl, _, _, rfl, rfl, ⟨gcd_pos t hb, gcd_log t hb hl⟩, _, rfl, _, rfl, _, _, rfl, rfl, ⟨gcd_pos t hb, gcd_log t hb hl⟩, (by show 2 ≤ sizeLine; decide), fun p hp => ?_⟩
        exact k p _ hp (Same.upd hp) upd_same
    · rintro σ H Q Q' hq ⟨v, e1, i, j, e2, e3, x, e4, q⟩
      exact ⟨v, e1, i, j, e2, e3, x, e4, hq _ _ q⟩
theorem eqv_two (a b c d : Int) : PyData.eqv (.tuple [.int a, .int b]) (.tuple [.int c, .int d]) = ((a == c) && (b == d)) := by
  simp [PyData.eqv, PyData.eqvAll]
theorem shaped_two (a b : Int) : SeqAt.shaped (.tuple [.int a, .int b]) = true := by
  simp [SeqAt.shaped, PyData.canLay0, PyData.canLayAll0, PyData.depth, PyData.depthAll]
theorem o__law_is_fraction (T : Txt K mg) : OkF P w K mg base CX0 2 "_law_is_fraction" ["_law_found"] spFr := by
  have o__law_whole := o__law_whole (P := P) (w := w) (base := base) T
  have o__law_lowest := o__law_lowest (P := P) (w := w) (base := base) T
  refine T.f__law_is_fraction.ok c__law_is_fraction (fun vs H Q E h => ?_) (fun f cdv A outer s H vs Q E hr h => ?_)
  · obtain ⟨v, n, rfl, _⟩ := h
    rfl
  · obtain ⟨v, d, rfl, hI, ok, k⟩ := h
    refine ⟨_, (pss_cons (ps_if (PW.pt (pw_or (pt_not (pt_val (pe_callB (call_isi_k K) (by rfl) T.b_isinstance (by decide +kernel) (pa_cons (pv 0) (pa_cons (pe_bltn (v := .ty "tuple") (by rfl) T.b_tuple (by decide +kernel) rfl) pa_nil))))) (pw_or (pt_cmpR op_ne (pe_callB (call_len_seq_k K) (by rfl) T.b_len PySem.boot_len (pa_cons (pv 0) pa_nil)) pe_int (nomark _)) (pw_or (pt_not (pt_val (pe_c o__law_whole hr (pa_cons (pe_ix (ix_tup_k K) (pv 0) pe_int (fun _ _ => rfl)) pa_nil)))) (pw_or1 (pt_not (pt_val (pe_c o__law_whole hr (pa_cons (pe_ix (ix_tup_k K) (pv 0) pe_int (fun _ _ => rfl)) pa_nil)))))))))
(pss_one (ps_ret pe_bl))
pss_nil)
(pss_one (ps_ret (pe_and (pe_cmpR op_gt (pe_ix (ix_tup_k K) (pv 0) pe_int (fun _ _ => rfl)) pe_int (nomark _)) (pe_one (pe_cmpR (op_eqD_k K hr.units) (pe_c o__law_lowest hr (pa_cons (pe_ix (ix_tup_k K) (pv 0) pe_int (fun _ _ => rfl)) (pa_cons (pe_ix (ix_tup_k K) (pv 0) pe_int (fun _ _ => rfl)) pa_nil))) (pv 0) (nomark _))))))), ?_⟩
    refine ⟨_, rfl, _, _, _, _, _, rfl, .ty _, hI.ty, kit_ty (kd_tuple d), _, rfl, ?_⟩
    have other : isTup d = false → isFr d = false := fun e => by
      cases d with
      | tup z => cases e
      | _ => rfl
    cases e : isTup d with
    | false =>
      rw [other e] at k
      exact iteT (k H (Same.refl H))
    | true =>
      refine iteF ?_
      cases hI with
      | tup ha hall =>
        rename_i a xs ds
        refine ⟨_, rfl, _, _, rfl, .inr (SqT.of ha), rfl, _, rfl, ?_⟩
        by_cases hl : xs.length = 2
        · have e2 : decide (V.int ((xs.length : Nat) : Int) = V.int 2) = true := by rw [hl]; decide
          rw [e2]
          refine iteF ?_
          match xs, ds, hall, hl with
          | [x, y], _, .cons (d := d1) h1 (.cons (d := d2) h2 .nil), _ =>
            refine ⟨_, rfl, _, _, _, _, rfl, rfl, SqT.of ha, rfl, _, _, rfl, h1, _, rfl, ?_⟩
            cases h1 with
            | int t =>
              refine iteF ⟨_, rfl, _, _, _, _, rfl, rfl, SqT.of ha, rfl, _, _, rfl, h2, _, rfl, ?_⟩
              cases h2 with
              | int b =>
                refine iteF ⟨_, rfl, _, _, _, _, rfl, rfl, SqT.of ha, rfl, _, _, rfl, rfl, _, rfl, itd (fun c => ?_) fun c => ?_⟩
                · have ob : b.natAbs < 2 ^ 300 := ok.2.1
                  refine ⟨_, rfl, _, _, _, _, rfl, rfl, SqT.of ha, rfl, _, rfl, _, _, _, _, rfl, rfl, SqT.of ha, rfl, t, b, rfl, c, log_small (by decide) ob (by decide), fun p H' hp S hH => ?_⟩
                  refine ⟨_, rfl, _, _, .tup (SqT.of hH) (.cons (.int _) (.cons (.int _) .nil)), .tup (SqT.of (S _ _ ha)) (.cons (.int _) (.cons (.int _) .nil)), shaped_two _ _, shaped_two _ _, ?_⟩
                  rw [eqv_two, low_eq c]
                  have e3 : isFr (.tup [.int t, .int b]) = (Int.gcd b t == 1) := by
                    show (decide (0 < b) && (Int.gcd b t == 1)) = _
                    rw [decide_eq_true c, Bool.true_and]
                  rw [e3] at k
                  exact k _ S
                · have e3 : isFr (.tup [.int t, .int b]) = false := by
                    show (decide (0 < b) && _) = false
                    rw [decide_eq_false (by omega), Bool.false_and]
                  rw [e3] at k
                  exact k H (Same.refl H)
              | _ => exact iteT (k H (Same.refl H))
            | _ => exact iteT (k H (Same.refl H))
        · have e2 : decide (V.int ((xs.length : Nat) : Int) = V.int 2) = false := by
            rw [dec_int]
            simp only [beq_eq_false_iff_ne, ne_eq]
            omega
          rw [e2]
          refine iteT ?_
          have e3 : isFr (.tup ds) = false := isFr_len (by rw [← hall.length]; exact hl)
          rw [e3] at k
          exact k H (Same.refl H)
      | non => cases e
      | bl _ => cases e
      | int _ => cases e
      | str _ => cases e
      | lst _ _ => cases e
      | dct _ => cases e
end
end Dear

namespace Dear
open PySem PySem.Spec PyProof.Rows L2
def spNumber : Sp := fun vs H Q _ => ∃ l : Addr, vs = [.ref l] ∧ Src H l ∧ ∀ (i : Int) (H' : Hp), i.natAbs < 2 ^ 300 → But l H H' → Src H' l → Q (.int i) H'
def spText : Sp := fun vs H Q _ => ∃ l : Addr, vs = [.ref l] ∧ Src H l ∧ ∀ (z : Str) (H' : Hp), z.length ≤ 3000 → Asc z → But l H H' → Src H' l → Q (.str z) H'
def spThing : Sp := fun vs H Q _ => ∃ l : Addr, vs = [.ref l] ∧ Src H l ∧ ∀ (v : V) (d : D) (H' : Hp), Dt (Off l H') v d → Ok d → But l H H' → Src H' l → Q v H'
theorem wide_of {v : V} (h : v ∈ [V.int 4, V.int 13, V.int (10 ^ (60 : Int).toNat)]) : ∃ m : Int, v = .int m ∧ 0 < m ∧ m ≤ 10 ^ 60 := by
  simp only [List.mem_cons, List.not_mem_nil, or_false] at h
  rcases h with rfl | rfl | rfl
  · exact ⟨4, rfl, by decide, by decide⟩
  · exact ⟨13, rfl, by decide, by decide⟩
  · exact ⟨10 ^ 60, rfl, by decide, by decide⟩
theorem sign_of {v : V} (h : v ∈ [V.int 1, V.int 1, V.int 1, V.int (-1)]) : ∃ m : Int, v = .int m ∧ (m = 1 ∨ m = -1) := by
  simp only [List.mem_cons, List.not_mem_nil, or_false] at h
  rcases h with rfl | rfl | rfl | rfl
  · exact ⟨1, rfl, .inl rfl⟩
  · exact ⟨1, rfl, .inl rfl⟩
  · exact ⟨1, rfl, .inl rfl⟩
  · exact ⟨-1, rfl, .inr rfl⟩
def oddSigns : Str := " !\"#$&'()*+,-./0123456789:;<=>?@ABCDEFGHIJKLMNOPQRSTUVWXYZ[\\]^_`{|}~\n\t"
theorem odd_asc {c : Nat} (h : c ∈ oddSigns.cps.toList) : c < 128 := by
  have : ∀ c ∈ oddSigns.cps.toList, c < 128 := by decide +kernel
  exact this c h
section
variable {P : Program} {w : World} {K : PySem.W.Frag} {mg : Str → Option Value} {base : Heap}
theorem o__law_number (T : Txt K mg) : OkF P w K mg base CX0 2 "_law_number" ["_law_source_here"] spNumber := by
  have o__law_draw := o__law_draw (P := P) (w := w) (base := base) T
  refine T.f__law_number.ok c__law_number (fun vs H Q E h => ?_) (fun f cdv A outer s H vs Q E hr h => ?_)
  · obtain ⟨v, rfl, _⟩ := h
    rfl
  · obtain ⟨l, rfl, S, k⟩ := h
    refine ⟨_, (pss_cons (ps_set (i := 1) c__law_number.nd rfl (Or.inl rfl) (pe_ix (ix_list_k K) (pe_lst (pa_cons pe_int (pa_cons pe_int (pa_cons (pe_op op_pow pe_int pe_int) pa_nil)))) (pe_c o__law_draw hr (pa_cons (pv 0) (pa_cons pe_int pa_nil))) (fun _ _ => rfl)))
(pss_one (ps_ret (pe_op op_mul (pe_c o__law_draw hr (pa_cons (pv 0) (pa_cons (pv 1) pa_nil))) (pe_ix (ix_list_k K) (pe_lst (pa_cons pe_int (pa_cons pe_int (pa_cons pe_int (pa_cons (pe_un un_neg pe_int) pa_nil))))) (pe_c o__law_draw hr (pa_cons (pv 0) (pa_cons pe_int pa_nil))) (fun _ _ => rfl)))))), ?_⟩
    refine ⟨_, _, rfl, rfl, ⟨by decide, by decide, by decide⟩, (by show 3 ≤ sizeLine; decide), fun p hp => ?_⟩
    refine ⟨_, rfl, l, 3, rfl, S.same (Same.upd hp), by decide, by decide, fun r H1 r0 r1 B1 S1 => ?_⟩
    obtain ⟨v, hv, hm, _⟩ := at_lt (xs := [V.int 4, V.int 13, V.int (10 ^ (60 : Int).toNat)]) r0 (by simpa using r1)
    refine ⟨_, _, _, _, rfl, rfl, SqL.of (B1 p _ upd_same (S.ne hp)), hv, ?_⟩
    obtain ⟨m, rfl, m0, m1⟩ := wide_of hm
    have ml : m.natAbs.log2 < 9000 := log_small (n := 200) (by decide) (Nat.lt_of_le_of_lt (show m.natAbs ≤ 10 ^ 60 by omega) (by decide)) (by decide)
    refine ⟨_, rfl, _, rfl, l, m, rfl, S1, m0, ml, fun r2 H2 r20 r21 B2 S2 => ?_⟩
    refine ⟨_, rfl, (by show 4 ≤ sizeLine; decide), fun p2 hp2 => ?_⟩
    refine ⟨_, rfl, l, 4, rfl, S2.same (Same.upd hp2), by decide, by decide, fun r3 H3 r30 r31 B3 S3 => ?_⟩
    obtain ⟨v3, hv3, hm3, _⟩ := at_lt (xs := [V.int 1, V.int 1, V.int 1, V.int (-1)]) r30 (by simpa using r31)
    refine ⟨_, _, _, _, rfl, rfl, SqL.of (B3 p2 _ upd_same (S2.ne hp2)), hv3, ?_⟩
    obtain ⟨g, rfl, hg⟩ := sign_of hm3
    refine ⟨_, _, rfl, rfl, .inr ⟨by omega, by omega⟩, ?_⟩
    refine k _ _ ?_ (((But.of (Same.upd hp)).trans B1).trans ((B2.trans (But.of (Same.upd hp2))).trans B3)) S3
    have : (r2 * g).natAbs ≤ 10 ^ 60 := by
      rcases hg with rfl | rfl <;> omega
    exact Nat.lt_of_le_of_lt this (by decide)
theorem o__law_text (T : Txt K mg) : OkF P w K mg base CX0 2 "_law_text" ["_law_source_here"] spText := by
  have o__law_draw := o__law_draw (P := P) (w := w) (base := base) T
  refine T.f__law_text.ok c__law_text (fun vs H Q E h => ?_) (fun f cdv A outer s H vs Q E hr h => ?_)
  · obtain ⟨v, rfl, _⟩ := h
    rfl
  · obtain ⟨l, rfl, S, k⟩ := h
    refine ⟨_, (pss_cons (ps_set (i := 1) c__law_text.nd rfl (Or.inr rfl) pe_str)
(pss_cons (ps_set (i := 2) c__law_text.nd rfl (Or.inl rfl) pe_str)
(pss_cons (ps_setLc (i := 3) (own := [("_law_k", 4)]) (g := gName 4) (tt := tYes) (by rfl) c__law_text.nd rfl rfl (sw_true rfl rfl rfl (by decide +kernel)) (pi_range1 (by rfl) T.b_range (pa_cons (pe_c o__law_draw hr (pa_cons (pv 0) (pa_cons pe_int pa_nil))) pa_nil)) (blkOk_by (own := [("_law_k", 4)]) (N := n__law_text) (sc := defScope s__law_text) (by decide +kernel)) (fun _ _ _ _ _ => (pg_name (i := 4) c__law_text.nd rfl (Or.inl rfl))) (fun _ _ _ _ _ => pts_nil) (fun _ _ _ _ _ => (pe_ix ix_str (pv 1) (pe_c o__law_draw hr (pa_cons (pv 0) (pa_cons pe_int pa_nil))) (fun _ _ => rfl))))
(pss_cons (ps_if (PW.pt (pw_and (pt_cmpR (op_neD_k K hr.units) (pv 3) (pe_lst pa_nil) (nomark _)) (pw_and1 (pt_cmpR op_eq (pe_c o__law_draw hr (pa_cons (pv 0) (pa_cons pe_int pa_nil))) pe_int (nomark _)))))
(pss_one (ps_asg (pe_ix ix_str (pv 2) (pe_c o__law_draw hr (pa_cons (pv 0) (pa_cons (pe_callB call_len_str (by rfl) T.b_len PySem.boot_len (pa_cons (pv 2) pa_nil)) pa_nil))) (fun _ _ => rfl)) (pg_sub (pv 3) (pe_c o__law_draw hr (pa_cons (pv 0) (pa_cons (pe_callB (call_len_seq_k K) (by rfl) T.b_len PySem.boot_len (pa_cons (pv 3) pa_nil)) pa_nil))) set_list)))
pss_nil)
(pss_one (ps_ret (pe_join_k K pe_str (pv 3)))))))), ?_⟩
    refine ⟨_, rfl, l, 12, rfl, S, by decide, by decide, fun r H1 r0 r1 B1 S1 => ?_⟩
    refine ⟨r, rfl, by omega, by omega, fun Dd hD => lc_range (fun i H' => ∃ ys : List Str, H' Dd = some (.lst (ys.map V.str)) ∧ ys.length = i ∧ Ones ys ∧ But l H1 H' ∧ Src H' l)
      ⟨[], upd_same, rfl, (fun _ h => nomatch h), .of (Same.upd hD), S1.same (Same.upd hD)⟩ ?_ ?_⟩
    · rintro i H' hi ⟨ys, hy, yl, yo, B2, S2⟩
      refine ⟨rfl, _, rfl, _, rfl, l, 26, rfl, S2, by decide, by decide, fun r2 H3 r20 r21 B3 S3 => ?_⟩
      have e26 : letters.cps.toList.length = 26 := by decide +kernel
      obtain ⟨c, hc, hm, _⟩ := at_lt (xs := letters.cps.toList) r20 (by rw [e26]; exact r21)
      refine ⟨letters, _, c, rfl, rfl, by decide +kernel, hc, ?_⟩
      have nDl : Dd ≠ l := S1.ne hD
      refine ⟨_, B3 Dd _ hy nDl, ?_, ys ++ [⟨#[c]⟩], ?_, ?_, ?_, ?_, ?_⟩
      · rw [List.length_map]
        exact small1000 (by omega)
      · rw [upd_same, List.map_append]
        rfl
      · rw [List.length_append, yl]
        rfl
      · intro y hy
        rcases List.mem_append.mp hy with hy | hy
        · exact yo y hy
        · have e : y = ⟨#[c]⟩ := by simpa using hy
          subst e
          exact ⟨rfl, asc_one (in_letters_asc hm)⟩
      · intro b o hb hne
        rw [upd_ne (ne_of_none hb hD)]
        exact B3 b o (B2 b o hb hne) hne
      · obtain ⟨n, z, e, rest⟩ := S3
        exact ⟨n, z, by rw [upd_ne nDl.symm]; exact e, rest⟩
    · rintro H2 ⟨ys, hy, yl, yo, B2, S2⟩
      have yl12 : ys.length ≤ 12 := by omega
      have nDl : Dd ≠ l := S1.ne hD
      -- the end: the text of the list as it stands
      have fin : ∀ (ys : List Str) (H3 : Hp), H3 Dd = some (.lst (ys.map V.str)) → ys.length ≤ 12 → Ones ys → But l H1 H3 → Src H3 l → ∀ st : L2.St, st[3]? = some (some (.ref Dd)) →
          tRet (tM1 (rJoin K) (tC (.str "")) (tVar 3)) { nx := fun _ H' => Q .non H', rt := Q } st H3 := by
        intro ys H3 hy yl yo B3 S3 st hst
        refine ⟨⟨_, rfl⟩, _, hst, _, _, ys, rfl, rfl, .inl (SqL.of hy), ones_size yo (by omega), ?_⟩
        have := ones_join yo
        exact k _ _ (by omega) this.2 (B1.trans B3) S3
      refine ⟨_, rfl, (by show 0 ≤ sizeLine; decide), fun p hp => ?_⟩
      have npD : Dd ≠ p := ne_of_none hy hp
      refine ⟨_, _, .lst (SqL.of (by rw [upd_ne npD]; exact hy)) (dp_strs ys), .lst (SqL.of upd_same) .nil, shaped_strs (fun y h => (yo y h).2), shaped_nil, _, rfl, ?_⟩
      have B4 : But l H1 (upd H2 p (.lst [])) := B2.new hp
      have S4 := S2.same (Same.upd (o := .lst []) hp)
      have hy4 : (upd H2 p (.lst [])) Dd = some (.lst (ys.map V.str)) := by rw [upd_ne npD]; exact hy
      rw [eqv_nil]
      cases ys with
      | nil => exact fin [] _ hy4 (by decide) yo B4 S4 _ rfl
      | cons y0 yr =>
        refine ⟨_, rfl, l, 4, rfl, S4, by decide, by decide, fun r5 H5 r50 r51 B5 S5 => ?_⟩
        have hy5 := B5 Dd _ hy4 nDl
        refine ⟨rfl, _, rfl, itd (fun _ => ?_) fun _ => ?_⟩
        · refine ⟨_, rfl, _, rfl, _, rfl, _, rfl, by decide +kernel, l, _, rfl, S5, by decide +kernel, by decide +kernel, fun r6 H6 r60 r61 B6 S6 => ?_⟩
          have e68 : oddSigns.cps.toList.length = oddSigns.length := by simp [Str.length]
          obtain ⟨c, hc, hm, _⟩ := at_lt (xs := oddSigns.cps.toList) r60 (by rw [e68]; exact r61)
          have hy6 := B6 Dd _ hy5 nDl
          refine ⟨oddSigns, _, c, rfl, rfl, by decide +kernel, hc, _, rfl, _, rfl, _, rfl, _, _, rfl, .inl (SqL.of hy6), l, _, rfl, S6, ?_, ?_, fun r7 H7 r70 r71 B7 S7 => ?_⟩
          · rw [List.length_map, List.length_cons]
            omega
          · refine log_small (n := 10) (by decide) ?_ (by decide)
            rw [List.length_map]
            omega
          · have hy7 := B7 Dd _ hy6 nDl
            have r72 : r7.toNat < (y0 :: yr).length := by
              rw [List.length_map] at r71
              omega
            refine ⟨_, _, _, _, rfl, rfl, hy7, ixN_lt r70 r71, ?_⟩
            refine fin ((y0 :: yr).set r7.toNat ⟨#[c]⟩) _ ?_ ?_ ?_ ?_ ?_ _ rfl
            · rw [upd_same, List.map_set]
            · rw [List.length_set]
              exact yl12
            · intro y hy
              rcases List.mem_or_eq_of_mem_set hy with h | rfl
              · exact yo y h
              · exact ⟨rfl, asc_one (odd_asc hm)⟩
            · intro b o hb hne
              rw [upd_ne (ne_of_none hb hD)]
              exact B7 b o (B6 b o (B5 b o (B4 b o hb hne) hne) hne) hne
            · obtain ⟨n, z, e, rest⟩ := S7
              exact ⟨n, z, by rw [upd_ne nDl.symm]; exact e, rest⟩
        · exact fin (y0 :: yr) _ hy5 yl12 yo (B4.trans B5) S5 _ rfl
theorem o__law_named (T : Txt K mg) : OkF P w K mg base CX0 1 "_law_named" ["_law_thing_here"] spNm := by
  refine T.f__law_named.ok c__law_named (fun vs H Q E h => ?_) (fun f cdv A outer s H vs Q E hr h => ?_)
  · obtain ⟨v, n, rfl, _⟩ := h
    rfl
  · obtain ⟨v, d, rfl, hI, ok, k⟩ := h
    refine ⟨_, (pss_cons (ps_if (PW.pt (pw_or (pt_not (pt_val (pe_callB (call_isi_k K) (by rfl) T.b_isinstance (by decide +kernel) (pa_cons (pv 0) (pa_cons (pe_bltn (v := .ty "str") (by rfl) T.b_str (by decide +kernel) rfl) pa_nil))))) (pw_or1 (pt_not (pt_chain op_lt op_lt pe_int (pe_callB call_len_str (by rfl) T.b_len PySem.boot_len (pa_cons (pv 0) pa_nil)) pe_int)))))
(pss_one (ps_ret pe_bl))
pss_nil)
(pss_one (ps_ret (pe_cmpR (op_eqD_k K hr.units) (pe_lc (own := [("_law_sign", 1)]) (g := gName 1) (by rfl) c__law_named.nd (pi_str (pv 0)) (blkOk_by (own := [("_law_sign", 1)]) (N := n__law_named) (sc := defScope s__law_named) (by decide +kernel)) (fun _ _ _ _ _ => (pg_name (i := 1) c__law_named.nd rfl (Or.inl rfl))) (fun _ _ _ _ _ => (pts_one (pt_cmpR op_notIn_sign (pv 1) pe_str rfl))) (fun _ _ _ _ _ => (pv 1))) (pe_lst pa_nil) (nomark _))))), ?_⟩
    refine ⟨_, rfl, _, _, _, _, _, rfl, .ty _, hI.ty, kit_ty (kd_str d), _, rfl, ?_⟩
    cases hI with
    | str z =>
      have hz : z.length ≤ sizeLine := Nat.le_trans ok.1 (by decide)
      refine iteF ⟨_, rfl, _, rfl, hz, _, _, rfl, rfl, _, rfl, itd (fun c1 => ?_) fun c1 => ?_⟩
      · refine ⟨_, _, rfl, rfl, _, rfl, itnd (fun c2 => ?_) fun c2 => ?_⟩
        · have e3 : isNm (.str z) = false := by
            show (decide (1 ≤ z.length ∧ z.length ≤ 8) && _) = false
            rw [decide_eq_false (by omega), Bool.false_and]
          rw [e3] at k
          exact k H (Same.refl H)
        · refine ⟨_, rfl, z, rfl, fun Dd hD => lc_it walk_str (fun i H' => ∃ ys : List Str, ys = ((z.cps.toList.take i).filter (fun c => !decide (c ∈ letters.cps.toList))).map (fun c => ⟨#[c]⟩) ∧ H' = upd H Dd (.lst (ys.map V.str))) ⟨[], rfl, rfl⟩ (fun _ _ _ _ => trivial) ?_ ?_⟩
          · rintro i x H' H'' hi ⟨ys, eb, rfl⟩ ⟨rfl, c, hc, rfl⟩
            have hc' : z.cps.toList[i]? = some c := by rw [Array.getElem?_toList]; exact hc
            have lz : ys.length ≤ z.cps.size := by
              rw [eb, List.length_map]
              refine Nat.le_trans (List.length_filter_le _ _) ?_
              rw [List.length_take]
              exact Nat.le_trans (Nat.min_le_left _ _) (Nat.le_of_lt hi)
            have lz2 : z.cps.size ≤ 8 := by
              have : z.cps.size = z.length := rfl
              omega
            refine ⟨rfl, _, rfl, _, _, rfl, rfl, _, rfl, itnd (fun (c3 : ¬ c ∈ letters.cps.toList) => ?_) fun (c3 : c ∈ letters.cps.toList) => ?_⟩
            · refine ⟨_, rfl, _, upd_same, ?_, ys ++ [⟨#[c]⟩], ?_, ?_⟩
              · rw [List.length_map]
                exact small1000 (by omega)
              · rw [eb, List.take_succ, hc']
                simp only [Option.toList_some, List.filter_append, List.map_append]
                rw [List.filter_cons_of_pos (by rw [decide_eq_false c3]; rfl)]
                rfl
              · rw [upd_upd, List.map_append]
                rfl
            · refine ⟨ys, ?_, rfl⟩
              rw [eb, List.take_succ, hc']
              simp only [Option.toList_some, List.filter_append, List.map_append]
              rw [List.filter_cons_of_neg (by rw [decide_eq_true c3]; exact Bool.false_ne_true)]
              simp
          · rintro H' ⟨ys, eb, rfl⟩
            refine ⟨(by show 0 ≤ sizeLine; decide), fun p hp => ?_⟩
            have npD : Dd ≠ p := fun e => by
              rw [← e, upd_same] at hp
              cases hp
            have ya : ∀ y ∈ ys, Asc y := by
              intro y hy
              rw [eb] at hy
              obtain ⟨c, hc, rfl⟩ := List.mem_map.mp hy
              exact asc_one (ok.2 c (List.mem_of_mem_take (List.mem_filter.mp hc).1))
            refine ⟨_, _, .lst (SqL.of (by rw [upd_ne npD]; exact upd_same)) (dp_strs ys), .lst (SqL.of upd_same) .nil, shaped_strs ya, shaped_nil, ?_⟩
            rw [eqv_nil]
            have e3 : isNm (.str z) = (ys.map PyData.str).isEmpty := by
              show (decide (1 ≤ z.length ∧ z.length ≤ 8) && _) = _
              rw [decide_eq_true (by omega), Bool.true_and, eb]
              have e4 : z.cps.toList.take z.cps.size = z.cps.toList := by rw [← Array.length_toList, List.take_length]
              rw [e4, List.map_map]
              exact all_empty _ _ _
            rw [e3] at k
            exact k _ ((Same.upd hD).trans (Same.upd hp))
      · have e3 : isNm (.str z) = false := by
          show (decide (1 ≤ z.length ∧ z.length ≤ 8) && _) = false
          rw [decide_eq_false (by omega), Bool.false_and]
        rw [e3] at k
        exact ⟨_, rfl, iteT (k H (Same.refl H))⟩
    | non => exact iteT (k H (Same.refl H))
    | bl _ => exact iteT (k H (Same.refl H))
    | int _ => exact iteT (k H (Same.refl H))
    | lst _ _ => exact iteT (k H (Same.refl H))
    | tup _ _ => exact iteT (k H (Same.refl H))
    | dct _ => exact iteT (k H (Same.refl H))
end
end Dear

namespace Dear
open PySem PySem.Spec PyProof.Rows L2
section
variable {P : Program} {w : World} {K : PySem.W.Frag} {mg : Str → Option Value} {base : Heap}
/-- one of a list that was made -/
theorem pick {l : Addr} {H H1 : Hp} {p : Addr} {ds : List D} (h : Dt (Off l H) (.ref p) (.lst ds)) (ok : OkAll ds) (B : But l H H1) {r : Int} (r0 : 0 ≤ r) (r1 : r < ds.length) :
    ∃ (xs : List V) (v : V) (d : D), H1 p = some (.lst xs) ∧ atI xs r = some v ∧ Dt (Off l H1) v d ∧ Ok d ∧ d ∈ ds := by
  cases h with
  | lst ha hall =>
    rename_i xs
    obtain ⟨ne, hp⟩ := off_some ha
    obtain ⟨v, hv, _, hr⟩ := at_lt (xs := xs) r0 (by rw [hall.length]; exact r1)
    obtain ⟨d, hd, h⟩ := hall.get hr
    have hm := List.mem_of_getElem? hd
    exact ⟨xs, v, d, B _ _ hp ne, hv, h.same B.off, ok.mem hm, hm⟩
theorem o__law_thing (T : Txt K mg) : OkF P w K mg base CX0 3 "_law_thing" ["_law_source_here"] spThing := by
  have o__law_draw := o__law_draw (P := P) (w := w) (base := base) T
  have o__law_number := o__law_number (P := P) (w := w) (base := base) T
  have o__law_text := o__law_text (P := P) (w := w) (base := base) T
  have o__law_lowest := o__law_lowest (P := P) (w := w) (base := base) T
  refine T.f__law_thing.ok c__law_thing (fun vs H Q E h => ?_) (fun f cdv A outer s H vs Q E hr h => ?_)
  · obtain ⟨v, rfl, _⟩ := h
    rfl
  · obtain ⟨l, rfl, S, k⟩ := h
    refine ⟨_, (pss_cons (ps_set (i := 1) c__law_thing.nd rfl (Or.inl rfl) (pe_c o__law_draw hr (pa_cons (pv 0) (pa_cons pe_int pa_nil))))
(pss_cons (ps_if (pt_cmpR op_lt (pv 1) pe_int (nomark _))
(pss_one (ps_ret (pe_c o__law_number hr (pa_cons (pv 0) pa_nil))))
pss_nil)
(pss_cons (ps_if (pt_cmpR op_eq (pv 1) pe_int (nomark _))
(pss_one (ps_ret (pe_ix (ix_list_k K) (pe_lst (pa_cons pe_bl (pa_cons pe_bl (pa_cons pe_non (pa_cons pe_dnewK (pa_cons (pe_lst pa_nil) (pa_cons (pe_tup pa_nil) pa_nil))))))) (pe_c o__law_draw hr (pa_cons (pv 0) (pa_cons pe_int pa_nil))) (fun _ _ => rfl))))
pss_nil)
(pss_cons (ps_if (pt_cmpR op_lt (pv 1) pe_int (nomark _))
(pss_one (ps_ret (pe_c o__law_text hr (pa_cons (pv 0) pa_nil))))
pss_nil)
(pss_cons (ps_set (i := 2) c__law_thing.nd rfl (Or.inl rfl) (pe_c o__law_number hr (pa_cons (pv 0) pa_nil)))
(pss_cons (ps_set (i := 3) c__law_thing.nd rfl (Or.inl rfl) (pe_c o__law_number hr (pa_cons (pv 0) pa_nil)))
(pss_cons (ps_if (pt_cmpR op_eq (pv 1) pe_int (nomark _))
(pss_one (ps_ret (pe_c o__law_lowest hr (pa_cons (pv 2) (pa_cons (pe_callB (call_max2 rfl) (by rfl) T.b_max (by decide +kernel) (pa_cons pe_int (pa_cons (pe_callB call_abs (by rfl) T.b_abs (by decide +kernel) (pa_cons (pv 3) pa_nil)) pa_nil))) pa_nil)))))
pss_nil)
(pss_cons (ps_if (pt_cmpR op_eq (pv 1) pe_int (nomark _))
(pss_one (ps_ret (pe_tup (pa_cons (pv 2) (pa_cons (pv 3) pa_nil)))))
pss_nil)
(pss_cons (ps_set (i := 4) c__law_thing.nd rfl (Or.inl rfl) (pe_lst (pa_cons (pe_tup (pa_cons (pv 2) pa_nil)) (pa_cons (pe_tup (pa_cons (pv 2) (pa_cons (pv 3) (pa_cons pe_int pa_nil)))) (pa_cons (pe_tup (pa_cons pe_bl (pa_cons pe_int pa_nil))) (pa_cons (pe_tup (pa_cons pe_int (pa_cons pe_bl pa_nil))) (pa_cons (pe_tup (pa_cons (pv 2) (pa_cons pe_str pa_nil))) (pa_cons (pe_tup (pa_cons pe_non (pa_cons pe_int pa_nil))) (pa_cons (pe_tup (pa_cons pe_str (pa_cons pe_str pa_nil))) (pa_cons (pe_tup (pa_cons (pe_tup (pa_cons pe_int (pa_cons pe_int pa_nil))) (pa_cons pe_int pa_nil))) pa_nil))))))))))
(pss_cons (ps_set (i := 4) c__law_thing.nd rfl (Or.inl rfl) (pe_op op_cat (pv 4) (pe_lst (pa_cons (pe_tup (pa_cons (pv 2) (pa_cons (pv 3) (pa_cons pe_int (pa_cons pe_int pa_nil))))) (pa_cons (pe_tup (pa_cons (pv 2) (pa_cons (pv 3) (pa_cons (pv 2) pa_nil)))) pa_nil)))))
(pss_cons (ps_set (i := 5) c__law_thing.nd rfl (Or.inl rfl) (pe_op op_cat (pv 4) (pe_lst (pa_cons (pe_lst (pa_cons (pv 2) (pa_cons (pv 3) pa_nil))) (pa_cons (pe_lst (pa_cons (pv 2) pa_nil)) (pa_cons (pe_lst (pa_cons pe_str pa_nil)) (pa_cons (pe_disp (pps_cons pe_int pe_int pps_nil) (by rfl) (by rfl) (fun z => by cases z) (by decide)) (pa_cons (pe_lst (pa_cons (pe_tup (pa_cons pe_int (pa_cons pe_int pa_nil))) pa_nil)) (pa_cons (pe_tup (pa_cons pe_str pa_nil)) (pa_cons (pe_tup (pa_cons pe_int (pa_cons pe_non pa_nil))) (pa_cons (pe_tup (pa_cons pe_int (pa_cons pe_bl pa_nil))) pa_nil)))))))))))
(pss_one (ps_ret (pe_ix (ix_list_k K) (pv 5) (pe_c o__law_draw hr (pa_cons (pv 0) (pa_cons pe_int pa_nil))) (fun _ _ => rfl))))))))))))))), ?_⟩
    refine ⟨_, rfl, l, 10, rfl, S, by decide, by decide, fun r H1 r0 r1 B1 S1 => ?_⟩
    refine ⟨_, rfl, _, _, rfl, rfl, _, rfl, itd (fun _ => ?_) fun _ => ?_⟩
    · refine ⟨_, rfl, l, rfl, S1, fun i H2 hi B2 S2 => ?_⟩
      exact k _ (.int i) _ (.int i) hi (B1.trans B2) S2
    refine ⟨_, rfl, rfl, _, rfl, itb (fun _ => ?_) fun _ => ?_⟩
    · obtain ⟨o, ho⟩ := S1.some
      refine s_ret (s_op ?_)
      refine Mk.go (l := l) (by exact (mk_lst (mka_cons (mk_c (.bl _)) (mka_cons (mk_c (.bl _)) (mka_cons (mk_c .non) (mka_cons (mk_dnew ho) (mka_cons (mk_lst mka_nil ho) (mka_cons (mk_tup mka_nil ho) mka_nil)))))) ho)) fun v H2 s2 d2 => ?_
      refine ⟨_, rfl, l, 6, rfl, S1.same s2, by decide, by decide, fun r3 H3 r30 r31 B3 S3 => ?_⟩
      cases d2 with
      | lst ha hall =>
        obtain ⟨xs, v, d, h1, h2, h3, h4, _⟩ := pick (.lst ha hall) ⟨trivial, trivial, trivial, trivial, trivial, trivial, trivial⟩ B3 r30 (by simpa using r31)
        exact ⟨_, _, _, _, rfl, rfl, SqL.of h1, h2, k _ _ _ h3 h4 ((B1.trans (.of s2)).trans B3) S3⟩
    refine ⟨_, rfl, _, _, rfl, rfl, _, rfl, itd (fun _ => ?_) fun _ => ?_⟩
    · refine ⟨_, rfl, l, rfl, S1, fun z H2 hz ha B2 S2 => ?_⟩
      exact k _ (.str z) _ (.str z) ⟨hz, ha⟩ (B1.trans B2) S2
    refine ⟨_, rfl, l, rfl, S1, fun i H2 hi B2 S2 => ?_⟩
    refine ⟨_, rfl, l, rfl, S2, fun j H3 hj B3 S3 => ?_⟩
    have B13 : But l H H3 := B1.trans (B2.trans B3)
    refine ⟨_, rfl, rfl, _, rfl, itb (fun _ => ?_) fun _ => ?_⟩
    · have j0 : 0 < (if (if j < 0 then -j else j) > 1 then (if j < 0 then -j else j) else 1) := by
        split <;> omega
      have jl : (if (if j < 0 then -j else j) > 1 then (if j < 0 then -j else j) else 1).natAbs < 2 ^ 300 := by
        rw [abs_if]
        split
        · rw [Int.natAbs_natCast]; exact hj
        · exact Nat.lt_of_lt_of_le (by decide : (1 : Int).natAbs < 2) (Nat.pow_le_pow_right (n := 2) (by decide) (by decide : 1 ≤ 300))
      refine ⟨_, rfl, _, rfl, _, rfl, _, _, rfl, _, _, rfl, j0, log_small (by decide) jl (by decide), fun p H4 hp s4 hH4 => ?_⟩
      have np : p ≠ l := S3.ne hp
      have bt : ∀ x : Int, x.natAbs < 2 ^ 300 → ∀ g : Int, 0 < g → (x / g).natAbs < 2 ^ 300 := fun x hx g hg => Nat.lt_of_le_of_lt (by
        rcases Int.le_total 0 x with h0 | h0
        · have h1 := Int.ediv_nonneg h0 (Int.le_of_lt hg)
          have h2 := Int.ediv_le_self g h0
          omega
        · have h1 : x ≤ x / g := by
            rw [Int.le_ediv_iff_mul_le hg]
            have := Int.mul_le_mul_of_nonpos_left h0 (show 1 ≤ g by omega)
            omega
          have h2 : x / g ≤ 0 := Int.ediv_nonpos_of_nonpos_of_neg h0 hg
          omega) hx
      exact k _ (.tup [.int _, .int _]) _ (.tup (by rw [off_ne np]; exact hH4) (.cons (.int _) (.cons (.int _) .nil))) ⟨bt _ hi _ (gcd_pos _ j0), bt _ jl _ (gcd_pos _ j0), trivial⟩ (B13.trans (.of s4)) (S3.same s4)
    refine ⟨_, rfl, rfl, _, rfl, itb (fun _ => ?_) fun _ => ?_⟩
    · refine ⟨_, rfl, _, rfl, (by show 2 ≤ sizeLine; decide), fun p hp => ?_⟩
      exact k _ (.tup [.int i, .int j]) _ (.tup (by rw [off_ne (S3.ne hp)]; exact upd_same) (.cons (.int _) (.cons (.int _) .nil))) ⟨hi, hj, trivial⟩ (B13.new hp) (S3.same (Same.upd hp))
    obtain ⟨o, ho⟩ := S3.some
    dsimp only [tNext]
    refine s_seq (s_set ?_)
    refine Mk.go (l := l) (by exact (mk_lst (mka_cons (mk_tup (mka_cons (mk_var rfl (by first | exact .int _ | exact .str _ | exact .bl _ | exact .non | assumption)) mka_nil) ho) (mka_cons (mk_tup (mka_cons (mk_var rfl (by first | exact .int _ | exact .str _ | exact .bl _ | exact .non | assumption)) (mka_cons (mk_var rfl (by first | exact .int _ | exact .str _ | exact .bl _ | exact .non | assumption)) (mka_cons (mk_c (.int _)) mka_nil))) ho) (mka_cons (mk_tup (mka_cons (mk_c (.bl _)) (mka_cons (mk_c (.int _)) mka_nil)) ho) (mka_cons (mk_tup (mka_cons (mk_c (.int _)) (mka_cons (mk_c (.bl _)) mka_nil)) ho) (mka_cons (mk_tup (mka_cons (mk_var rfl (by first | exact .int _ | exact .str _ | exact .bl _ | exact .non | assumption)) (mka_cons (mk_c (.str _)) mka_nil)) ho) (mka_cons (mk_tup (mka_cons (mk_c .non) (mka_cons (mk_c (.int _)) mka_nil)) ho) (mka_cons (mk_tup (mka_cons (mk_c (.str _)) (mka_cons (mk_c (.str _)) mka_nil)) ho) (mka_cons (mk_tup (mka_cons (mk_tup (mka_cons (mk_c (.int _)) (mka_cons (mk_c (.int _)) mka_nil)) ho) (mka_cons (mk_c (.int _)) mka_nil)) ho) mka_nil)))))))) ho)) fun v H4 s4 d4 => ?_
    have ho4 := s4 _ _ ho
    dsimp only [tNext]
    refine s_seq (s_set ?_)
    refine Mk.go (l := l) (by exact (mk_cat (mk_var rfl d4) (mk_lst (mka_cons (mk_tup (mka_cons (mk_var rfl (by first | exact .int _ | exact .str _ | exact .bl _ | exact .non | assumption)) (mka_cons (mk_var rfl (by first | exact .int _ | exact .str _ | exact .bl _ | exact .non | assumption)) (mka_cons (mk_c (.int _)) (mka_cons (mk_c (.int _)) mka_nil)))) ho4) (mka_cons (mk_tup (mka_cons (mk_var rfl (by first | exact .int _ | exact .str _ | exact .bl _ | exact .non | assumption)) (mka_cons (mk_var rfl (by first | exact .int _ | exact .str _ | exact .bl _ | exact .non | assumption)) (mka_cons (mk_var rfl (by first | exact .int _ | exact .str _ | exact .bl _ | exact .non | assumption)) mka_nil))) ho4) mka_nil)) ho4) ho4)) fun v5 H5 s5 d5 => ?_
    have ho5 := s5 _ _ ho4
    dsimp only [tNext]
    refine s_seq (s_set ?_)
    refine Mk.go (l := l) (by exact (mk_cat (mk_var rfl d5) (mk_lst (mka_cons (mk_lst (mka_cons (mk_var rfl (by first | exact .int _ | exact .str _ | exact .bl _ | exact .non | assumption)) (mka_cons (mk_var rfl (by first | exact .int _ | exact .str _ | exact .bl _ | exact .non | assumption)) mka_nil)) ho5) (mka_cons (mk_lst (mka_cons (mk_var rfl (by first | exact .int _ | exact .str _ | exact .bl _ | exact .non | assumption)) mka_nil) ho5) (mka_cons (mk_lst (mka_cons (mk_c (.str _)) mka_nil) ho5) (mka_cons (mk_disp1 ho5) (mka_cons (mk_lst (mka_cons (mk_tup (mka_cons (mk_c (.int _)) (mka_cons (mk_c (.int _)) mka_nil)) ho5) mka_nil) ho5) (mka_cons (mk_tup (mka_cons (mk_c (.str _)) mka_nil) ho5) (mka_cons (mk_tup (mka_cons (mk_c (.int _)) (mka_cons (mk_c .non) mka_nil)) ho5) (mka_cons (mk_tup (mka_cons (mk_c (.int _)) (mka_cons (mk_c (.bl _)) mka_nil)) ho5) mka_nil)))))))) ho5) ho5)) fun v6 H6 s6 d6 => ?_
    have S6 := ((S3.same s4).same s5).same s6
    refine ⟨_, rfl, _, rfl, l, 18, rfl, S6, by decide, by decide, fun r7 H7 r70 r71 B7 S7 => ?_⟩
    cases d6 with
    | lst ha hall =>
      have go := fun okd => pick (.lst ha hall) okd B7 r70 (by simpa using r71)
      have a1 : ("1" : Str).length ≤ 3000 ∧ Asc "1" := by decide +kernel
      have a2 : ("a" : Str).length ≤ 3000 ∧ Asc "a" := by decide +kernel
      have a3 : ("b" : Str).length ≤ 3000 ∧ Asc "b" := by decide +kernel
      have b1 : Int.natAbs 1 < 2 ^ 300 := Nat.lt_of_lt_of_le (by decide : (1 : Int).natAbs < 2) (Nat.pow_le_pow_right (n := 2) (by decide) (by decide : 1 ≤ 300))
      have b2 : Int.natAbs 2 < 2 ^ 300 := Nat.lt_of_lt_of_le (by decide : (2 : Int).natAbs < 2 ^ 2) (Nat.pow_le_pow_right (n := 2) (by decide) (by decide : 2 ≤ 300))
      have b0 : Int.natAbs 0 < 2 ^ 300 := Nat.lt_of_lt_of_le (by decide : (0 : Int).natAbs < 2) (Nat.pow_le_pow_right (n := 2) (by decide) (by decide : 1 ≤ 300))
      obtain ⟨xs, v, d, h1, h2, h3, h4, _⟩ := go (by simp only [OkAll, Ok, hi, hj, a1, a2, a3, b0, b1, b2, and_self, true_and, and_true, List.cons_append, List.nil_append]; exact ⟨a1.2, ⟨a2.2, a3.2⟩, a2.2⟩)
      exact ⟨_, _, _, _, rfl, rfl, SqL.of h1, h2, k _ _ _ h3 h4 ((B13.trans (.of ((s4.trans s5).trans s6))).trans B7) S7⟩
theorem dp_bls {K : PySem.W.Frag} {H : Hp} : ∀ bs : List Bool, DpAll K H (bs.map V.bl) (bs.map PyData.bool)
  | [] => .nil
  | b :: bs => .cons (.bl b) (dp_bls bs)
theorem shaped_bl3 (a b c : Bool) : SeqAt.shaped (.list (List.map PyData.bool [a, b, c])) = true := by
  simp [SeqAt.shaped, PyData.canLay0, PyData.canLayAll0, PyData.depth, PyData.depthAll]
theorem ok_law (T : Txt K mg) {f : Addr} {fd : FuncData} (F : Fun K "law" "law" s_law f fd) : FnOk P w K mg base CX0 4 f fd ["_law_script"] (spLaw K) := by
  have o__law_source := o__law_source (P := P) (w := w) (base := base) T
  have o__law_thing := o__law_thing (P := P) (w := w) (base := base) T
  have o_is_whole := o_is_whole (P := P) (w := w) (base := base) T
  have o_is_fraction := o_is_fraction (P := P) (w := w) (base := base) T
  have o_is_name := o_is_name (P := P) (w := w) (base := base) T
  have o__law_whole := o__law_whole (P := P) (w := w) (base := base) T
  have o__law_is_fraction := o__law_is_fraction (P := P) (w := w) (base := base) T
  have o__law_named := o__law_named (P := P) (w := w) (base := base) T
  refine F.ok c_law (fun vs H Q E h => ?_) (fun cdv A outer s H vs Q E hr h => ?_)
  · obtain ⟨a, ns, rfl, _⟩ := h
    rfl
  · obtain ⟨a, ns, rfl, hS, hlen, k⟩ := h
    refine ⟨_, (pss_cons (ps_for PassesOwn.never rfl (pi_enum (by rfl) T.b_enumerate (pa_cons (pe_op op_cat (pe_lst (pa_cons pe_int (pa_cons pe_int (pa_cons pe_int (pa_cons pe_int pa_nil))))) (pe_slice (sl_list_k K) (pv 0) po_none (po_some pe_int))) pa_nil)) (pg_tup rfl (pgs_cons (pg_name (i := 1) c_law.nd rfl (Or.inl rfl)) (pgs_cons (pg_name (i := 2) c_law.nd rfl (Or.inl rfl)) pgs_nil)))
(pss_cons (ps_set (i := 3) c_law.nd rfl (Or.inl rfl) (pe_c o__law_source hr (pa_cons (pv 2) (pa_cons (pv 1) pa_nil))))
(pss_one (ps_for PassesOwn.never rfl (pi_range1 (by rfl) T.b_range (pa_cons pe_int pa_nil)) (pg_name (i := 4) c_law.nd rfl (Or.inl rfl))
(pss_cons (ps_set (i := 5) c_law.nd rfl (Or.inl rfl) (pe_c o__law_thing hr (pa_cons (pv 3) pa_nil)))
(pss_cons (ps_set (i := 6) c_law.nd rfl (Or.inl rfl) (pe_lst (pa_cons (pe_c o_is_whole hr (pa_cons (pv 5) pa_nil)) (pa_cons (pe_c o_is_fraction hr (pa_cons (pv 5) pa_nil)) (pa_cons (pe_c o_is_name hr (pa_cons (pv 5) pa_nil)) pa_nil)))))
(pss_cons (ps_if (pt_cmpR (op_neD_k K hr.units) (pe_lc (own := [("_law_one", 7)]) (g := gName 7) (by rfl) c_law.nd (pi_list_k K (pv 6)) (blkOk_by (own := [("_law_one", 7)]) (N := n_law) (sc := defScope s_law) (by decide +kernel)) (fun _ _ _ _ _ => (pg_name (i := 7) c_law.nd rfl (Or.inl rfl))) (fun _ _ _ _ _ => (pts_one (pt_not (pt_val (pe_callB (call_isi_k K) (by rfl) T.b_isinstance (by decide +kernel) (pa_cons (pv 7) (pa_cons (pe_bltn (v := .ty "bool") (by rfl) T.b_bool (by decide +kernel) rfl) pa_nil))))))) (fun _ _ _ _ _ => (pv 7))) (pe_lst pa_nil) (nomark _))
(pss_one (ps_ret pe_bl))
pss_nil)
(pss_one (ps_if (pt_cmpR (op_neD_k K hr.units) (pv 6) (pe_lst (pa_cons (pe_c o__law_whole hr (pa_cons (pv 5) pa_nil)) (pa_cons (pe_c o__law_is_fraction hr (pa_cons (pv 5) pa_nil)) (pa_cons (pe_c o__law_named hr (pa_cons (pv 5) pa_nil)) pa_nil)))) (nomark _))
(pss_one (ps_ret pe_bl))
pss_nil)))))))))
(pss_one (ps_ret pe_bl))), ?_⟩
    refine ⟨(by show 4 ≤ sizeLine; decide), fun p1 hp1 => ⟨_, rfl, _, rfl, _, _, rfl, (Same.upd hp1).seq hS, fun p2 hp2 => ?_⟩⟩
    have hp1' := Same.upd (o := HO.lst (cutV (ns.map V.int) none (some 63))) hp2 _ _ (upd_same (H := H) (a := p1) (o := .lst [.int 1, .int 2, .int 3, .int 4]))
    have cl : (cutV (ns.map V.int) none (some 63)).length ≤ 63 := by
      have := cutV_length (ns.map V.int) none (some 63)
      rw [List.length_map] at this
      omega
    refine ⟨_, _, _, _, rfl, rfl, hp1', upd_same, sz_lit ?_, fun p3 hp3 => ?_⟩
    · show 4 + _ ≤ 1000
      omega
    have hints : ∀ v ∈ [V.int 1, V.int 2, V.int 3, V.int 4] ++ cutV (ns.map V.int) none (some 63), v ∈ ([1, 2, 3, 4] ++ ns).map V.int := by
      intro v hv
      rw [List.map_append]
      rcases List.mem_append.mp hv with h | h
      · exact List.mem_append_left _ h
      · exact List.mem_append_right _ (mem_cut h)
    refine ⟨p3, _, rfl, SqL.of upd_same, for_it walk_enum (fun i σ H' => H' p3 = some (.lst ([V.int 1, V.int 2, V.int 3, V.int 4] ++ cutV (ns.map V.int) none (some 63))) ∧ ∃ v1 v2 v3 v4 v5 v6 v7, σ = [some (.ref a), v1, v2, v3, v4, v5, v6, v7])
      ⟨upd_same, _, _, _, _, _, _, _, rfl⟩ (fun i σ H' _ h => SqL.of h.1) ?_ ?_⟩
    · rintro i x σ H' H'' hi ⟨hl, v1, v2, v3, v4, v5, v6, v7, rfl⟩ ⟨T1, x1, x2, rfl, hT1, rfl, e1, e2⟩
      cases e1
      obtain ⟨z, rfl, _⟩ := get_ints hints e2
      refine ⟨T1, _, rfl, SqT.of upd_same, rfl, _, _, rfl, _, _, rfl, rfl, ?_⟩
      have hl1 := Same.upd (o := HO.tup [.int (i : Nat), .int z]) hT1 _ _ hl
      refine ⟨_, rfl, _, rfl, _, _, rfl, fun l H1 hl0 s1 S1 => ?_⟩
      have nl : p3 ≠ l := ne_of_none hl1 hl0
      refine ⟨3, rfl, by decide, by decide, for_range (lo := 0) (n := 3) (fun j σ H' => H' p3 = some (.lst ([V.int 1, V.int 2, V.int 3, V.int 4] ++ cutV (ns.map V.int) none (some 63))) ∧ Src H' l ∧ ∃ w1 w2 v4 v5 v6 v7, σ = [some (.ref a), w1, w2, some (.ref l), v4, v5, v6, v7])
        ⟨s1 _ _ hl1, S1, _, _, _, _, _, _, rfl⟩ ?_ ?_⟩
      · rintro j σ H2 hj ⟨hl2, S2, w1, w2, v4, v5, v6, v7, rfl⟩
        refine ⟨_, rfl, l, rfl, S2, fun v d H3 hd ok B3 S3 => ?_⟩
        have hl3 := B3 _ _ hl2 nl
        have hd := hd.on
        refine ⟨_, rfl, v, d, rfl, hd, _, rfl, v, d, rfl, hd, ok, fun H4 s4 => ⟨_, rfl, v, d, rfl, hd.same s4, ok, fun H5 s5 => ⟨(by show 3 ≤ sizeLine; decide), fun p6 hp6 => ?_⟩⟩⟩
        have hd6 : Dt (upd H5 p6 (.lst [.bl (isInt d), .bl (isFr d), .bl (isNm d)])) v d := ((hd.same s4).same s5).same (Same.upd hp6)
        have S6 := ((S3.same s4).same s5).same (Same.upd (o := .lst [.bl (isInt d), .bl (isFr d), .bl (isNm d)]) hp6)
        have hl6 := Same.upd (o := .lst [.bl (isInt d), .bl (isFr d), .bl (isNm d)]) hp6 _ _ (s5 _ _ (s4 _ _ hl3))
        generalize hH6 : upd H5 p6 (.lst [.bl (isInt d), .bl (isFr d), .bl (isNm d)]) = H6 at hd6 S6 hl6
        have e6 : H6 p6 = some (.lst [.bl (isInt d), .bl (isFr d), .bl (isNm d)]) := by rw [← hH6]; exact upd_same
        refine ⟨_, rfl, p6, rfl, ⟨_, SqL.of e6⟩, fun Dd hD => lc_list (K := K) (a := p6) (xs := [.bl (isInt d), .bl (isFr d), .bl (isNm d)]) (fun i H' => H' = upd H6 Dd (.lst [])) rfl (fun i H' _ e => by rw [e]; exact SqL.of (Same.upd hD _ _ e6)) ?_ ?_⟩
        · rintro i x H' hx rfl
          have hb : ∃ b, x = .bl b := by
            have := List.mem_of_getElem? hx
            simp only [List.mem_cons, List.not_mem_nil, or_false] at this
            rcases this with rfl | rfl | rfl <;> exact ⟨_, rfl⟩
          obtain ⟨b, rfl⟩ := hb
          exact ⟨rfl, _, rfl, _, _, _, _, _, rfl, .ty _, .base (.bl b), kit_ty (r := true) (by decide +kernel), _, rfl, rfl⟩
        · rintro H' rfl
          refine ⟨(by show 0 ≤ sizeLine; decide), fun p7 hp7 => ?_⟩
          have npD : Dd ≠ p7 := fun e => by
            rw [← e, upd_same] at hp7
            cases hp7
          refine ⟨_, _, .lst (SqL.of (by rw [upd_ne npD]; exact upd_same)) .nil, .lst (SqL.of upd_same) .nil, shaped_nil, shaped_nil, _, rfl, ?_⟩
          have s7 : Same H6 (upd (upd H6 Dd (.lst [])) p7 (.lst [])) := (Same.upd hD).trans (Same.upd hp7)
          rw [eqv_nil]
          generalize upd (upd H6 Dd (.lst [])) p7 (.lst []) = H7 at s7
          have hd7 := hd6.same s7
          refine ⟨_, rfl, _, rfl, v, d, rfl, hd7, _, rfl, v, d, rfl, hd7, ok, fun H8 s8 => ⟨_, rfl, v, d, rfl, hd7.same s8, ok, fun H9 s9 => ⟨(by show 3 ≤ sizeLine; decide), fun p10 hp10 => ?_⟩⟩⟩
          have e10 := Same.upd (o := .lst [.bl (isInt d), .bl (isFr d), .bl (isNm d)]) hp10 _ _ (s9 _ _ (s8 _ _ (s7 _ _ e6)))
          refine ⟨_, _, .lst (SqL.of e10) (dp_bls [_, _, _]), .lst (SqL.of upd_same) (dp_bls [_, _, _]), shaped_bl3 _ _ _, shaped_bl3 _ _ _, _, rfl, ?_⟩
          rw [SeqAt.eqv_refl _ (SeqAt.canLay_of_shaped (shaped_bl3 _ _ _))]
          refine iteF ?_
          have s10 : Same H6 (upd H9 p10 (.lst [.bl (isInt d), .bl (isFr d), .bl (isNm d)])) := ((s7.trans s8).trans s9).trans (Same.upd hp10)
          exact ⟨s10 _ _ hl6, S6.same s10, _, _, _, _, _, _, rfl⟩
      · rintro σ H2 ⟨hl2, S2, w1, w2, v4, v5, v6, v7, rfl⟩
        exact ⟨hl2, _, _, _, _, _, _, _, rfl⟩
    · rintro σ H' ⟨_, v1, v2, v3, v4, v5, v6, v7, rfl⟩
      exact k _
end
end Dear

namespace Dear
open PySem PySem.Spec PyProof.Rows L2
theorem walk {l : PySem.W.OpenLaw} {q : Program} {loose : List Str} {XP : (Str → Option Value) → Heap → Prop} {YP : World → Heap → Prop} {d : DefRec} {K : Params → PySem.W.Frag} (hn : l.most = some 63) (hdf : d.params.defaults = [])
    (hY : ∀ (w : World) (h : Heap), YP w h → (K w.params).In h)
    (F : ∀ (w : World) (mg : Str → Option Value) (fa : Addr) (h : Heap), (K w.params).In h → h.Ns mainGlobals mg → mg d.name = some (.ref fa) →
      ∃ fd : FuncData, (∀ (s : Shared) (u : Value), BindsTo s fd ⟨[u], []⟩ [("_law_script", u)]) ∧ ∀ base : Heap, (K w.params).In base → base.Ns mainGlobals mg → FnOk l.prog w (K w.params) mg base CX0 20 fa fd ["_law_script"] (spLaw (K w.params))) :
    PySem.W.WalkO q loose XP YP l.row.toRowW d [] (fun f vs => PySem.call f vs) :=
  L2.walk_of (n := 63) (k := 20) (x := "_law_script") (CX := fun _ => CX0) (sp := fun w => spLaw (K w.params)) hn (by decide) hdf ⟨rfl, by decide, by decide⟩ hY F (fun _ _ a ns hl _ hS => ⟨a, ns, rfl, hS, hl, fun _ => rfl⟩) fun _ _ _ _ _ z => z
theorem fin {l : PySem.W.OpenLaw} {w : World} {K : PySem.W.Frag} {h : Heap} {mg : Str → Option Value} {fa : Addr} (X : K.In h) (G : h.Ns mainGlobals mg) (hfa : mg "law" = some (.ref fa)) (T : Txt K mg) :
    ∃ fd : FuncData, (∀ (s : Shared) (v : Value), BindsTo s fd ⟨[v], []⟩ [("_law_script", v)]) ∧ ∀ base : Heap, K.In base → base.Ns mainGlobals mg → FnOk l.prog w K mg base CX0 20 fa fd ["_law_script"] (spLaw K) := by
  obtain ⟨f, fd, hm, F, hb⟩ := id T.f_law
  have e := hfa.symm.trans hm
  cases e
  refine ⟨fd, fun s v => ?_, fun base _ _ => (ok_law T F).mono (by decide)⟩
  obtain ⟨oc, od, kV, doc, pm, an, cdv, ct, osl, rfl, lk, hcd⟩ := F.ex
  exact .of_eq rfl
end Dear

open PySem PySem.W PyProof.Rows
set_option maxRecDepth 100000 in
set_option maxHeartbeats 0 in
theorem PySem.Challenge.cw_dearsigns_k03_what_is_what_holds : PySem.Challenge.rw_dearsigns_k03_what_is_what.Holds := by
  w_on; o_law; k_head; (case hw => w_witness2)
  k_fill
  refine Dear.walk (l := PySem.Challenge.rw_dearsigns_k03_what_is_what) rfl rfl (fun w h Y => PySem.W.kIn_of Y) ?F
  case F =>
    intro w mg fa h KX G hmg
    refine Dear.fin KX G hmg ?T
    case T =>
      refine' Dear.txt_mk KX G ?a1 ?l1 ?c1 ?k1 ?a2 ?l2 ?c2 ?k2 ?a3 ?l3 ?c3 ?k3 ?a4 ?l4 ?c4 ?k4 ?a5 ?l5 ?c5 ?k5 ?a6 ?l6 ?c6 ?k6 ?a7 ?l7 ?c7 ?k7 ?a8 ?l8 ?c8 ?k8 ?a9 ?l9 ?c9 ?k9 ?a10 ?l10 ?c10 ?k10 ?a11 ?l11 ?c11 ?k11 ?a12 ?l12 ?c12 ?k12 ?a13 ?l13 ?c13 ?k13 ?a14 ?l14 ?c14 ?k14 ?a15 ?l15 ?c15 ?k15 ?a16 ?a17 ?a18 ?a19 ?a20 ?a21 ?a22 ?a23 ?a24 ?a25 ?a26 ?a27 ?a28
      (case a1 => k_is); (case l1 => k_is); (case c1 => k_is); (case k1 => k_is); (case a2 => k_is); (case l2 => k_is); (case c2 => k_is); (case k2 => k_is)
      (case a3 => k_is); (case l3 => k_is); (case c3 => k_is); (case k3 => k_is); (case a4 => k_is); (case l4 => k_is); (case c4 => k_is); (case k4 => k_is)
      (case a5 => k_is); (case l5 => k_is); (case c5 => k_is); (case k5 => k_is); (case a6 => k_is); (case l6 => k_is); (case c6 => k_is); (case k6 => k_is)
      (case a7 => k_is); (case l7 => k_is); (case c7 => k_is); (case k7 => k_is); (case a8 => k_is); (case l8 => k_is); (case c8 => k_is); (case k8 => k_is)
      (case a9 => k_is); (case l9 => k_is); (case c9 => k_is); (case k9 => k_is); (case a10 => k_is); (case l10 => k_is); (case c10 => k_is); (case k10 => k_is)
      (case a11 => k_is); (case l11 => k_is); (case c11 => k_is); (case k11 => k_is); (case a12 => k_is); (case l12 => k_is); (case c12 => k_is); (case k12 => k_is)
      (case a13 => k_is); (case l13 => k_is); (case c13 => k_is); (case k13 => k_is); (case a14 => k_is); (case l14 => k_is); (case c14 => k_is); (case k14 => k_is)
      (case a15 => k_is); (case l15 => k_is); (case c15 => k_is); (case k15 => k_is); (case a16 => k_is); (case a17 => k_is); (case a18 => k_is); (case a19 => k_is)
      (case a20 => k_is); (case a21 => k_is); (case a22 => k_is); (case a23 => k_is); (case a24 => k_is); (case a25 => k_is); (case a26 => k_is); (case a27 => k_is)
      (case a28 => k_is)
#print axioms PySem.Challenge.cw_dearsigns_k03_what_is_what_holds

