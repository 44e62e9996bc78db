import PyProof.Rows.All
import Wide.All
import OpenK.AllK
import Wide.FinOn
import KE.KStateDown
import Lean
import HandS.ForMost
import HandS.Walk
import HandS.IsInst
import HandS.Flow
import HandS.TupAny
import HandS.Replace
import HandS.Zip
import HandS.Codes
import HandS.SetFor
import HandS.Style
import HandS.TupLe
import HandS.WordsExc
import HandS.Defaults
import HandS.Head0
import HandS.Head1
import HandS.Head2
import HandS.HeadEnd
import HandS.HeadHook1
import HandS.HeadHook2
import PySem.Challenge.RW_whatindex_k01_values_known
set_option Elab.async false
set_option linter.all false
set_option maxRecDepth 100000
set_option maxHeartbeats 4000000

namespace Wi
open PySem PySem.Spec PyProof.Rows L2

/-! ### a def of the top by its name -/
structure Cd (P : Program) (w : World) (K : PySem.W.Frag) (mg : Str → Option Value) (base : Heap) (k : Nat) (x : Str) (dvs : List V) (sp : Sp) : Prop where
  ex : ∃ (f : Addr) (fd : FuncData) (ps : List Str) (ds : List Value), FnOk P w K mg base CX0 k f fd ps sp ∧ mg x = some (.ref f) ∧ PySem.W.keepIn K (.ref f) = true ∧ Binds K fd ps ds ∧ Vals dvs ds
section
variable {P : Program} {w : World} {K : PySem.W.Frag} {mg : Str → Option Value} {base : Heap} {x : Str} {k : Nat} {sp : Sp} {dvs : List V}
theorem Cd.of {st : Stmt} {f : Addr} {fd : FuncData} {N ps : List Str} {kws : List (Str × V)} {ds : List Value} {dv0 : List V} (F : FunD K x x (defArgs st) (defBody st) (defScope st) dv0 kws f fd) (hm : mg x = some (.ref f))
    (S : FnScope N ps (defScope st)) (b : Binds K fd ps ds) (hd : Vals dvs ds) (len : ∀ vs H Q E, sp vs H Q E → vs.length = ps.length)
    (hbody : ∀ (cdv : Value) (A : Around) (outer : List Env) (s : Shared) (H : Hp) (vs : List V) (Q : VK) (E : XK), Room k (A.deeper (envOfC x (defScope st) s.heap.objs.size f cdv)) → sp vs H Q E →
      ∃ t, PSs (cxOf CX0 P w K mg base N x (defScope st) f cdv A outer s H E).nox (defBody st) t ∧ t { nx := fun _ H' => Q .non H', rt := Q } (start N vs) H) : Cd P w K mg base (k + 1) x dvs sp :=
  ⟨⟨f, fd, ps, ds, F.ok S len (fun cdv A outer s H vs Q E hr h => let ⟨t, a, b⟩ := hbody cdv A outer s H vs Q E hr h; ⟨t, a.nox, b⟩), hm, F.kp, b, hd⟩⟩
theorem Cd.mono {j : Nat} (c : Cd P w K mg base j x dvs sp) (h : j ≤ k) : Cd P w K mg base k x dvs sp := by
  obtain ⟨f, fd, ps, ds, F, r⟩ := c.ex
  exact ⟨f, fd, ps, ds, F.mono h, r⟩
end
/-- the same, called with n values and keywords ks -/
structure CdK (P : Program) (w : World) (K : PySem.W.Frag) (mg : Str → Option Value) (base : Heap) (k : Nat) (x : Str) (n : Nat) (ks : List Str) (sp : Sp) (gV : List V → List V → List V) : Prop where
  ex : ∃ (f : Addr) (fd : FuncData) (ps : List Str) (g : List Value → List Value → List Value), FnOk P w K mg base CX0 k f fd ps sp ∧ mg x = some (.ref f) ∧ PySem.W.keepIn K (.ref f) = true ∧ KBn K fd ps n ks g gV
/-- two promises of one def: how it is called by places, how by names -/
theorem Cd.kw {P : Program} {w : World} {K : PySem.W.Frag} {mg : Str → Option Value} {base : Heap} {x : Str} {k n : Nat} {sp : Sp} {ks ps : List Str} {g : List Value → List Value → List Value} {gV : List V → List V → List V} {f : Addr} {fd : FuncData}
    (F : FnOk P w K mg base CX0 k f fd ps sp) (hm : mg x = some (.ref f)) (kp : PySem.W.keepIn K (.ref f) = true) (b : KBn K fd ps n ks g gV) : CdK P w K mg base k x n ks sp gV := ⟨⟨f, fd, ps, g, F, hm, kp, b⟩⟩
section
variable {X : Cx} {k : Nat} {x : Str} {dvs : List V} {sp : Sp} {e : Expr} {es : List Expr} {t tk : TA} {p pos : Pos} {n : Nat} {ks : List Str} {gV : List V → List V → List V} {kws : List Keyword}
theorem pe_callKw0 (c : CdK X.prog X.w X.K X.mg X.base k x 0 ks sp gV) (hr : Room k X.A) (hkw : PK X kws tk) (hg : Gl X x := by rfl) (hall : (backToKw pos (keywordEach kws X.env)).all (·.1.isSome) = true := by rfl) (hks : (backToKw pos (keywordEach kws X.env)).filterMap (·.1) = ks := by rfl)
    (hdb : (x == ("__debug__" : Str)) = false := by decide) (hpl : ((backTo pos (starEach [] X.env)).any (·.1) || (backToKw pos (keywordEach kws X.env)).any (·.1.isNone)) = false := by rfl) : PE X (.Call (.Name x p) [] kws pos) (tCallN 0 ks.length sp gV E0 tNil tk) := by
  obtain ⟨f, fd, ps, g, F, hm, kp, hb⟩ := c.ex
  refine ⟨fun pins s σ H Q I h => wpAny_Call_Name_kw (ld_glob I hg hm ?_ hdb)⟩
  refine PySem.W.callWith_KW0 (h₀ := X.base) I.ok.mod.kin kp hall (thn (hkw.run pos pins s σ H _ I h) fun ws s2 ⟨zs, H2, I2, rz, l1, l2, q2⟩ => ⟨I2.kIn, ?_⟩) hpl
  rw [hks]
  exact run_fnN (us := []) (vs := []) F hr hb pass0 I2 .nil rz rfl l2 q2
theorem pe_callKw (c : CdK X.prog X.w X.K X.mg X.base k x n ks sp gV) (hr : Room k X.A) (ha : PA X (e :: es) t) (hkw : PK X kws tk) (hg : Gl X x := by rfl) (hall : (backToKw pos (keywordEach kws X.env)).all (·.1.isSome) = true := by rfl) (hks : (backToKw pos (keywordEach kws X.env)).filterMap (·.1) = ks := by rfl)
    (hdb : (x == ("__debug__" : Str)) = false := by decide) (he : starEach (e :: es) X.env = (false, eval e X.env) :: starEach es X.env := by rfl) (hpl : ((backTo pos (starEach (e :: es) X.env)).any (·.1) || (backToKw pos (keywordEach kws X.env)).any (·.1.isNone)) = false := by rfl) :
    PE X (.Call (.Name x p) (e :: es) kws pos) (tCallN n ks.length sp gV E0 t tk) := by
  obtain ⟨f, fd, ps, g, F, hm, kp, hb⟩ := c.ex
  exact pe_callN F hr hg hm kp hb pass0 ha hkw hall hks hdb he hpl
theorem pe_callC (c : Cd X.prog X.w X.K X.mg X.base k x dvs sp) (hr : Room k X.A) (ha : PA X (e :: es) t) (hg : Gl X x := by rfl) (hdb : (x == ("__debug__" : Str)) = false := by decide)
    (he : starEach (e :: es) X.env = (false, eval e X.env) :: starEach es X.env := by rfl) (hpl : (backTo pos (starEach es X.env)).any (·.1) = false := by rfl) : PE X (.Call (.Name x p) (e :: es) [] pos) (tCall sp dvs E0 t) := by
  obtain ⟨f, fd, ps, ds, F, hm, kp, b, hd⟩ := c.ex
  exact pe_call F hr hg hm kp b hd pass0 ha hdb he hpl
theorem pe_callC0 (c : Cd X.prog X.w X.K X.mg X.base k x dvs sp) (hr : Room k X.A) (hg : Gl X x := by rfl) (hdb : (x == ("__debug__" : Str)) = false := by decide) : PE X (.Call (.Name x p) [] [] pos) (tCall sp dvs E0 tNil) := by
  obtain ⟨f, fd, ps, ds, F, hm, kp, b, hd⟩ := c.ex
  exact pe_call0 F hr hg hm kp b hd pass0 hdb
theorem pe_gI {i : Int} (h : ∃ t, X.mg x = some (.int i t)) (hg : Gl X x := by rfl) (hd : (x == ("__debug__" : Str)) = false := by decide) : PE X (.Name x pos) (tC (.int i)) := by
  obtain ⟨t, e⟩ := h
  exact pe_glob hg e ⟨t, rfl⟩ hd
theorem pe_gS {z : Str} (h : ∃ t, X.mg x = some (.str z t)) (hg : Gl X x := by rfl) (hd : (x == ("__debug__" : Str)) = false := by decide) : PE X (.Name x pos) (tC (.str z)) := by
  obtain ⟨t, e⟩ := h
  exact pe_glob hg e ⟨t, rfl⟩ hd
theorem pe_gR {a : Addr} (h : X.mg x = some (.ref a)) (hg : Gl X x := by rfl) (hd : (x == ("__debug__" : Str)) = false := by decide) : PE X (.Name x pos) (tC (.ref a)) := pe_glob hg h rfl hd
theorem pe_gT {n : String} (hm : X.mg x = none) (hv : bootBuiltins x = some (.type n)) (hg : Gl X x := by rfl) (hn : x ≠ "__name__" := by decide) (hd : (x == ("__debug__" : Str)) = false := by decide) : PE X (.Name x pos) (tC (.ty n)) :=
  pe_bltn hg hm hv rfl hn hd
end

/-! ### rules whose reading names the written part K by itself (within a comprehension X is another one) -/
section
variable {X : Cx} {K : PySem.W.Frag}
theorem k_ix (h : X.K = K) : IxR X (rIx K) := by
  subst h
  exact ix_seq
theorem k_slL (h : X.K = K) : SlR X (rSlL K) := by
  subst h
  exact sl_list
theorem k_slT (h : X.K = K) : SlR X (rSlA K) := by
  subst h
  exact sl_tupA
theorem k_isi (h : X.K = K) : CallR X (.builtin "isinstance") (rIsi K) := by
  subst h
  exact call_isi
theorem k_eqD (h : X.K = K) {k : Nat} (hr : Room k X.A) : OpR X (compareOp .Eq) (rEqD K) := by
  subst h
  exact op_eqD (by have := hr.un; omega)
theorem k_neD (h : X.K = K) {k : Nat} (hr : Room k X.A) : OpR X (compareOp .NotEq) (rNeD K) := by
  subst h
  exact op_neD (by have := hr.un; omega)
theorem k_in (h : X.K = K) : OpR X (compareOp .In) (rIn K false) := by
  subst h
  exact op_in_seq
theorem k_notIn (h : X.K = K) : OpR X (compareOp .NotIn) (rIn K true) := by
  subst h
  exact op_notIn_seq
theorem k_catA (h : X.K = K) : OpR X (binaryOp .Add) (rCatA K) := by
  subst h
  exact op_catA
theorem k_all (h : X.K = K) (hc : X.calm = true) : CallR X (.builtin "all") (rAll K) := by
  subst h
  exact cr_all hc
theorem k_any (h : X.K = K) (hc : X.calm = true) : CallR X (.builtin "any") (rAny K) := by
  subst h
  exact cr_any hc
theorem k_sum (h : X.K = K) (hc : X.calm = true) : CallR X (.builtin "sum") (rSum K) := by
  subst h
  exact cr_sum hc
theorem k_max (h : X.K = K) (hc : X.calm = true) : CallR X (.builtin "max") (rMax K) := by
  subst h
  exact cr_max hc
theorem k_min (h : X.K = K) (hc : X.calm = true) : CallR X (.builtin "min") (rMin K) := by
  subst h
  exact cr_min hc
def rLn (K : PySem.W.Frag) : List V → Hp → VK → Prop := fun xs H Q => ∃ x n, xs = [x] ∧ LenV K x H n ∧ Q (.int n) H
theorem k_len (h : X.K = K) : CallR X (.builtin "len") (rLn K) := by
  subst h
  exact call_len
def rTupOf (K : PySem.W.Frag) : List V → Hp → VK → Prop := fun xs H Q => ∃ p ys, xs = [.ref p] ∧ ((SqL K H p ys ∧ ∀ l, H l = none → Q (.ref l) (upd H l (.tup ys))) ∨ (SqT K H p ys ∧ Q (.ref p) H))
theorem k_tuple (h : X.K = K) : CallR X (.type "tuple") (rTupOf K) := by
  subst h
  exact call_tuple_of
def rListOf (K : PySem.W.Frag) : List V → Hp → VK → Prop := fun xs H Q => ∃ p ys, xs = [.ref p] ∧ (SqL K H p ys ∨ SqT K H p ys) ∧ ∀ l, H l = none → Q (.ref l) (upd H l (.lst ys))
theorem k_list (h : X.K = K) : CallR X (.type "list") (rListOf K) := by
  subst h
  exact call_list_of
theorem k_count (h : X.K = K) : MtR X "list.count" (rCntI K) := by
  subst h
  exact mt_lcount
variable {tg l o e : Expr} {es : List Expr} {tl to te : TE} {t : TA} {pos apos cpos : Pos} {f name : Str}
theorem k_walkL (h : X.K = K) (hl : PE X l tl) : PI X tg l (iList K tl) := by
  subst h
  exact pi_list hl
theorem k_walkT (h : X.K = K) (hl : PE X l tl) : PI X tg l (iTup K tl) := by
  subst h
  exact pi_tup hl
theorem k_fld (h : X.K = K) (he : PE X e te) (hb : attributeBase e f X.env (eval e X.env) = eval e X.env := by rfl) : PE X (.Attribute e f pos) (tFld K te f) := by
  subst h
  exact pe_fld he hb
theorem k_bm {T id : String} {r : V → List V → Hp → VK → Prop} (h : X.K = K) (pa : PlainAttrs T) (slot : Slot T name id) (hty : typeOf (.builtin id) = pure (.type "method_descriptor")) (hm : MtR X id r) (ho : PE X o to) (ha : PA X (e :: es) t)
    (hbase : attributeBase o name X.env (eval o X.env) = eval o X.env := by rfl)
    (hfew : ((backTo cpos (starEach (e :: es) X.env)).all (fun x => !x.1) && (backToKw cpos (keywordEach [] X.env)).all (fun x => x.1.isSome)
      && decide ((e :: es).length + ([] : List Keyword).length + (if ([] : List Keyword).isEmpty then 0 else 1) < 30)) = true := by rfl)
    (hline : (apos.endLine == cpos.line) = true := by rfl) (hs : starEach (e :: es) X.env = (false, eval e X.env) :: starEach es X.env := by rfl) (hplain : (backTo cpos (starEach es X.env)).any (·.1) = false := by rfl) :
    PE X (.Call (.Attribute o name apos) (e :: es) [] cpos) (tBM K T r to t) := by
  subst h
  exact pe_bm pa slot hty hm ho ha hbase hfew hline hs hplain
theorem k_bm0 {T id : String} {r : V → List V → Hp → VK → Prop} (h : X.K = K) (pa : PlainAttrs T) (slot : Slot T name id) (hty : typeOf (.builtin id) = pure (.type "method_descriptor")) (hm : MtR X id r) (ho : PE X o to)
    (hbase : attributeBase o name X.env (eval o X.env) = eval o X.env := by rfl) (hline : (apos.endLine == cpos.line) = true := by rfl) : PE X (.Call (.Attribute o name apos) [] [] cpos) (tBM0 K T r to) := by
  subst h
  exact pe_bm0 pa slot hty hm ho hbase hline
def rJoin (K : PySem.W.Frag) : V → List V → Hp → VK → Prop := fun x xs H Q => ∃ a p, ∃ ys : List Str, x = .str a ∧ xs = [.ref p] ∧ (SqL K H p (ys.map V.str) ∨ SqT K H p (ys.map V.str)) ∧ (ys.map (·.length)).sum + ys.length * a.length ≤ 16777216 ∧ Q (.str (Txt.join a ys)) H
theorem k_join (h : X.K = K) (ho : PE X o to) (he : PE X e te) (hs : starEach [e] X.env = [(false, eval e X.env)] := by rfl) (hbase : attributeBase o "join" X.env (eval o X.env) = eval o X.env := by rfl) (hline : (apos.endLine == pos.line) = true := by rfl) :
    PE X (.Call (.Attribute o "join" apos) [e] [] pos) (tM1 (rJoin K) to te) := by
  subst h
  exact pe_join ho he hs hbase hline
def tTru (K : PySem.W.Frag) (ta : TE) : TT := fun σ H Q => ta σ H fun x H' => ∃ k, TruV K x H' k ∧ Q k H'
theorem k_truth (h : X.K = K) (ha : PE X e te) (he : ∀ whole, isTrue e X.env whole = (do let v ← whole; standAt e.pos; holding [v] (truthy v)) := by intro _; rfl) : PT X e (tTru K te) := by
  subst h
  exact pt_truth ha he
theorem k_tup {k : Nat} {tgs : TGs} {n : Nat} (h : X.K = K) (hc : X.calm = true) (hg : PGs X es tgs) (hn : (assignEach es X.env).length = n := by rfl) (hst : (assignEach es X.env).findIdx? (·.1) = none := by rfl) : PG X (.Tuple es k pos) (gTup K n tgs) := by
  subst h
  exact pg_tup hc hg hn hst
theorem k_enum {p tpos : Pos} {elts : List Expr} {kk : Nat} (h : X.K = K) (hg : Gl X "enumerate") (hm : X.mg "enumerate" = none) (ha : PA X [e] t) (hs : starEach [e] X.env = [(false, eval e X.env)] := by rfl) :
    PI X (.Tuple elts kk tpos) (.Call (.Name "enumerate" p) [e] [] pos) (iEnum K t) := by
  subst h
  exact pi_enum hg hm ha hs
theorem k_zip {e2 : Expr} {p tpos : Pos} {elts : List Expr} {kk : Nat} (h : X.K = K) (hg : Gl X "zip") (hm : X.mg "zip" = none) (ha : PA X [e, e2] t) (hs : starEach [e, e2] X.env = (false, eval e X.env) :: starEach [e2] X.env := by rfl)
    (hpl : (backTo pos (starEach [e2] X.env)).any (·.1) = false := by rfl) : PI X (.Tuple elts kk tpos) (.Call (.Name "zip" p) [e, e2] [] pos) (RZ.iZipA K t) := by
  subst h
  exact RZ.pi_zipA hg hm ha hs hpl
end

/-! ### heaps -/
theorem same_upd {H : Hp} {p : Addr} {o : HO} (h : H p = none) : Same H (upd H p o) := fun b x e => by
  rw [upd_ne (ne_of_none e h)]
  exact e
/-- all but what stands at b is as it was -/
def But (b : Addr) (H H' : Hp) : Prop := ∀ a o, a ≠ b → H a = some o → H' a = some o
theorem same_toBut {b : Addr} {H H' : Hp} (s : Same H H') : But b H H' := fun a o _ e => s a o e
theorem But.refl {b : Addr} (H : Hp) : But b H H := fun _ _ _ e => e
theorem But.trans {b : Addr} {H H1 H2 : Hp} (s : But b H H1) (t : But b H1 H2) : But b H H2 := fun a o n e => t a o n (s a o n e)
theorem but_upd {b : Addr} {H : Hp} {o : HO} : But b H (upd H b o) := fun a _ n e => by
  rw [upd_ne n]
  exact e
theorem But.at {b a : Addr} {o : HO} {H H' : Hp} (s : But b H H') (n : a ≠ b) (e : H a = some o) : H' a = some o := s a o n e
theorem same_sqT {K : PySem.W.Frag} {H H' : Hp} {a : Addr} {xs : List V} (e : Same H H') (h : SqT K H a xs) : SqT K H' a xs := by
  rcases h with (h | ⟨o, h⟩) | h
  · exact .inl (.inl (e _ _ h))
  · exact .inl (.inr ⟨o, e _ _ h⟩)
  · exact .inr h

theorem upd_fresh {H : Hp} {p q : Addr} {o x : HO} (hq : H q = none) (h : H p = some x) : upd H q o p = some x := same_upd hq _ _ h
theorem upd_off {H : Hp} {p q : Addr} {o x : HO} (n : p ≠ q) (h : H p = some x) : upd H q o p = some x := by
  rw [upd_ne n]
  exact h
theorem same_at {H H' : Hp} {p : Addr} {x : HO} (s : Same H H') (h : H p = some x) : H' p = some x := s _ _ h
theorem same_but {b : Addr} {H0 H H' : Hp} (s : Same H0 H) (n : H0 b = none) (t : But b H H') : Same H0 H' := fun a o e => t a o (ne_of_none e n) (s a o e)
theorem same_updOff {b : Addr} {o : HO} {H0 H : Hp} (s : Same H0 H) (n : H0 b = none) : Same H0 (upd H b o) := same_but s n but_upd
theorem ne_kind {H : Hp} {a b : Addr} {o u : HO} (h : H a = some o) (h' : H b = some u) (d : o ≠ u) : a ≠ b := ne_of h h' d

theorem at_mem {α : Type} {xs : List α} {i : Int} (h0 : 0 ≤ i) (h1 : i < (xs.length : Int)) : ∃ v, atI xs i = some v ∧ v ∈ xs := by
  have h2 : i.toNat < xs.length := by omega
  have key : ∀ j : Nat, j < xs.length → ∃ v, atI xs (j : Int) = some v ∧ v ∈ xs := fun j hj => ⟨xs[j], atI_nat (List.getElem?_eq_getElem hj), List.getElem_mem hj⟩
  have := key i.toNat h2
  rw [show ((i.toNat : Nat) : Int) = i by omega] at this
  exact this
theorem ix_char {K : PySem.W.Frag} {z : Str} {i : Int} {H : Hp} {Q : VK} (l : z.length ≤ 1000) (h0 : 0 ≤ i) (h1 : i < (z.length : Int)) (q : ∀ c, c ∈ z.cps.toList → Q (.str ⟨#[c]⟩) H) : rIx K (.str z) (.int i) H Q := by
  obtain ⟨c, e, hm⟩ := at_mem (xs := z.cps.toList) h0 (by rw [Array.length_toList]; exact h1)
  exact .inr (.inr ⟨z, i, c, rfl, rfl, Nat.le_of_lt (small1000 l), e, q c hm⟩)

/-! ### steps of readings -/
section
variable {σ : L2.St} {H : Hp} {Q : VK} {ta tb tc : TE} {r : R2} {v x y : V} {D : Ends} {K : PySem.W.Frag}
theorem w_c (h : Q v H) : tC v σ H Q := h
theorem w_op (h : ta σ H fun x H1 => tb σ H1 fun y H2 => r x y H2 Q) : tOp r ta tb σ H Q := h
theorem w_un {r : V → Hp → VK → Prop} (h : ta σ H fun x H1 => r x H1 Q) : tUn r ta σ H Q := h
theorem w_rU {g : Int → V} {i : Int} (h : Q (g i) H) : rU g (.int i) H Q := ⟨i, rfl, h⟩
theorem w_rI0 {g : Int → Int → V} {i j : Int} (h : Q (g i j) H) : rI0 g (.int i) (.int j) H Q := ⟨i, j, rfl, rfl, h⟩
theorem w_rI {C : Int → Int → Prop} {g : Int → Int → V} {i j : Int} (c : C i j) (h : Q (g i j) H) : rI C g (.int i) (.int j) H Q := ⟨i, j, rfl, rfl, c, h⟩
/-- what a test makes of a value -/
def bQ (R : Bool → Hp → Prop) : VK := fun x H => ∃ k, x = .bl k ∧ R k H
theorem w_bQ {R : Bool → Hp → Prop} {b : Bool} (h : R b H) : bQ R (.bl b) H := ⟨b, rfl, h⟩
theorem w_test {R : Bool → Hp → Prop} (h : ta σ H (bQ R)) : tTest ta σ H R := h
theorem w_tB {R : Bool → Hp → Prop} (h : ta σ H (bQ R)) : tB ta σ H R := h
theorem w_not {t : TT} {R : Bool → Hp → Prop} (h : t σ H fun c H1 => R (!c) H1) : tNot t σ H R := h
theorem w_and {t u : TT} {R : Bool → Hp → Prop} (h : t σ H fun c H1 => if c = true then u σ H1 R else R false H1) : tAnd t u σ H R := h
theorem w_or {t u : TT} {R : Bool → Hp → Prop} (h : t σ H fun c H1 => if c = true then R true H1 else u σ H1 R) : tOr t u σ H R := h
def bV (Q : Bool → Hp → Prop) : VK := fun x H => ∃ c, x = .bl c ∧ Q c H
theorem w_bV {R : Bool → Hp → Prop} {b : Bool} (h : R b H) : bV R (.bl b) H := ⟨b, rfl, h⟩
theorem w_andV (h : ta σ H (bV fun c H1 => if c = true then tb σ H1 Q else Q (.bl false) H1)) : tAndV ta tb σ H Q := h
theorem w_orV (h : ta σ H (bV fun c H1 => if c = true then Q (.bl true) H1 else tb σ H1 Q)) : tOrV ta tb σ H Q := h
theorem w_notV (h : ta σ H (bV fun c H1 => Q (.bl (!c)) H1)) : tNotV ta σ H Q := h
theorem w_ifE {t : TT} (h : t σ H fun c H1 => if c = true then ta σ H1 Q else tb σ H1 Q) : tIf t ta tb σ H Q := h
def bC (R : Bool → Hp → Prop) : VK := fun z H3 => ∃ k, z = .bl k ∧ R k H3
theorem w_bC {R : Bool → Hp → Prop} {b : Bool} (h : R b H) : bC R (.bl b) H := ⟨b, rfl, h⟩
theorem w_chain {r' : R2} (h : ta σ H fun x H1 => tb σ H1 fun y H2 => r x y H2 (bC fun k H3 => if k = true then tc σ H3 fun w' H4 => r' y w' H4 Q else Q (.bl false) H3)) : tChain r r' ta tb tc σ H Q := h
theorem w_if {b : Bool} {A B : Prop} (h1 : b = true → A) (h2 : b = false → B) : if b = true then A else B := by
  cases b with
  | true => exact iteT (h1 rfl)
  | false => exact iteF (h2 rfl)
theorem w_ifd {c : Prop} [Decidable c] {A B : Prop} (h1 : c → A) (h2 : ¬ c → B) : if decide c = true then A else B := w_if (fun e => h1 (of_decide_eq_true e)) (fun e => h2 (of_decide_eq_false e))
theorem w_ifnd {c : Prop} [Decidable c] {A B : Prop} (h1 : ¬ c → A) (h2 : c → B) : if (!decide c) = true then A else B := by
  by_cases e : c
  · rw [decide_eq_true e]
    exact iteF (h2 e)
  · rw [decide_eq_false e]
    exact iteT (h1 e)
-- arguments
theorem w_nil {R : List V → Hp → Prop} (h : R [] H) : tNil σ H R := h
theorem w_cons {t : TA} {R : List V → Hp → Prop} (h : ta σ H fun x H1 => t σ H1 fun xs H2 => R (x :: xs) H2) : tCons ta t σ H R := h
-- new tuples, lists
def kTup (Q : VK) : List V → Hp → Prop := fun xs H1 => xs.length ≤ sizeLine ∧ ∀ p, H1 p = none → Q (.ref p) (upd H1 p (.tup xs))
def kLst (Q : VK) : List V → Hp → Prop := fun xs H1 => xs.length ≤ sizeLine ∧ ∀ p, H1 p = none → Q (.ref p) (upd H1 p (.lst xs))
theorem w_tup {t : TA} (h : t σ H (kTup Q)) : tTup t σ H Q := h
theorem w_lst {t : TA} (h : t σ H (kLst Q)) : tLst t σ H Q := h
theorem w_kTup {xs : List V} (l : xs.length ≤ 1000) (h : ∀ p, H p = none → Q (.ref p) (upd H p (.tup xs))) : kTup Q xs H := ⟨Nat.le_of_lt (small1000 l), h⟩
theorem w_kLst {xs : List V} (l : xs.length ≤ 1000) (h : ∀ p, H p = none → Q (.ref p) (upd H p (.lst xs))) : kLst Q xs H := ⟨Nat.le_of_lt (small1000 l), h⟩
-- calls
theorem w_call {sp : Sp} {dvs : List V} {E : XK} {t : TA} (h : t σ H fun vs H1 => sp (vs ++ dvs) H1 Q E) : tCall sp dvs E t σ H Q := h
theorem w_cb {rr : List V → Hp → VK → Prop} {t : TA} (h : t σ H fun vs H1 => rr vs H1 Q) : tCB rr t σ H Q := h
-- statements
variable {nx bk ct : L2.St → Hp → Prop} {rt : VK}
theorem w_start {t : TS} {N : List Str} {vs : List V} {σ' : L2.St} (e : L2.start N vs = σ') (h : t D σ' H) : t D (L2.start N vs) H := by
  rw [e]
  exact h
theorem w_next (h : nx σ H) : tNext ⟨nx, rt, bk, ct⟩ σ H := h
theorem w_seq {t u : TS} (h : t ⟨u ⟨nx, rt, bk, ct⟩, rt, bk, ct⟩ σ H) : tSeq t u ⟨nx, rt, bk, ct⟩ σ H := h
theorem w_drop (h : ta σ H fun _ H1 => nx σ H1) : tDrop ta ⟨nx, rt, bk, ct⟩ σ H := h
theorem w_ret (h : ta σ H rt) : tRet ta ⟨nx, rt, bk, ct⟩ σ H := h
theorem w_retN (h : rt .non H) : tRetN ⟨nx, rt, bk, ct⟩ σ H := h
theorem w_ifS {c : TT} {t u : TS} (h : c σ H fun b H1 => if b = true then t ⟨nx, rt, bk, ct⟩ σ H1 else u ⟨nx, rt, bk, ct⟩ σ H1) : tIfS c t u ⟨nx, rt, bk, ct⟩ σ H := h
theorem w_asg {g : TG} (h : ta σ H fun x H1 => g x σ H1 nx) : tAsg ta g ⟨nx, rt, bk, ct⟩ σ H := h
theorem w_brk (h : bk σ H) : tBreak ⟨nx, rt, bk, ct⟩ σ H := h
theorem w_cont (h : ct σ H) : tCont ⟨nx, rt, bk, ct⟩ σ H := h
theorem w_aug {i : Nat} {ti : TIp} {x : V} (e : σ[i]? = some (some x)) (h : ta σ H fun y H1 => ti x y H1 fun z H2 => nx (σ.set i (some z)) H2) : tAug i ta ti ⟨nx, rt, bk, ct⟩ σ H := ⟨x, e, h⟩
-- targets
theorem w_gTup {a : Addr} {xs : List V} {n : Nat} {t : TGs} {R : L2.St → Hp → Prop} (h : SqT K H a xs) (l : xs.length = n) (q : t xs σ H R) : gTup K n t (.ref a) σ H R := ⟨a, xs, rfl, h, l, q⟩
theorem w_gNil {R : L2.St → Hp → Prop} (h : R σ H) : gNil [] σ H R := ⟨rfl, h⟩
theorem w_gCons {t : TG} {u : TGs} {v : V} {vs : List V} {R : L2.St → Hp → Prop} (h : t v σ H fun σ' H' => u vs σ' H' R) : gCons t u (v :: vs) σ H R := ⟨v, vs, rfl, h⟩
theorem w_gSub {to ti : TE} {t : TSet} {R : L2.St → Hp → Prop} (h : to σ H fun o H1 => ti σ H1 fun i H2 => t o i v H2 fun H3 => R σ H3) : gSub to ti t v σ H R := h
theorem w_setL {p : Addr} {xs : List V} {k : Int} {j : Nat} {R : Hp → Prop} (e : H p = some (.lst xs)) (hj : ixN xs.length k = some j) (h : R (upd H p (.lst (xs.set j v)))) : rSetL (.ref p) (.int k) v H R := ⟨p, xs, k, j, rfl, rfl, e, hj, h⟩
-- items
theorem w_ixL {p : Addr} {xs : List V} {i : Int} (h : SqL K H p xs) (e : atI xs i = some v) (q : Q v H) : rIx K (.ref p) (.int i) H Q := .inl ⟨p, xs, i, v, rfl, rfl, h, e, q⟩
theorem w_ixT {p : Addr} {xs : List V} {i : Int} (h : SqT K H p xs) (e : atI xs i = some v) (q : Q v H) : rIx K (.ref p) (.int i) H Q := .inr (.inl ⟨p, xs, i, v, rfl, rfl, h, e, q⟩)
theorem w_ixS {z : Str} {i : Int} {c : Nat} (l : z.length ≤ sizeLine) (e : atI z.cps.toList i = some c) (q : Q (.str ⟨#[c]⟩) H) : rIx K (.str z) (.int i) H Q := .inr (.inr ⟨z, i, c, rfl, rfl, l, e, q⟩)
-- walks
def kFor (g : TG) (tb : TS) (nx : L2.St → Hp → Prop) (rt : VK) (σ : L2.St) : It → Hp → Prop := fun J H1 => ∃ W : Nat → Nat → L2.St → Hp → Prop, (∃ m, W 0 m σ H1) ∧ ∀ i m σ H, W i m σ H →
    (J.stop i H ∧ nx σ H) ∨ (J.go i H ∧ ∃ N : L2.St → Hp → Prop, (∀ σ' H', N σ' H' → ∃ m', m' < m ∧ W (i + 1) m' σ' H') ∧ ∀ x H', J.yld i H x H' → g x σ H' fun σ2 H2 => tb ⟨N, rt, nx, N⟩ σ2 H2)
theorem w_for {wi : TI} {g : TG} {tb : TS} (h : wi σ H (kFor g tb nx rt σ)) : tFor wi g tb ⟨nx, rt, bk, ct⟩ σ H := h
theorem w_walk {J : It} {n : Nat} {G : Hp → Prop} {Y : Nat → Hp → V → Hp → Prop} (w : Walk J n G Y) {g : TG} {tb : TS} (Pv : Nat → L2.St → Hp → Prop) (h0 : Pv 0 σ H) (hG : ∀ i σ H, i ≤ n → Pv i σ H → G H)
    (hs : ∀ i x σ H H', i < n → Pv i σ H → Y i H x H' → g x σ H' fun σ2 H2 => tb ⟨Pv (i + 1), rt, nx, Pv (i + 1)⟩ σ2 H2) (hd : ∀ σ H, Pv n σ H → nx σ H) : kFor g tb nx rt σ J H :=
  for_it w (D := ⟨nx, rt, fun _ _ => False, fun _ _ => False⟩) Pv h0 hG hs hd
def kRng1 (R : It → Hp → Prop) : List V → Hp → Prop := fun vs H1 => ∃ j : Int, vs = [.int j] ∧ -(2 ^ 62) ≤ j ∧ j < 2 ^ 62 ∧ R (Itr 0 j.toNat) H1
theorem w_rng1 {t : TA} {R : It → Hp → Prop} (h : t σ H (kRng1 R)) : iRng1 t σ H R := h
theorem w_kRng1 {j : Int} {R : It → Hp → Prop} (h1 : -(2 ^ 62) ≤ j) (h2 : j < 2 ^ 62) (h : R (Itr 0 j.toNat) H) : kRng1 R [.int j] H := ⟨j, rfl, h1, h2, h⟩
def kList (K : PySem.W.Frag) (R : It → Hp → Prop) : VK := fun x H1 => ∃ a, x = .ref a ∧ (∃ xs, SqL K H1 a xs) ∧ R (Itl K a) H1
theorem w_iList {R : It → Hp → Prop} (h : ta σ H (kList K R)) : iList K ta σ H R := h
theorem w_kList {a : Addr} {xs : List V} {R : It → Hp → Prop} (h : SqL K H a xs) (q : R (Itl K a) H) : kList K R (.ref a) H := ⟨a, rfl, ⟨xs, h⟩, q⟩
def kTupI (K : PySem.W.Frag) (R : It → Hp → Prop) : VK := fun x H1 => ∃ a, x = .ref a ∧ (∃ xs, SqT K H1 a xs) ∧ R (Itt K a) H1
theorem w_iTup {R : It → Hp → Prop} (h : ta σ H (kTupI K R)) : iTup K ta σ H R := h
theorem w_kTupI {a : Addr} {xs : List V} {R : It → Hp → Prop} (h : SqT K H a xs) (q : R (Itt K a) H) : kTupI K R (.ref a) H := ⟨a, rfl, ⟨xs, h⟩, q⟩
def kStr (R : It → Hp → Prop) : VK := fun v H1 => ∃ x, v = .str x ∧ R (Its x) H1
theorem w_iStr {R : It → Hp → Prop} (h : ta σ H (kStr R)) : iStr ta σ H R := h
theorem w_kStr {z : Str} {R : It → Hp → Prop} (q : R (Its z) H) : kStr R (.str z) H := ⟨z, rfl, q⟩
-- comprehensions
def kLc (g : TG) (tt : TT) (te : TE) (vs : List Nat) (σ : L2.St) (Q : VK) : It → Hp → Prop := fun J H1 => ∀ D, H1 D = none → ∃ W : Nat → Nat → Hp → Prop, (∃ m, W 0 m (upd H1 D (.lst []))) ∧ ∀ i m H, W i m H →
  (J.stop i H ∧ Q (.ref D) H) ∨ (J.go i H ∧ ∃ Nx : Hp → Prop, (∀ H', Nx H' → ∃ m', m' < m ∧ W (i + 1) m' H') ∧ ∀ x H', J.yld i H x H' → g x (wipe σ vs) H' fun σ2 H2 => wipe σ2 vs = wipe σ vs ∧ tt σ2 H2 fun b H3 =>
    if b = true then te σ2 H3 fun y H4 => ∃ acc, H4 D = some (.lst acc) ∧ acc.length < sizeLine ∧ Nx (upd H4 D (.lst (acc ++ [y]))) else Nx H3)
theorem w_lc {wi : TI} {g : TG} {tt : TT} {te : TE} {vs : List Nat} (h : wi σ H (kLc g tt te vs σ Q)) : tLc wi g tt te vs σ H Q := h
/-- what stands behind a comprehension's element -/
def kEl (D : Addr) (Nx : Hp → Prop) : VK := fun y H4 => ∃ acc, H4 D = some (.lst acc) ∧ acc.length < sizeLine ∧ Nx (upd H4 D (.lst (acc ++ [y])))
theorem w_kEl {D : Addr} {Nx : Hp → Prop} {y : V} {acc : List V} (e : H D = some (.lst acc)) (l : acc.length < 1000) (h : Nx (upd H D (.lst (acc ++ [y])))) : kEl D Nx y H := ⟨acc, e, small1000 (Nat.le_of_lt l), h⟩
/-- a comprehension without tests over a walk: D the new list, Pv by the turn and the heap -/
theorem w_lcwalk {J : It} {n : Nat} {G : Hp → Prop} {Y : Nat → Hp → V → Hp → Prop} (w : Walk J n G Y) {g : TG} {tt : TT} {te : TE} {vs : List Nat} (σ' : L2.St) (hw : wipe σ vs = σ') (h : ∀ D, H D = none → ∃ Pv : Nat → Hp → Prop, Pv 0 (upd H D (.lst [])) ∧ (∀ i H, i ≤ n → Pv i H → G H) ∧
    (∀ i x H H', i < n → Pv i H → Y i H x H' → g x σ' H' fun σ2 H2 => wipe σ2 vs = σ' ∧ tt σ2 H2 fun b H3 => if b = true then te σ2 H3 (kEl D (Pv (i + 1))) else Pv (i + 1) H3) ∧ (∀ H, Pv n H → Q (.ref D) H)) : kLc g tt te vs σ Q J H := by
  intro D hD
  obtain ⟨Pv, h0, hG, hs, hd⟩ := h D hD
  subst hw
  exact lc_it w Pv h0 hG hs hd
theorem w_tYes {R : Bool → Hp → Prop} (h : R true H) : tYes σ H R := h
theorem w_true {A B : Prop} (h : A) : if true = true then A else B := iteT h
theorem w_false {A B : Prop} (h : B) : if false = true then A else B := iteF h
-- isinstance with a built-in type
theorem w_isi {x : V} {n : String} {t : Value} {b : Bool} (ty : TyX K H x t) (e : PySem.W.kitOne K t (.type n) = some b) (q : Q (.bl b) H) : rIsi K [x, .ty n] H Q := ⟨x, .ty n, t, .type n, b, rfl, .ty n, ty, e, q⟩
-- a way joined behind an if
theorem w_cut {t u : TS} (Mid : L2.St → Hp → Prop) (h1 : t ⟨Mid, rt, bk, ct⟩ σ H) (h2 : ∀ σ' H', Mid σ' H' → u ⟨nx, rt, bk, ct⟩ σ' H') : C8.tCut t u ⟨nx, rt, bk, ct⟩ σ H := ⟨Mid, h1, h2⟩
-- built-in functions
theorem w_lnL {p : Addr} {xs : List V} (h : SqL K H p xs) (q : Q (.int xs.length) H) : rLn K [.ref p] H Q := ⟨.ref p, xs.length, rfl, .inl ⟨xs, h, rfl⟩, q⟩
theorem w_lnT {p : Addr} {xs : List V} (h : SqT K H p xs) (q : Q (.int xs.length) H) : rLn K [.ref p] H Q := ⟨.ref p, xs.length, rfl, .inr ⟨xs, h, rfl⟩, q⟩
theorem w_lnS {z : Str} (h : z.length ≤ sizeLine) (q : Q (.int z.length) H) : rLn K [.str z] H Q := ⟨.str z, z.length, rfl, ⟨h, rfl⟩, q⟩
def rAb : List V → Hp → VK → Prop := fun xs H Q => ∃ i, xs = [.int i] ∧ Q (.int (if i < 0 then -i else i)) H
theorem call_ab {X : Cx} : CallR X (.builtin "abs") rAb := call_abs
theorem w_ab {i : Int} (q : Q (.int (if i < 0 then -i else i)) H) : rAb [.int i] H Q := ⟨i, rfl, q⟩
def rMx2 : List V → Hp → VK → Prop := fun xs H Q => ∃ i j, xs = [.int i, .int j] ∧ Q (.int (if j > i then j else i)) H
theorem call_mx2 {X : Cx} (hc : X.calm = true) : CallR X (.builtin "max") rMx2 := call_max2 hc
theorem w_mx2 {i j : Int} (q : Q (.int (if j > i then j else i)) H) : rMx2 [.int i, .int j] H Q := ⟨i, j, rfl, q⟩
def rMn2 : List V → Hp → VK → Prop := fun xs H Q => ∃ i j, xs = [.int i, .int j] ∧ Q (.int (if j < i then j else i)) H
theorem call_mn2 {X : Cx} (hc : X.calm = true) : CallR X (.builtin "min") rMn2 := call_min2 hc
theorem w_mn2 {i j : Int} (q : Q (.int (if j < i then j else i)) H) : rMn2 [.int i, .int j] H Q := ⟨i, j, rfl, q⟩
theorem w_tupOfL {p : Addr} {ys : List V} (h : SqL K H p ys) (q : ∀ l, H l = none → Q (.ref l) (upd H l (.tup ys))) : rTupOf K [.ref p] H Q := ⟨p, ys, rfl, .inl ⟨h, q⟩⟩
theorem w_tupOfT {p : Addr} {ys : List V} (h : SqT K H p ys) (q : Q (.ref p) H) : rTupOf K [.ref p] H Q := ⟨p, ys, rfl, .inr ⟨h, q⟩⟩
theorem w_listOfL {p : Addr} {ys : List V} (h : SqL K H p ys) (q : ∀ l, H l = none → Q (.ref l) (upd H l (.lst ys))) : rListOf K [.ref p] H Q := ⟨p, ys, rfl, .inl h, q⟩
theorem w_listOfT {p : Addr} {ys : List V} (h : SqT K H p ys) (q : ∀ l, H l = none → Q (.ref l) (upd H l (.lst ys))) : rListOf K [.ref p] H Q := ⟨p, ys, rfl, .inr h, q⟩
-- operators on texts
def rAddStr : R2 := fun x y H Q => ∃ i j, x = .str i ∧ y = .str j ∧ i.length + j.length ≤ sizeLine ∧ Q (.str (i ++ j)) H
theorem op_addStr {X : Cx} : OpR X (binaryOp .Add) rAddStr := op_add_str
theorem w_addStr {i j : Str} (l : i.length + j.length ≤ 1000) (q : Q (.str (i ++ j)) H) : rAddStr (.str i) (.str j) H Q := ⟨i, j, rfl, rfl, Nat.le_of_lt (small1000 l), q⟩
def rInSign : R2 := fun x y H Q => ∃ (c : Nat) (z : Str), x = .str ⟨#[c]⟩ ∧ y = .str z ∧ Q (.bl (decide (c ∈ z.cps.toList))) H
theorem op_inSign {X : Cx} : OpR X (compareOp .In) rInSign := op_in_sign
theorem w_inSign {c : Nat} {z : Str} (q : Q (.bl (decide (c ∈ z.cps.toList))) H) : rInSign (.str ⟨#[c]⟩) (.str z) H Q := ⟨c, z, rfl, rfl, q⟩
-- methods of texts
theorem w_bm {T : String} {rr : V → List V → Hp → VK → Prop} {to : TE} {t : TA} (h : to σ H fun x H1 => tyV K T x H1 ∧ t σ H1 fun xs H2 => rr x xs H2 Q) : tBM K T rr to t σ H Q := h
theorem w_m1 {rr : V → List V → Hp → VK → Prop} {to te : TE} (h : to σ H fun x H1 => (∃ a, x = .str a) ∧ te σ H1 fun y H2 => rr x [y] H2 Q) : tM1 rr to te σ H Q := h
theorem w_m0 {rr : V → List V → Hp → VK → Prop} {to : TE} (h : to σ H fun x H1 => (∃ a, x = .str a) ∧ rr x [] H1 Q) : tM0 rr to σ H Q := h
theorem w_isS {z : Str} {A : Prop} (h : A) : (∃ a, V.str z = .str a) ∧ A := ⟨⟨z, rfl⟩, h⟩
def rSIx : V → List V → Hp → VK → Prop := fun x xs H Q => ∃ a b i rest, x = .str a ∧ xs = [.str b] ∧ Builtin.Str.occurrences a b 0 a.length 1 = i :: rest ∧ Q (.int (i : Nat)) H
theorem mt_sIx {X : Cx} : MtR X "str.index" rSIx := mt_sindex
theorem w_joinL {a : Str} {p : Addr} {ys : List Str} (h : SqL K H p (ys.map V.str)) (l : (ys.map (·.length)).sum + ys.length * a.length ≤ 1000) (q : Q (.str (Txt.join a ys)) H) : rJoin K (.str a) [.ref p] H Q := ⟨a, p, ys, rfl, rfl, .inl h, Nat.le_trans l (by decide), q⟩
theorem w_tTru {ta : TE} {R : Bool → Hp → Prop} (h : ta σ H fun x H' => ∃ k, TruV K x H' k ∧ R k H') : tTru K ta σ H R := h
-- equal scalars
theorem w_eq {x y : V} (s : scal x y = true) (q : Q (.bl (decide (x = y))) H) : rEq x y H Q := ⟨s, q⟩
theorem w_ne {x y : V} (s : scal x y = true) (q : Q (.bl (!decide (x = y))) H) : rNe x y H Q := ⟨s, q⟩
end
/-! ### forgetting what was made in between -/
/-- no dict with tuple keys is tracked -/
def NoT (H : Hp) : Prop := ∀ a kvs, H a ≠ some (.dT kvs)
def flatU : HO → Prop
  | .lst _ | .tup _ | .dK _ | .set _ _ | .rng _ _ | .tbl _ | .met _ _ | .own _ | .xd _ | .ext _ => True
  | _ => False
/-- H'' is a part of H', which holds what of H can't change and is whole by itself -/
structure Forg (H H' H'' : Hp) : Prop where
  sub : ∀ a o, H'' a = some o → H' a = some o
  tups : ∀ b xs, H b = some (.tup xs) → H'' b = some (.tup xs)
  frzs : ∀ b o u, H b = some (.frz o u) → H'' b = some (.frz o u)
  tbls : ∀ b ps, H b = some (.tbl ps) → H'' b = H' b
  ins : ∀ a C dx fs, H'' a = some (.ins C dx fs) → H'' dx = H' dx
  fro : ∀ a o u, H'' a = some (.frz o u) → flatU u
  noT : NoT H''
section
variable {P : Program} {w : World} {H H' H'' : Hp} {h : Heap}
theorem ObjOk.flat {a : Addr} {o : HO} (f : flatU o) (x : ObjOk P w H h a o) : ObjOk P w H'' h a o := by
  cases o with
  | lst xs => exact x
  | tup xs => exact x
  | dK kvs => exact x
  | dT kvs => exact f.elim
  | set S n => exact x
  | ins C dx fs => exact f.elim
  | own y => exact x
  | xd fs => exact x
  | rng lo hi => exact x
  | frz o u => exact f.elim
  | tbl ps => exact x
  | met f y => exact x
  | ext φ => exact x
theorem Forg.hok (f : Forg H H' H'') (x : HOk P w H' h) : HOk P w H'' h := fun a o e => by
  have y := x a o (f.sub a o e)
  cases o with
  | dT kvs => exact absurd e (f.noT a kvs)
  | ins C dx fs =>
    obtain ⟨d, r⟩ := y
    exact ⟨(f.ins a C dx fs e).trans d, r⟩
  | frz o u =>
    obtain ⟨g, z⟩ := y
    exact ⟨g, ObjOk.flat (f.fro a o u e) z⟩
  | lst xs => exact y
  | tup xs => exact y
  | dK kvs => exact y
  | set S n => exact y
  | own y' => exact y
  | xd fs => exact y
  | rng lo hi => exact y
  | tbl ps => exact y
  | met f y' => exact y
  | ext φ => exact y
theorem forg_none {a : Addr} (f : Forg H H' H'') (e : H' a = none) : H'' a = none := by
  cases q : H'' a with
  | none => rfl
  | some o =>
    rw [f.sub a o q] at e
    cases e
theorem Forg.un {fs ex : List Addr} {G : Hp} {g : Heap} (f : Forg H H' H'') (u1 : Un fs ex G H g h) (u : Un fs ex G H' g h) : Un fs ex G H'' g h := by
  refine ⟨u.keep, u.slot, fun b o q n hx => forg_none f (u.free b o q n hx), u.there, fun b xs q => f.tups b xs (u1.tups b xs q), fun b o v q => f.frzs b o v (u1.frzs b o v q), fun b ps q => ?_⟩
  obtain ⟨m1, e1⟩ := u1.tbls b ps q
  rw [f.tbls b _ e1]
  exact u.tbls b ps q
end
section
variable {X : Cx} {pins : List (Addr × Obj)} {σ σ' : L2.St} {H H' H'' : Hp} {s s' : Shared}
theorem inv_forg (I : Inv X pins σ H s) (I' : Inv X pins σ' H' s') (f : Forg H H' H'') : Inv X pins σ' H'' s' := by
  refine ⟨I'.ok, I'.os, I'.bare, ?_, I'.loc, I'.cell, forg_none f I'.free, fun x c e => forg_none f (I'.freeC x c e), fun p hp => ?_, f.hok I'.hok, I'.len⟩
  · have u := I'.base
    refine ⟨u.keep, u.slot, fun b o q n hx => forg_none f (u.free b o q n hx), u.there, fun b xs q => f.tups b xs (I.base.tups b xs q), fun b o v q => f.frzs b o v (I.base.frzs b o v q), fun b ps q => ?_⟩
    obtain ⟨m1, e1⟩ := I.base.tbls b ps q
    rw [f.tbls b _ e1]
    exact u.tbls b ps q
  · obtain ⟨a, b, c⟩ := I'.pin p hp
    exact ⟨a, forg_none f b, c⟩
/-- an expression, a statement, a block: of what it leaves a part is kept -/
def tForgE (te : TE) : TE := fun σ H Q => te σ H fun v H' => ∃ H'', Forg H H' H'' ∧ Q v H''
def fEnds (H : Hp) (D : Ends) : Ends := ⟨fun σ' H' => ∃ H'', Forg H H' H'' ∧ D.nx σ' H'', fun v H' => ∃ H'', Forg H H' H'' ∧ D.rt v H'', fun σ' H' => ∃ H'', Forg H H' H'' ∧ D.bk σ' H'', fun σ' H' => ∃ H'', Forg H H' H'' ∧ D.ct σ' H''⟩
def tForgS (t : TS) : TS := fun D σ H => t (fEnds H D) σ H
theorem pe_forg {e : Expr} {te : TE} (h : PE X e te) : PE X e (tForgE te) := by
  refine ⟨fun pins s σ H Q I hw => ?_⟩
  refine thn (h.run pins s σ H _ I hw) fun v s1 ⟨x, H1, I1, r1, H2, f, q⟩ => ?_
  exact ⟨x, H2, inv_forg I I1 f, r1, q⟩
theorem pss_forg {sts : List Stmt} {t : TS} (h : PSs X sts t) : PSs X sts (tForgS t) := by
  refine ⟨fun pins s σ H D I hw => ?_⟩
  refine thn (h.run pins s σ H (fEnds H D) I hw) fun f s1 q => ?_
  cases f with
  | next =>
    obtain ⟨σ1, H1, I1, H2, f, q⟩ := q
    exact ⟨σ1, H2, inv_forg I I1 f, q⟩
  | brk =>
    obtain ⟨σ1, H1, I1, H2, f, q⟩ := q
    exact ⟨σ1, H2, inv_forg I I1 f, q⟩
  | cont =>
    obtain ⟨σ1, H1, I1, H2, f, q⟩ := q
    exact ⟨σ1, H2, inv_forg I I1 f, q⟩
  | ret u =>
    obtain ⟨v, σ1, H1, I1, r, H2, f, q⟩ := q
    exact ⟨v, σ1, H2, inv_forg I I1 f, r, q⟩
theorem ps_forg {st : Stmt} {t : TS} (h : PS X st t) : PS X st (tForgS t) := by
  refine ⟨fun pins s σ H D I hw => ?_⟩
  refine thn (h.run pins s σ H (fEnds H D) I hw) fun f s1 q => ?_
  cases f with
  | next =>
    obtain ⟨σ1, H1, I1, H2, f, q⟩ := q
    exact ⟨σ1, H2, inv_forg I I1 f, q⟩
  | brk =>
    obtain ⟨σ1, H1, I1, H2, f, q⟩ := q
    exact ⟨σ1, H2, inv_forg I I1 f, q⟩
  | cont =>
    obtain ⟨σ1, H1, I1, H2, f, q⟩ := q
    exact ⟨σ1, H2, inv_forg I I1 f, q⟩
  | ret u =>
    obtain ⟨v, σ1, H1, I1, r, H2, f, q⟩ := q
    exact ⟨v, σ1, H2, inv_forg I I1 f, r, q⟩
end
/-! what is usual: all of H is still there, or all but what stands at b -/
theorem NoT.put {H : Hp} {p : Addr} {o : HO} (n : NoT H) (h : ∀ kvs, o ≠ .dT kvs) : NoT (upd H p o) := fun a kvs e => by
  by_cases q : a = p
  · subst q
    rw [upd_same] at e
    exact h kvs (Option.some.inj e)
  · rw [upd_ne q] at e
    exact n a kvs e
/-- what a heap is like that is held -/
structure Whole (H : Hp) : Prop where
  ins : ∀ a C dx fs, H a = some (.ins C dx fs) → H dx = some (.own a)
  fro : ∀ a o u, H a = some (.frz o u) → flatU u
  noT : NoT H
theorem Forg.same {H H' : Hp} (W : Whole H) (s : Same H H') : Forg H H' H :=
  ⟨s, fun _ _ e => e, fun _ _ _ e => e, fun b ps e => e.trans (s b _ e).symm, fun a C dx fs e => by rw [W.ins a C dx fs e, s _ _ (W.ins a C dx fs e)], W.fro, W.noT⟩
/-! the heap's normal form: what was there inside, what is new outside -/
theorem h_old {H : Hp} {p a : Addr} {o : HO} (hp : H p = none) (ha : (H a).isSome = true) : upd H p o a = H a := by
  rw [upd_ne]
  intro e
  rw [e, hp] at ha
  cases ha
theorem h_comm {H : Hp} {p b : Addr} {o o' : HO} (hp : H p = none) (hb : (H b).isSome = true) : upd (upd H p o) b o' = upd (upd H b o') p o := by
  have n : b ≠ p := by
    intro e
    rw [e, hp] at hb
    cases hb
  funext a
  unfold upd
  by_cases h1 : a = b
  · rw [if_pos h1, if_neg (by rw [h1]; exact n), if_pos h1]
  · rw [if_neg h1]
    by_cases h2 : a = p
    · rw [if_pos h2, if_pos h2]
    · rw [if_neg h2, if_neg h2, if_neg h1]
theorem h_none {H : Hp} {p b : Addr} {o' : HO} (hp : H p = none) (hb : (H b).isSome = true) : upd H b o' p = none := by
  rw [upd_ne]
  · exact hp
  · intro e
    rw [← e, hp] at hb
    cases hb
theorem h_ne {H : Hp} {a b : Addr} {o : HO} (n : ¬ a = b) : upd H b o a = H a := upd_ne n
theorem h_isNone {H : Hp} {b p : Addr} {o : HO} : (upd H b o p = none) = (¬ p = b ∧ H p = none) := by
  refine propext ⟨fun h => ?_, fun h => by rw [upd_ne h.1]; exact h.2⟩
  by_cases e : p = b
  · rw [e, upd_same] at h
    cases h
  · rw [upd_ne e] at h
    exact ⟨e, h⟩
theorem But.new {b p : Addr} {H H1 : Hp} {o : HO} (s : But b H H1) (hp : H1 p = none) : But b H (upd H1 p o) := fun a x n e => upd_fresh hp (s a x n e)
theorem But.mut {b : Addr} {H H1 : Hp} {o : HO} (s : But b H H1) : But b H (upd H1 b o) := fun a x n e => upd_off n (s a x n e)
theorem same_new {p : Addr} {H H1 : Hp} {o : HO} (s : Same H H1) (hp : H1 p = none) : Same H (upd H1 p o) := s.trans (same_upd hp)
theorem Forg.but {b : Addr} {H H' : Hp} {o o' : HO} (W : Whole H) (hb : H b = some o) (m : Mut (some o)) (ni : ∀ C dx fs, o ≠ .ins C dx fs) (f' : flatU o') (e : H' b = some o') (s : But b H H') : Forg H H' (upd H b o') := by
  have nin : ∀ C dx fs, o' ≠ .ins C dx fs := fun C dx fs e => by rw [e] at f'; exact f'.elim
  refine ⟨fun a u q => ?_, fun c xs q => ?_, fun c x u q => ?_, fun c ps q => ?_, fun a C dx fs q => ?_, fun a x u q => ?_, W.noT.put (fun kvs e => by rw [e] at f'; exact f'.elim)⟩
  · by_cases h : a = b
    · rw [h] at q ⊢
      rw [upd_same] at q
      rw [e]
      exact q
    · rw [upd_ne h] at q
      exact s a u h q
  · refine upd_off (fun h => ?_) q
    rw [h, hb] at q
    cases q
    exact m
  · refine upd_off (fun h => ?_) q
    rw [h, hb] at q
    cases q
    exact m
  · have n : c ≠ b := fun h => by
      rw [h, hb] at q
      cases q
      exact m
    rw [upd_ne n, s c _ n q]
    exact q
  · have n : a ≠ b := fun h => by
      rw [h, upd_same] at q
      exact nin _ _ _ (Option.some.inj q)
    rw [upd_ne n] at q
    have d := W.ins a C dx fs q
    have n2 : dx ≠ b := fun h => by
      rw [h, hb] at d
      cases d
      exact m
    rw [upd_ne n2, d, s dx _ n2 d]
  · have n : a ≠ b := fun h => by
      rw [h, upd_same] at q
      rw [Option.some.inj q] at f'
      exact f'.elim
    rw [upd_ne n] at q
    exact W.fro a x u q
theorem Whole.new {p : Addr} {H : Hp} {o : HO} (W : Whole H) (hp : H p = none) (f : flatU o) : Whole (upd H p o) := by
  refine ⟨fun a C dx fs q => ?_, fun a x u q => ?_, W.noT.put (fun kvs e => by rw [e] at f; exact f.elim)⟩
  · have n : a ≠ p := fun h => by
      rw [h, upd_same] at q
      rw [Option.some.inj q] at f
      exact f.elim
    rw [upd_ne n] at q
    exact upd_fresh hp (W.ins a C dx fs q)
  · have n : a ≠ p := fun h => by
      rw [h, upd_same] at q
      rw [Option.some.inj q] at f
      exact f.elim
    rw [upd_ne n] at q
    exact W.fro a x u q
theorem Whole.mut {b : Addr} {H : Hp} {o o' : HO} (W : Whole H) (hb : H b = some o) (m : Mut (some o)) (f : flatU o') : Whole (upd H b o') := by
  refine ⟨fun a C dx fs q => ?_, fun a x u q => ?_, W.noT.put (fun kvs e => by rw [e] at f; exact f.elim)⟩
  · have n : a ≠ b := fun h => by
      rw [h, upd_same] at q
      rw [Option.some.inj q] at f
      exact f.elim
    rw [upd_ne n] at q
    have d := W.ins a C dx fs q
    refine upd_off (fun h => ?_) d
    rw [h, hb] at d
    cases d
    exact m
  · have n : a ≠ b := fun h => by
      rw [h, upd_same] at q
      rw [Option.some.inj q] at f
      exact f.elim
    rw [upd_ne n] at q
    exact W.fro a x u q
/-- one new object is kept -/
theorem Forg.one {p : Addr} {H H' : Hp} {o : HO} (W : Whole H) (hn : H p = none) (e : H' p = some o) (f : flatU o) (s : Same H H') : Forg H H' (upd H p o) := by
  have W2 := W.new hn f
  refine ⟨fun a u q => ?_, fun c xs q => upd_fresh hn q, fun c x u q => upd_fresh hn q, fun c ps q => ?_, fun a C dx fs q => ?_, W2.fro, W2.noT⟩
  · by_cases h : a = p
    · rw [h] at q ⊢
      rw [upd_same] at q
      rw [e]
      exact q
    · rw [upd_ne h] at q
      exact s a u q
  · rw [upd_fresh hn q, s c _ q]
  · have n : a ≠ p := fun h => by
      rw [h, upd_same] at q
      rw [Option.some.inj q] at f
      exact f.elim
    rw [upd_ne n] at q
    have d := W.ins a C dx fs q
    rw [upd_fresh hn d, s dx _ d]
def mutO : Option HO → Bool
  | some (.lst _) => true
  | some (.dK _) => true
  | some (.set _ _) => true
  | _ => false
theorem whole_mut {b : Addr} {H : Hp} {o' : HO} (W : Whole H) (m : mutO (H b) = true) (f : flatU o') : Whole (upd H b o') := by
  unfold mutO at m
  split at m
  · rename_i h
    exact W.mut h trivial f
  · rename_i h
    exact W.mut h trivial f
  · rename_i h
    exact W.mut h trivial f
  · cases m
theorem whole_new {p : Addr} {H : Hp} {o : HO} (W : Whole H) (hp : H p = none) (f : flatU o) : Whole (upd H p o) := W.new hp f
theorem whole_new' {p : Addr} {H : Hp} {o : HO} (hp : H p = none) (f : flatU o) (W : Whole H) : Whole (upd H p o) := W.new hp f
theorem whole_mut' {b : Addr} {H : Hp} {o' : HO} (m : mutO (H b) = true) (f : flatU o') (W : Whole H) : Whole (upd H b o') := whole_mut W m f
theorem same_new' {p : Addr} {H H1 : Hp} {o : HO} (hp : H1 p = none) (s : Same H H1) : Same H (upd H1 p o) := same_new s hp
theorem e_forgS {t : TS} {H : Hp} {σ : L2.St} {nx bk ct : L2.St → Hp → Prop} {rt : VK} : tForgS t ⟨nx, rt, bk, ct⟩ σ H = t ⟨fun σ' H' => ∃ H'', Forg H H' H'' ∧ nx σ' H'', fun v H' => ∃ H'', Forg H H' H'' ∧ rt v H'', fun σ' H' => ∃ H'', Forg H H' H'' ∧ bk σ' H'', fun σ' H' => ∃ H'', Forg H H' H'' ∧ ct σ' H''⟩ σ H := rfl
theorem e_forgE {te : TE} {H : Hp} {σ : L2.St} {Q : VK} : tForgE te σ H Q = te σ H fun v H' => ∃ H'', Forg H H' H'' ∧ Q v H'' := rfl
theorem fEnds_eq {H : Hp} {nx bk ct : L2.St → Hp → Prop} {rt : VK} : fEnds H ⟨nx, rt, bk, ct⟩ = ⟨fun σ' H' => ∃ H'', Forg H H' H'' ∧ nx σ' H'', fun v H' => ∃ H'', Forg H H' H'' ∧ rt v H'', fun σ' H' => ∃ H'', Forg H H' H'' ∧ bk σ' H'', fun σ' H' => ∃ H'', Forg H H' H'' ∧ ct σ' H''⟩ := rfl
section
variable {P : Program} {w : World} {K : PySem.W.Frag} {mg : Str → Option Value} {base : Heap} {x qual : Str} {k : Nat} {sp : Sp} {dvs : List V}
theorem FnO.of {st : Stmt} {f : Addr} {fd : FuncData} {N ps : List Str} {kws : List (Str × V)} {dv0 : List V} (F : FunD K x qual (defArgs st) (defBody st) (defScope st) dv0 kws f fd)
    (S : FnScope N ps (defScope st)) (len : ∀ vs H Q E, sp vs H Q E → vs.length = ps.length)
    (hbody : ∀ (cdv : Value) (A : Around) (outer : List Env) (s : Shared) (H : Hp) (vs : List V) (Q : VK) (E : XK), Room k (A.deeper (envOfC qual (defScope st) s.heap.objs.size f cdv)) → sp vs H Q E →
      ∃ t, PSs (cxOf CX0 P w K mg base N qual (defScope st) f cdv A outer s H E).nox (defBody st) t ∧ t { nx := fun _ H' => Q .non H', rt := Q } (start N vs) H) : FnOk P w K mg base CX0 (k + 1) f fd ps sp :=
  F.ok S len (fun cdv A outer s H vs Q E hr h => let ⟨t, a, b⟩ := hbody cdv A outer s H vs Q E hr h; ⟨t, a.nox, b⟩)
/-- a def that leaves no more than is told -/
theorem FnO.ofF {st : Stmt} {f : Addr} {fd : FuncData} {N ps : List Str} {kws : List (Str × V)} {dv0 : List V} (F : FunD K x qual (defArgs st) (defBody st) (defScope st) dv0 kws f fd)
    (S : FnScope N ps (defScope st)) (len : ∀ vs H Q E, sp vs H Q E → vs.length = ps.length)
    (hbody : ∀ (cdv : Value) (A : Around) (outer : List Env) (s : Shared) (H : Hp) (vs : List V) (Q : VK) (E : XK), Room k (A.deeper (envOfC qual (defScope st) s.heap.objs.size f cdv)) → sp vs H Q E →
      ∃ t, PSs (cxOf CX0 P w K mg base N qual (defScope st) f cdv A outer s H E).nox (defBody st) t ∧ t ⟨fun _ H' => ∃ H'', Forg H H' H'' ∧ Q .non H'', fun v H' => ∃ H'', Forg H H' H'' ∧ Q v H'', fun _ _ => False, fun _ _ => False⟩ (start N vs) H) : FnOk P w K mg base CX0 (k + 1) f fd ps sp :=
  FnO.of F S len fun cdv A outer s H vs Q E hr h => by
    obtain ⟨t, a, c⟩ := hbody cdv A outer s H vs Q E hr h
    refine ⟨fun D σ H0 => t ⟨fun σ' H' => ∃ H'', Forg H H' H'' ∧ D.nx σ' H'', fun v H' => ∃ H'', Forg H H' H'' ∧ D.rt v H'', fun _ _ => False, fun _ _ => False⟩ σ H ∧ σ = σ ∧ H0 = H, ⟨fun pins s1 σ H0 D I hw => ?_⟩, c, rfl, rfl⟩
    obtain ⟨q, _, rfl⟩ := hw
    refine thn (a.run pins s1 σ _ _ I q) fun fl s2 q => ?_
    cases fl with
    | next =>
      obtain ⟨σ1, H1, I1, H2, f, q⟩ := q
      exact ⟨σ1, H2, inv_forg I I1 f, q⟩
    | brk =>
      obtain ⟨σ1, H1, I1, q⟩ := q
      exact q.elim
    | cont =>
      obtain ⟨σ1, H1, I1, q⟩ := q
      exact q.elim
    | ret u =>
      obtain ⟨v, σ1, H1, I1, r, H2, f, q⟩ := q
      exact ⟨v, σ1, H2, inv_forg I I1 f, r, q⟩
/-- .. by its name -/
theorem Cd.by {f : Addr} {fd : FuncData} {ps : List Str} {ds : List Value} {st : Stmt} {kws : List (Str × V)} {dv0 : List V} (G : FnOk P w K mg base CX0 k f fd ps sp) (F : FunD K x qual (defArgs st) (defBody st) (defScope st) dv0 kws f fd) (hm : mg x = some (.ref f)) (b : Binds K fd ps ds) (hd : Vals dvs ds) :
    Cd P w K mg base k x dvs sp := ⟨⟨f, fd, ps, ds, G, hm, F.kp, b, hd⟩⟩
/-- all parameters by places, by names -/
theorem kb_all {f : Addr} {fd : FuncData} {ps ks : List Str} {n : Nat} {params : Arguments} {body : List Stmt} {scope : Scope} (g : {α : Type} → List α → List α → List α) (F : FunD K x x params body scope [] [] f fd)
    (hrel : ∀ {vs zs : List V} {us ws : List Value}, Vals vs us → Vals zs ws → Vals (g vs zs) (g us ws))
    (h : ∀ (kV doc pm : Value) (an : Option Addr) (cdv ct : Value) (us ws : List Value), us.length = n → ws.length = ks.length → bindArgs (PySem.W.fnOf x x params body scope .none kV doc pm an cdv ct) ⟨us, ks.zip ws⟩ = pure (ps.zip (g us ws))) :
    KBn K fd ps n ks (fun us ws => g us ws) (fun vs zs => g vs zs) := by
  obtain ⟨oc, od, dV, kV, doc, pm, an, cdv, ct, osl, rfl, lk, hcd, hD, hK⟩ := F.ex
  rcases hD with ⟨_, rfl⟩ | ⟨e, _⟩
  · exact ⟨fun s us ws X l1 l2 => .of_eq (h kV doc pm an cdv ct us ws l1 l2), fun r1 r2 => hrel r1 r2⟩
  · exact absurd rfl e
end
/-! ### readings that compute: by the values' forms and by what the heap holds -/
theorem OpR.imp {X : Cx} {f : Value → Value → Sem Value} {r r' : R2} (h : OpR X f r) (i : ∀ x y H Q, r' x y H Q → r x y H Q) : OpR X f r' := fun pins s σ H x y v u Q I rx ry q => h pins s σ H x y v u Q I rx ry (i x y H Q q)
theorem IxR.imp {X : Cx} {r r' : R2} (h : IxR X r) (i : ∀ x y H Q, r' x y H Q → r x y H Q) : IxR X r' := fun a b pins s σ H x y v u Q I rx ry q => h a b pins s σ H x y v u Q I rx ry (i x y H Q q)
theorem SlR.imp {X : Cx} {r r' : V → Option Int → Option Int → Hp → VK → Prop} (h : SlR X r) (i : ∀ x a b H Q, r' x a b H Q → r x a b H Q) : SlR X r' := fun pins s σ H x v vl vu lo hi sl Q I rx hs pl pu q => h pins s σ H x v vl vu lo hi sl Q I rx hs pl pu (i x lo hi H Q q)
theorem CallR.imp {X : Cx} {f : Value} {r r' : List V → Hp → VK → Prop} (h : CallR X f r) (i : ∀ xs H Q, r' xs H Q → r xs H Q) : CallR X f r' := fun pins s σ H xs us Q I rs q => h pins s σ H xs us Q I rs (i xs H Q q)
theorem MtR.imp {X : Cx} {id : String} {r r' : V → List V → Hp → VK → Prop} (h : MtR X id r) (i : ∀ x xs H Q, r' x xs H Q → r x xs H Q) : MtR X id r' := fun pins s σ H x xs v us Q I rx rs q => h pins s σ H x xs v us Q I rx rs (i x xs H Q q)
def onSeq (o : Option HO) (A B : List V → Prop) : Prop := match o with
  | some (.lst xs) => A xs
  | some (.tup xs) => B xs
  | _ => False
def onLst (o : Option HO) (A : List V → Prop) : Prop := match o with
  | some (.lst xs) => A xs
  | _ => False
theorem onSeq_cases {o : Option HO} {A B : List V → Prop} (q : onSeq o A B) : (∃ xs, o = some (.lst xs) ∧ A xs) ∨ ∃ xs, o = some (.tup xs) ∧ B xs := by
  unfold onSeq at q
  split at q
  · exact .inl ⟨_, rfl, q⟩
  · exact .inr ⟨_, rfl, q⟩
  · exact q.elim
theorem onLst_cases {o : Option HO} {A : List V → Prop} (q : onLst o A) : ∃ xs, o = some (.lst xs) ∧ A xs := by
  unfold onLst at q
  split at q
  · exact ⟨_, rfl, q⟩
  · exact q.elim
def onIts (o : Option HO) (A : List V → Prop) : Prop := match o with
  | some (.lst xs) => A xs
  | some (.tup xs) => A xs
  | _ => False
theorem onIts_cases {o : Option HO} {A : List V → Prop} (q : onIts o A) : (∃ xs, o = some (.lst xs) ∧ A xs) ∨ ∃ xs, o = some (.tup xs) ∧ A xs := by
  unfold onIts at q
  split at q
  · exact .inl ⟨_, rfl, q⟩
  · exact .inr ⟨_, rfl, q⟩
  · exact q.elim
def onTup (o : Option HO) (A : List V → Prop) : Prop := match o with
  | some (.tup xs) => A xs
  | _ => False
theorem onTup_cases {o : Option HO} {A : List V → Prop} (q : onTup o A) : ∃ xs, o = some (.tup xs) ∧ A xs := by
  unfold onTup at q
  split at q
  · exact ⟨_, rfl, q⟩
  · exact q.elim
abbrev big : Nat := 1000000
theorem big_le {n : Nat} (h : n ≤ big) : n ≤ sizeLine := Nat.le_trans h (by decide)
/-- a tuple of xs comes: a new one, or one that is there -/
def newT (H : Hp) (xs : List V) (Q : VK) : Prop := ∀ l H', H' l = some (.tup xs) → (∀ a, (H a).isSome = true → H' a = H a) → (∀ b, mutO (H b) = true → ¬ l = b) → Same H H' → (Whole H → Whole H') → Q (.ref l) H'
theorem newT_old {H : Hp} {xs : List V} {Q : VK} {l : Addr} (q : newT H xs Q) (h : H l = some (.tup xs)) : Q (.ref l) H :=
  q l H h (fun _ _ => rfl) (fun b m e => by rw [← e, h] at m; cases m) (Same.refl H) fun W => W
theorem newT_new {H : Hp} {xs : List V} {Q : VK} {l : Addr} (q : newT H xs Q) (h : H l = none) : Q (.ref l) (upd H l (.tup xs)) :=
  q l _ upd_same (fun a e => h_old h e) (fun b m e => by rw [← e, h] at m; cases m) (same_upd h) fun W => W.new h trivial
-- +
def rAddF : R2 := fun x y H Q => match x, y with
  | .int i, .int j => Q (.int (i + j)) H
  | .str a, .str b => a.length + b.length ≤ big ∧ Q (.str (a ++ b)) H
  | .ref p, .ref q => onSeq (H p)
      (fun xs => onLst (H q) fun ys => xs.length + ys.length ≤ big ∧ ∀ l, H l = none → Q (.ref l) (upd H l (.lst (xs ++ ys))))
      (fun xs => onTup (H q) fun ys => xs.length + ys.length ≤ big ∧ newT H (xs ++ ys) Q)
  | _, _ => False
theorem f_add {X : Cx} : OpR X (binaryOp .Add) rAddF := by
  intro pins s σ H x y v u Q I rx ry q
  unfold rAddF at q
  split at q
  · exact op_add pins s σ H _ _ v u Q I rx ry ⟨_, _, rfl, rfl, q⟩
  · exact op_add_str pins s σ H _ _ v u Q I rx ry ⟨_, _, rfl, rfl, big_le q.1, q.2⟩
  · rcases onSeq_cases q with ⟨xs, h1, q⟩ | ⟨xs, h1, q⟩
    · obtain ⟨ys, h2, q⟩ := onLst_cases q
      exact op_cat pins s σ H _ _ v u Q I rx ry ⟨_, _, _, _, rfl, rfl, h1, h2, big_le q.1, q.2⟩
    · obtain ⟨ys, h2, q⟩ := onTup_cases q
      refine op_catA pins s σ H _ _ v u Q I rx ry ⟨_, _, _, _, rfl, rfl, SqT.of h1, SqT.of h2, big_le q.1, fun e => newT_old q.2 ?_, fun _ e => newT_old q.2 ?_, fun _ _ l hl => newT_new q.2 hl⟩
      · rw [e]
        exact h2
      · rw [e, List.append_nil]
        exact h1
  · exact q.elim
-- a[i]
def rIxF : R2 := fun x y H Q => match x, y with
  | .str z, .int i => z.length ≤ big ∧ ∃ c, atI z.cps.toList i = some c ∧ Q (.str ⟨#[c]⟩) H
  | .ref p, .int i => onIts (H p) fun xs => ∃ v, atI xs i = some v ∧ Q v H
  | _, _ => False
theorem f_ix {X : Cx} : IxR X rIxF := IxR.imp (ix_seq (X := X)) fun x y H Q q => by
  unfold rIxF at q
  split at q
  · obtain ⟨l, c, e, q⟩ := q
    exact .inr (.inr ⟨_, _, c, rfl, rfl, big_le l, e, q⟩)
  · rcases onIts_cases q with ⟨xs, h, v, e, q⟩ | ⟨xs, h, v, e, q⟩
    · exact .inl ⟨_, _, _, v, rfl, rfl, SqL.of h, e, q⟩
    · exact .inr (.inl ⟨_, _, _, v, rfl, rfl, SqT.of h, e, q⟩)
  · exact q.elim
-- a[i:j]
def rSlF : V → Option Int → Option Int → Hp → VK → Prop := fun x lo hi H Q => match x with
  | .str z => z.length ≤ big ∧ Q (.str (cutS z lo hi)) H
  | .ref p => onSeq (H p) (fun xs => ∀ l, H l = none → Q (.ref l) (upd H l (.lst (cutV xs lo hi)))) fun xs => newT H (cutV xs lo hi) Q
  | _ => False
theorem cut_whole {xs : List V} {lo hi : Option Int} (h : HT.sIx xs.length 0 lo = 0 ∧ HT.sIx xs.length xs.length hi = xs.length) : cutV xs lo hi = xs := by
  unfold cutV
  rw [h.1, h.2]
  simp
theorem f_sl {X : Cx} : SlR X rSlF := by
  have hs := (sl_list (X := X)).or ((sl_tupA (X := X)).or (sl_str (X := X)))
  refine SlR.imp hs fun x lo hi H Q q => ?_
  unfold rSlF at q
  split at q
  · exact .inr (.inr ⟨_, rfl, big_le q.1, q.2⟩)
  · rcases onSeq_cases q with ⟨xs, h, q⟩ | ⟨xs, h, q⟩
    · exact .inl ⟨_, _, rfl, SqL.of h, q⟩
    · exact .inr (.inl ⟨_, _, rfl, SqT.of h, fun e => newT_old q (by rw [cut_whole e]; exact h), fun _ _ hl => newT_new q hl⟩)
  · exact q.elim
-- in, not in
def rInF (neg : Bool) : R2 := fun x y H Q => match y with
  | .str z => (match x with
    | .str t => ∃ c, t = ⟨#[c]⟩ ∧ Q (.bl (if neg then !decide (c ∈ z.cps.toList) else decide (c ∈ z.cps.toList))) H
    | _ => False)
  | .ref p => flatV x = true ∧ onIts (H p) fun xs => xs.all flatV = true ∧ Q (.bl (if neg then !inV x xs else inV x xs)) H
  | _ => False
theorem f_in {X : Cx} : OpR X (compareOp .In) (rInF false) := by
  intro pins s σ H x y v u Q I rx ry q
  unfold rInF at q
  split at q
  · split at q
    · obtain ⟨c, e, q⟩ := q
      subst e
      exact op_in_sign pins s σ H _ _ v u Q I rx ry ⟨_, _, rfl, rfl, q⟩
    · exact q.elim
  · obtain ⟨f, q⟩ := q
    rcases onIts_cases q with ⟨xs, h, q⟩ | ⟨xs, h, q⟩
    · exact op_in_seq pins s σ H _ _ v u Q I rx ry ⟨_, _, rfl, .inl (SqL.of h), f, q.1, q.2⟩
    · exact op_in_seq pins s σ H _ _ v u Q I rx ry ⟨_, _, rfl, .inr (SqT.of h), f, q.1, q.2⟩
  · exact q.elim
theorem f_notIn {X : Cx} : OpR X (compareOp .NotIn) (rInF true) := by
  intro pins s σ H x y v u Q I rx ry q
  unfold rInF at q
  split at q
  · split at q
    · obtain ⟨c, e, q⟩ := q
      subst e
      exact op_notIn_sign pins s σ H _ _ v u Q I rx ry ⟨_, _, rfl, rfl, q⟩
    · exact q.elim
  · obtain ⟨f, q⟩ := q
    rcases onIts_cases q with ⟨xs, h, q⟩ | ⟨xs, h, q⟩
    · exact op_notIn_seq pins s σ H _ _ v u Q I rx ry ⟨_, _, rfl, .inl (SqL.of h), f, q.1, q.2⟩
    · exact op_notIn_seq pins s σ H _ _ v u Q I rx ry ⟨_, _, rfl, .inr (SqT.of h), f, q.1, q.2⟩
  · exact q.elim
-- len
def rLnF : List V → Hp → VK → Prop := fun vs H Q => match vs with
  | [.str z] => z.length ≤ big ∧ Q (.int z.length) H
  | [.ref p] => onIts (H p) fun xs => Q (.int xs.length) H
  | _ => False
theorem f_len {X : Cx} : CallR X (.builtin "len") rLnF := CallR.imp (call_len (X := X)) fun vs H Q q => by
  unfold rLnF at q
  split at q
  · exact ⟨_, _, rfl, ⟨big_le q.1, rfl⟩, q.2⟩
  · rcases onIts_cases q with ⟨xs, h, q⟩ | ⟨xs, h, q⟩
    · exact ⟨_, _, rfl, .inl ⟨_, SqL.of h, rfl⟩, q⟩
    · exact ⟨_, _, rfl, .inr ⟨_, SqT.of h, rfl⟩, q⟩
  · exact q.elim
-- tuple(..), list(..)
def rTupF : List V → Hp → VK → Prop := fun vs H Q => match vs with
  | [.ref p] => onSeq (H p) (fun xs => ∀ l, H l = none → Q (.ref l) (upd H l (.tup xs))) fun _ => Q (.ref p) H
  | _ => False
theorem f_tuple {X : Cx} : CallR X (.type "tuple") rTupF := CallR.imp (call_tuple_of (X := X)) fun vs H Q q => by
  unfold rTupF at q
  split at q
  · rcases onSeq_cases q with ⟨xs, h, q⟩ | ⟨xs, h, q⟩
    · exact ⟨_, _, rfl, .inl ⟨SqL.of h, q⟩⟩
    · exact ⟨_, _, rfl, .inr ⟨SqT.of h, q⟩⟩
  · exact q.elim
def rListF : List V → Hp → VK → Prop := fun vs H Q => match vs with
  | [.ref p] => onIts (H p) fun xs => ∀ l, H l = none → Q (.ref l) (upd H l (.lst xs))
  | _ => False
theorem f_list {X : Cx} : CallR X (.type "list") rListF := CallR.imp (call_list_of (X := X)) fun vs H Q q => by
  unfold rListF at q
  split at q
  · rcases onIts_cases q with ⟨xs, h, q⟩ | ⟨xs, h, q⟩
    · exact ⟨_, _, rfl, .inl (SqL.of h), q⟩
    · exact ⟨_, _, rfl, .inr (SqT.of h), q⟩
  · exact q.elim
-- isinstance with one built-in class
def tyO : Option HO → Option String
  | some (.lst _) => some "list"
  | some (.tup _) => some "tuple"
  | some (.dK _) => some "dict"
  | _ => none
def tyF (H : Hp) : V → Option String
  | .non => some "NoneType"
  | .bl _ => some "bool"
  | .int _ => some "int"
  | .str _ => some "str"
  | .ref p => tyO (H p)
  | _ => none
def isB (t n : String) : Bool := t == n || (t == "bool" && n == "int")
def knownT (t : String) : Bool := t == "NoneType" || t == "bool" || t == "int" || t == "str" || t == "list" || t == "tuple" || t == "dict"
def knownC (n : String) : Bool := n == "bool" || n == "int" || n == "str" || n == "list" || n == "tuple" || n == "dict"
def rIsF : List V → Hp → VK → Prop := fun vs H Q => match vs with
  | [x, .ty n] => knownC n = true ∧ ∃ t, tyF H x = some t ∧ Q (.bl (isB t n)) H
  | _ => False
theorem kit_known {K : PySem.W.Frag} {t n : String} (ht : knownT t = true) (hn : knownC n = true) : PySem.W.kitOne K (.type t) (.type n) = some (isB t n) := by
  simp only [knownT, knownC, Bool.or_eq_true, beq_iff_eq] at ht hn
  rcases ht with (((((rfl | rfl) | rfl) | rfl) | rfl) | rfl) | rfl <;> rcases hn with ((((rfl | rfl) | rfl) | rfl) | rfl) | rfl <;> exact kit_ty (by decide +kernel)
theorem tyF_ok {K : PySem.W.Frag} {H : Hp} {x : V} {t : String} (h : tyF H x = some t) : TyX K H x (.type t) ∧ knownT t = true := by
  unfold tyF at h
  split at h
  · cases h; exact ⟨.base .non, by decide⟩
  · cases h; exact ⟨.base (.bl _), by decide⟩
  · cases h; exact ⟨.base (.int _), by decide⟩
  · cases h; exact ⟨.base (.str _), by decide⟩
  · unfold tyO at h
    split at h
    · rename_i e; cases h; exact ⟨.base (.lst e), by decide⟩
    · rename_i e; cases h; exact ⟨.base (.tup e), by decide⟩
    · rename_i e; cases h; exact ⟨.base (.dK e), by decide⟩
    · cases h
  · cases h
theorem f_isi {X : Cx} : CallR X (.builtin "isinstance") rIsF := CallR.imp (call_isi (X := X)) fun vs H Q q => by
  unfold rIsF at q
  split at q
  · obtain ⟨kn, t, e, q⟩ := q
    obtain ⟨a, b⟩ := tyF_ok (K := X.K) e
    exact ⟨_, _, _, _, _, rfl, .ty _, a, kit_known b kn, q⟩
  · exact q.elim
-- all, any of a list of truths
def rAllF : List V → Hp → VK → Prop := fun vs H Q => match vs with
  | [.ref p] => ∃ bs : List Bool, H p = some (.lst (bs.map V.bl)) ∧ Q (.bl (bs.all id)) H
  | _ => False
theorem f_all {X : Cx} (hc : X.calm = true) : CallR X (.builtin "all") rAllF := CallR.imp (cr_all hc) fun vs H Q q => by
  unfold rAllF at q
  split at q
  · obtain ⟨bs, h, q⟩ := q
    exact ⟨_, _, rfl, SqL.of h, q⟩
  · exact q.elim
def rAnyF : List V → Hp → VK → Prop := fun vs H Q => match vs with
  | [.ref p] => ∃ bs : List Bool, H p = some (.lst (bs.map V.bl)) ∧ Q (.bl (bs.any id)) H
  | _ => False
theorem f_any {X : Cx} (hc : X.calm = true) : CallR X (.builtin "any") rAnyF := CallR.imp (cr_any hc) fun vs H Q q => by
  unfold rAnyF at q
  split at q
  · obtain ⟨bs, h, q⟩ := q
    exact ⟨_, _, rfl, SqL.of h, q⟩
  · exact q.elim
-- ==, != : scalars by themselves; else as data
def rEqF (K : PySem.W.Frag) : R2 := fun x y H Q => if scal x y = true then Q (.bl (decide (x = y))) H else rEqD K x y H Q
def rNeF (K : PySem.W.Frag) : R2 := fun x y H Q => if scal x y = true then Q (.bl (!decide (x = y))) H else rNeD K x y H Q
theorem f_eq {X : Cx} {K : PySem.W.Frag} (h : X.K = K) {k : Nat} (hr : Room k X.A) : OpR X (compareOp .Eq) (rEqF K) := by
  intro pins s σ H x y v u Q I rx ry q
  unfold rEqF at q
  split at q
  · rename_i e
    exact op_eq pins s σ H _ _ v u Q I rx ry ⟨e, q⟩
  · exact k_eqD h hr pins s σ H _ _ v u Q I rx ry q
theorem f_ne {X : Cx} {K : PySem.W.Frag} (h : X.K = K) {k : Nat} (hr : Room k X.A) : OpR X (compareOp .NotEq) (rNeF K) := by
  intro pins s σ H x y v u Q I rx ry q
  unfold rNeF at q
  split at q
  · rename_i e
    exact op_ne pins s σ H _ _ v u Q I rx ry ⟨e, q⟩
  · exact k_neD h hr pins s σ H _ _ v u Q I rx ry q
-- order: whole numbers, texts
def lessS (a b : Str) : Bool := decide (a.cps.toList < b.cps.toList)
def rLtF : R2 := fun x y H Q => match x, y with
  | .int i, .int j => Q (.bl (decide (i < j))) H
  | .str a, .str b => Q (.bl (lessS a b)) H
  | _, _ => False
theorem f_lt {X : Cx} : OpR X (compareOp .Lt) rLtF := by
  intro pins s σ H x y v u Q I rx ry q
  unfold rLtF at q
  split at q
  · exact op_lt pins s σ H _ _ v u Q I rx ry ⟨_, _, rfl, rfl, q⟩
  · exact op_lt_str pins s σ H _ _ v u Q I rx ry ⟨_, _, rfl, rfl, q⟩
  · exact q.elim
def rLeF : R2 := fun x y H Q => match x, y with
  | .int i, .int j => Q (.bl (decide (i ≤ j))) H
  | .str a, .str b => Q (.bl (!lessS b a)) H
  | _, _ => False
theorem f_le {X : Cx} : OpR X (compareOp .LtE) rLeF := by
  intro pins s σ H x y v u Q I rx ry q
  unfold rLeF at q
  split at q
  · exact op_le pins s σ H _ _ v u Q I rx ry ⟨_, _, rfl, rfl, q⟩
  · exact op_le_str pins s σ H _ _ v u Q I rx ry ⟨_, _, rfl, rfl, q⟩
  · exact q.elim
def rGtF : R2 := fun x y H Q => match x, y with
  | .int i, .int j => Q (.bl (decide (j < i))) H
  | .str a, .str b => Q (.bl (lessS b a)) H
  | _, _ => False
theorem f_gt {X : Cx} : OpR X (compareOp .Gt) rGtF := by
  intro pins s σ H x y v u Q I rx ry q
  unfold rGtF at q
  split at q
  · exact op_gt pins s σ H _ _ v u Q I rx ry ⟨_, _, rfl, rfl, q⟩
  · exact op_gt_str pins s σ H _ _ v u Q I rx ry ⟨_, _, rfl, rfl, q⟩
  · exact q.elim
def rGeF : R2 := fun x y H Q => match x, y with
  | .int i, .int j => Q (.bl (decide (j ≤ i))) H
  | .str a, .str b => Q (.bl (!lessS a b)) H
  | _, _ => False
theorem f_ge {X : Cx} : OpR X (compareOp .GtE) rGeF := by
  intro pins s σ H x y v u Q I rx ry q
  unfold rGeF at q
  split at q
  · exact op_ge pins s σ H _ _ v u Q I rx ry ⟨_, _, rfl, rfl, q⟩
  · exact op_ge_str pins s σ H _ _ v u Q I rx ry ⟨_, _, rfl, rfl, q⟩
  · exact q.elim
-- whole numbers that must be within bounds
def rMulF : R2 := fun x y H Q => match x, y with
  | .int i, .int j => CMul i j ∧ Q (.int (i * j)) H
  | .str z, .int j => (z.length ≤ 1000 ∧ 0 ≤ j ∧ j ≤ 1000) ∧ Q (.str (Txt.mul z j)) H
  | _, _ => False
theorem mulOk_small {z : Str} {j : Int} (h1 : z.length ≤ 1000) (h2 : 0 ≤ j) (h3 : j ≤ 1000) : PySem.MulOk z j := by
  refine ⟨by rw [decide_eq_false (by omega), decide_eq_false (by omega)]; rfl, fun a _ => ?_, fun a _ => ?_⟩
  · have : (9223372036854775 : Int) ≤ (2 ^ 63 - 1) / j := by
      refine (Int.le_ediv_iff_mul_le (by omega)).mpr ?_
      omega
    omega
  · unfold Builtin.Str.tooLong
    refine decide_eq_false (Nat.not_lt.mpr ?_)
    refine Nat.le_trans (Nat.mul_le_mul h1 (show j.toNat ≤ 1000 by omega)) (by decide)
theorem op_mulStr {X : Cx} : OpR X (binaryOp .Mult) (fun x y H Q => ∃ z j, x = .str z ∧ y = .int j ∧ PySem.MulOk z j ∧ Q (.str (Txt.mul z j)) H) := by
  intro pins s σ H x y v u Q I rx ry h
  obtain ⟨z, j, rfl, rfl, hz, q⟩ := h
  obtain ⟨t, rfl⟩ := rx
  obtain ⟨t', rfl⟩ := ry
  exact PySem.SB.mul hz (fun t' tk => ⟨.str (Txt.mul z j), H, I.tok _, ⟨_, rfl⟩, q⟩)
theorem f_mul {X : Cx} : OpR X (binaryOp .Mult) rMulF := OpR.imp ((op_mul (X := X)).or (op_mulStr (X := X))) fun x y H Q q => by
  unfold rMulF at q
  split at q
  · exact .inl ⟨_, _, rfl, rfl, q⟩
  · exact .inr ⟨_, _, rfl, rfl, mulOk_small q.1.1 q.1.2.1 q.1.2.2, q.2⟩
  · exact q.elim
-- a text's own deeds
def rUpF : V → List V → Hp → VK → Prop := fun x xs H Q => match x, xs with
  | .str z, [] => z.length ≤ big ∧ Q (.str (Txt.upper z)) H
  | _, _ => False
theorem f_upM {X : Cx} : MtR X "str.upper" rUpF := MtR.imp mt_upper fun x xs H Q q => by
  unfold rUpF at q
  split at q
  · exact ⟨_, rfl, rfl, Nat.le_trans q.1 (by decide), q.2⟩
  · exact q.elim
def tM0F (r : V → List V → Hp → VK → Prop) (to : TE) : TE := fun σ H Q => to σ H fun x H1 => (∃ z, x = .str z) ∧ r x [] H1 Q
theorem f_upper {X : Cx} {o : Expr} {to : TE} {apos pos : Pos} (ho : PE X o to) (hbase : attributeBase o "upper" X.env (eval o X.env) = eval o X.env := by rfl) (hline : (apos.endLine == pos.line) = true := by rfl) :
    PE X (.Call (.Attribute o "upper" apos) [] [] pos) (tM0F rUpF to) := pe_m0 F.slot_str_upper F.type_str_upper f_upM ho hbase hline
def rModF : R2 := fun x y H Q => match x, y with
  | .int i, .int j => 0 < j ∧ Q (.int (i % j)) H
  | _, _ => False
theorem f_mod {X : Cx} : OpR X (binaryOp .Mod) rModF := OpR.imp (op_mod (X := X)) fun x y H Q q => by
  unfold rModF at q
  split at q
  · exact ⟨_, _, rfl, rfl, q⟩
  · exact q.elim
def rDivF : R2 := fun x y H Q => match x, y with
  | .int i, .int j => (0 < j ∧ j < 1073741824) ∧ Q (.int (i / j)) H
  | _, _ => False
theorem f_div {X : Cx} : OpR X (binaryOp .FloorDiv) rDivF := OpR.imp (op_fdiv (X := X)) fun x y H Q q => by
  unfold rDivF at q
  split at q
  · exact ⟨_, _, rfl, rfl, q⟩
  · exact q.elim
def rPowF : R2 := fun x y H Q => match x, y with
  | .int i, .int j => CPow i j ∧ Q (.int (i ^ j.toNat)) H
  | _, _ => False
theorem f_pow {X : Cx} : OpR X (binaryOp .Pow) rPowF := OpR.imp (op_pow (X := X)) fun x y H Q q => by
  unfold rPowF at q
  split at q
  · exact ⟨_, _, rfl, rfl, q⟩
  · exact q.elim
def rSubF : R2 := fun x y H Q => match x, y with
  | .int i, .int j => Q (.int (i - j)) H
  | _, _ => False
theorem f_sub {X : Cx} : OpR X (binaryOp .Sub) rSubF := OpR.imp (op_sub (X := X)) fun x y H Q q => by
  unfold rSubF at q
  split at q
  · exact ⟨_, _, rfl, rfl, q⟩
  · exact q.elim
def rIAddF : R2 := fun x y H Q => match x, y with
  | .int i, .int j => Q (.int (i + j)) H
  | .str a, .str b => a.length + b.length ≤ big ∧ Q (.str (a ++ b)) H
  | _, _ => False
theorem f_iadd {X : Cx} : OpR X (inplaceOp .Add) rIAddF := by
  intro pins s σ H x y v u Q I rx ry q
  unfold rIAddF at q
  split at q
  · exact iop_add pins s σ H _ _ v u Q I rx ry ⟨_, _, rfl, rfl, q⟩
  · exact iop_add_str pins s σ H _ _ v u Q I rx ry ⟨_, _, rfl, rfl, big_le q.1, q.2⟩
  · exact q.elim
def rIMulF : R2 := fun x y H Q => match x, y with
  | .int i, .int j => CMul i j ∧ Q (.int (i * j)) H
  | _, _ => False
theorem f_imul {X : Cx} : OpR X (inplaceOp .Mult) rIMulF := OpR.imp (iop_mul (X := X)) fun x y H Q q => by
  unfold rIMulF at q
  split at q
  · exact ⟨_, _, rfl, rfl, q⟩
  · exact q.elim
-- xs[i] = e; xs.append(e); join
def rSetF : V → V → V → Hp → (Hp → Prop) → Prop := fun o i v H Q => match o, i with
  | .ref p, .int k => onLst (H p) fun xs => ∃ j, ixN xs.length k = some j ∧ Q (upd H p (.lst (xs.set j v)))
  | _, _ => False
theorem f_set {X : Cx} : PSet X rSetF := fun pins s σ H o i v ov iv u Q I ro ri rv q => by
  unfold rSetF at q
  split at q
  · obtain ⟨xs, h, j, e, q⟩ := onLst_cases q
    exact set_list pins s σ H _ _ v ov iv u Q I ro ri rv ⟨_, _, _, j, rfl, rfl, h, e, q⟩
  · exact q.elim
def rAppF : V → List V → Hp → VK → Prop := fun x vs H Q => match x, vs with
  | .ref p, [y] => onLst (H p) fun xs => xs.length < big ∧ Q .non (upd H p (.lst (xs ++ [y])))
  | _, _ => False
theorem f_append {X : Cx} : MtR X "list.append" rAppF := MtR.imp (mt_append (X := X)) fun x vs H Q q => by
  unfold rAppF at q
  split at q
  · obtain ⟨xs, h, q⟩ := onLst_cases q
    exact ⟨_, _, _, rfl, rfl, h, Nat.lt_of_lt_of_le q.1 (big_le (Nat.le_refl _)), q.2⟩
  · exact q.elim
-- what is a receiver
def tyRecv (T : String) (x : V) (H : Hp) : Prop := match x with
  | .str _ => T = "str"
  | .ref p => (match H p with
    | some (.lst _) => T = "list"
    | some (.dK _) => T = "dict"
    | some (.tup _) => T = "tuple"
    | _ => False)
  | _ => False
-- truth
def truF (x : V) (H : Hp) (R : Bool → Hp → Prop) : Prop := match x with
  | .non => R false H
  | .bl b => R b H
  | .int i => R (i != 0) H
  | .str z => z.length ≤ big ∧ R ((z.length : Int) != 0) H
  | .ref p => onIts (H p) fun xs => R (!xs.isEmpty) H
  | _ => False
theorem truF_ok {K : PySem.W.Frag} {x : V} {H : Hp} {R : Bool → Hp → Prop} (q : truF x H R) : ∃ k, TruV K x H k ∧ R k H := by
  unfold truF at q
  split at q
  · exact ⟨_, rfl, q⟩
  · exact ⟨_, rfl, q⟩
  · exact ⟨_, rfl, q⟩
  · exact ⟨_, ⟨big_le q.1, rfl⟩, q.2⟩
  · rcases onIts_cases q with ⟨xs, h, q⟩ | ⟨xs, h, q⟩
    · exact ⟨_, .inl ⟨_, SqL.of h, rfl⟩, q⟩
    · exact ⟨_, .inr (.inl ⟨_, SqT.of h, rfl⟩), q⟩
  · exact q.elim

-- a walk over what is a list, a tuple or a text
def seqO : Option HO → Bool
  | some (.lst _) => true
  | some (.tup _) => true
  | _ => false
def itO (K : PySem.W.Frag) (p : Addr) : Option HO → It
  | some (.lst _) => Itl K p
  | _ => Itt K p
def kSeqF (K : PySem.W.Frag) (R : It → Hp → Prop) : VK := fun x H1 => match x with
  | .str z => R (Its z) H1
  | .ref p => seqO (H1 p) = true ∧ R (itO K p (H1 p)) H1
  | _ => False
def iSeqF (K : PySem.W.Frag) (tl : TE) : TI := fun σ H R => tl σ H (kSeqF K R)
theorem f_walk {X : Cx} {K : PySem.W.Frag} {tg e : Expr} {te : TE} (h : X.K = K) (he : PE X e te) : PI X tg e (iSeqF K te) := by
  subst h
  refine ⟨fun pins s σ H R I hw => thn (he.run pins s σ H _ I hw) fun v s1 ⟨y, H1, I1, r1, q⟩ => ?_⟩
  unfold kSeqF at q
  split at q
  · rename_i z
    obtain ⟨t, rfl⟩ := r1
    cases ha : z.cps.all (· < 128) with
    | false => exact wpAny_pyIter_wide ha (pi_one (tk := s1.toks) I1 _ (turn_str _ z t "str_iterator" (.inr rfl)) ⟨_, Heap.get?_push_size s1.heap rfl, rfl, rfl⟩ q)
    | true => exact wpAny_pyIter_ascii ha (pi_one (tk := s1.toks) I1 _ (turn_str _ z t "str_ascii_iterator" (.inl rfl)) ⟨_, Heap.get?_push_size s1.heap rfl, rfl, rfl⟩ q)
  · rename_i p
    cases r1
    obtain ⟨e, q⟩ := q
    unfold seqO at e
    split at e
    · rename_i xs h
      rw [h] at q
      obtain ⟨its, rv, pl, hz⟩ := I1.list (SqL.of h)
      exact wpAny_pyIter_list pl.isList (pi_one (tk := s1.toks) I1 _ (turn_list p _) ⟨_, Heap.get?_push_size s1.heap rfl, rfl, rfl⟩ q)
    · rename_i xs h
      rw [h] at q
      obtain ⟨its, rv, pl, hz⟩ := I1.tuple (SqT.of h)
      exact wpAny_pyIter_tuple pl (pi_one (tk := s1.toks) I1 _ (turn_tuple p _) ⟨_, Heap.get?_push_size s1.heap rfl, rfl, rfl⟩ q)
    · cases e
  · exact q.elim
def tTruF (te : TE) : TT := fun σ H R => te σ H fun x H1 => truF x H1 R
theorem f_truth {X : Cx} {e : Expr} {te : TE} (ha : PE X e te) (he : ∀ whole, isTrue e X.env whole = (do let v ← whole; standAt e.pos; holding [v] (truthy v)) := by intro _; rfl) : PT X e (tTruF te) :=
  ⟨fun pins s σ H Q I hw => isTrue_plain (thn (ha.run pins s σ H _ I hw) fun v s1 ⟨x, H1, I1, r1, q1⟩ => tru_ok pins s1 σ H1 x v Q I1 r1 (truF_ok q1)) (he _)⟩

/-! ### the same steps as equations (for simp) -/
section
variable {σ : L2.St} {H : Hp} {Q : VK} {ta tb tc : TE} {r r' : R2} {v x y : V} {D : Ends} {K : PySem.W.Frag} {nx bk ct : L2.St → Hp → Prop} {rt : VK} {t : TT} {u : TT} {R : Bool → Hp → Prop} {S : List V → Hp → Prop} {ts us : TS} {g : TG} {gs : TGs} {tas : TA} {W : It → Hp → Prop} {vs : List V}
theorem e_c : tC v σ H Q = Q v H := rfl
theorem e_op : tOp r ta tb σ H Q = ta σ H fun x H1 => tb σ H1 fun y H2 => r x y H2 Q := rfl
theorem e_un {r : V → Hp → VK → Prop} : tUn r ta σ H Q = ta σ H fun x H1 => r x H1 Q := rfl
theorem e_rU {g : Int → V} {i : Int} : rU g (.int i) H Q = Q (g i) H := propext ⟨fun ⟨_, e, h⟩ => by cases e; exact h, fun h => ⟨i, rfl, h⟩⟩
theorem e_rI0 {g : Int → Int → V} {i j : Int} : rI0 g (.int i) (.int j) H Q = Q (g i j) H := propext ⟨fun ⟨_, _, e, f, h⟩ => by cases e; cases f; exact h, fun h => ⟨i, j, rfl, rfl, h⟩⟩
theorem e_rI {C : Int → Int → Prop} {g : Int → Int → V} {i j : Int} : rI C g (.int i) (.int j) H Q = (C i j ∧ Q (g i j) H) := propext ⟨fun ⟨_, _, e, f, c, h⟩ => by cases e; cases f; exact ⟨c, h⟩, fun ⟨c, h⟩ => ⟨i, j, rfl, rfl, c, h⟩⟩
theorem e_bQ {b : Bool} : bQ R (.bl b) H = R b H := propext ⟨fun ⟨_, e, h⟩ => by cases e; exact h, fun h => ⟨b, rfl, h⟩⟩
theorem e_test : tTest ta σ H R = ta σ H (bQ R) := rfl
theorem e_tB : tB ta σ H R = ta σ H (bQ R) := rfl
theorem e_not : tNot t σ H R = t σ H fun c H1 => R (!c) H1 := rfl
theorem e_and : tAnd t u σ H R = t σ H fun c H1 => if c = true then u σ H1 R else R false H1 := rfl
theorem e_or : tOr t u σ H R = t σ H fun c H1 => if c = true then R true H1 else u σ H1 R := rfl
theorem e_andV : tAndV ta tb σ H Q = ta σ H (bQ fun c H1 => if c = true then tb σ H1 Q else Q (.bl false) H1) := rfl
theorem e_orV : tOrV ta tb σ H Q = ta σ H (bQ fun c H1 => if c = true then Q (.bl true) H1 else tb σ H1 Q) := rfl
theorem e_notV : tNotV ta σ H Q = ta σ H (bQ fun c H1 => Q (.bl (!c)) H1) := rfl
theorem e_ifE : tIf t ta tb σ H Q = t σ H fun c H1 => if c = true then ta σ H1 Q else tb σ H1 Q := rfl
theorem e_chain : tChain r r' ta tb tc σ H Q = ta σ H fun x H1 => tb σ H1 fun y H2 => r x y H2 (bQ fun k H3 => if k = true then tc σ H3 fun w' H4 => r' y w' H4 Q else Q (.bl false) H3) := rfl
theorem e_nil : tNil σ H S = S [] H := rfl
theorem e_cons : tCons ta tas σ H S = ta σ H fun x H1 => tas σ H1 fun xs H2 => S (x :: xs) H2 := rfl
theorem e_tup : tTup tas σ H Q = tas σ H (kTup Q) := rfl
theorem e_lst : tLst tas σ H Q = tas σ H (kLst Q) := rfl
theorem e_kLst : kLst Q vs H = (vs.length ≤ sizeLine ∧ ∀ p, H p = none → Q (.ref p) (upd H p (.lst vs))) := rfl
theorem e_kTup : kTup Q vs H = (vs.length ≤ sizeLine ∧ ∀ p, H p = none → Q (.ref p) (upd H p (.tup vs))) := rfl
theorem e_small {n : Nat} (h : n ≤ 1000) : n ≤ sizeLine := Nat.le_of_lt (small1000 h)
theorem e_smallB {n : Nat} (h : n ≤ 1000) : n ≤ big := Nat.le_trans h (by decide)
theorem e_call {sp : Sp} {dvs : List V} {E : XK} : tCall sp dvs E tas σ H Q = tas σ H fun vs H1 => sp (vs ++ dvs) H1 Q E := rfl
theorem e_callN {n m : Nat} {sp : Sp} {gV : List V → List V → List V} {E : XK} {tk : TA} : tCallN n m sp gV E tas tk σ H Q = tas σ H fun vs H1 => tk σ H1 fun zs H2 => vs.length = n ∧ zs.length = m ∧ sp (gV vs zs) H2 Q E := rfl
theorem e_cb {rr : List V → Hp → VK → Prop} : tCB rr tas σ H Q = tas σ H fun vs H1 => rr vs H1 Q := rfl
theorem e_next : tNext ⟨nx, rt, bk, ct⟩ σ H = nx σ H := rfl
theorem e_seq : tSeq ts us ⟨nx, rt, bk, ct⟩ σ H = ts ⟨us ⟨nx, rt, bk, ct⟩, rt, bk, ct⟩ σ H := rfl
theorem e_drop : tDrop ta ⟨nx, rt, bk, ct⟩ σ H = ta σ H fun _ H1 => nx σ H1 := rfl
theorem e_ret : tRet ta ⟨nx, rt, bk, ct⟩ σ H = ta σ H rt := rfl
theorem e_retN : tRetN ⟨nx, rt, bk, ct⟩ σ H = rt .non H := rfl
theorem e_ifS : tIfS t ts us ⟨nx, rt, bk, ct⟩ σ H = t σ H fun b H1 => if b = true then ts ⟨nx, rt, bk, ct⟩ σ H1 else us ⟨nx, rt, bk, ct⟩ σ H1 := rfl
theorem e_asg : tAsg ta g ⟨nx, rt, bk, ct⟩ σ H = ta σ H fun x H1 => g x σ H1 nx := rfl
theorem e_brk : tBreak ⟨nx, rt, bk, ct⟩ σ H = bk σ H := rfl
theorem e_cont : tCont ⟨nx, rt, bk, ct⟩ σ H = ct σ H := rfl
theorem e_gNil {R : L2.St → Hp → Prop} : gNil [] σ H R = R σ H := propext ⟨fun h => h.2, fun h => ⟨rfl, h⟩⟩
theorem e_gCons {R : L2.St → Hp → Prop} : gCons g gs (v :: vs) σ H R = g v σ H fun σ' H' => gs vs σ' H' R := propext ⟨fun ⟨_, _, e, h⟩ => by cases e; exact h, fun h => ⟨v, vs, rfl, h⟩⟩
theorem e_gSub {to ti : TE} {tt : TSet} {R : L2.St → Hp → Prop} : gSub to ti tt v σ H R = to σ H fun o H1 => ti σ H1 fun i H2 => tt o i v H2 fun H3 => R σ H3 := rfl
theorem e_for {wi : TI} : tFor wi g ts ⟨nx, rt, bk, ct⟩ σ H = wi σ H (kFor g ts nx rt σ) := rfl
theorem e_rng1 : iRng1 tas σ H W = tas σ H (kRng1 W) := rfl
theorem e_kRng1 {j : Int} : kRng1 W [.int j] H = ((-(2 ^ 62) ≤ j ∧ j < 2 ^ 62) ∧ W (Itr 0 j.toNat) H) := propext ⟨fun ⟨_, e, a, b, h⟩ => by cases e; exact ⟨⟨a, b⟩, h⟩, fun ⟨⟨a, b⟩, h⟩ => ⟨j, rfl, a, b, h⟩⟩
theorem e_iList : iList K ta σ H W = ta σ H (kList K W) := rfl
theorem e_iTup : iTup K ta σ H W = ta σ H (kTupI K W) := rfl
theorem e_kStr {z : Str} : kStr W (.str z) H = W (Its z) H := propext ⟨fun ⟨_, e, h⟩ => by cases e; exact h, fun h => ⟨z, rfl, h⟩⟩
theorem e_iStr : iStr ta σ H W = ta σ H (kStr W) := rfl
theorem e_lc {wi : TI} {tt : TT} {te : TE} {vs : List Nat} : tLc wi g tt te vs σ H Q = wi σ H (kLc g tt te vs σ Q) := rfl
theorem e_tYes : tYes σ H R = R true H := rfl
theorem e_ab {i : Int} : rAb [.int i] H Q = Q (.int (if i < 0 then -i else i)) H := propext ⟨fun ⟨_, e, h⟩ => by cases e; exact h, fun h => ⟨i, rfl, h⟩⟩
theorem e_mx2 {i j : Int} : rMx2 [.int i, .int j] H Q = Q (.int (if j > i then j else i)) H := propext ⟨fun ⟨_, _, e, h⟩ => by cases e; exact h, fun h => ⟨i, j, rfl, h⟩⟩
theorem e_mn2 {i j : Int} : rMn2 [.int i, .int j] H Q = Q (.int (if j < i then j else i)) H := propext ⟨fun ⟨_, _, e, h⟩ => by cases e; exact h, fun h => ⟨i, j, rfl, h⟩⟩
theorem e_bm {T : String} {rr : V → List V → Hp → VK → Prop} : tBM K T rr ta tas σ H Q = ta σ H fun x H1 => tyV K T x H1 ∧ tas σ H1 fun xs H2 => rr x xs H2 Q := rfl
theorem e_tyS {z : Str} : tyV K "str" (.str z) H = True := eq_true (by unfold tyV; trivial)
theorem e_sIx {a b : Str} : rSIx (.str a) [.str b] H Q = ∃ i rest, Builtin.Str.occurrences a b 0 a.length 1 = i :: rest ∧ Q (.int (i : Nat)) H := propext ⟨fun ⟨_, _, i, r, e, f, g, h⟩ => by cases e; cases f; exact ⟨i, r, g, h⟩, fun ⟨i, r, g, h⟩ => ⟨a, b, i, r, rfl, rfl, g, h⟩⟩
theorem e_m1 {rr : V → List V → Hp → VK → Prop} : tM1 rr ta tb σ H Q = ta σ H fun x H1 => (∃ a, x = .str a) ∧ tb σ H1 fun y H2 => rr x [y] H2 Q := rfl
theorem e_m0 {rr : V → List V → Hp → VK → Prop} : tM0 rr ta σ H Q = ta σ H fun x H1 => (∃ a, x = .str a) ∧ rr x [] H1 Q := rfl
theorem e_isS {z : Str} : (∃ a, V.str z = .str a) = True := eq_true ⟨z, rfl⟩
theorem e_addI {i j : Int} : rAddF (.int i) (.int j) H Q = Q (.int (i + j)) H := rfl
theorem e_addS {a b : Str} : rAddF (.str a) (.str b) H Q = (a.length + b.length ≤ big ∧ Q (.str (a ++ b)) H) := rfl
theorem e_addR {p q : Addr} : rAddF (.ref p) (.ref q) H Q = onSeq (H p)
      (fun xs => onLst (H q) fun ys => xs.length + ys.length ≤ big ∧ ∀ l, H l = none → Q (.ref l) (upd H l (.lst (xs ++ ys))))
      (fun xs => onTup (H q) fun ys => xs.length + ys.length ≤ big ∧ newT H (xs ++ ys) Q) := rfl
theorem e_seqL {xs : List V} {A B : List V → Prop} : onSeq (some (.lst xs)) A B = A xs := rfl
theorem e_seqT {xs : List V} {A B : List V → Prop} : onSeq (some (.tup xs)) A B = B xs := rfl
theorem e_onTup {xs : List V} {A : List V → Prop} : onTup (some (.tup xs)) A = A xs := rfl
theorem e_lstL {xs : List V} {A : List V → Prop} : onLst (some (.lst xs)) A = A xs := rfl
theorem e_ixS {z : Str} {i : Int} : rIxF (.str z) (.int i) H Q = (z.length ≤ big ∧ ∃ c, atI z.cps.toList i = some c ∧ Q (.str ⟨#[c]⟩) H) := rfl
theorem e_ixR {p : Addr} {i : Int} : rIxF (.ref p) (.int i) H Q = onIts (H p) fun xs => ∃ v, atI xs i = some v ∧ Q v H := rfl
theorem e_itsL {xs : List V} {A : List V → Prop} : onIts (some (.lst xs)) A = A xs := rfl
theorem e_itsT {xs : List V} {A : List V → Prop} : onIts (some (.tup xs)) A = A xs := rfl
theorem e_slS {z : Str} {lo hi : Option Int} : rSlF (.str z) lo hi H Q = (z.length ≤ big ∧ Q (.str (cutS z lo hi)) H) := rfl
theorem e_slR {p : Addr} {lo hi : Option Int} : rSlF (.ref p) lo hi H Q = onSeq (H p) (fun xs => ∀ l, H l = none → Q (.ref l) (upd H l (.lst (cutV xs lo hi)))) fun xs => newT H (cutV xs lo hi) Q := rfl
theorem e_newT {xs : List V} : newT H xs Q = ∀ l H', H' l = some (.tup xs) → (∀ a, (H a).isSome = true → H' a = H a) → (∀ b, mutO (H b) = true → ¬ l = b) → Same H H' → (Whole H → Whole H') → Q (.ref l) H' := rfl
theorem e_mutL {xs : List V} : mutO (some (.lst xs)) = true := rfl
theorem e_mutD {kvs : List (Key × V)} : mutO (some (.dK kvs)) = true := rfl
theorem e_sl {rs : V → Option Int → Option Int → Hp → VK → Prop} {tl th : TO} : tSl rs ta tl th σ H Q = ta σ H fun x H1 => tl σ H1 fun l H2 => th σ H2 fun u H3 => rs x l u H3 Q := rfl
def bI (R : Int → Hp → Prop) : VK := fun x H => ∃ i, x = .int i ∧ R i H
theorem e_bI {R : Int → Hp → Prop} {i : Int} : bI R (.int i) H = R i H := propext ⟨fun ⟨_, e, h⟩ => by cases e; exact h, fun h => ⟨i, rfl, h⟩⟩
theorem e_noPart {R : Option Int → Hp → Prop} : tNoPart σ H R = R none H := rfl
theorem e_part {R : Option Int → Hp → Prop} : tPart ta σ H R = ta σ H (bI fun i H1 => R (some i) H1) := rfl
theorem e_inS {c : Nat} {z : Str} : rInF false (.str ⟨#[c]⟩) (.str z) H Q = Q (.bl (decide (c ∈ z.cps.toList))) H := propext ⟨fun ⟨d, e, h⟩ => by
  have e3 : ([c] : List Nat) = [d] := congrArg (fun s : Str => s.cps.toList) e
  cases e3
  exact h, fun h => ⟨c, rfl, h⟩⟩
theorem e_ninS {c : Nat} {z : Str} : rInF true (.str ⟨#[c]⟩) (.str z) H Q = Q (.bl (!decide (c ∈ z.cps.toList))) H := propext ⟨fun ⟨d, e, h⟩ => by
  have e3 : ([c] : List Nat) = [d] := congrArg (fun s : Str => s.cps.toList) e
  cases e3
  exact h, fun h => ⟨c, rfl, h⟩⟩
theorem e_inR {p : Addr} : rInF false x (.ref p) H Q = (flatV x = true ∧ onIts (H p) fun xs => xs.all flatV = true ∧ Q (.bl (inV x xs)) H) := rfl
theorem e_ninR {p : Addr} : rInF true x (.ref p) H Q = (flatV x = true ∧ onIts (H p) fun xs => xs.all flatV = true ∧ Q (.bl (!inV x xs)) H) := rfl
theorem e_lenS {z : Str} : rLnF [.str z] H Q = (z.length ≤ big ∧ Q (.int z.length) H) := rfl
theorem e_lenR {p : Addr} : rLnF [.ref p] H Q = onIts (H p) fun xs => Q (.int xs.length) H := rfl
theorem e_tupR {p : Addr} : rTupF [.ref p] H Q = onSeq (H p) (fun xs => ∀ l, H l = none → Q (.ref l) (upd H l (.tup xs))) fun _ => Q (.ref p) H := rfl
theorem e_listR {p : Addr} : rListF [.ref p] H Q = onIts (H p) fun xs => ∀ l, H l = none → Q (.ref l) (upd H l (.lst xs)) := rfl
theorem isF_eq {x : V} {n t : String} {b : Bool} (hk : knownC n = true) (hb : isB t n = b) (ht : tyF H x = some t) : rIsF [x, .ty n] H Q = Q (.bl b) H := propext ⟨fun h => by
  obtain ⟨_, t', e, q⟩ := h
  rw [ht] at e
  cases e
  rw [← hb]
  exact q, fun h => ⟨hk, t, ht, by rw [hb]; exact h⟩⟩
theorem e_isR {p : Addr} {n : String} : rIsF [.ref p, .ty n] H Q = (knownC n = true ∧ ∃ t, tyO (H p) = some t ∧ Q (.bl (isB t n)) H) := rfl
theorem e_tyL {xs : List V} : tyO (some (.lst xs)) = some "list" := rfl
theorem e_tyT {xs : List V} : tyO (some (.tup xs)) = some "tuple" := rfl
theorem e_tyD {kvs : List (Key × V)} : tyO (some (.dK kvs)) = some "dict" := rfl
theorem e_eqI {i j : Int} : rEqF K (.int i) (.int j) H Q = Q (.bl (decide (i = j))) H := by
  show (if true = true then Q (.bl (decide (V.int i = V.int j))) H else _) = _
  rw [if_pos rfl]
  simp
theorem e_neI {i j : Int} : rNeF K (.int i) (.int j) H Q = Q (.bl (!decide (i = j))) H := by
  show (if true = true then Q (.bl (!decide (V.int i = V.int j))) H else _) = _
  rw [if_pos rfl]
  simp
theorem e_eqS {i j : Str} : rEqF K (.str i) (.str j) H Q = Q (.bl (decide (i = j))) H := by
  show (if true = true then Q (.bl (decide (V.str i = V.str j))) H else _) = _
  rw [if_pos rfl]
  simp
theorem e_neS {i j : Str} : rNeF K (.str i) (.str j) H Q = Q (.bl (!decide (i = j))) H := by
  show (if true = true then Q (.bl (!decide (V.str i = V.str j))) H else _) = _
  rw [if_pos rfl]
  simp
theorem e_eqB {i j : Bool} : rEqF K (.bl i) (.bl j) H Q = Q (.bl (decide (i = j))) H := by
  show (if true = true then Q (.bl (decide (V.bl i = V.bl j))) H else _) = _
  rw [if_pos rfl]
  simp
theorem e_neB {i j : Bool} : rNeF K (.bl i) (.bl j) H Q = Q (.bl (!decide (i = j))) H := by
  show (if true = true then Q (.bl (!decide (V.bl i = V.bl j))) H else _) = _
  rw [if_pos rfl]
  simp
theorem e_eqR {p : Addr} {y : V} : rEqF K (.ref p) y H Q = rEqD K (.ref p) y H Q := by cases y <;> rfl
theorem e_neR {p : Addr} {y : V} : rNeF K (.ref p) y H Q = rNeD K (.ref p) y H Q := by cases y <;> rfl
theorem e_eqR2 {p : Addr} {x : V} : rEqF K x (.ref p) H Q = rEqD K x (.ref p) H Q := by cases x <;> rfl
theorem e_neR2 {p : Addr} {x : V} : rNeF K x (.ref p) H Q = rNeD K x (.ref p) H Q := by cases x <;> rfl
theorem e_ltI {i j : Int} : rLtF (.int i) (.int j) H Q = Q (.bl (decide (i < j))) H := rfl
theorem e_leI {i j : Int} : rLeF (.int i) (.int j) H Q = Q (.bl (decide (i ≤ j))) H := rfl
theorem e_gtI {i j : Int} : rGtF (.int i) (.int j) H Q = Q (.bl (decide (j < i))) H := rfl
theorem e_geI {i j : Int} : rGeF (.int i) (.int j) H Q = Q (.bl (decide (j ≤ i))) H := rfl
theorem e_ltS {i j : Str} : rLtF (.str i) (.str j) H Q = Q (.bl (lessS i j)) H := rfl
theorem e_leS {i j : Str} : rLeF (.str i) (.str j) H Q = Q (.bl (!lessS j i)) H := rfl
theorem e_gtS {i j : Str} : rGtF (.str i) (.str j) H Q = Q (.bl (lessS j i)) H := rfl
theorem e_geS {i j : Str} : rGeF (.str i) (.str j) H Q = Q (.bl (!lessS i j)) H := rfl
theorem e_mul {i j : Int} : rMulF (.int i) (.int j) H Q = (CMul i j ∧ Q (.int (i * j)) H) := rfl
theorem e_mulS {z : Str} {j : Int} : rMulF (.str z) (.int j) H Q = ((z.length ≤ 1000 ∧ 0 ≤ j ∧ j ≤ 1000) ∧ Q (.str (Txt.mul z j)) H) := rfl
theorem e_m0F {r : V → List V → Hp → VK → Prop} : tM0F r ta σ H Q = ta σ H fun x H1 => (∃ z, x = .str z) ∧ r x [] H1 Q := rfl
theorem e_exS {z : Str} : (∃ y, V.str z = .str y) = True := eq_true ⟨z, rfl⟩
theorem e_upS {z : Str} : rUpF (.str z) [] H Q = (z.length ≤ big ∧ Q (.str (Txt.upper z)) H) := rfl
theorem e_mod {i j : Int} : rModF (.int i) (.int j) H Q = (0 < j ∧ Q (.int (i % j)) H) := rfl
theorem e_div {i j : Int} : rDivF (.int i) (.int j) H Q = ((0 < j ∧ j < 1073741824) ∧ Q (.int (i / j)) H) := rfl
theorem e_pow {i j : Int} : rPowF (.int i) (.int j) H Q = (CPow i j ∧ Q (.int (i ^ j.toNat)) H) := rfl
theorem e_sub {i j : Int} : rSubF (.int i) (.int j) H Q = Q (.int (i - j)) H := rfl
theorem e_iaddI {i j : Int} : rIAddF (.int i) (.int j) H Q = Q (.int (i + j)) H := rfl
theorem e_iaddS {a b : Str} : rIAddF (.str a) (.str b) H Q = (a.length + b.length ≤ big ∧ Q (.str (a ++ b)) H) := rfl
theorem e_imul {i j : Int} : rIMulF (.int i) (.int j) H Q = (CMul i j ∧ Q (.int (i * j)) H) := rfl
theorem e_setL {p : Addr} {k : Int} {P : Hp → Prop} : rSetF (.ref p) (.int k) v H P = onLst (H p) fun xs => ∃ j, ixN xs.length k = some j ∧ P (upd H p (.lst (xs.set j v))) := rfl
theorem e_app {p : Addr} {y : V} : rAppF (.ref p) [y] H Q = onLst (H p) fun xs => xs.length < big ∧ Q .non (upd H p (.lst (xs ++ [y]))) := rfl
theorem e_truF : tTruF ta σ H R = ta σ H fun x H1 => truF x H1 R := rfl
theorem e_truI {i : Int} : truF (.int i) H R = R (i != 0) H := rfl
theorem e_truB {b : Bool} : truF (.bl b) H R = R b H := rfl
theorem e_truN : truF .non H R = R false H := rfl
theorem e_truS {z : Str} : truF (.str z) H R = (z.length ≤ big ∧ R ((z.length : Int) != 0) H) := rfl
theorem e_truR {p : Addr} : truF (.ref p) H R = onIts (H p) fun xs => R (!xs.isEmpty) H := rfl
theorem e_iSeq : iSeqF K ta σ H W = ta σ H (kSeqF K W) := rfl
theorem e_kSeqS {z : Str} : kSeqF K W (.str z) H = W (Its z) H := rfl
theorem e_kSeqR {p : Addr} : kSeqF K W (.ref p) H = (seqO (H p) = true ∧ W (itO K p (H p)) H) := rfl
theorem e_seqOL {xs : List V} : seqO (some (.lst xs)) = true := rfl
theorem e_seqOT {xs : List V} : seqO (some (.tup xs)) = true := rfl
theorem e_itOL {xs : List V} {p : Addr} : itO K p (some (.lst xs)) = Itl K p := rfl
theorem e_itOT {xs : List V} {p : Addr} : itO K p (some (.tup xs)) = Itt K p := rfl
theorem e_at0 {α : Type} {a : α} {l : List α} : atI (a :: l) 0 = some a := by
  show atI (a :: l) ((0 : Nat) : Int) = some a
  exact atI_nat rfl
theorem e_at1 {α : Type} {a b : α} {l : List α} : atI (a :: b :: l) 1 = some b := by
  show atI (a :: b :: l) ((1 : Nat) : Int) = some b
  exact atI_nat rfl
theorem e_at2 {α : Type} {a b c : α} {l : List α} : atI (a :: b :: c :: l) 2 = some c := by
  show atI (a :: b :: c :: l) ((2 : Nat) : Int) = some c
  exact atI_nat rfl
theorem e_at3 {α : Type} {a b c d : α} {l : List α} : atI (a :: b :: c :: d :: l) 3 = some d := by
  show atI (a :: b :: c :: d :: l) ((3 : Nat) : Int) = some d
  exact atI_nat rfl
theorem e_ex1 {α : Type} {a : α} {P : α → Prop} : (∃ v, some a = some v ∧ P v) = P a := propext ⟨fun ⟨_, e, h⟩ => by cases e; exact h, fun h => ⟨a, rfl, h⟩⟩
theorem ixN_nat {n j : Nat} (h : j < n) : ixN n (j : Int) = some j := by
  unfold ixN
  rw [if_pos (by omega), if_pos (by omega)]
  simp
theorem e_ixN0 {a : V} {l : List V} : ixN (a :: l).length 0 = some 0 := ixN_nat (j := 0) (by simp)
theorem e_ixN1 {a b : V} {l : List V} : ixN (a :: b :: l).length 1 = some 1 := ixN_nat (j := 1) (by simp)
theorem e_updS {a : Addr} {o : HO} : upd H a o a = some o := upd_same
theorem e_updU {a : Addr} {o u : HO} : upd (upd H a o) a u = upd H a u := upd_upd
theorem e_lset0 {a : V} {l : List V} : (a :: l).set 0 v = v :: l := rfl
theorem e_lset1 {a b : V} {l : List V} : (a :: b :: l).set 1 v = a :: v :: l := rfl
end

/-! ### what is new, by a name of its own -/
def newO (H : Hp) (o : HO) (Q : VK) : Prop := ∀ l, H l = none → Q (.ref l) (upd H l o)
theorem newO.go {H : Hp} {o : HO} {Q : VK} (t : flatU o) (h : ∀ l H', H l = none → H' l = some o → (∀ a, (H a).isSome = true → H' a = H a) → (∀ b, (H b).isSome = true → ¬ b = l) → (∀ b, (H b).isSome = true → ¬ l = b) → Same H H' → (Whole H → Whole H') → Q (.ref l) H') : newO H o Q :=
  fun l hl => h l _ hl upd_same (fun a e => h_old hl e) (fun b e k => by rw [k, hl] at e; cases e) (fun b e k => by rw [← k, hl] at e; cases e) (same_upd hl) fun W => W.new hl t
theorem newT.go {H : Hp} {xs : List V} {Q : VK} (h : ∀ l H', H' l = some (.tup xs) → (∀ a, (H a).isSome = true → H' a = H a) → (∀ b, mutO (H b) = true → ¬ l = b) → (∀ b, mutO (H b) = true → ¬ b = l) → Same H H' → (Whole H → Whole H') → Q (.ref l) H') : newT H xs Q :=
  fun l H' e f m s w => h l H' e f m (fun b k n => m b k n.symm) s w
theorem But.f {b : Addr} {H H' : Hp} (h : But b H H') : ∀ a, ¬ a = b → (H a).isSome = true → H' a = H a := fun a n e => by
  cases k : H a with
  | none => rw [k] at e; cases e
  | some o => exact h a o n k
section
variable {σ : L2.St} {H : Hp} {Q : VK} {vs : List V}
theorem g_kLst : kLst Q vs H = (vs.length ≤ sizeLine ∧ newO H (.lst vs) Q) := rfl
theorem g_kTup : kTup Q vs H = (vs.length ≤ sizeLine ∧ newO H (.tup vs) Q) := rfl
theorem g_addR {p q : Addr} : rAddF (.ref p) (.ref q) H Q = onSeq (H p)
      (fun xs => onLst (H q) fun ys => xs.length + ys.length ≤ big ∧ newO H (.lst (xs ++ ys)) Q)
      (fun xs => onTup (H q) fun ys => xs.length + ys.length ≤ big ∧ newT H (xs ++ ys) Q) := rfl
theorem g_slR {p : Addr} {lo hi : Option Int} : rSlF (.ref p) lo hi H Q = onSeq (H p) (fun xs => newO H (.lst (cutV xs lo hi)) Q) fun xs => newT H (cutV xs lo hi) Q := rfl
theorem g_tupR {p : Addr} : rTupF [.ref p] H Q = onSeq (H p) (fun xs => newO H (.tup xs) Q) fun _ => Q (.ref p) H := rfl
theorem g_listR {p : Addr} : rListF [.ref p] H Q = onIts (H p) fun xs => newO H (.lst xs) Q := rfl
end
section
variable {v : V} {H : Hp} {Q : VK} {R : L2.St → Hp → Prop} {σ : L2.St}
theorem w_var0 (h : Q v H) : tVar 0 (some v :: σ) H Q := ⟨v, rfl, h⟩
theorem w_set0 {b : Option V} (h : R (some v :: σ) H) : gName 0 v (b :: σ) H R := h
theorem w_var1 {a0 : Option V} (h : Q v H) : tVar 1 (a0 :: some v :: σ) H Q := ⟨v, rfl, h⟩
theorem w_set1 {a0 : Option V} {b : Option V} (h : R (a0 :: some v :: σ) H) : gName 1 v (a0 :: b :: σ) H R := h
theorem w_var2 {a0 a1 : Option V} (h : Q v H) : tVar 2 (a0 :: a1 :: some v :: σ) H Q := ⟨v, rfl, h⟩
theorem w_set2 {a0 a1 : Option V} {b : Option V} (h : R (a0 :: a1 :: some v :: σ) H) : gName 2 v (a0 :: a1 :: b :: σ) H R := h
theorem w_var3 {a0 a1 a2 : Option V} (h : Q v H) : tVar 3 (a0 :: a1 :: a2 :: some v :: σ) H Q := ⟨v, rfl, h⟩
theorem w_set3 {a0 a1 a2 : Option V} {b : Option V} (h : R (a0 :: a1 :: a2 :: some v :: σ) H) : gName 3 v (a0 :: a1 :: a2 :: b :: σ) H R := h
theorem w_var4 {a0 a1 a2 a3 : Option V} (h : Q v H) : tVar 4 (a0 :: a1 :: a2 :: a3 :: some v :: σ) H Q := ⟨v, rfl, h⟩
theorem w_set4 {a0 a1 a2 a3 : Option V} {b : Option V} (h : R (a0 :: a1 :: a2 :: a3 :: some v :: σ) H) : gName 4 v (a0 :: a1 :: a2 :: a3 :: b :: σ) H R := h
theorem w_var5 {a0 a1 a2 a3 a4 : Option V} (h : Q v H) : tVar 5 (a0 :: a1 :: a2 :: a3 :: a4 :: some v :: σ) H Q := ⟨v, rfl, h⟩
theorem w_set5 {a0 a1 a2 a3 a4 : Option V} {b : Option V} (h : R (a0 :: a1 :: a2 :: a3 :: a4 :: some v :: σ) H) : gName 5 v (a0 :: a1 :: a2 :: a3 :: a4 :: b :: σ) H R := h
theorem w_var6 {a0 a1 a2 a3 a4 a5 : Option V} (h : Q v H) : tVar 6 (a0 :: a1 :: a2 :: a3 :: a4 :: a5 :: some v :: σ) H Q := ⟨v, rfl, h⟩
theorem w_set6 {a0 a1 a2 a3 a4 a5 : Option V} {b : Option V} (h : R (a0 :: a1 :: a2 :: a3 :: a4 :: a5 :: some v :: σ) H) : gName 6 v (a0 :: a1 :: a2 :: a3 :: a4 :: a5 :: b :: σ) H R := h
theorem w_var7 {a0 a1 a2 a3 a4 a5 a6 : Option V} (h : Q v H) : tVar 7 (a0 :: a1 :: a2 :: a3 :: a4 :: a5 :: a6 :: some v :: σ) H Q := ⟨v, rfl, h⟩
theorem w_set7 {a0 a1 a2 a3 a4 a5 a6 : Option V} {b : Option V} (h : R (a0 :: a1 :: a2 :: a3 :: a4 :: a5 :: a6 :: some v :: σ) H) : gName 7 v (a0 :: a1 :: a2 :: a3 :: a4 :: a5 :: a6 :: b :: σ) H R := h
theorem w_var8 {a0 a1 a2 a3 a4 a5 a6 a7 : Option V} (h : Q v H) : tVar 8 (a0 :: a1 :: a2 :: a3 :: a4 :: a5 :: a6 :: a7 :: some v :: σ) H Q := ⟨v, rfl, h⟩
theorem w_set8 {a0 a1 a2 a3 a4 a5 a6 a7 : Option V} {b : Option V} (h : R (a0 :: a1 :: a2 :: a3 :: a4 :: a5 :: a6 :: a7 :: some v :: σ) H) : gName 8 v (a0 :: a1 :: a2 :: a3 :: a4 :: a5 :: a6 :: a7 :: b :: σ) H R := h
theorem w_var9 {a0 a1 a2 a3 a4 a5 a6 a7 a8 : Option V} (h : Q v H) : tVar 9 (a0 :: a1 :: a2 :: a3 :: a4 :: a5 :: a6 :: a7 :: a8 :: some v :: σ) H Q := ⟨v, rfl, h⟩
theorem w_set9 {a0 a1 a2 a3 a4 a5 a6 a7 a8 : Option V} {b : Option V} (h : R (a0 :: a1 :: a2 :: a3 :: a4 :: a5 :: a6 :: a7 :: a8 :: some v :: σ) H) : gName 9 v (a0 :: a1 :: a2 :: a3 :: a4 :: a5 :: a6 :: a7 :: a8 :: b :: σ) H R := h
theorem w_var10 {a0 a1 a2 a3 a4 a5 a6 a7 a8 a9 : Option V} (h : Q v H) : tVar 10 (a0 :: a1 :: a2 :: a3 :: a4 :: a5 :: a6 :: a7 :: a8 :: a9 :: some v :: σ) H Q := ⟨v, rfl, h⟩
theorem w_set10 {a0 a1 a2 a3 a4 a5 a6 a7 a8 a9 : Option V} {b : Option V} (h : R (a0 :: a1 :: a2 :: a3 :: a4 :: a5 :: a6 :: a7 :: a8 :: a9 :: some v :: σ) H) : gName 10 v (a0 :: a1 :: a2 :: a3 :: a4 :: a5 :: a6 :: a7 :: a8 :: a9 :: b :: σ) H R := h
theorem w_var11 {a0 a1 a2 a3 a4 a5 a6 a7 a8 a9 a10 : Option V} (h : Q v H) : tVar 11 (a0 :: a1 :: a2 :: a3 :: a4 :: a5 :: a6 :: a7 :: a8 :: a9 :: a10 :: some v :: σ) H Q := ⟨v, rfl, h⟩
theorem w_set11 {a0 a1 a2 a3 a4 a5 a6 a7 a8 a9 a10 : Option V} {b : Option V} (h : R (a0 :: a1 :: a2 :: a3 :: a4 :: a5 :: a6 :: a7 :: a8 :: a9 :: a10 :: some v :: σ) H) : gName 11 v (a0 :: a1 :: a2 :: a3 :: a4 :: a5 :: a6 :: a7 :: a8 :: a9 :: a10 :: b :: σ) H R := h
theorem w_var12 {a0 a1 a2 a3 a4 a5 a6 a7 a8 a9 a10 a11 : Option V} (h : Q v H) : tVar 12 (a0 :: a1 :: a2 :: a3 :: a4 :: a5 :: a6 :: a7 :: a8 :: a9 :: a10 :: a11 :: some v :: σ) H Q := ⟨v, rfl, h⟩
theorem w_set12 {a0 a1 a2 a3 a4 a5 a6 a7 a8 a9 a10 a11 : Option V} {b : Option V} (h : R (a0 :: a1 :: a2 :: a3 :: a4 :: a5 :: a6 :: a7 :: a8 :: a9 :: a10 :: a11 :: some v :: σ) H) : gName 12 v (a0 :: a1 :: a2 :: a3 :: a4 :: a5 :: a6 :: a7 :: a8 :: a9 :: a10 :: a11 :: b :: σ) H R := h
theorem w_var13 {a0 a1 a2 a3 a4 a5 a6 a7 a8 a9 a10 a11 a12 : Option V} (h : Q v H) : tVar 13 (a0 :: a1 :: a2 :: a3 :: a4 :: a5 :: a6 :: a7 :: a8 :: a9 :: a10 :: a11 :: a12 :: some v :: σ) H Q := ⟨v, rfl, h⟩
theorem w_set13 {a0 a1 a2 a3 a4 a5 a6 a7 a8 a9 a10 a11 a12 : Option V} {b : Option V} (h : R (a0 :: a1 :: a2 :: a3 :: a4 :: a5 :: a6 :: a7 :: a8 :: a9 :: a10 :: a11 :: a12 :: some v :: σ) H) : gName 13 v (a0 :: a1 :: a2 :: a3 :: a4 :: a5 :: a6 :: a7 :: a8 :: a9 :: a10 :: a11 :: a12 :: b :: σ) H R := h
theorem w_var14 {a0 a1 a2 a3 a4 a5 a6 a7 a8 a9 a10 a11 a12 a13 : Option V} (h : Q v H) : tVar 14 (a0 :: a1 :: a2 :: a3 :: a4 :: a5 :: a6 :: a7 :: a8 :: a9 :: a10 :: a11 :: a12 :: a13 :: some v :: σ) H Q := ⟨v, rfl, h⟩
theorem w_set14 {a0 a1 a2 a3 a4 a5 a6 a7 a8 a9 a10 a11 a12 a13 : Option V} {b : Option V} (h : R (a0 :: a1 :: a2 :: a3 :: a4 :: a5 :: a6 :: a7 :: a8 :: a9 :: a10 :: a11 :: a12 :: a13 :: some v :: σ) H) : gName 14 v (a0 :: a1 :: a2 :: a3 :: a4 :: a5 :: a6 :: a7 :: a8 :: a9 :: a10 :: a11 :: a12 :: a13 :: b :: σ) H R := h
theorem w_var15 {a0 a1 a2 a3 a4 a5 a6 a7 a8 a9 a10 a11 a12 a13 a14 : Option V} (h : Q v H) : tVar 15 (a0 :: a1 :: a2 :: a3 :: a4 :: a5 :: a6 :: a7 :: a8 :: a9 :: a10 :: a11 :: a12 :: a13 :: a14 :: some v :: σ) H Q := ⟨v, rfl, h⟩
theorem w_set15 {a0 a1 a2 a3 a4 a5 a6 a7 a8 a9 a10 a11 a12 a13 a14 : Option V} {b : Option V} (h : R (a0 :: a1 :: a2 :: a3 :: a4 :: a5 :: a6 :: a7 :: a8 :: a9 :: a10 :: a11 :: a12 :: a13 :: a14 :: some v :: σ) H) : gName 15 v (a0 :: a1 :: a2 :: a3 :: a4 :: a5 :: a6 :: a7 :: a8 :: a9 :: a10 :: a11 :: a12 :: a13 :: a14 :: b :: σ) H R := h
theorem w_var16 {a0 a1 a2 a3 a4 a5 a6 a7 a8 a9 a10 a11 a12 a13 a14 a15 : Option V} (h : Q v H) : tVar 16 (a0 :: a1 :: a2 :: a3 :: a4 :: a5 :: a6 :: a7 :: a8 :: a9 :: a10 :: a11 :: a12 :: a13 :: a14 :: a15 :: some v :: σ) H Q := ⟨v, rfl, h⟩
theorem w_set16 {a0 a1 a2 a3 a4 a5 a6 a7 a8 a9 a10 a11 a12 a13 a14 a15 : Option V} {b : Option V} (h : R (a0 :: a1 :: a2 :: a3 :: a4 :: a5 :: a6 :: a7 :: a8 :: a9 :: a10 :: a11 :: a12 :: a13 :: a14 :: a15 :: some v :: σ) H) : gName 16 v (a0 :: a1 :: a2 :: a3 :: a4 :: a5 :: a6 :: a7 :: a8 :: a9 :: a10 :: a11 :: a12 :: a13 :: a14 :: a15 :: b :: σ) H R := h
theorem w_var17 {a0 a1 a2 a3 a4 a5 a6 a7 a8 a9 a10 a11 a12 a13 a14 a15 a16 : Option V} (h : Q v H) : tVar 17 (a0 :: a1 :: a2 :: a3 :: a4 :: a5 :: a6 :: a7 :: a8 :: a9 :: a10 :: a11 :: a12 :: a13 :: a14 :: a15 :: a16 :: some v :: σ) H Q := ⟨v, rfl, h⟩
theorem w_set17 {a0 a1 a2 a3 a4 a5 a6 a7 a8 a9 a10 a11 a12 a13 a14 a15 a16 : Option V} {b : Option V} (h : R (a0 :: a1 :: a2 :: a3 :: a4 :: a5 :: a6 :: a7 :: a8 :: a9 :: a10 :: a11 :: a12 :: a13 :: a14 :: a15 :: a16 :: some v :: σ) H) : gName 17 v (a0 :: a1 :: a2 :: a3 :: a4 :: a5 :: a6 :: a7 :: a8 :: a9 :: a10 :: a11 :: a12 :: a13 :: a14 :: a15 :: a16 :: b :: σ) H R := h
theorem w_var18 {a0 a1 a2 a3 a4 a5 a6 a7 a8 a9 a10 a11 a12 a13 a14 a15 a16 a17 : Option V} (h : Q v H) : tVar 18 (a0 :: a1 :: a2 :: a3 :: a4 :: a5 :: a6 :: a7 :: a8 :: a9 :: a10 :: a11 :: a12 :: a13 :: a14 :: a15 :: a16 :: a17 :: some v :: σ) H Q := ⟨v, rfl, h⟩
theorem w_set18 {a0 a1 a2 a3 a4 a5 a6 a7 a8 a9 a10 a11 a12 a13 a14 a15 a16 a17 : Option V} {b : Option V} (h : R (a0 :: a1 :: a2 :: a3 :: a4 :: a5 :: a6 :: a7 :: a8 :: a9 :: a10 :: a11 :: a12 :: a13 :: a14 :: a15 :: a16 :: a17 :: some v :: σ) H) : gName 18 v (a0 :: a1 :: a2 :: a3 :: a4 :: a5 :: a6 :: a7 :: a8 :: a9 :: a10 :: a11 :: a12 :: a13 :: a14 :: a15 :: a16 :: a17 :: b :: σ) H R := h
theorem w_var19 {a0 a1 a2 a3 a4 a5 a6 a7 a8 a9 a10 a11 a12 a13 a14 a15 a16 a17 a18 : Option V} (h : Q v H) : tVar 19 (a0 :: a1 :: a2 :: a3 :: a4 :: a5 :: a6 :: a7 :: a8 :: a9 :: a10 :: a11 :: a12 :: a13 :: a14 :: a15 :: a16 :: a17 :: a18 :: some v :: σ) H Q := ⟨v, rfl, h⟩
theorem w_set19 {a0 a1 a2 a3 a4 a5 a6 a7 a8 a9 a10 a11 a12 a13 a14 a15 a16 a17 a18 : Option V} {b : Option V} (h : R (a0 :: a1 :: a2 :: a3 :: a4 :: a5 :: a6 :: a7 :: a8 :: a9 :: a10 :: a11 :: a12 :: a13 :: a14 :: a15 :: a16 :: a17 :: a18 :: some v :: σ) H) : gName 19 v (a0 :: a1 :: a2 :: a3 :: a4 :: a5 :: a6 :: a7 :: a8 :: a9 :: a10 :: a11 :: a12 :: a13 :: a14 :: a15 :: a16 :: a17 :: a18 :: b :: σ) H R := h
theorem w_var20 {a0 a1 a2 a3 a4 a5 a6 a7 a8 a9 a10 a11 a12 a13 a14 a15 a16 a17 a18 a19 : Option V} (h : Q v H) : tVar 20 (a0 :: a1 :: a2 :: a3 :: a4 :: a5 :: a6 :: a7 :: a8 :: a9 :: a10 :: a11 :: a12 :: a13 :: a14 :: a15 :: a16 :: a17 :: a18 :: a19 :: some v :: σ) H Q := ⟨v, rfl, h⟩
theorem w_set20 {a0 a1 a2 a3 a4 a5 a6 a7 a8 a9 a10 a11 a12 a13 a14 a15 a16 a17 a18 a19 : Option V} {b : Option V} (h : R (a0 :: a1 :: a2 :: a3 :: a4 :: a5 :: a6 :: a7 :: a8 :: a9 :: a10 :: a11 :: a12 :: a13 :: a14 :: a15 :: a16 :: a17 :: a18 :: a19 :: some v :: σ) H) : gName 20 v (a0 :: a1 :: a2 :: a3 :: a4 :: a5 :: a6 :: a7 :: a8 :: a9 :: a10 :: a11 :: a12 :: a13 :: a14 :: a15 :: a16 :: a17 :: a18 :: a19 :: b :: σ) H R := h
theorem w_var21 {a0 a1 a2 a3 a4 a5 a6 a7 a8 a9 a10 a11 a12 a13 a14 a15 a16 a17 a18 a19 a20 : Option V} (h : Q v H) : tVar 21 (a0 :: a1 :: a2 :: a3 :: a4 :: a5 :: a6 :: a7 :: a8 :: a9 :: a10 :: a11 :: a12 :: a13 :: a14 :: a15 :: a16 :: a17 :: a18 :: a19 :: a20 :: some v :: σ) H Q := ⟨v, rfl, h⟩
theorem w_set21 {a0 a1 a2 a3 a4 a5 a6 a7 a8 a9 a10 a11 a12 a13 a14 a15 a16 a17 a18 a19 a20 : Option V} {b : Option V} (h : R (a0 :: a1 :: a2 :: a3 :: a4 :: a5 :: a6 :: a7 :: a8 :: a9 :: a10 :: a11 :: a12 :: a13 :: a14 :: a15 :: a16 :: a17 :: a18 :: a19 :: a20 :: some v :: σ) H) : gName 21 v (a0 :: a1 :: a2 :: a3 :: a4 :: a5 :: a6 :: a7 :: a8 :: a9 :: a10 :: a11 :: a12 :: a13 :: a14 :: a15 :: a16 :: a17 :: a18 :: a19 :: a20 :: b :: σ) H R := h
theorem w_var22 {a0 a1 a2 a3 a4 a5 a6 a7 a8 a9 a10 a11 a12 a13 a14 a15 a16 a17 a18 a19 a20 a21 : Option V} (h : Q v H) : tVar 22 (a0 :: a1 :: a2 :: a3 :: a4 :: a5 :: a6 :: a7 :: a8 :: a9 :: a10 :: a11 :: a12 :: a13 :: a14 :: a15 :: a16 :: a17 :: a18 :: a19 :: a20 :: a21 :: some v :: σ) H Q := ⟨v, rfl, h⟩
theorem w_set22 {a0 a1 a2 a3 a4 a5 a6 a7 a8 a9 a10 a11 a12 a13 a14 a15 a16 a17 a18 a19 a20 a21 : Option V} {b : Option V} (h : R (a0 :: a1 :: a2 :: a3 :: a4 :: a5 :: a6 :: a7 :: a8 :: a9 :: a10 :: a11 :: a12 :: a13 :: a14 :: a15 :: a16 :: a17 :: a18 :: a19 :: a20 :: a21 :: some v :: σ) H) : gName 22 v (a0 :: a1 :: a2 :: a3 :: a4 :: a5 :: a6 :: a7 :: a8 :: a9 :: a10 :: a11 :: a12 :: a13 :: a14 :: a15 :: a16 :: a17 :: a18 :: a19 :: a20 :: a21 :: b :: σ) H R := h
theorem w_var23 {a0 a1 a2 a3 a4 a5 a6 a7 a8 a9 a10 a11 a12 a13 a14 a15 a16 a17 a18 a19 a20 a21 a22 : Option V} (h : Q v H) : tVar 23 (a0 :: a1 :: a2 :: a3 :: a4 :: a5 :: a6 :: a7 :: a8 :: a9 :: a10 :: a11 :: a12 :: a13 :: a14 :: a15 :: a16 :: a17 :: a18 :: a19 :: a20 :: a21 :: a22 :: some v :: σ) H Q := ⟨v, rfl, h⟩
theorem w_set23 {a0 a1 a2 a3 a4 a5 a6 a7 a8 a9 a10 a11 a12 a13 a14 a15 a16 a17 a18 a19 a20 a21 a22 : Option V} {b : Option V} (h : R (a0 :: a1 :: a2 :: a3 :: a4 :: a5 :: a6 :: a7 :: a8 :: a9 :: a10 :: a11 :: a12 :: a13 :: a14 :: a15 :: a16 :: a17 :: a18 :: a19 :: a20 :: a21 :: a22 :: some v :: σ) H) : gName 23 v (a0 :: a1 :: a2 :: a3 :: a4 :: a5 :: a6 :: a7 :: a8 :: a9 :: a10 :: a11 :: a12 :: a13 :: a14 :: a15 :: a16 :: a17 :: a18 :: a19 :: a20 :: a21 :: a22 :: b :: σ) H R := h
theorem w_var24 {a0 a1 a2 a3 a4 a5 a6 a7 a8 a9 a10 a11 a12 a13 a14 a15 a16 a17 a18 a19 a20 a21 a22 a23 : Option V} (h : Q v H) : tVar 24 (a0 :: a1 :: a2 :: a3 :: a4 :: a5 :: a6 :: a7 :: a8 :: a9 :: a10 :: a11 :: a12 :: a13 :: a14 :: a15 :: a16 :: a17 :: a18 :: a19 :: a20 :: a21 :: a22 :: a23 :: some v :: σ) H Q := ⟨v, rfl, h⟩
theorem w_set24 {a0 a1 a2 a3 a4 a5 a6 a7 a8 a9 a10 a11 a12 a13 a14 a15 a16 a17 a18 a19 a20 a21 a22 a23 : Option V} {b : Option V} (h : R (a0 :: a1 :: a2 :: a3 :: a4 :: a5 :: a6 :: a7 :: a8 :: a9 :: a10 :: a11 :: a12 :: a13 :: a14 :: a15 :: a16 :: a17 :: a18 :: a19 :: a20 :: a21 :: a22 :: a23 :: some v :: σ) H) : gName 24 v (a0 :: a1 :: a2 :: a3 :: a4 :: a5 :: a6 :: a7 :: a8 :: a9 :: a10 :: a11 :: a12 :: a13 :: a14 :: a15 :: a16 :: a17 :: a18 :: a19 :: a20 :: a21 :: a22 :: a23 :: b :: σ) H R := h
theorem w_var25 {a0 a1 a2 a3 a4 a5 a6 a7 a8 a9 a10 a11 a12 a13 a14 a15 a16 a17 a18 a19 a20 a21 a22 a23 a24 : Option V} (h : Q v H) : tVar 25 (a0 :: a1 :: a2 :: a3 :: a4 :: a5 :: a6 :: a7 :: a8 :: a9 :: a10 :: a11 :: a12 :: a13 :: a14 :: a15 :: a16 :: a17 :: a18 :: a19 :: a20 :: a21 :: a22 :: a23 :: a24 :: some v :: σ) H Q := ⟨v, rfl, h⟩
theorem w_set25 {a0 a1 a2 a3 a4 a5 a6 a7 a8 a9 a10 a11 a12 a13 a14 a15 a16 a17 a18 a19 a20 a21 a22 a23 a24 : Option V} {b : Option V} (h : R (a0 :: a1 :: a2 :: a3 :: a4 :: a5 :: a6 :: a7 :: a8 :: a9 :: a10 :: a11 :: a12 :: a13 :: a14 :: a15 :: a16 :: a17 :: a18 :: a19 :: a20 :: a21 :: a22 :: a23 :: a24 :: some v :: σ) H) : gName 25 v (a0 :: a1 :: a2 :: a3 :: a4 :: a5 :: a6 :: a7 :: a8 :: a9 :: a10 :: a11 :: a12 :: a13 :: a14 :: a15 :: a16 :: a17 :: a18 :: a19 :: a20 :: a21 :: a22 :: a23 :: a24 :: b :: σ) H R := h
theorem w_var26 {a0 a1 a2 a3 a4 a5 a6 a7 a8 a9 a10 a11 a12 a13 a14 a15 a16 a17 a18 a19 a20 a21 a22 a23 a24 a25 : Option V} (h : Q v H) : tVar 26 (a0 :: a1 :: a2 :: a3 :: a4 :: a5 :: a6 :: a7 :: a8 :: a9 :: a10 :: a11 :: a12 :: a13 :: a14 :: a15 :: a16 :: a17 :: a18 :: a19 :: a20 :: a21 :: a22 :: a23 :: a24 :: a25 :: some v :: σ) H Q := ⟨v, rfl, h⟩
theorem w_set26 {a0 a1 a2 a3 a4 a5 a6 a7 a8 a9 a10 a11 a12 a13 a14 a15 a16 a17 a18 a19 a20 a21 a22 a23 a24 a25 : Option V} {b : Option V} (h : R (a0 :: a1 :: a2 :: a3 :: a4 :: a5 :: a6 :: a7 :: a8 :: a9 :: a10 :: a11 :: a12 :: a13 :: a14 :: a15 :: a16 :: a17 :: a18 :: a19 :: a20 :: a21 :: a22 :: a23 :: a24 :: a25 :: some v :: σ) H) : gName 26 v (a0 :: a1 :: a2 :: a3 :: a4 :: a5 :: a6 :: a7 :: a8 :: a9 :: a10 :: a11 :: a12 :: a13 :: a14 :: a15 :: a16 :: a17 :: a18 :: a19 :: a20 :: a21 :: a22 :: a23 :: a24 :: a25 :: b :: σ) H R := h
theorem w_var27 {a0 a1 a2 a3 a4 a5 a6 a7 a8 a9 a10 a11 a12 a13 a14 a15 a16 a17 a18 a19 a20 a21 a22 a23 a24 a25 a26 : Option V} (h : Q v H) : tVar 27 (a0 :: a1 :: a2 :: a3 :: a4 :: a5 :: a6 :: a7 :: a8 :: a9 :: a10 :: a11 :: a12 :: a13 :: a14 :: a15 :: a16 :: a17 :: a18 :: a19 :: a20 :: a21 :: a22 :: a23 :: a24 :: a25 :: a26 :: some v :: σ) H Q := ⟨v, rfl, h⟩
theorem w_set27 {a0 a1 a2 a3 a4 a5 a6 a7 a8 a9 a10 a11 a12 a13 a14 a15 a16 a17 a18 a19 a20 a21 a22 a23 a24 a25 a26 : Option V} {b : Option V} (h : R (a0 :: a1 :: a2 :: a3 :: a4 :: a5 :: a6 :: a7 :: a8 :: a9 :: a10 :: a11 :: a12 :: a13 :: a14 :: a15 :: a16 :: a17 :: a18 :: a19 :: a20 :: a21 :: a22 :: a23 :: a24 :: a25 :: a26 :: some v :: σ) H) : gName 27 v (a0 :: a1 :: a2 :: a3 :: a4 :: a5 :: a6 :: a7 :: a8 :: a9 :: a10 :: a11 :: a12 :: a13 :: a14 :: a15 :: a16 :: a17 :: a18 :: a19 :: a20 :: a21 :: a22 :: a23 :: a24 :: a25 :: a26 :: b :: σ) H R := h
theorem w_var28 {a0 a1 a2 a3 a4 a5 a6 a7 a8 a9 a10 a11 a12 a13 a14 a15 a16 a17 a18 a19 a20 a21 a22 a23 a24 a25 a26 a27 : Option V} (h : Q v H) : tVar 28 (a0 :: a1 :: a2 :: a3 :: a4 :: a5 :: a6 :: a7 :: a8 :: a9 :: a10 :: a11 :: a12 :: a13 :: a14 :: a15 :: a16 :: a17 :: a18 :: a19 :: a20 :: a21 :: a22 :: a23 :: a24 :: a25 :: a26 :: a27 :: some v :: σ) H Q := ⟨v, rfl, h⟩
theorem w_set28 {a0 a1 a2 a3 a4 a5 a6 a7 a8 a9 a10 a11 a12 a13 a14 a15 a16 a17 a18 a19 a20 a21 a22 a23 a24 a25 a26 a27 : Option V} {b : Option V} (h : R (a0 :: a1 :: a2 :: a3 :: a4 :: a5 :: a6 :: a7 :: a8 :: a9 :: a10 :: a11 :: a12 :: a13 :: a14 :: a15 :: a16 :: a17 :: a18 :: a19 :: a20 :: a21 :: a22 :: a23 :: a24 :: a25 :: a26 :: a27 :: some v :: σ) H) : gName 28 v (a0 :: a1 :: a2 :: a3 :: a4 :: a5 :: a6 :: a7 :: a8 :: a9 :: a10 :: a11 :: a12 :: a13 :: a14 :: a15 :: a16 :: a17 :: a18 :: a19 :: a20 :: a21 :: a22 :: a23 :: a24 :: a25 :: a26 :: a27 :: b :: σ) H R := h
theorem w_var29 {a0 a1 a2 a3 a4 a5 a6 a7 a8 a9 a10 a11 a12 a13 a14 a15 a16 a17 a18 a19 a20 a21 a22 a23 a24 a25 a26 a27 a28 : Option V} (h : Q v H) : tVar 29 (a0 :: a1 :: a2 :: a3 :: a4 :: a5 :: a6 :: a7 :: a8 :: a9 :: a10 :: a11 :: a12 :: a13 :: a14 :: a15 :: a16 :: a17 :: a18 :: a19 :: a20 :: a21 :: a22 :: a23 :: a24 :: a25 :: a26 :: a27 :: a28 :: some v :: σ) H Q := ⟨v, rfl, h⟩
theorem w_set29 {a0 a1 a2 a3 a4 a5 a6 a7 a8 a9 a10 a11 a12 a13 a14 a15 a16 a17 a18 a19 a20 a21 a22 a23 a24 a25 a26 a27 a28 : Option V} {b : Option V} (h : R (a0 :: a1 :: a2 :: a3 :: a4 :: a5 :: a6 :: a7 :: a8 :: a9 :: a10 :: a11 :: a12 :: a13 :: a14 :: a15 :: a16 :: a17 :: a18 :: a19 :: a20 :: a21 :: a22 :: a23 :: a24 :: a25 :: a26 :: a27 :: a28 :: some v :: σ) H) : gName 29 v (a0 :: a1 :: a2 :: a3 :: a4 :: a5 :: a6 :: a7 :: a8 :: a9 :: a10 :: a11 :: a12 :: a13 :: a14 :: a15 :: a16 :: a17 :: a18 :: a19 :: a20 :: a21 :: a22 :: a23 :: a24 :: a25 :: a26 :: a27 :: a28 :: b :: σ) H R := h
theorem w_var30 {a0 a1 a2 a3 a4 a5 a6 a7 a8 a9 a10 a11 a12 a13 a14 a15 a16 a17 a18 a19 a20 a21 a22 a23 a24 a25 a26 a27 a28 a29 : Option V} (h : Q v H) : tVar 30 (a0 :: a1 :: a2 :: a3 :: a4 :: a5 :: a6 :: a7 :: a8 :: a9 :: a10 :: a11 :: a12 :: a13 :: a14 :: a15 :: a16 :: a17 :: a18 :: a19 :: a20 :: a21 :: a22 :: a23 :: a24 :: a25 :: a26 :: a27 :: a28 :: a29 :: some v :: σ) H Q := ⟨v, rfl, h⟩
theorem w_set30 {a0 a1 a2 a3 a4 a5 a6 a7 a8 a9 a10 a11 a12 a13 a14 a15 a16 a17 a18 a19 a20 a21 a22 a23 a24 a25 a26 a27 a28 a29 : Option V} {b : Option V} (h : R (a0 :: a1 :: a2 :: a3 :: a4 :: a5 :: a6 :: a7 :: a8 :: a9 :: a10 :: a11 :: a12 :: a13 :: a14 :: a15 :: a16 :: a17 :: a18 :: a19 :: a20 :: a21 :: a22 :: a23 :: a24 :: a25 :: a26 :: a27 :: a28 :: a29 :: some v :: σ) H) : gName 30 v (a0 :: a1 :: a2 :: a3 :: a4 :: a5 :: a6 :: a7 :: a8 :: a9 :: a10 :: a11 :: a12 :: a13 :: a14 :: a15 :: a16 :: a17 :: a18 :: a19 :: a20 :: a21 :: a22 :: a23 :: a24 :: a25 :: a26 :: a27 :: a28 :: a29 :: b :: σ) H R := h
theorem w_var31 {a0 a1 a2 a3 a4 a5 a6 a7 a8 a9 a10 a11 a12 a13 a14 a15 a16 a17 a18 a19 a20 a21 a22 a23 a24 a25 a26 a27 a28 a29 a30 : Option V} (h : Q v H) : tVar 31 (a0 :: a1 :: a2 :: a3 :: a4 :: a5 :: a6 :: a7 :: a8 :: a9 :: a10 :: a11 :: a12 :: a13 :: a14 :: a15 :: a16 :: a17 :: a18 :: a19 :: a20 :: a21 :: a22 :: a23 :: a24 :: a25 :: a26 :: a27 :: a28 :: a29 :: a30 :: some v :: σ) H Q := ⟨v, rfl, h⟩
theorem w_set31 {a0 a1 a2 a3 a4 a5 a6 a7 a8 a9 a10 a11 a12 a13 a14 a15 a16 a17 a18 a19 a20 a21 a22 a23 a24 a25 a26 a27 a28 a29 a30 : Option V} {b : Option V} (h : R (a0 :: a1 :: a2 :: a3 :: a4 :: a5 :: a6 :: a7 :: a8 :: a9 :: a10 :: a11 :: a12 :: a13 :: a14 :: a15 :: a16 :: a17 :: a18 :: a19 :: a20 :: a21 :: a22 :: a23 :: a24 :: a25 :: a26 :: a27 :: a28 :: a29 :: a30 :: some v :: σ) H) : gName 31 v (a0 :: a1 :: a2 :: a3 :: a4 :: a5 :: a6 :: a7 :: a8 :: a9 :: a10 :: a11 :: a12 :: a13 :: a14 :: a15 :: a16 :: a17 :: a18 :: a19 :: a20 :: a21 :: a22 :: a23 :: a24 :: a25 :: a26 :: a27 :: a28 :: a29 :: a30 :: b :: σ) H R := h
theorem w_var32 {a0 a1 a2 a3 a4 a5 a6 a7 a8 a9 a10 a11 a12 a13 a14 a15 a16 a17 a18 a19 a20 a21 a22 a23 a24 a25 a26 a27 a28 a29 a30 a31 : Option V} (h : Q v H) : tVar 32 (a0 :: a1 :: a2 :: a3 :: a4 :: a5 :: a6 :: a7 :: a8 :: a9 :: a10 :: a11 :: a12 :: a13 :: a14 :: a15 :: a16 :: a17 :: a18 :: a19 :: a20 :: a21 :: a22 :: a23 :: a24 :: a25 :: a26 :: a27 :: a28 :: a29 :: a30 :: a31 :: some v :: σ) H Q := ⟨v, rfl, h⟩
theorem w_set32 {a0 a1 a2 a3 a4 a5 a6 a7 a8 a9 a10 a11 a12 a13 a14 a15 a16 a17 a18 a19 a20 a21 a22 a23 a24 a25 a26 a27 a28 a29 a30 a31 : Option V} {b : Option V} (h : R (a0 :: a1 :: a2 :: a3 :: a4 :: a5 :: a6 :: a7 :: a8 :: a9 :: a10 :: a11 :: a12 :: a13 :: a14 :: a15 :: a16 :: a17 :: a18 :: a19 :: a20 :: a21 :: a22 :: a23 :: a24 :: a25 :: a26 :: a27 :: a28 :: a29 :: a30 :: a31 :: some v :: σ) H) : gName 32 v (a0 :: a1 :: a2 :: a3 :: a4 :: a5 :: a6 :: a7 :: a8 :: a9 :: a10 :: a11 :: a12 :: a13 :: a14 :: a15 :: a16 :: a17 :: a18 :: a19 :: a20 :: a21 :: a22 :: a23 :: a24 :: a25 :: a26 :: a27 :: a28 :: a29 :: a30 :: a31 :: b :: σ) H R := h
theorem w_var33 {a0 a1 a2 a3 a4 a5 a6 a7 a8 a9 a10 a11 a12 a13 a14 a15 a16 a17 a18 a19 a20 a21 a22 a23 a24 a25 a26 a27 a28 a29 a30 a31 a32 : Option V} (h : Q v H) : tVar 33 (a0 :: a1 :: a2 :: a3 :: a4 :: a5 :: a6 :: a7 :: a8 :: a9 :: a10 :: a11 :: a12 :: a13 :: a14 :: a15 :: a16 :: a17 :: a18 :: a19 :: a20 :: a21 :: a22 :: a23 :: a24 :: a25 :: a26 :: a27 :: a28 :: a29 :: a30 :: a31 :: a32 :: some v :: σ) H Q := ⟨v, rfl, h⟩
theorem w_set33 {a0 a1 a2 a3 a4 a5 a6 a7 a8 a9 a10 a11 a12 a13 a14 a15 a16 a17 a18 a19 a20 a21 a22 a23 a24 a25 a26 a27 a28 a29 a30 a31 a32 : Option V} {b : Option V} (h : R (a0 :: a1 :: a2 :: a3 :: a4 :: a5 :: a6 :: a7 :: a8 :: a9 :: a10 :: a11 :: a12 :: a13 :: a14 :: a15 :: a16 :: a17 :: a18 :: a19 :: a20 :: a21 :: a22 :: a23 :: a24 :: a25 :: a26 :: a27 :: a28 :: a29 :: a30 :: a31 :: a32 :: some v :: σ) H) : gName 33 v (a0 :: a1 :: a2 :: a3 :: a4 :: a5 :: a6 :: a7 :: a8 :: a9 :: a10 :: a11 :: a12 :: a13 :: a14 :: a15 :: a16 :: a17 :: a18 :: a19 :: a20 :: a21 :: a22 :: a23 :: a24 :: a25 :: a26 :: a27 :: a28 :: a29 :: a30 :: a31 :: a32 :: b :: σ) H R := h
theorem e_var0 : tVar 0 (some v :: σ) H Q = Q v H := propext ⟨fun ⟨_, e, h⟩ => by cases e; exact h, w_var0⟩
theorem e_set0 {b : Option V} : gName 0 v (b :: σ) H R = R (some v :: σ) H := rfl
theorem e_var1 {a0 : Option V} : tVar 1 (a0 :: some v :: σ) H Q = Q v H := propext ⟨fun ⟨_, e, h⟩ => by cases e; exact h, w_var1⟩
theorem e_set1 {a0 : Option V} {b : Option V} : gName 1 v (a0 :: b :: σ) H R = R (a0 :: some v :: σ) H := rfl
theorem e_var2 {a0 a1 : Option V} : tVar 2 (a0 :: a1 :: some v :: σ) H Q = Q v H := propext ⟨fun ⟨_, e, h⟩ => by cases e; exact h, w_var2⟩
theorem e_set2 {a0 a1 : Option V} {b : Option V} : gName 2 v (a0 :: a1 :: b :: σ) H R = R (a0 :: a1 :: some v :: σ) H := rfl
theorem e_var3 {a0 a1 a2 : Option V} : tVar 3 (a0 :: a1 :: a2 :: some v :: σ) H Q = Q v H := propext ⟨fun ⟨_, e, h⟩ => by cases e; exact h, w_var3⟩
theorem e_set3 {a0 a1 a2 : Option V} {b : Option V} : gName 3 v (a0 :: a1 :: a2 :: b :: σ) H R = R (a0 :: a1 :: a2 :: some v :: σ) H := rfl
theorem e_var4 {a0 a1 a2 a3 : Option V} : tVar 4 (a0 :: a1 :: a2 :: a3 :: some v :: σ) H Q = Q v H := propext ⟨fun ⟨_, e, h⟩ => by cases e; exact h, w_var4⟩
theorem e_set4 {a0 a1 a2 a3 : Option V} {b : Option V} : gName 4 v (a0 :: a1 :: a2 :: a3 :: b :: σ) H R = R (a0 :: a1 :: a2 :: a3 :: some v :: σ) H := rfl
theorem e_var5 {a0 a1 a2 a3 a4 : Option V} : tVar 5 (a0 :: a1 :: a2 :: a3 :: a4 :: some v :: σ) H Q = Q v H := propext ⟨fun ⟨_, e, h⟩ => by cases e; exact h, w_var5⟩
theorem e_set5 {a0 a1 a2 a3 a4 : Option V} {b : Option V} : gName 5 v (a0 :: a1 :: a2 :: a3 :: a4 :: b :: σ) H R = R (a0 :: a1 :: a2 :: a3 :: a4 :: some v :: σ) H := rfl
theorem e_var6 {a0 a1 a2 a3 a4 a5 : Option V} : tVar 6 (a0 :: a1 :: a2 :: a3 :: a4 :: a5 :: some v :: σ) H Q = Q v H := propext ⟨fun ⟨_, e, h⟩ => by cases e; exact h, w_var6⟩
theorem e_set6 {a0 a1 a2 a3 a4 a5 : Option V} {b : Option V} : gName 6 v (a0 :: a1 :: a2 :: a3 :: a4 :: a5 :: b :: σ) H R = R (a0 :: a1 :: a2 :: a3 :: a4 :: a5 :: some v :: σ) H := rfl
theorem e_var7 {a0 a1 a2 a3 a4 a5 a6 : Option V} : tVar 7 (a0 :: a1 :: a2 :: a3 :: a4 :: a5 :: a6 :: some v :: σ) H Q = Q v H := propext ⟨fun ⟨_, e, h⟩ => by cases e; exact h, w_var7⟩
theorem e_set7 {a0 a1 a2 a3 a4 a5 a6 : Option V} {b : Option V} : gName 7 v (a0 :: a1 :: a2 :: a3 :: a4 :: a5 :: a6 :: b :: σ) H R = R (a0 :: a1 :: a2 :: a3 :: a4 :: a5 :: a6 :: some v :: σ) H := rfl
theorem e_var8 {a0 a1 a2 a3 a4 a5 a6 a7 : Option V} : tVar 8 (a0 :: a1 :: a2 :: a3 :: a4 :: a5 :: a6 :: a7 :: some v :: σ) H Q = Q v H := propext ⟨fun ⟨_, e, h⟩ => by cases e; exact h, w_var8⟩
theorem e_set8 {a0 a1 a2 a3 a4 a5 a6 a7 : Option V} {b : Option V} : gName 8 v (a0 :: a1 :: a2 :: a3 :: a4 :: a5 :: a6 :: a7 :: b :: σ) H R = R (a0 :: a1 :: a2 :: a3 :: a4 :: a5 :: a6 :: a7 :: some v :: σ) H := rfl
theorem e_var9 {a0 a1 a2 a3 a4 a5 a6 a7 a8 : Option V} : tVar 9 (a0 :: a1 :: a2 :: a3 :: a4 :: a5 :: a6 :: a7 :: a8 :: some v :: σ) H Q = Q v H := propext ⟨fun ⟨_, e, h⟩ => by cases e; exact h, w_var9⟩
theorem e_set9 {a0 a1 a2 a3 a4 a5 a6 a7 a8 : Option V} {b : Option V} : gName 9 v (a0 :: a1 :: a2 :: a3 :: a4 :: a5 :: a6 :: a7 :: a8 :: b :: σ) H R = R (a0 :: a1 :: a2 :: a3 :: a4 :: a5 :: a6 :: a7 :: a8 :: some v :: σ) H := rfl
theorem e_var10 {a0 a1 a2 a3 a4 a5 a6 a7 a8 a9 : Option V} : tVar 10 (a0 :: a1 :: a2 :: a3 :: a4 :: a5 :: a6 :: a7 :: a8 :: a9 :: some v :: σ) H Q = Q v H := propext ⟨fun ⟨_, e, h⟩ => by cases e; exact h, w_var10⟩
theorem e_set10 {a0 a1 a2 a3 a4 a5 a6 a7 a8 a9 : Option V} {b : Option V} : gName 10 v (a0 :: a1 :: a2 :: a3 :: a4 :: a5 :: a6 :: a7 :: a8 :: a9 :: b :: σ) H R = R (a0 :: a1 :: a2 :: a3 :: a4 :: a5 :: a6 :: a7 :: a8 :: a9 :: some v :: σ) H := rfl
theorem e_var11 {a0 a1 a2 a3 a4 a5 a6 a7 a8 a9 a10 : Option V} : tVar 11 (a0 :: a1 :: a2 :: a3 :: a4 :: a5 :: a6 :: a7 :: a8 :: a9 :: a10 :: some v :: σ) H Q = Q v H := propext ⟨fun ⟨_, e, h⟩ => by cases e; exact h, w_var11⟩
theorem e_set11 {a0 a1 a2 a3 a4 a5 a6 a7 a8 a9 a10 : Option V} {b : Option V} : gName 11 v (a0 :: a1 :: a2 :: a3 :: a4 :: a5 :: a6 :: a7 :: a8 :: a9 :: a10 :: b :: σ) H R = R (a0 :: a1 :: a2 :: a3 :: a4 :: a5 :: a6 :: a7 :: a8 :: a9 :: a10 :: some v :: σ) H := rfl
theorem e_var12 {a0 a1 a2 a3 a4 a5 a6 a7 a8 a9 a10 a11 : Option V} : tVar 12 (a0 :: a1 :: a2 :: a3 :: a4 :: a5 :: a6 :: a7 :: a8 :: a9 :: a10 :: a11 :: some v :: σ) H Q = Q v H := propext ⟨fun ⟨_, e, h⟩ => by cases e; exact h, w_var12⟩
theorem e_set12 {a0 a1 a2 a3 a4 a5 a6 a7 a8 a9 a10 a11 : Option V} {b : Option V} : gName 12 v (a0 :: a1 :: a2 :: a3 :: a4 :: a5 :: a6 :: a7 :: a8 :: a9 :: a10 :: a11 :: b :: σ) H R = R (a0 :: a1 :: a2 :: a3 :: a4 :: a5 :: a6 :: a7 :: a8 :: a9 :: a10 :: a11 :: some v :: σ) H := rfl
theorem e_var13 {a0 a1 a2 a3 a4 a5 a6 a7 a8 a9 a10 a11 a12 : Option V} : tVar 13 (a0 :: a1 :: a2 :: a3 :: a4 :: a5 :: a6 :: a7 :: a8 :: a9 :: a10 :: a11 :: a12 :: some v :: σ) H Q = Q v H := propext ⟨fun ⟨_, e, h⟩ => by cases e; exact h, w_var13⟩
theorem e_set13 {a0 a1 a2 a3 a4 a5 a6 a7 a8 a9 a10 a11 a12 : Option V} {b : Option V} : gName 13 v (a0 :: a1 :: a2 :: a3 :: a4 :: a5 :: a6 :: a7 :: a8 :: a9 :: a10 :: a11 :: a12 :: b :: σ) H R = R (a0 :: a1 :: a2 :: a3 :: a4 :: a5 :: a6 :: a7 :: a8 :: a9 :: a10 :: a11 :: a12 :: some v :: σ) H := rfl
theorem e_var14 {a0 a1 a2 a3 a4 a5 a6 a7 a8 a9 a10 a11 a12 a13 : Option V} : tVar 14 (a0 :: a1 :: a2 :: a3 :: a4 :: a5 :: a6 :: a7 :: a8 :: a9 :: a10 :: a11 :: a12 :: a13 :: some v :: σ) H Q = Q v H := propext ⟨fun ⟨_, e, h⟩ => by cases e; exact h, w_var14⟩
theorem e_set14 {a0 a1 a2 a3 a4 a5 a6 a7 a8 a9 a10 a11 a12 a13 : Option V} {b : Option V} : gName 14 v (a0 :: a1 :: a2 :: a3 :: a4 :: a5 :: a6 :: a7 :: a8 :: a9 :: a10 :: a11 :: a12 :: a13 :: b :: σ) H R = R (a0 :: a1 :: a2 :: a3 :: a4 :: a5 :: a6 :: a7 :: a8 :: a9 :: a10 :: a11 :: a12 :: a13 :: some v :: σ) H := rfl
theorem e_var15 {a0 a1 a2 a3 a4 a5 a6 a7 a8 a9 a10 a11 a12 a13 a14 : Option V} : tVar 15 (a0 :: a1 :: a2 :: a3 :: a4 :: a5 :: a6 :: a7 :: a8 :: a9 :: a10 :: a11 :: a12 :: a13 :: a14 :: some v :: σ) H Q = Q v H := propext ⟨fun ⟨_, e, h⟩ => by cases e; exact h, w_var15⟩
theorem e_set15 {a0 a1 a2 a3 a4 a5 a6 a7 a8 a9 a10 a11 a12 a13 a14 : Option V} {b : Option V} : gName 15 v (a0 :: a1 :: a2 :: a3 :: a4 :: a5 :: a6 :: a7 :: a8 :: a9 :: a10 :: a11 :: a12 :: a13 :: a14 :: b :: σ) H R = R (a0 :: a1 :: a2 :: a3 :: a4 :: a5 :: a6 :: a7 :: a8 :: a9 :: a10 :: a11 :: a12 :: a13 :: a14 :: some v :: σ) H := rfl
theorem e_var16 {a0 a1 a2 a3 a4 a5 a6 a7 a8 a9 a10 a11 a12 a13 a14 a15 : Option V} : tVar 16 (a0 :: a1 :: a2 :: a3 :: a4 :: a5 :: a6 :: a7 :: a8 :: a9 :: a10 :: a11 :: a12 :: a13 :: a14 :: a15 :: some v :: σ) H Q = Q v H := propext ⟨fun ⟨_, e, h⟩ => by cases e; exact h, w_var16⟩
theorem e_set16 {a0 a1 a2 a3 a4 a5 a6 a7 a8 a9 a10 a11 a12 a13 a14 a15 : Option V} {b : Option V} : gName 16 v (a0 :: a1 :: a2 :: a3 :: a4 :: a5 :: a6 :: a7 :: a8 :: a9 :: a10 :: a11 :: a12 :: a13 :: a14 :: a15 :: b :: σ) H R = R (a0 :: a1 :: a2 :: a3 :: a4 :: a5 :: a6 :: a7 :: a8 :: a9 :: a10 :: a11 :: a12 :: a13 :: a14 :: a15 :: some v :: σ) H := rfl
theorem e_var17 {a0 a1 a2 a3 a4 a5 a6 a7 a8 a9 a10 a11 a12 a13 a14 a15 a16 : Option V} : tVar 17 (a0 :: a1 :: a2 :: a3 :: a4 :: a5 :: a6 :: a7 :: a8 :: a9 :: a10 :: a11 :: a12 :: a13 :: a14 :: a15 :: a16 :: some v :: σ) H Q = Q v H := propext ⟨fun ⟨_, e, h⟩ => by cases e; exact h, w_var17⟩
theorem e_set17 {a0 a1 a2 a3 a4 a5 a6 a7 a8 a9 a10 a11 a12 a13 a14 a15 a16 : Option V} {b : Option V} : gName 17 v (a0 :: a1 :: a2 :: a3 :: a4 :: a5 :: a6 :: a7 :: a8 :: a9 :: a10 :: a11 :: a12 :: a13 :: a14 :: a15 :: a16 :: b :: σ) H R = R (a0 :: a1 :: a2 :: a3 :: a4 :: a5 :: a6 :: a7 :: a8 :: a9 :: a10 :: a11 :: a12 :: a13 :: a14 :: a15 :: a16 :: some v :: σ) H := rfl
theorem e_var18 {a0 a1 a2 a3 a4 a5 a6 a7 a8 a9 a10 a11 a12 a13 a14 a15 a16 a17 : Option V} : tVar 18 (a0 :: a1 :: a2 :: a3 :: a4 :: a5 :: a6 :: a7 :: a8 :: a9 :: a10 :: a11 :: a12 :: a13 :: a14 :: a15 :: a16 :: a17 :: some v :: σ) H Q = Q v H := propext ⟨fun ⟨_, e, h⟩ => by cases e; exact h, w_var18⟩
theorem e_set18 {a0 a1 a2 a3 a4 a5 a6 a7 a8 a9 a10 a11 a12 a13 a14 a15 a16 a17 : Option V} {b : Option V} : gName 18 v (a0 :: a1 :: a2 :: a3 :: a4 :: a5 :: a6 :: a7 :: a8 :: a9 :: a10 :: a11 :: a12 :: a13 :: a14 :: a15 :: a16 :: a17 :: b :: σ) H R = R (a0 :: a1 :: a2 :: a3 :: a4 :: a5 :: a6 :: a7 :: a8 :: a9 :: a10 :: a11 :: a12 :: a13 :: a14 :: a15 :: a16 :: a17 :: some v :: σ) H := rfl
theorem e_var19 {a0 a1 a2 a3 a4 a5 a6 a7 a8 a9 a10 a11 a12 a13 a14 a15 a16 a17 a18 : Option V} : tVar 19 (a0 :: a1 :: a2 :: a3 :: a4 :: a5 :: a6 :: a7 :: a8 :: a9 :: a10 :: a11 :: a12 :: a13 :: a14 :: a15 :: a16 :: a17 :: a18 :: some v :: σ) H Q = Q v H := propext ⟨fun ⟨_, e, h⟩ => by cases e; exact h, w_var19⟩
theorem e_set19 {a0 a1 a2 a3 a4 a5 a6 a7 a8 a9 a10 a11 a12 a13 a14 a15 a16 a17 a18 : Option V} {b : Option V} : gName 19 v (a0 :: a1 :: a2 :: a3 :: a4 :: a5 :: a6 :: a7 :: a8 :: a9 :: a10 :: a11 :: a12 :: a13 :: a14 :: a15 :: a16 :: a17 :: a18 :: b :: σ) H R = R (a0 :: a1 :: a2 :: a3 :: a4 :: a5 :: a6 :: a7 :: a8 :: a9 :: a10 :: a11 :: a12 :: a13 :: a14 :: a15 :: a16 :: a17 :: a18 :: some v :: σ) H := rfl
theorem e_var20 {a0 a1 a2 a3 a4 a5 a6 a7 a8 a9 a10 a11 a12 a13 a14 a15 a16 a17 a18 a19 : Option V} : tVar 20 (a0 :: a1 :: a2 :: a3 :: a4 :: a5 :: a6 :: a7 :: a8 :: a9 :: a10 :: a11 :: a12 :: a13 :: a14 :: a15 :: a16 :: a17 :: a18 :: a19 :: some v :: σ) H Q = Q v H := propext ⟨fun ⟨_, e, h⟩ => by cases e; exact h, w_var20⟩
theorem e_set20 {a0 a1 a2 a3 a4 a5 a6 a7 a8 a9 a10 a11 a12 a13 a14 a15 a16 a17 a18 a19 : Option V} {b : Option V} : gName 20 v (a0 :: a1 :: a2 :: a3 :: a4 :: a5 :: a6 :: a7 :: a8 :: a9 :: a10 :: a11 :: a12 :: a13 :: a14 :: a15 :: a16 :: a17 :: a18 :: a19 :: b :: σ) H R = R (a0 :: a1 :: a2 :: a3 :: a4 :: a5 :: a6 :: a7 :: a8 :: a9 :: a10 :: a11 :: a12 :: a13 :: a14 :: a15 :: a16 :: a17 :: a18 :: a19 :: some v :: σ) H := rfl
theorem e_var21 {a0 a1 a2 a3 a4 a5 a6 a7 a8 a9 a10 a11 a12 a13 a14 a15 a16 a17 a18 a19 a20 : Option V} : tVar 21 (a0 :: a1 :: a2 :: a3 :: a4 :: a5 :: a6 :: a7 :: a8 :: a9 :: a10 :: a11 :: a12 :: a13 :: a14 :: a15 :: a16 :: a17 :: a18 :: a19 :: a20 :: some v :: σ) H Q = Q v H := propext ⟨fun ⟨_, e, h⟩ => by cases e; exact h, w_var21⟩
theorem e_set21 {a0 a1 a2 a3 a4 a5 a6 a7 a8 a9 a10 a11 a12 a13 a14 a15 a16 a17 a18 a19 a20 : Option V} {b : Option V} : gName 21 v (a0 :: a1 :: a2 :: a3 :: a4 :: a5 :: a6 :: a7 :: a8 :: a9 :: a10 :: a11 :: a12 :: a13 :: a14 :: a15 :: a16 :: a17 :: a18 :: a19 :: a20 :: b :: σ) H R = R (a0 :: a1 :: a2 :: a3 :: a4 :: a5 :: a6 :: a7 :: a8 :: a9 :: a10 :: a11 :: a12 :: a13 :: a14 :: a15 :: a16 :: a17 :: a18 :: a19 :: a20 :: some v :: σ) H := rfl
theorem e_var22 {a0 a1 a2 a3 a4 a5 a6 a7 a8 a9 a10 a11 a12 a13 a14 a15 a16 a17 a18 a19 a20 a21 : Option V} : tVar 22 (a0 :: a1 :: a2 :: a3 :: a4 :: a5 :: a6 :: a7 :: a8 :: a9 :: a10 :: a11 :: a12 :: a13 :: a14 :: a15 :: a16 :: a17 :: a18 :: a19 :: a20 :: a21 :: some v :: σ) H Q = Q v H := propext ⟨fun ⟨_, e, h⟩ => by cases e; exact h, w_var22⟩
theorem e_set22 {a0 a1 a2 a3 a4 a5 a6 a7 a8 a9 a10 a11 a12 a13 a14 a15 a16 a17 a18 a19 a20 a21 : Option V} {b : Option V} : gName 22 v (a0 :: a1 :: a2 :: a3 :: a4 :: a5 :: a6 :: a7 :: a8 :: a9 :: a10 :: a11 :: a12 :: a13 :: a14 :: a15 :: a16 :: a17 :: a18 :: a19 :: a20 :: a21 :: b :: σ) H R = R (a0 :: a1 :: a2 :: a3 :: a4 :: a5 :: a6 :: a7 :: a8 :: a9 :: a10 :: a11 :: a12 :: a13 :: a14 :: a15 :: a16 :: a17 :: a18 :: a19 :: a20 :: a21 :: some v :: σ) H := rfl
theorem e_var23 {a0 a1 a2 a3 a4 a5 a6 a7 a8 a9 a10 a11 a12 a13 a14 a15 a16 a17 a18 a19 a20 a21 a22 : Option V} : tVar 23 (a0 :: a1 :: a2 :: a3 :: a4 :: a5 :: a6 :: a7 :: a8 :: a9 :: a10 :: a11 :: a12 :: a13 :: a14 :: a15 :: a16 :: a17 :: a18 :: a19 :: a20 :: a21 :: a22 :: some v :: σ) H Q = Q v H := propext ⟨fun ⟨_, e, h⟩ => by cases e; exact h, w_var23⟩
theorem e_set23 {a0 a1 a2 a3 a4 a5 a6 a7 a8 a9 a10 a11 a12 a13 a14 a15 a16 a17 a18 a19 a20 a21 a22 : Option V} {b : Option V} : gName 23 v (a0 :: a1 :: a2 :: a3 :: a4 :: a5 :: a6 :: a7 :: a8 :: a9 :: a10 :: a11 :: a12 :: a13 :: a14 :: a15 :: a16 :: a17 :: a18 :: a19 :: a20 :: a21 :: a22 :: b :: σ) H R = R (a0 :: a1 :: a2 :: a3 :: a4 :: a5 :: a6 :: a7 :: a8 :: a9 :: a10 :: a11 :: a12 :: a13 :: a14 :: a15 :: a16 :: a17 :: a18 :: a19 :: a20 :: a21 :: a22 :: some v :: σ) H := rfl
theorem e_var24 {a0 a1 a2 a3 a4 a5 a6 a7 a8 a9 a10 a11 a12 a13 a14 a15 a16 a17 a18 a19 a20 a21 a22 a23 : Option V} : tVar 24 (a0 :: a1 :: a2 :: a3 :: a4 :: a5 :: a6 :: a7 :: a8 :: a9 :: a10 :: a11 :: a12 :: a13 :: a14 :: a15 :: a16 :: a17 :: a18 :: a19 :: a20 :: a21 :: a22 :: a23 :: some v :: σ) H Q = Q v H := propext ⟨fun ⟨_, e, h⟩ => by cases e; exact h, w_var24⟩
theorem e_set24 {a0 a1 a2 a3 a4 a5 a6 a7 a8 a9 a10 a11 a12 a13 a14 a15 a16 a17 a18 a19 a20 a21 a22 a23 : Option V} {b : Option V} : gName 24 v (a0 :: a1 :: a2 :: a3 :: a4 :: a5 :: a6 :: a7 :: a8 :: a9 :: a10 :: a11 :: a12 :: a13 :: a14 :: a15 :: a16 :: a17 :: a18 :: a19 :: a20 :: a21 :: a22 :: a23 :: b :: σ) H R = R (a0 :: a1 :: a2 :: a3 :: a4 :: a5 :: a6 :: a7 :: a8 :: a9 :: a10 :: a11 :: a12 :: a13 :: a14 :: a15 :: a16 :: a17 :: a18 :: a19 :: a20 :: a21 :: a22 :: a23 :: some v :: σ) H := rfl
theorem e_var25 {a0 a1 a2 a3 a4 a5 a6 a7 a8 a9 a10 a11 a12 a13 a14 a15 a16 a17 a18 a19 a20 a21 a22 a23 a24 : Option V} : tVar 25 (a0 :: a1 :: a2 :: a3 :: a4 :: a5 :: a6 :: a7 :: a8 :: a9 :: a10 :: a11 :: a12 :: a13 :: a14 :: a15 :: a16 :: a17 :: a18 :: a19 :: a20 :: a21 :: a22 :: a23 :: a24 :: some v :: σ) H Q = Q v H := propext ⟨fun ⟨_, e, h⟩ => by cases e; exact h, w_var25⟩
theorem e_set25 {a0 a1 a2 a3 a4 a5 a6 a7 a8 a9 a10 a11 a12 a13 a14 a15 a16 a17 a18 a19 a20 a21 a22 a23 a24 : Option V} {b : Option V} : gName 25 v (a0 :: a1 :: a2 :: a3 :: a4 :: a5 :: a6 :: a7 :: a8 :: a9 :: a10 :: a11 :: a12 :: a13 :: a14 :: a15 :: a16 :: a17 :: a18 :: a19 :: a20 :: a21 :: a22 :: a23 :: a24 :: b :: σ) H R = R (a0 :: a1 :: a2 :: a3 :: a4 :: a5 :: a6 :: a7 :: a8 :: a9 :: a10 :: a11 :: a12 :: a13 :: a14 :: a15 :: a16 :: a17 :: a18 :: a19 :: a20 :: a21 :: a22 :: a23 :: a24 :: some v :: σ) H := rfl
theorem e_var26 {a0 a1 a2 a3 a4 a5 a6 a7 a8 a9 a10 a11 a12 a13 a14 a15 a16 a17 a18 a19 a20 a21 a22 a23 a24 a25 : Option V} : tVar 26 (a0 :: a1 :: a2 :: a3 :: a4 :: a5 :: a6 :: a7 :: a8 :: a9 :: a10 :: a11 :: a12 :: a13 :: a14 :: a15 :: a16 :: a17 :: a18 :: a19 :: a20 :: a21 :: a22 :: a23 :: a24 :: a25 :: some v :: σ) H Q = Q v H := propext ⟨fun ⟨_, e, h⟩ => by cases e; exact h, w_var26⟩
theorem e_set26 {a0 a1 a2 a3 a4 a5 a6 a7 a8 a9 a10 a11 a12 a13 a14 a15 a16 a17 a18 a19 a20 a21 a22 a23 a24 a25 : Option V} {b : Option V} : gName 26 v (a0 :: a1 :: a2 :: a3 :: a4 :: a5 :: a6 :: a7 :: a8 :: a9 :: a10 :: a11 :: a12 :: a13 :: a14 :: a15 :: a16 :: a17 :: a18 :: a19 :: a20 :: a21 :: a22 :: a23 :: a24 :: a25 :: b :: σ) H R = R (a0 :: a1 :: a2 :: a3 :: a4 :: a5 :: a6 :: a7 :: a8 :: a9 :: a10 :: a11 :: a12 :: a13 :: a14 :: a15 :: a16 :: a17 :: a18 :: a19 :: a20 :: a21 :: a22 :: a23 :: a24 :: a25 :: some v :: σ) H := rfl
theorem e_var27 {a0 a1 a2 a3 a4 a5 a6 a7 a8 a9 a10 a11 a12 a13 a14 a15 a16 a17 a18 a19 a20 a21 a22 a23 a24 a25 a26 : Option V} : tVar 27 (a0 :: a1 :: a2 :: a3 :: a4 :: a5 :: a6 :: a7 :: a8 :: a9 :: a10 :: a11 :: a12 :: a13 :: a14 :: a15 :: a16 :: a17 :: a18 :: a19 :: a20 :: a21 :: a22 :: a23 :: a24 :: a25 :: a26 :: some v :: σ) H Q = Q v H := propext ⟨fun ⟨_, e, h⟩ => by cases e; exact h, w_var27⟩
theorem e_set27 {a0 a1 a2 a3 a4 a5 a6 a7 a8 a9 a10 a11 a12 a13 a14 a15 a16 a17 a18 a19 a20 a21 a22 a23 a24 a25 a26 : Option V} {b : Option V} : gName 27 v (a0 :: a1 :: a2 :: a3 :: a4 :: a5 :: a6 :: a7 :: a8 :: a9 :: a10 :: a11 :: a12 :: a13 :: a14 :: a15 :: a16 :: a17 :: a18 :: a19 :: a20 :: a21 :: a22 :: a23 :: a24 :: a25 :: a26 :: b :: σ) H R = R (a0 :: a1 :: a2 :: a3 :: a4 :: a5 :: a6 :: a7 :: a8 :: a9 :: a10 :: a11 :: a12 :: a13 :: a14 :: a15 :: a16 :: a17 :: a18 :: a19 :: a20 :: a21 :: a22 :: a23 :: a24 :: a25 :: a26 :: some v :: σ) H := rfl
theorem e_var28 {a0 a1 a2 a3 a4 a5 a6 a7 a8 a9 a10 a11 a12 a13 a14 a15 a16 a17 a18 a19 a20 a21 a22 a23 a24 a25 a26 a27 : Option V} : tVar 28 (a0 :: a1 :: a2 :: a3 :: a4 :: a5 :: a6 :: a7 :: a8 :: a9 :: a10 :: a11 :: a12 :: a13 :: a14 :: a15 :: a16 :: a17 :: a18 :: a19 :: a20 :: a21 :: a22 :: a23 :: a24 :: a25 :: a26 :: a27 :: some v :: σ) H Q = Q v H := propext ⟨fun ⟨_, e, h⟩ => by cases e; exact h, w_var28⟩
theorem e_set28 {a0 a1 a2 a3 a4 a5 a6 a7 a8 a9 a10 a11 a12 a13 a14 a15 a16 a17 a18 a19 a20 a21 a22 a23 a24 a25 a26 a27 : Option V} {b : Option V} : gName 28 v (a0 :: a1 :: a2 :: a3 :: a4 :: a5 :: a6 :: a7 :: a8 :: a9 :: a10 :: a11 :: a12 :: a13 :: a14 :: a15 :: a16 :: a17 :: a18 :: a19 :: a20 :: a21 :: a22 :: a23 :: a24 :: a25 :: a26 :: a27 :: b :: σ) H R = R (a0 :: a1 :: a2 :: a3 :: a4 :: a5 :: a6 :: a7 :: a8 :: a9 :: a10 :: a11 :: a12 :: a13 :: a14 :: a15 :: a16 :: a17 :: a18 :: a19 :: a20 :: a21 :: a22 :: a23 :: a24 :: a25 :: a26 :: a27 :: some v :: σ) H := rfl
theorem e_var29 {a0 a1 a2 a3 a4 a5 a6 a7 a8 a9 a10 a11 a12 a13 a14 a15 a16 a17 a18 a19 a20 a21 a22 a23 a24 a25 a26 a27 a28 : Option V} : tVar 29 (a0 :: a1 :: a2 :: a3 :: a4 :: a5 :: a6 :: a7 :: a8 :: a9 :: a10 :: a11 :: a12 :: a13 :: a14 :: a15 :: a16 :: a17 :: a18 :: a19 :: a20 :: a21 :: a22 :: a23 :: a24 :: a25 :: a26 :: a27 :: a28 :: some v :: σ) H Q = Q v H := propext ⟨fun ⟨_, e, h⟩ => by cases e; exact h, w_var29⟩
theorem e_set29 {a0 a1 a2 a3 a4 a5 a6 a7 a8 a9 a10 a11 a12 a13 a14 a15 a16 a17 a18 a19 a20 a21 a22 a23 a24 a25 a26 a27 a28 : Option V} {b : Option V} : gName 29 v (a0 :: a1 :: a2 :: a3 :: a4 :: a5 :: a6 :: a7 :: a8 :: a9 :: a10 :: a11 :: a12 :: a13 :: a14 :: a15 :: a16 :: a17 :: a18 :: a19 :: a20 :: a21 :: a22 :: a23 :: a24 :: a25 :: a26 :: a27 :: a28 :: b :: σ) H R = R (a0 :: a1 :: a2 :: a3 :: a4 :: a5 :: a6 :: a7 :: a8 :: a9 :: a10 :: a11 :: a12 :: a13 :: a14 :: a15 :: a16 :: a17 :: a18 :: a19 :: a20 :: a21 :: a22 :: a23 :: a24 :: a25 :: a26 :: a27 :: a28 :: some v :: σ) H := rfl
theorem e_var30 {a0 a1 a2 a3 a4 a5 a6 a7 a8 a9 a10 a11 a12 a13 a14 a15 a16 a17 a18 a19 a20 a21 a22 a23 a24 a25 a26 a27 a28 a29 : Option V} : tVar 30 (a0 :: a1 :: a2 :: a3 :: a4 :: a5 :: a6 :: a7 :: a8 :: a9 :: a10 :: a11 :: a12 :: a13 :: a14 :: a15 :: a16 :: a17 :: a18 :: a19 :: a20 :: a21 :: a22 :: a23 :: a24 :: a25 :: a26 :: a27 :: a28 :: a29 :: some v :: σ) H Q = Q v H := propext ⟨fun ⟨_, e, h⟩ => by cases e; exact h, w_var30⟩
theorem e_set30 {a0 a1 a2 a3 a4 a5 a6 a7 a8 a9 a10 a11 a12 a13 a14 a15 a16 a17 a18 a19 a20 a21 a22 a23 a24 a25 a26 a27 a28 a29 : Option V} {b : Option V} : gName 30 v (a0 :: a1 :: a2 :: a3 :: a4 :: a5 :: a6 :: a7 :: a8 :: a9 :: a10 :: a11 :: a12 :: a13 :: a14 :: a15 :: a16 :: a17 :: a18 :: a19 :: a20 :: a21 :: a22 :: a23 :: a24 :: a25 :: a26 :: a27 :: a28 :: a29 :: b :: σ) H R = R (a0 :: a1 :: a2 :: a3 :: a4 :: a5 :: a6 :: a7 :: a8 :: a9 :: a10 :: a11 :: a12 :: a13 :: a14 :: a15 :: a16 :: a17 :: a18 :: a19 :: a20 :: a21 :: a22 :: a23 :: a24 :: a25 :: a26 :: a27 :: a28 :: a29 :: some v :: σ) H := rfl
theorem e_var31 {a0 a1 a2 a3 a4 a5 a6 a7 a8 a9 a10 a11 a12 a13 a14 a15 a16 a17 a18 a19 a20 a21 a22 a23 a24 a25 a26 a27 a28 a29 a30 : Option V} : tVar 31 (a0 :: a1 :: a2 :: a3 :: a4 :: a5 :: a6 :: a7 :: a8 :: a9 :: a10 :: a11 :: a12 :: a13 :: a14 :: a15 :: a16 :: a17 :: a18 :: a19 :: a20 :: a21 :: a22 :: a23 :: a24 :: a25 :: a26 :: a27 :: a28 :: a29 :: a30 :: some v :: σ) H Q = Q v H := propext ⟨fun ⟨_, e, h⟩ => by cases e; exact h, w_var31⟩
theorem e_set31 {a0 a1 a2 a3 a4 a5 a6 a7 a8 a9 a10 a11 a12 a13 a14 a15 a16 a17 a18 a19 a20 a21 a22 a23 a24 a25 a26 a27 a28 a29 a30 : Option V} {b : Option V} : gName 31 v (a0 :: a1 :: a2 :: a3 :: a4 :: a5 :: a6 :: a7 :: a8 :: a9 :: a10 :: a11 :: a12 :: a13 :: a14 :: a15 :: a16 :: a17 :: a18 :: a19 :: a20 :: a21 :: a22 :: a23 :: a24 :: a25 :: a26 :: a27 :: a28 :: a29 :: a30 :: b :: σ) H R = R (a0 :: a1 :: a2 :: a3 :: a4 :: a5 :: a6 :: a7 :: a8 :: a9 :: a10 :: a11 :: a12 :: a13 :: a14 :: a15 :: a16 :: a17 :: a18 :: a19 :: a20 :: a21 :: a22 :: a23 :: a24 :: a25 :: a26 :: a27 :: a28 :: a29 :: a30 :: some v :: σ) H := rfl
theorem e_var32 {a0 a1 a2 a3 a4 a5 a6 a7 a8 a9 a10 a11 a12 a13 a14 a15 a16 a17 a18 a19 a20 a21 a22 a23 a24 a25 a26 a27 a28 a29 a30 a31 : Option V} : tVar 32 (a0 :: a1 :: a2 :: a3 :: a4 :: a5 :: a6 :: a7 :: a8 :: a9 :: a10 :: a11 :: a12 :: a13 :: a14 :: a15 :: a16 :: a17 :: a18 :: a19 :: a20 :: a21 :: a22 :: a23 :: a24 :: a25 :: a26 :: a27 :: a28 :: a29 :: a30 :: a31 :: some v :: σ) H Q = Q v H := propext ⟨fun ⟨_, e, h⟩ => by cases e; exact h, w_var32⟩
theorem e_set32 {a0 a1 a2 a3 a4 a5 a6 a7 a8 a9 a10 a11 a12 a13 a14 a15 a16 a17 a18 a19 a20 a21 a22 a23 a24 a25 a26 a27 a28 a29 a30 a31 : Option V} {b : Option V} : gName 32 v (a0 :: a1 :: a2 :: a3 :: a4 :: a5 :: a6 :: a7 :: a8 :: a9 :: a10 :: a11 :: a12 :: a13 :: a14 :: a15 :: a16 :: a17 :: a18 :: a19 :: a20 :: a21 :: a22 :: a23 :: a24 :: a25 :: a26 :: a27 :: a28 :: a29 :: a30 :: a31 :: b :: σ) H R = R (a0 :: a1 :: a2 :: a3 :: a4 :: a5 :: a6 :: a7 :: a8 :: a9 :: a10 :: a11 :: a12 :: a13 :: a14 :: a15 :: a16 :: a17 :: a18 :: a19 :: a20 :: a21 :: a22 :: a23 :: a24 :: a25 :: a26 :: a27 :: a28 :: a29 :: a30 :: a31 :: some v :: σ) H := rfl
theorem e_var33 {a0 a1 a2 a3 a4 a5 a6 a7 a8 a9 a10 a11 a12 a13 a14 a15 a16 a17 a18 a19 a20 a21 a22 a23 a24 a25 a26 a27 a28 a29 a30 a31 a32 : Option V} : tVar 33 (a0 :: a1 :: a2 :: a3 :: a4 :: a5 :: a6 :: a7 :: a8 :: a9 :: a10 :: a11 :: a12 :: a13 :: a14 :: a15 :: a16 :: a17 :: a18 :: a19 :: a20 :: a21 :: a22 :: a23 :: a24 :: a25 :: a26 :: a27 :: a28 :: a29 :: a30 :: a31 :: a32 :: some v :: σ) H Q = Q v H := propext ⟨fun ⟨_, e, h⟩ => by cases e; exact h, w_var33⟩
theorem e_set33 {a0 a1 a2 a3 a4 a5 a6 a7 a8 a9 a10 a11 a12 a13 a14 a15 a16 a17 a18 a19 a20 a21 a22 a23 a24 a25 a26 a27 a28 a29 a30 a31 a32 : Option V} {b : Option V} : gName 33 v (a0 :: a1 :: a2 :: a3 :: a4 :: a5 :: a6 :: a7 :: a8 :: a9 :: a10 :: a11 :: a12 :: a13 :: a14 :: a15 :: a16 :: a17 :: a18 :: a19 :: a20 :: a21 :: a22 :: a23 :: a24 :: a25 :: a26 :: a27 :: a28 :: a29 :: a30 :: a31 :: a32 :: b :: σ) H R = R (a0 :: a1 :: a2 :: a3 :: a4 :: a5 :: a6 :: a7 :: a8 :: a9 :: a10 :: a11 :: a12 :: a13 :: a14 :: a15 :: a16 :: a17 :: a18 :: a19 :: a20 :: a21 :: a22 :: a23 :: a24 :: a25 :: a26 :: a27 :: a28 :: a29 :: a30 :: a31 :: a32 :: some v :: σ) H := rfl
theorem e_is_int_bool {i : Int} : rIsF [(.int i), .ty "bool"] H Q = Q (.bl false) H := isF_eq (by decide) (by decide) rfl
theorem e_is_int_int {i : Int} : rIsF [(.int i), .ty "int"] H Q = Q (.bl true) H := isF_eq (by decide) (by decide) rfl
theorem e_is_int_str {i : Int} : rIsF [(.int i), .ty "str"] H Q = Q (.bl false) H := isF_eq (by decide) (by decide) rfl
theorem e_is_int_list {i : Int} : rIsF [(.int i), .ty "list"] H Q = Q (.bl false) H := isF_eq (by decide) (by decide) rfl
theorem e_is_int_tuple {i : Int} : rIsF [(.int i), .ty "tuple"] H Q = Q (.bl false) H := isF_eq (by decide) (by decide) rfl
theorem e_is_int_dict {i : Int} : rIsF [(.int i), .ty "dict"] H Q = Q (.bl false) H := isF_eq (by decide) (by decide) rfl
theorem e_is_bl_bool {b : Bool} : rIsF [(.bl b), .ty "bool"] H Q = Q (.bl true) H := isF_eq (by decide) (by decide) rfl
theorem e_is_bl_int {b : Bool} : rIsF [(.bl b), .ty "int"] H Q = Q (.bl true) H := isF_eq (by decide) (by decide) rfl
theorem e_is_bl_str {b : Bool} : rIsF [(.bl b), .ty "str"] H Q = Q (.bl false) H := isF_eq (by decide) (by decide) rfl
theorem e_is_bl_list {b : Bool} : rIsF [(.bl b), .ty "list"] H Q = Q (.bl false) H := isF_eq (by decide) (by decide) rfl
theorem e_is_bl_tuple {b : Bool} : rIsF [(.bl b), .ty "tuple"] H Q = Q (.bl false) H := isF_eq (by decide) (by decide) rfl
theorem e_is_bl_dict {b : Bool} : rIsF [(.bl b), .ty "dict"] H Q = Q (.bl false) H := isF_eq (by decide) (by decide) rfl
theorem e_is_str_bool {z : Str} : rIsF [(.str z), .ty "bool"] H Q = Q (.bl false) H := isF_eq (by decide) (by decide) rfl
theorem e_is_str_int {z : Str} : rIsF [(.str z), .ty "int"] H Q = Q (.bl false) H := isF_eq (by decide) (by decide) rfl
theorem e_is_str_str {z : Str} : rIsF [(.str z), .ty "str"] H Q = Q (.bl true) H := isF_eq (by decide) (by decide) rfl
theorem e_is_str_list {z : Str} : rIsF [(.str z), .ty "list"] H Q = Q (.bl false) H := isF_eq (by decide) (by decide) rfl
theorem e_is_str_tuple {z : Str} : rIsF [(.str z), .ty "tuple"] H Q = Q (.bl false) H := isF_eq (by decide) (by decide) rfl
theorem e_is_str_dict {z : Str} : rIsF [(.str z), .ty "dict"] H Q = Q (.bl false) H := isF_eq (by decide) (by decide) rfl
theorem e_is_non_bool : rIsF [.non, .ty "bool"] H Q = Q (.bl false) H := isF_eq (by decide) (by decide) rfl
theorem e_is_non_int : rIsF [.non, .ty "int"] H Q = Q (.bl false) H := isF_eq (by decide) (by decide) rfl
theorem e_is_non_str : rIsF [.non, .ty "str"] H Q = Q (.bl false) H := isF_eq (by decide) (by decide) rfl
theorem e_is_non_list : rIsF [.non, .ty "list"] H Q = Q (.bl false) H := isF_eq (by decide) (by decide) rfl
theorem e_is_non_tuple : rIsF [.non, .ty "tuple"] H Q = Q (.bl false) H := isF_eq (by decide) (by decide) rfl
theorem e_is_non_dict : rIsF [.non, .ty "dict"] H Q = Q (.bl false) H := isF_eq (by decide) (by decide) rfl
theorem e_kn_bool : knownC "bool" = true := by decide
theorem e_ib_list_bool : isB "list" "bool" = false := by decide
theorem e_ib_tuple_bool : isB "tuple" "bool" = false := by decide
theorem e_ib_dict_bool : isB "dict" "bool" = false := by decide
theorem e_kn_int : knownC "int" = true := by decide
theorem e_ib_list_int : isB "list" "int" = false := by decide
theorem e_ib_tuple_int : isB "tuple" "int" = false := by decide
theorem e_ib_dict_int : isB "dict" "int" = false := by decide
theorem e_kn_str : knownC "str" = true := by decide
theorem e_ib_list_str : isB "list" "str" = false := by decide
theorem e_ib_tuple_str : isB "tuple" "str" = false := by decide
theorem e_ib_dict_str : isB "dict" "str" = false := by decide
theorem e_kn_list : knownC "list" = true := by decide
theorem e_ib_list_list : isB "list" "list" = true := by decide
theorem e_ib_tuple_list : isB "tuple" "list" = false := by decide
theorem e_ib_dict_list : isB "dict" "list" = false := by decide
theorem e_kn_tuple : knownC "tuple" = true := by decide
theorem e_ib_list_tuple : isB "list" "tuple" = false := by decide
theorem e_ib_tuple_tuple : isB "tuple" "tuple" = true := by decide
theorem e_ib_dict_tuple : isB "dict" "tuple" = false := by decide
theorem e_kn_dict : knownC "dict" = true := by decide
theorem e_ib_list_dict : isB "list" "dict" = false := by decide
theorem e_ib_tuple_dict : isB "tuple" "dict" = false := by decide
theorem e_ib_dict_dict : isB "dict" "dict" = true := by decide
theorem e_aug0 {ta : TE} {ti : TIp} {nx bk ct : L2.St → Hp → Prop} {rt : VK} : tAug 0 ta ti ⟨nx, rt, bk, ct⟩ (some v :: σ) H = ta (some v :: σ) H fun y H1 => ti v y H1 fun z H2 => nx (some z :: σ) H2 := propext ⟨fun ⟨_, e, h⟩ => by cases e; exact h, fun h => ⟨v, rfl, h⟩⟩
theorem e_aug1 {a0 : Option V} {ta : TE} {ti : TIp} {nx bk ct : L2.St → Hp → Prop} {rt : VK} : tAug 1 ta ti ⟨nx, rt, bk, ct⟩ (a0 :: some v :: σ) H = ta (a0 :: some v :: σ) H fun y H1 => ti v y H1 fun z H2 => nx (a0 :: some z :: σ) H2 := propext ⟨fun ⟨_, e, h⟩ => by cases e; exact h, fun h => ⟨v, rfl, h⟩⟩
theorem e_aug2 {a0 a1 : Option V} {ta : TE} {ti : TIp} {nx bk ct : L2.St → Hp → Prop} {rt : VK} : tAug 2 ta ti ⟨nx, rt, bk, ct⟩ (a0 :: a1 :: some v :: σ) H = ta (a0 :: a1 :: some v :: σ) H fun y H1 => ti v y H1 fun z H2 => nx (a0 :: a1 :: some z :: σ) H2 := propext ⟨fun ⟨_, e, h⟩ => by cases e; exact h, fun h => ⟨v, rfl, h⟩⟩
theorem e_aug3 {a0 a1 a2 : Option V} {ta : TE} {ti : TIp} {nx bk ct : L2.St → Hp → Prop} {rt : VK} : tAug 3 ta ti ⟨nx, rt, bk, ct⟩ (a0 :: a1 :: a2 :: some v :: σ) H = ta (a0 :: a1 :: a2 :: some v :: σ) H fun y H1 => ti v y H1 fun z H2 => nx (a0 :: a1 :: a2 :: some z :: σ) H2 := propext ⟨fun ⟨_, e, h⟩ => by cases e; exact h, fun h => ⟨v, rfl, h⟩⟩
theorem e_aug4 {a0 a1 a2 a3 : Option V} {ta : TE} {ti : TIp} {nx bk ct : L2.St → Hp → Prop} {rt : VK} : tAug 4 ta ti ⟨nx, rt, bk, ct⟩ (a0 :: a1 :: a2 :: a3 :: some v :: σ) H = ta (a0 :: a1 :: a2 :: a3 :: some v :: σ) H fun y H1 => ti v y H1 fun z H2 => nx (a0 :: a1 :: a2 :: a3 :: some z :: σ) H2 := propext ⟨fun ⟨_, e, h⟩ => by cases e; exact h, fun h => ⟨v, rfl, h⟩⟩
theorem e_aug5 {a0 a1 a2 a3 a4 : Option V} {ta : TE} {ti : TIp} {nx bk ct : L2.St → Hp → Prop} {rt : VK} : tAug 5 ta ti ⟨nx, rt, bk, ct⟩ (a0 :: a1 :: a2 :: a3 :: a4 :: some v :: σ) H = ta (a0 :: a1 :: a2 :: a3 :: a4 :: some v :: σ) H fun y H1 => ti v y H1 fun z H2 => nx (a0 :: a1 :: a2 :: a3 :: a4 :: some z :: σ) H2 := propext ⟨fun ⟨_, e, h⟩ => by cases e; exact h, fun h => ⟨v, rfl, h⟩⟩
theorem e_aug6 {a0 a1 a2 a3 a4 a5 : Option V} {ta : TE} {ti : TIp} {nx bk ct : L2.St → Hp → Prop} {rt : VK} : tAug 6 ta ti ⟨nx, rt, bk, ct⟩ (a0 :: a1 :: a2 :: a3 :: a4 :: a5 :: some v :: σ) H = ta (a0 :: a1 :: a2 :: a3 :: a4 :: a5 :: some v :: σ) H fun y H1 => ti v y H1 fun z H2 => nx (a0 :: a1 :: a2 :: a3 :: a4 :: a5 :: some z :: σ) H2 := propext ⟨fun ⟨_, e, h⟩ => by cases e; exact h, fun h => ⟨v, rfl, h⟩⟩
theorem e_aug7 {a0 a1 a2 a3 a4 a5 a6 : Option V} {ta : TE} {ti : TIp} {nx bk ct : L2.St → Hp → Prop} {rt : VK} : tAug 7 ta ti ⟨nx, rt, bk, ct⟩ (a0 :: a1 :: a2 :: a3 :: a4 :: a5 :: a6 :: some v :: σ) H = ta (a0 :: a1 :: a2 :: a3 :: a4 :: a5 :: a6 :: some v :: σ) H fun y H1 => ti v y H1 fun z H2 => nx (a0 :: a1 :: a2 :: a3 :: a4 :: a5 :: a6 :: some z :: σ) H2 := propext ⟨fun ⟨_, e, h⟩ => by cases e; exact h, fun h => ⟨v, rfl, h⟩⟩
theorem e_aug8 {a0 a1 a2 a3 a4 a5 a6 a7 : Option V} {ta : TE} {ti : TIp} {nx bk ct : L2.St → Hp → Prop} {rt : VK} : tAug 8 ta ti ⟨nx, rt, bk, ct⟩ (a0 :: a1 :: a2 :: a3 :: a4 :: a5 :: a6 :: a7 :: some v :: σ) H = ta (a0 :: a1 :: a2 :: a3 :: a4 :: a5 :: a6 :: a7 :: some v :: σ) H fun y H1 => ti v y H1 fun z H2 => nx (a0 :: a1 :: a2 :: a3 :: a4 :: a5 :: a6 :: a7 :: some z :: σ) H2 := propext ⟨fun ⟨_, e, h⟩ => by cases e; exact h, fun h => ⟨v, rfl, h⟩⟩
theorem e_aug9 {a0 a1 a2 a3 a4 a5 a6 a7 a8 : Option V} {ta : TE} {ti : TIp} {nx bk ct : L2.St → Hp → Prop} {rt : VK} : tAug 9 ta ti ⟨nx, rt, bk, ct⟩ (a0 :: a1 :: a2 :: a3 :: a4 :: a5 :: a6 :: a7 :: a8 :: some v :: σ) H = ta (a0 :: a1 :: a2 :: a3 :: a4 :: a5 :: a6 :: a7 :: a8 :: some v :: σ) H fun y H1 => ti v y H1 fun z H2 => nx (a0 :: a1 :: a2 :: a3 :: a4 :: a5 :: a6 :: a7 :: a8 :: some z :: σ) H2 := propext ⟨fun ⟨_, e, h⟩ => by cases e; exact h, fun h => ⟨v, rfl, h⟩⟩
theorem e_aug10 {a0 a1 a2 a3 a4 a5 a6 a7 a8 a9 : Option V} {ta : TE} {ti : TIp} {nx bk ct : L2.St → Hp → Prop} {rt : VK} : tAug 10 ta ti ⟨nx, rt, bk, ct⟩ (a0 :: a1 :: a2 :: a3 :: a4 :: a5 :: a6 :: a7 :: a8 :: a9 :: some v :: σ) H = ta (a0 :: a1 :: a2 :: a3 :: a4 :: a5 :: a6 :: a7 :: a8 :: a9 :: some v :: σ) H fun y H1 => ti v y H1 fun z H2 => nx (a0 :: a1 :: a2 :: a3 :: a4 :: a5 :: a6 :: a7 :: a8 :: a9 :: some z :: σ) H2 := propext ⟨fun ⟨_, e, h⟩ => by cases e; exact h, fun h => ⟨v, rfl, h⟩⟩
theorem e_aug11 {a0 a1 a2 a3 a4 a5 a6 a7 a8 a9 a10 : Option V} {ta : TE} {ti : TIp} {nx bk ct : L2.St → Hp → Prop} {rt : VK} : tAug 11 ta ti ⟨nx, rt, bk, ct⟩ (a0 :: a1 :: a2 :: a3 :: a4 :: a5 :: a6 :: a7 :: a8 :: a9 :: a10 :: some v :: σ) H = ta (a0 :: a1 :: a2 :: a3 :: a4 :: a5 :: a6 :: a7 :: a8 :: a9 :: a10 :: some v :: σ) H fun y H1 => ti v y H1 fun z H2 => nx (a0 :: a1 :: a2 :: a3 :: a4 :: a5 :: a6 :: a7 :: a8 :: a9 :: a10 :: some z :: σ) H2 := propext ⟨fun ⟨_, e, h⟩ => by cases e; exact h, fun h => ⟨v, rfl, h⟩⟩
theorem e_aug12 {a0 a1 a2 a3 a4 a5 a6 a7 a8 a9 a10 a11 : Option V} {ta : TE} {ti : TIp} {nx bk ct : L2.St → Hp → Prop} {rt : VK} : tAug 12 ta ti ⟨nx, rt, bk, ct⟩ (a0 :: a1 :: a2 :: a3 :: a4 :: a5 :: a6 :: a7 :: a8 :: a9 :: a10 :: a11 :: some v :: σ) H = ta (a0 :: a1 :: a2 :: a3 :: a4 :: a5 :: a6 :: a7 :: a8 :: a9 :: a10 :: a11 :: some v :: σ) H fun y H1 => ti v y H1 fun z H2 => nx (a0 :: a1 :: a2 :: a3 :: a4 :: a5 :: a6 :: a7 :: a8 :: a9 :: a10 :: a11 :: some z :: σ) H2 := propext ⟨fun ⟨_, e, h⟩ => by cases e; exact h, fun h => ⟨v, rfl, h⟩⟩
theorem e_aug13 {a0 a1 a2 a3 a4 a5 a6 a7 a8 a9 a10 a11 a12 : Option V} {ta : TE} {ti : TIp} {nx bk ct : L2.St → Hp → Prop} {rt : VK} : tAug 13 ta ti ⟨nx, rt, bk, ct⟩ (a0 :: a1 :: a2 :: a3 :: a4 :: a5 :: a6 :: a7 :: a8 :: a9 :: a10 :: a11 :: a12 :: some v :: σ) H = ta (a0 :: a1 :: a2 :: a3 :: a4 :: a5 :: a6 :: a7 :: a8 :: a9 :: a10 :: a11 :: a12 :: some v :: σ) H fun y H1 => ti v y H1 fun z H2 => nx (a0 :: a1 :: a2 :: a3 :: a4 :: a5 :: a6 :: a7 :: a8 :: a9 :: a10 :: a11 :: a12 :: some z :: σ) H2 := propext ⟨fun ⟨_, e, h⟩ => by cases e; exact h, fun h => ⟨v, rfl, h⟩⟩
theorem e_aug14 {a0 a1 a2 a3 a4 a5 a6 a7 a8 a9 a10 a11 a12 a13 : Option V} {ta : TE} {ti : TIp} {nx bk ct : L2.St → Hp → Prop} {rt : VK} : tAug 14 ta ti ⟨nx, rt, bk, ct⟩ (a0 :: a1 :: a2 :: a3 :: a4 :: a5 :: a6 :: a7 :: a8 :: a9 :: a10 :: a11 :: a12 :: a13 :: some v :: σ) H = ta (a0 :: a1 :: a2 :: a3 :: a4 :: a5 :: a6 :: a7 :: a8 :: a9 :: a10 :: a11 :: a12 :: a13 :: some v :: σ) H fun y H1 => ti v y H1 fun z H2 => nx (a0 :: a1 :: a2 :: a3 :: a4 :: a5 :: a6 :: a7 :: a8 :: a9 :: a10 :: a11 :: a12 :: a13 :: some z :: σ) H2 := propext ⟨fun ⟨_, e, h⟩ => by cases e; exact h, fun h => ⟨v, rfl, h⟩⟩
theorem e_aug15 {a0 a1 a2 a3 a4 a5 a6 a7 a8 a9 a10 a11 a12 a13 a14 : Option V} {ta : TE} {ti : TIp} {nx bk ct : L2.St → Hp → Prop} {rt : VK} : tAug 15 ta ti ⟨nx, rt, bk, ct⟩ (a0 :: a1 :: a2 :: a3 :: a4 :: a5 :: a6 :: a7 :: a8 :: a9 :: a10 :: a11 :: a12 :: a13 :: a14 :: some v :: σ) H = ta (a0 :: a1 :: a2 :: a3 :: a4 :: a5 :: a6 :: a7 :: a8 :: a9 :: a10 :: a11 :: a12 :: a13 :: a14 :: some v :: σ) H fun y H1 => ti v y H1 fun z H2 => nx (a0 :: a1 :: a2 :: a3 :: a4 :: a5 :: a6 :: a7 :: a8 :: a9 :: a10 :: a11 :: a12 :: a13 :: a14 :: some z :: σ) H2 := propext ⟨fun ⟨_, e, h⟩ => by cases e; exact h, fun h => ⟨v, rfl, h⟩⟩
theorem e_aug16 {a0 a1 a2 a3 a4 a5 a6 a7 a8 a9 a10 a11 a12 a13 a14 a15 : Option V} {ta : TE} {ti : TIp} {nx bk ct : L2.St → Hp → Prop} {rt : VK} : tAug 16 ta ti ⟨nx, rt, bk, ct⟩ (a0 :: a1 :: a2 :: a3 :: a4 :: a5 :: a6 :: a7 :: a8 :: a9 :: a10 :: a11 :: a12 :: a13 :: a14 :: a15 :: some v :: σ) H = ta (a0 :: a1 :: a2 :: a3 :: a4 :: a5 :: a6 :: a7 :: a8 :: a9 :: a10 :: a11 :: a12 :: a13 :: a14 :: a15 :: some v :: σ) H fun y H1 => ti v y H1 fun z H2 => nx (a0 :: a1 :: a2 :: a3 :: a4 :: a5 :: a6 :: a7 :: a8 :: a9 :: a10 :: a11 :: a12 :: a13 :: a14 :: a15 :: some z :: σ) H2 := propext ⟨fun ⟨_, e, h⟩ => by cases e; exact h, fun h => ⟨v, rfl, h⟩⟩
theorem e_aug17 {a0 a1 a2 a3 a4 a5 a6 a7 a8 a9 a10 a11 a12 a13 a14 a15 a16 : Option V} {ta : TE} {ti : TIp} {nx bk ct : L2.St → Hp → Prop} {rt : VK} : tAug 17 ta ti ⟨nx, rt, bk, ct⟩ (a0 :: a1 :: a2 :: a3 :: a4 :: a5 :: a6 :: a7 :: a8 :: a9 :: a10 :: a11 :: a12 :: a13 :: a14 :: a15 :: a16 :: some v :: σ) H = ta (a0 :: a1 :: a2 :: a3 :: a4 :: a5 :: a6 :: a7 :: a8 :: a9 :: a10 :: a11 :: a12 :: a13 :: a14 :: a15 :: a16 :: some v :: σ) H fun y H1 => ti v y H1 fun z H2 => nx (a0 :: a1 :: a2 :: a3 :: a4 :: a5 :: a6 :: a7 :: a8 :: a9 :: a10 :: a11 :: a12 :: a13 :: a14 :: a15 :: a16 :: some z :: σ) H2 := propext ⟨fun ⟨_, e, h⟩ => by cases e; exact h, fun h => ⟨v, rfl, h⟩⟩
theorem e_aug18 {a0 a1 a2 a3 a4 a5 a6 a7 a8 a9 a10 a11 a12 a13 a14 a15 a16 a17 : Option V} {ta : TE} {ti : TIp} {nx bk ct : L2.St → Hp → Prop} {rt : VK} : tAug 18 ta ti ⟨nx, rt, bk, ct⟩ (a0 :: a1 :: a2 :: a3 :: a4 :: a5 :: a6 :: a7 :: a8 :: a9 :: a10 :: a11 :: a12 :: a13 :: a14 :: a15 :: a16 :: a17 :: some v :: σ) H = ta (a0 :: a1 :: a2 :: a3 :: a4 :: a5 :: a6 :: a7 :: a8 :: a9 :: a10 :: a11 :: a12 :: a13 :: a14 :: a15 :: a16 :: a17 :: some v :: σ) H fun y H1 => ti v y H1 fun z H2 => nx (a0 :: a1 :: a2 :: a3 :: a4 :: a5 :: a6 :: a7 :: a8 :: a9 :: a10 :: a11 :: a12 :: a13 :: a14 :: a15 :: a16 :: a17 :: some z :: σ) H2 := propext ⟨fun ⟨_, e, h⟩ => by cases e; exact h, fun h => ⟨v, rfl, h⟩⟩
theorem e_aug19 {a0 a1 a2 a3 a4 a5 a6 a7 a8 a9 a10 a11 a12 a13 a14 a15 a16 a17 a18 : Option V} {ta : TE} {ti : TIp} {nx bk ct : L2.St → Hp → Prop} {rt : VK} : tAug 19 ta ti ⟨nx, rt, bk, ct⟩ (a0 :: a1 :: a2 :: a3 :: a4 :: a5 :: a6 :: a7 :: a8 :: a9 :: a10 :: a11 :: a12 :: a13 :: a14 :: a15 :: a16 :: a17 :: a18 :: some v :: σ) H = ta (a0 :: a1 :: a2 :: a3 :: a4 :: a5 :: a6 :: a7 :: a8 :: a9 :: a10 :: a11 :: a12 :: a13 :: a14 :: a15 :: a16 :: a17 :: a18 :: some v :: σ) H fun y H1 => ti v y H1 fun z H2 => nx (a0 :: a1 :: a2 :: a3 :: a4 :: a5 :: a6 :: a7 :: a8 :: a9 :: a10 :: a11 :: a12 :: a13 :: a14 :: a15 :: a16 :: a17 :: a18 :: some z :: σ) H2 := propext ⟨fun ⟨_, e, h⟩ => by cases e; exact h, fun h => ⟨v, rfl, h⟩⟩
theorem e_aug20 {a0 a1 a2 a3 a4 a5 a6 a7 a8 a9 a10 a11 a12 a13 a14 a15 a16 a17 a18 a19 : Option V} {ta : TE} {ti : TIp} {nx bk ct : L2.St → Hp → Prop} {rt : VK} : tAug 20 ta ti ⟨nx, rt, bk, ct⟩ (a0 :: a1 :: a2 :: a3 :: a4 :: a5 :: a6 :: a7 :: a8 :: a9 :: a10 :: a11 :: a12 :: a13 :: a14 :: a15 :: a16 :: a17 :: a18 :: a19 :: some v :: σ) H = ta (a0 :: a1 :: a2 :: a3 :: a4 :: a5 :: a6 :: a7 :: a8 :: a9 :: a10 :: a11 :: a12 :: a13 :: a14 :: a15 :: a16 :: a17 :: a18 :: a19 :: some v :: σ) H fun y H1 => ti v y H1 fun z H2 => nx (a0 :: a1 :: a2 :: a3 :: a4 :: a5 :: a6 :: a7 :: a8 :: a9 :: a10 :: a11 :: a12 :: a13 :: a14 :: a15 :: a16 :: a17 :: a18 :: a19 :: some z :: σ) H2 := propext ⟨fun ⟨_, e, h⟩ => by cases e; exact h, fun h => ⟨v, rfl, h⟩⟩
theorem e_aug21 {a0 a1 a2 a3 a4 a5 a6 a7 a8 a9 a10 a11 a12 a13 a14 a15 a16 a17 a18 a19 a20 : Option V} {ta : TE} {ti : TIp} {nx bk ct : L2.St → Hp → Prop} {rt : VK} : tAug 21 ta ti ⟨nx, rt, bk, ct⟩ (a0 :: a1 :: a2 :: a3 :: a4 :: a5 :: a6 :: a7 :: a8 :: a9 :: a10 :: a11 :: a12 :: a13 :: a14 :: a15 :: a16 :: a17 :: a18 :: a19 :: a20 :: some v :: σ) H = ta (a0 :: a1 :: a2 :: a3 :: a4 :: a5 :: a6 :: a7 :: a8 :: a9 :: a10 :: a11 :: a12 :: a13 :: a14 :: a15 :: a16 :: a17 :: a18 :: a19 :: a20 :: some v :: σ) H fun y H1 => ti v y H1 fun z H2 => nx (a0 :: a1 :: a2 :: a3 :: a4 :: a5 :: a6 :: a7 :: a8 :: a9 :: a10 :: a11 :: a12 :: a13 :: a14 :: a15 :: a16 :: a17 :: a18 :: a19 :: a20 :: some z :: σ) H2 := propext ⟨fun ⟨_, e, h⟩ => by cases e; exact h, fun h => ⟨v, rfl, h⟩⟩
theorem e_aug22 {a0 a1 a2 a3 a4 a5 a6 a7 a8 a9 a10 a11 a12 a13 a14 a15 a16 a17 a18 a19 a20 a21 : Option V} {ta : TE} {ti : TIp} {nx bk ct : L2.St → Hp → Prop} {rt : VK} : tAug 22 ta ti ⟨nx, rt, bk, ct⟩ (a0 :: a1 :: a2 :: a3 :: a4 :: a5 :: a6 :: a7 :: a8 :: a9 :: a10 :: a11 :: a12 :: a13 :: a14 :: a15 :: a16 :: a17 :: a18 :: a19 :: a20 :: a21 :: some v :: σ) H = ta (a0 :: a1 :: a2 :: a3 :: a4 :: a5 :: a6 :: a7 :: a8 :: a9 :: a10 :: a11 :: a12 :: a13 :: a14 :: a15 :: a16 :: a17 :: a18 :: a19 :: a20 :: a21 :: some v :: σ) H fun y H1 => ti v y H1 fun z H2 => nx (a0 :: a1 :: a2 :: a3 :: a4 :: a5 :: a6 :: a7 :: a8 :: a9 :: a10 :: a11 :: a12 :: a13 :: a14 :: a15 :: a16 :: a17 :: a18 :: a19 :: a20 :: a21 :: some z :: σ) H2 := propext ⟨fun ⟨_, e, h⟩ => by cases e; exact h, fun h => ⟨v, rfl, h⟩⟩
theorem e_aug23 {a0 a1 a2 a3 a4 a5 a6 a7 a8 a9 a10 a11 a12 a13 a14 a15 a16 a17 a18 a19 a20 a21 a22 : Option V} {ta : TE} {ti : TIp} {nx bk ct : L2.St → Hp → Prop} {rt : VK} : tAug 23 ta ti ⟨nx, rt, bk, ct⟩ (a0 :: a1 :: a2 :: a3 :: a4 :: a5 :: a6 :: a7 :: a8 :: a9 :: a10 :: a11 :: a12 :: a13 :: a14 :: a15 :: a16 :: a17 :: a18 :: a19 :: a20 :: a21 :: a22 :: some v :: σ) H = ta (a0 :: a1 :: a2 :: a3 :: a4 :: a5 :: a6 :: a7 :: a8 :: a9 :: a10 :: a11 :: a12 :: a13 :: a14 :: a15 :: a16 :: a17 :: a18 :: a19 :: a20 :: a21 :: a22 :: some v :: σ) H fun y H1 => ti v y H1 fun z H2 => nx (a0 :: a1 :: a2 :: a3 :: a4 :: a5 :: a6 :: a7 :: a8 :: a9 :: a10 :: a11 :: a12 :: a13 :: a14 :: a15 :: a16 :: a17 :: a18 :: a19 :: a20 :: a21 :: a22 :: some z :: σ) H2 := propext ⟨fun ⟨_, e, h⟩ => by cases e; exact h, fun h => ⟨v, rfl, h⟩⟩
theorem e_aug24 {a0 a1 a2 a3 a4 a5 a6 a7 a8 a9 a10 a11 a12 a13 a14 a15 a16 a17 a18 a19 a20 a21 a22 a23 : Option V} {ta : TE} {ti : TIp} {nx bk ct : L2.St → Hp → Prop} {rt : VK} : tAug 24 ta ti ⟨nx, rt, bk, ct⟩ (a0 :: a1 :: a2 :: a3 :: a4 :: a5 :: a6 :: a7 :: a8 :: a9 :: a10 :: a11 :: a12 :: a13 :: a14 :: a15 :: a16 :: a17 :: a18 :: a19 :: a20 :: a21 :: a22 :: a23 :: some v :: σ) H = ta (a0 :: a1 :: a2 :: a3 :: a4 :: a5 :: a6 :: a7 :: a8 :: a9 :: a10 :: a11 :: a12 :: a13 :: a14 :: a15 :: a16 :: a17 :: a18 :: a19 :: a20 :: a21 :: a22 :: a23 :: some v :: σ) H fun y H1 => ti v y H1 fun z H2 => nx (a0 :: a1 :: a2 :: a3 :: a4 :: a5 :: a6 :: a7 :: a8 :: a9 :: a10 :: a11 :: a12 :: a13 :: a14 :: a15 :: a16 :: a17 :: a18 :: a19 :: a20 :: a21 :: a22 :: a23 :: some z :: σ) H2 := propext ⟨fun ⟨_, e, h⟩ => by cases e; exact h, fun h => ⟨v, rfl, h⟩⟩
theorem e_aug25 {a0 a1 a2 a3 a4 a5 a6 a7 a8 a9 a10 a11 a12 a13 a14 a15 a16 a17 a18 a19 a20 a21 a22 a23 a24 : Option V} {ta : TE} {ti : TIp} {nx bk ct : L2.St → Hp → Prop} {rt : VK} : tAug 25 ta ti ⟨nx, rt, bk, ct⟩ (a0 :: a1 :: a2 :: a3 :: a4 :: a5 :: a6 :: a7 :: a8 :: a9 :: a10 :: a11 :: a12 :: a13 :: a14 :: a15 :: a16 :: a17 :: a18 :: a19 :: a20 :: a21 :: a22 :: a23 :: a24 :: some v :: σ) H = ta (a0 :: a1 :: a2 :: a3 :: a4 :: a5 :: a6 :: a7 :: a8 :: a9 :: a10 :: a11 :: a12 :: a13 :: a14 :: a15 :: a16 :: a17 :: a18 :: a19 :: a20 :: a21 :: a22 :: a23 :: a24 :: some v :: σ) H fun y H1 => ti v y H1 fun z H2 => nx (a0 :: a1 :: a2 :: a3 :: a4 :: a5 :: a6 :: a7 :: a8 :: a9 :: a10 :: a11 :: a12 :: a13 :: a14 :: a15 :: a16 :: a17 :: a18 :: a19 :: a20 :: a21 :: a22 :: a23 :: a24 :: some z :: σ) H2 := propext ⟨fun ⟨_, e, h⟩ => by cases e; exact h, fun h => ⟨v, rfl, h⟩⟩
theorem e_aug26 {a0 a1 a2 a3 a4 a5 a6 a7 a8 a9 a10 a11 a12 a13 a14 a15 a16 a17 a18 a19 a20 a21 a22 a23 a24 a25 : Option V} {ta : TE} {ti : TIp} {nx bk ct : L2.St → Hp → Prop} {rt : VK} : tAug 26 ta ti ⟨nx, rt, bk, ct⟩ (a0 :: a1 :: a2 :: a3 :: a4 :: a5 :: a6 :: a7 :: a8 :: a9 :: a10 :: a11 :: a12 :: a13 :: a14 :: a15 :: a16 :: a17 :: a18 :: a19 :: a20 :: a21 :: a22 :: a23 :: a24 :: a25 :: some v :: σ) H = ta (a0 :: a1 :: a2 :: a3 :: a4 :: a5 :: a6 :: a7 :: a8 :: a9 :: a10 :: a11 :: a12 :: a13 :: a14 :: a15 :: a16 :: a17 :: a18 :: a19 :: a20 :: a21 :: a22 :: a23 :: a24 :: a25 :: some v :: σ) H fun y H1 => ti v y H1 fun z H2 => nx (a0 :: a1 :: a2 :: a3 :: a4 :: a5 :: a6 :: a7 :: a8 :: a9 :: a10 :: a11 :: a12 :: a13 :: a14 :: a15 :: a16 :: a17 :: a18 :: a19 :: a20 :: a21 :: a22 :: a23 :: a24 :: a25 :: some z :: σ) H2 := propext ⟨fun ⟨_, e, h⟩ => by cases e; exact h, fun h => ⟨v, rfl, h⟩⟩
theorem e_aug27 {a0 a1 a2 a3 a4 a5 a6 a7 a8 a9 a10 a11 a12 a13 a14 a15 a16 a17 a18 a19 a20 a21 a22 a23 a24 a25 a26 : Option V} {ta : TE} {ti : TIp} {nx bk ct : L2.St → Hp → Prop} {rt : VK} : tAug 27 ta ti ⟨nx, rt, bk, ct⟩ (a0 :: a1 :: a2 :: a3 :: a4 :: a5 :: a6 :: a7 :: a8 :: a9 :: a10 :: a11 :: a12 :: a13 :: a14 :: a15 :: a16 :: a17 :: a18 :: a19 :: a20 :: a21 :: a22 :: a23 :: a24 :: a25 :: a26 :: some v :: σ) H = ta (a0 :: a1 :: a2 :: a3 :: a4 :: a5 :: a6 :: a7 :: a8 :: a9 :: a10 :: a11 :: a12 :: a13 :: a14 :: a15 :: a16 :: a17 :: a18 :: a19 :: a20 :: a21 :: a22 :: a23 :: a24 :: a25 :: a26 :: some v :: σ) H fun y H1 => ti v y H1 fun z H2 => nx (a0 :: a1 :: a2 :: a3 :: a4 :: a5 :: a6 :: a7 :: a8 :: a9 :: a10 :: a11 :: a12 :: a13 :: a14 :: a15 :: a16 :: a17 :: a18 :: a19 :: a20 :: a21 :: a22 :: a23 :: a24 :: a25 :: a26 :: some z :: σ) H2 := propext ⟨fun ⟨_, e, h⟩ => by cases e; exact h, fun h => ⟨v, rfl, h⟩⟩
theorem e_aug28 {a0 a1 a2 a3 a4 a5 a6 a7 a8 a9 a10 a11 a12 a13 a14 a15 a16 a17 a18 a19 a20 a21 a22 a23 a24 a25 a26 a27 : Option V} {ta : TE} {ti : TIp} {nx bk ct : L2.St → Hp → Prop} {rt : VK} : tAug 28 ta ti ⟨nx, rt, bk, ct⟩ (a0 :: a1 :: a2 :: a3 :: a4 :: a5 :: a6 :: a7 :: a8 :: a9 :: a10 :: a11 :: a12 :: a13 :: a14 :: a15 :: a16 :: a17 :: a18 :: a19 :: a20 :: a21 :: a22 :: a23 :: a24 :: a25 :: a26 :: a27 :: some v :: σ) H = ta (a0 :: a1 :: a2 :: a3 :: a4 :: a5 :: a6 :: a7 :: a8 :: a9 :: a10 :: a11 :: a12 :: a13 :: a14 :: a15 :: a16 :: a17 :: a18 :: a19 :: a20 :: a21 :: a22 :: a23 :: a24 :: a25 :: a26 :: a27 :: some v :: σ) H fun y H1 => ti v y H1 fun z H2 => nx (a0 :: a1 :: a2 :: a3 :: a4 :: a5 :: a6 :: a7 :: a8 :: a9 :: a10 :: a11 :: a12 :: a13 :: a14 :: a15 :: a16 :: a17 :: a18 :: a19 :: a20 :: a21 :: a22 :: a23 :: a24 :: a25 :: a26 :: a27 :: some z :: σ) H2 := propext ⟨fun ⟨_, e, h⟩ => by cases e; exact h, fun h => ⟨v, rfl, h⟩⟩
theorem e_aug29 {a0 a1 a2 a3 a4 a5 a6 a7 a8 a9 a10 a11 a12 a13 a14 a15 a16 a17 a18 a19 a20 a21 a22 a23 a24 a25 a26 a27 a28 : Option V} {ta : TE} {ti : TIp} {nx bk ct : L2.St → Hp → Prop} {rt : VK} : tAug 29 ta ti ⟨nx, rt, bk, ct⟩ (a0 :: a1 :: a2 :: a3 :: a4 :: a5 :: a6 :: a7 :: a8 :: a9 :: a10 :: a11 :: a12 :: a13 :: a14 :: a15 :: a16 :: a17 :: a18 :: a19 :: a20 :: a21 :: a22 :: a23 :: a24 :: a25 :: a26 :: a27 :: a28 :: some v :: σ) H = ta (a0 :: a1 :: a2 :: a3 :: a4 :: a5 :: a6 :: a7 :: a8 :: a9 :: a10 :: a11 :: a12 :: a13 :: a14 :: a15 :: a16 :: a17 :: a18 :: a19 :: a20 :: a21 :: a22 :: a23 :: a24 :: a25 :: a26 :: a27 :: a28 :: some v :: σ) H fun y H1 => ti v y H1 fun z H2 => nx (a0 :: a1 :: a2 :: a3 :: a4 :: a5 :: a6 :: a7 :: a8 :: a9 :: a10 :: a11 :: a12 :: a13 :: a14 :: a15 :: a16 :: a17 :: a18 :: a19 :: a20 :: a21 :: a22 :: a23 :: a24 :: a25 :: a26 :: a27 :: a28 :: some z :: σ) H2 := propext ⟨fun ⟨_, e, h⟩ => by cases e; exact h, fun h => ⟨v, rfl, h⟩⟩
theorem e_aug30 {a0 a1 a2 a3 a4 a5 a6 a7 a8 a9 a10 a11 a12 a13 a14 a15 a16 a17 a18 a19 a20 a21 a22 a23 a24 a25 a26 a27 a28 a29 : Option V} {ta : TE} {ti : TIp} {nx bk ct : L2.St → Hp → Prop} {rt : VK} : tAug 30 ta ti ⟨nx, rt, bk, ct⟩ (a0 :: a1 :: a2 :: a3 :: a4 :: a5 :: a6 :: a7 :: a8 :: a9 :: a10 :: a11 :: a12 :: a13 :: a14 :: a15 :: a16 :: a17 :: a18 :: a19 :: a20 :: a21 :: a22 :: a23 :: a24 :: a25 :: a26 :: a27 :: a28 :: a29 :: some v :: σ) H = ta (a0 :: a1 :: a2 :: a3 :: a4 :: a5 :: a6 :: a7 :: a8 :: a9 :: a10 :: a11 :: a12 :: a13 :: a14 :: a15 :: a16 :: a17 :: a18 :: a19 :: a20 :: a21 :: a22 :: a23 :: a24 :: a25 :: a26 :: a27 :: a28 :: a29 :: some v :: σ) H fun y H1 => ti v y H1 fun z H2 => nx (a0 :: a1 :: a2 :: a3 :: a4 :: a5 :: a6 :: a7 :: a8 :: a9 :: a10 :: a11 :: a12 :: a13 :: a14 :: a15 :: a16 :: a17 :: a18 :: a19 :: a20 :: a21 :: a22 :: a23 :: a24 :: a25 :: a26 :: a27 :: a28 :: a29 :: some z :: σ) H2 := propext ⟨fun ⟨_, e, h⟩ => by cases e; exact h, fun h => ⟨v, rfl, h⟩⟩
theorem e_aug31 {a0 a1 a2 a3 a4 a5 a6 a7 a8 a9 a10 a11 a12 a13 a14 a15 a16 a17 a18 a19 a20 a21 a22 a23 a24 a25 a26 a27 a28 a29 a30 : Option V} {ta : TE} {ti : TIp} {nx bk ct : L2.St → Hp → Prop} {rt : VK} : tAug 31 ta ti ⟨nx, rt, bk, ct⟩ (a0 :: a1 :: a2 :: a3 :: a4 :: a5 :: a6 :: a7 :: a8 :: a9 :: a10 :: a11 :: a12 :: a13 :: a14 :: a15 :: a16 :: a17 :: a18 :: a19 :: a20 :: a21 :: a22 :: a23 :: a24 :: a25 :: a26 :: a27 :: a28 :: a29 :: a30 :: some v :: σ) H = ta (a0 :: a1 :: a2 :: a3 :: a4 :: a5 :: a6 :: a7 :: a8 :: a9 :: a10 :: a11 :: a12 :: a13 :: a14 :: a15 :: a16 :: a17 :: a18 :: a19 :: a20 :: a21 :: a22 :: a23 :: a24 :: a25 :: a26 :: a27 :: a28 :: a29 :: a30 :: some v :: σ) H fun y H1 => ti v y H1 fun z H2 => nx (a0 :: a1 :: a2 :: a3 :: a4 :: a5 :: a6 :: a7 :: a8 :: a9 :: a10 :: a11 :: a12 :: a13 :: a14 :: a15 :: a16 :: a17 :: a18 :: a19 :: a20 :: a21 :: a22 :: a23 :: a24 :: a25 :: a26 :: a27 :: a28 :: a29 :: a30 :: some z :: σ) H2 := propext ⟨fun ⟨_, e, h⟩ => by cases e; exact h, fun h => ⟨v, rfl, h⟩⟩
theorem e_aug32 {a0 a1 a2 a3 a4 a5 a6 a7 a8 a9 a10 a11 a12 a13 a14 a15 a16 a17 a18 a19 a20 a21 a22 a23 a24 a25 a26 a27 a28 a29 a30 a31 : Option V} {ta : TE} {ti : TIp} {nx bk ct : L2.St → Hp → Prop} {rt : VK} : tAug 32 ta ti ⟨nx, rt, bk, ct⟩ (a0 :: a1 :: a2 :: a3 :: a4 :: a5 :: a6 :: a7 :: a8 :: a9 :: a10 :: a11 :: a12 :: a13 :: a14 :: a15 :: a16 :: a17 :: a18 :: a19 :: a20 :: a21 :: a22 :: a23 :: a24 :: a25 :: a26 :: a27 :: a28 :: a29 :: a30 :: a31 :: some v :: σ) H = ta (a0 :: a1 :: a2 :: a3 :: a4 :: a5 :: a6 :: a7 :: a8 :: a9 :: a10 :: a11 :: a12 :: a13 :: a14 :: a15 :: a16 :: a17 :: a18 :: a19 :: a20 :: a21 :: a22 :: a23 :: a24 :: a25 :: a26 :: a27 :: a28 :: a29 :: a30 :: a31 :: some v :: σ) H fun y H1 => ti v y H1 fun z H2 => nx (a0 :: a1 :: a2 :: a3 :: a4 :: a5 :: a6 :: a7 :: a8 :: a9 :: a10 :: a11 :: a12 :: a13 :: a14 :: a15 :: a16 :: a17 :: a18 :: a19 :: a20 :: a21 :: a22 :: a23 :: a24 :: a25 :: a26 :: a27 :: a28 :: a29 :: a30 :: a31 :: some z :: σ) H2 := propext ⟨fun ⟨_, e, h⟩ => by cases e; exact h, fun h => ⟨v, rfl, h⟩⟩
theorem e_aug33 {a0 a1 a2 a3 a4 a5 a6 a7 a8 a9 a10 a11 a12 a13 a14 a15 a16 a17 a18 a19 a20 a21 a22 a23 a24 a25 a26 a27 a28 a29 a30 a31 a32 : Option V} {ta : TE} {ti : TIp} {nx bk ct : L2.St → Hp → Prop} {rt : VK} : tAug 33 ta ti ⟨nx, rt, bk, ct⟩ (a0 :: a1 :: a2 :: a3 :: a4 :: a5 :: a6 :: a7 :: a8 :: a9 :: a10 :: a11 :: a12 :: a13 :: a14 :: a15 :: a16 :: a17 :: a18 :: a19 :: a20 :: a21 :: a22 :: a23 :: a24 :: a25 :: a26 :: a27 :: a28 :: a29 :: a30 :: a31 :: a32 :: some v :: σ) H = ta (a0 :: a1 :: a2 :: a3 :: a4 :: a5 :: a6 :: a7 :: a8 :: a9 :: a10 :: a11 :: a12 :: a13 :: a14 :: a15 :: a16 :: a17 :: a18 :: a19 :: a20 :: a21 :: a22 :: a23 :: a24 :: a25 :: a26 :: a27 :: a28 :: a29 :: a30 :: a31 :: a32 :: some v :: σ) H fun y H1 => ti v y H1 fun z H2 => nx (a0 :: a1 :: a2 :: a3 :: a4 :: a5 :: a6 :: a7 :: a8 :: a9 :: a10 :: a11 :: a12 :: a13 :: a14 :: a15 :: a16 :: a17 :: a18 :: a19 :: a20 :: a21 :: a22 :: a23 :: a24 :: a25 :: a26 :: a27 :: a28 :: a29 :: a30 :: a31 :: a32 :: some z :: σ) H2 := propext ⟨fun ⟨_, e, h⟩ => by cases e; exact h, fun h => ⟨v, rfl, h⟩⟩
theorem w_gVar {i : Nat} (h : tVar i σ H Q) : tVar i σ H Q := h
theorem w_gSet {i : Nat} (h : gName i v σ H R) : gName i v σ H R := h
end
end Wi
/-! ### t[::-1] of a tuple -/
namespace Wr
open PySem PySem.Spec PyProof.Rows L2 HT
section
variable {prog : Program} {w : World} {A : Around} {E : Value → Shared → Prop} {s : Shared}
theorem applied_back {sl : Addr} {vl vu vs : Value} {n : Nat} {Q : Int × Int × Nat → Shared → Prop} (hs : s.heap.IsSliceOf sl vl vu vs) (pl : IsPart vl none) (pu : IsPart vu none) (ps : IsPart vs (some (-1)))
    (h : Q ((n : Int) - 1, -1, n) s) : wpAny (model prog w) A (Builtin.Slice.sliceApplied (.ref sl) (pure (n : Int))) Q E s := by
  obtain ⟨os, hos, _, hds⟩ := id hs
  unfold Builtin.Slice.sliceApplied Builtin.Slice.sliceFields
  refine wpAny_bind (wpAny_bind (wpAny_field hos hds (x := vl) rfl (wpAny_bind (wpAny_field hos hds (x := vu) rfl (wpAny_bind (wpAny_field hos hds (x := vs) rfl (wpAny_pure ?_)))))))
  refine wpAny_bind (slicePart_ ps ?_)
  show wpAny _ _ (if ((-1 : Int) == 0) = true then _ else _) _ _ s
  rw [if_neg (show ¬ ((-1 : Int) == 0) = true by decide)]
  refine wpAny_bind (slicePart_ pl (wpAny_bind (slicePart_ pu (wpAny_bind (wpAny_pure ?_)))))
  have e : Builtin.Slice.sliceAdjust none none (-1) (n : Int) = ((n : Int) - 1, -1) := rfl
  have e2 : Builtin.Slice.slicePlaces ((n : Int) - 1) (-1) (-1) = n := by
    unfold Builtin.Slice.slicePlaces
    rw [if_neg (show ¬ (-1 : Int) > 0 by decide), show - (-1 : Int) = 1 from rfl, Int.ediv_one]
    split <;> omega
  show wpAny _ _ (match Builtin.Slice.sliceAdjust none none (-1) (n : Int) with | (lo, hi) => pure (lo, (-1 : Int), Builtin.Slice.slicePlaces lo hi (-1))) _ _ s
  rw [e]
  show wpAny _ _ (pure ((n : Int) - 1, (-1 : Int), Builtin.Slice.slicePlaces ((n : Int) - 1) (-1) (-1))) _ _ s
  rw [e2]
  exact wpAny_pure h
theorem pick_back (xs : Array Value) : ((List.range xs.size).filterMap fun (k : Nat) => xs[(((xs.size : Nat) : Int) - 1 + (k : Int) * -1).toNat]?).toArray = xs.toList.reverse.toArray := by
  congr 1
  apply List.ext_getElem?
  intro i
  have key : ∀ m, m ≤ xs.size → ((List.range m).filterMap fun (k : Nat) => xs[(((xs.size : Nat) : Int) - 1 + (k : Int) * -1).toNat]?) = (xs.toList.reverse).take m := by
    intro m
    induction m with
    | zero => intro _; simp
    | succ m ih =>
      intro hm
      rw [List.range_succ, List.filterMap_append, ih (by omega), List.take_add_one]
      congr 1
      have e1 : ((((xs.size : Nat) : Int) - 1 + (m : Int) * -1).toNat) = xs.size - 1 - m := by omega
      have e2 : xs.toList.reverse[m]? = xs[xs.size - 1 - m]? := by
        rw [List.getElem?_reverse (by rw [Array.length_toList]; omega), Array.length_toList, Array.getElem?_toList]
      have e3 : xs.size - 1 - m < xs.size := by omega
      rw [e2, List.filterMap_cons, e1, Array.getElem?_eq_getElem e3]
      rfl
  rw [key xs.size (Nat.le_refl _), List.take_of_length_le (by rw [List.length_reverse, Array.length_toList]; exact Nat.le_refl _)]
theorem getItem_back {t sl : Addr} {items : Array Value} {vl vu vs : Value} {Q : Value → Shared → Prop} (ht : IsTup s.heap t items) (hs : s.heap.IsSliceOf sl vl vu vs) (pl : IsPart vl none) (pu : IsPart vu none) (ps : IsPart vs (some (-1)))
    (h : Q (.ref s.heap.objs.size) { s with heap := s.heap.push { cls := .type "tuple", data := .seq items.toList.reverse.toArray } })
    (hsz : items.size ≤ sizeLine) : wpAny (model prog w) A (getItem (.ref t) (.ref sl)) Q E s := by
  have hok : sizeOk (.seq items.toList.reverse.toArray) := by
    show items.toList.reverse.toArray.size ≤ sizeLine
    rw [List.size_toArray, List.length_reverse, Array.length_toList]
    exact hsz
  obtain ⟨os, hos, hcs, _⟩ := id hs
  have hTs : s.TypeIs (.ref sl) "slice" := ⟨os, hos, hcs⟩
  unfold getItem
  try with_reducible refine wpAny_holding ?_
  first | refine wpAny_bind (wpAny_pure ?_) | skip
  refine wpAny_bind (wpAny_sequenceKey ht.typeIs (by decide) ?_)
  refine wpAny_bind (wpAny_callSpecial?_slot (name := Str.ofString "__getitem__") ht.typeIs PyProof.Rows.slot_tuple_getitem (wpAny_call_entry PyProof.Rows.slot_tuple_getitem ht.typeIs entry_tuple_getitem ?_ (args_tuple_getitem _ _)))
  show wpAny _ _ (Builtin.Tuple.tupleItemsOf (.ref t) >>= _) _ _ s
  refine wpAny_bind (tupleItemsOf_ ht (wpAny_bind (wpAny_typeOf hTs ?_)))
  rw [if_pos (by decide)]
  refine wpAny_bind (applied_back hs pl pu ps ?_)
  show wpAny _ _ (if (((items.size : Nat) : Int) - 1 == 0 && (-1 : Int) == 1 && items.size == items.size) = true then _ else _) _ _ s
  rw [if_neg (by simp), pick_back]
  first
    | exact wpAny_bind (m := Builtin.Tuple.tupleExact _) (wpAny_newObj_type (wpAny_pure ⟨_, rfl, wpAny_pure h⟩) hok)
    | exact wpAny_bind (wpAny_bind (m := Builtin.Tuple.tupleExact _) (wpAny_newObj_type (wpAny_pure (wpAny_pure ⟨_, rfl, wpAny_pure h⟩)) hok))
end
def kRevT (Q : VK) : VK := fun x H1 => match x with
  | .ref p => Wi.onTup (H1 p) fun xs => ∀ l, H1 l = none → Q (.ref l) (upd H1 l (.tup xs.reverse))
  | _ => False
def tRevT (te : TE) : TE := fun σ H Q => te σ H (kRevT Q)
theorem f_revT {X : Cx} {e : Expr} {te : TE} {k : Nat} {p1 p2 p3 pos : Pos} (he : PE X e te) : PE X (.Subscript e (.Slice none none (some (.UnaryOp .USub (.Constant (.int 1) k p1) p2)) p3) pos) (tRevT te) := by
  refine ⟨fun pins s σ H Q I h => Subscript_ (thn (he.run pins s σ H _ I h) fun v s1 ⟨x, H1, I1, r1, q1⟩ => ?_)⟩
  unfold kRevT at q1
  split at q1
  · rename_i a
    obtain ⟨xs, hx, q⟩ := Wi.onTup_cases q1
    cases r1
    have hst : PO X (some (.UnaryOp .USub (.Constant (.int 1) k p1) p2)) (tPart (tUn (rU fun i => .int (-i)) (tC (.int 1)))) := po_some (pe_un un_neg pe_int)
    refine wpAny_Slice (thn (po_none.run pins s1 σ H1 (fun o H2 => o = none ∧ H2 = H1) I1 ⟨rfl, rfl⟩) fun vl s2 ⟨l, H2, I2, pl, e1, e2⟩ => ?_)
    refine thn (po_none.run pins s2 σ H2 (fun o H3 => o = none ∧ H3 = H2) I2 ⟨rfl, rfl⟩) fun vu s3 ⟨u, H3, I3, pu, e3, e4⟩ => ?_
    refine thn (hst.run pins s3 σ H3 (fun o H4 => o = some (-1) ∧ H4 = H3) I3 ⟨1, rfl, -1, rfl, rfl, rfl⟩) fun vs s4 ⟨o, H4, I4, ps, e5, e6⟩ => ?_
    subst e1 e2 e3 e4 e5 e6
    have I5 : Inv X pins σ H4 { s4 with heap := s4.heap.push { cls := .type "slice", data := .fields #[vl, vu, vs] } } := I4.kept (t' := s4.toks) fun b ob q => Heap.get?_push_of_some _ q
    obtain ⟨its, r, ht, hz⟩ := I5.tuple (SqT.of hx)
    have hlen := r.length
    show wpAny (model X.prog X.w) X.A (subscriptTail e (.Slice none none (some (.UnaryOp .USub (.Constant (.int 1) k p1) p2)) p3) (.ref a) (.ref s4.heap.objs.size)) (EP X pins σ Q) X.xe _
    refine tail_any (ops := [.ref a, .ref s4.heap.objs.size]) ht.typeIs PyProof.Rows.slot_tuple_getitem.lookup ?_ (by with_unfolding_all rfl)
    refine getItem_back ht (Heap.IsSliceOf.new _ vl vu vs) pl pu ps ?_ (by rw [List.size_toArray]; omega)
    refine ⟨.ref _, _, I5.laid (t' := s4.toks) (o := .tup xs.reverse) (fun b ob q => Heap.get?_push_of_some _ q) (Nat.le_refl _) ?_, rfl, q _ (I5.hok.fresh (Nat.le_refl _))⟩
    exact ⟨by rw [List.length_reverse]; exact hz, _, r.reverse, IsTup.new _ _⟩
  · exact q1.elim
theorem e_revT {te : TE} {σ : L2.St} {H : Hp} {Q : VK} : tRevT te σ H Q = te σ H (kRevT Q) := rfl
theorem e_kRevT {p : Addr} {H : Hp} {Q : VK} : kRevT Q (.ref p) H = Wi.onTup (H p) fun xs => ∀ l, H l = none → Q (.ref l) (upd H l (.tup xs.reverse)) := rfl
end Wr


namespace Wk
open PySem PySem.Spec PyProof.Rows L2 Wi
def top (i : Nat) : Stmt := PySem.Challenge.pw_whatindex_k01_values_known.main.body.getD i (.Pass ⟨0, 0, 0, 0⟩)
abbrev s_is_whole : Stmt := top 5
abbrev s_is_word : Stmt := top 6
abbrev s_is_value : Stmt := top 7
abbrev s_l_bag : Stmt := top 9
abbrev s_l_take : Stmt := top 10
abbrev s_l_word : Stmt := top 11
abbrev s_l_value : Stmt := top 12
abbrev s_l_is_word : Stmt := top 13
abbrev s_l_is_value : Stmt := top 14
abbrev s_l_odd : Stmt := top 15
abbrev s_law : Stmt := top 16
theorem sc_is_whole : FnScope ["thing", "low", "high"] ["thing", "low", "high"] (defScope s_is_whole) := ⟨rfl, rfl, rfl, by decide +kernel, rfl, by decide +kernel, by decide +kernel⟩
theorem sc_is_word : FnScope ["thing", "sign"] ["thing"] (defScope s_is_word) := ⟨rfl, rfl, rfl, by decide +kernel, rfl, by decide +kernel, by decide +kernel⟩
theorem sc_is_value : FnScope ["kind", "thing"] ["kind", "thing"] (defScope s_is_value) := ⟨rfl, rfl, rfl, by decide +kernel, rfl, by decide +kernel, by decide +kernel⟩
theorem sc_l_bag : FnScope ["_law_script", "_law_at", "_law_cell", "_law_great", "_law_primes"] ["_law_script", "_law_at"] (defScope s_l_bag) := ⟨rfl, rfl, rfl, by decide +kernel, rfl, by decide +kernel, by decide +kernel⟩
theorem sc_l_take : FnScope ["_law_bag_here", "_law_many", "_law_digit"] ["_law_bag_here", "_law_many"] (defScope s_l_take) := ⟨rfl, rfl, rfl, by decide +kernel, rfl, by decide +kernel, by decide +kernel⟩
theorem sc_l_word : FnScope ["_law_bag_here", "_law_letters", "_law_turn"] ["_law_bag_here"] (defScope s_l_word) := ⟨rfl, rfl, rfl, by decide +kernel, rfl, by decide +kernel, by decide +kernel⟩
theorem sc_l_value : FnScope ["_law_bag_here", "_law_kind", "_law_way"] ["_law_bag_here", "_law_kind"] (defScope s_l_value) := ⟨rfl, rfl, rfl, by decide +kernel, rfl, by decide +kernel, by decide +kernel⟩
theorem sc_l_is_word : FnScope ["_law_thing", "_law_sign"] ["_law_thing"] (defScope s_l_is_word) := ⟨rfl, rfl, rfl, by decide +kernel, rfl, by decide +kernel, by decide +kernel⟩
theorem sc_l_is_value : FnScope ["_law_kind", "_law_thing"] ["_law_kind", "_law_thing"] (defScope s_l_is_value) := ⟨rfl, rfl, rfl, by decide +kernel, rfl, by decide +kernel, by decide +kernel⟩
theorem sc_l_odd : FnScope ["_law_bag_here", "_law_name", "_law_some"] ["_law_bag_here", "_law_name"] (defScope s_l_odd) := ⟨rfl, rfl, rfl, by decide +kernel, rfl, by decide +kernel, by decide +kernel⟩
theorem sc_law : FnScope ["_law_script", "_law_k", "_law_bag_here", "_law_word_here", "_law_some", "_law_thing", "_law_kind", "_law_told"] ["_law_script"] (defScope s_law) := ⟨rfl, rfl, rfl, by decide +kernel, rfl, by decide +kernel, by decide +kernel⟩
structure Txt (K : PySem.W.Frag) (mg : Str → Option Value) : Prop where
  d_is_whole : ∃ fd, FunD K "is_whole" "is_whole" (defArgs s_is_whole) (defBody s_is_whole) (defScope s_is_whole) [(.int (-999)), (.int (999))] [] (He.ga K "is_whole") fd
  m_is_whole : mg "is_whole" = some (.ref (He.ga K "is_whole"))
  d_is_word : ∃ fd, FunD K "is_word" "is_word" (defArgs s_is_word) (defBody s_is_word) (defScope s_is_word) [] [] (He.ga K "is_word") fd
  m_is_word : mg "is_word" = some (.ref (He.ga K "is_word"))
  d_is_value : ∃ fd, FunD K "is_value" "is_value" (defArgs s_is_value) (defBody s_is_value) (defScope s_is_value) [] [] (He.ga K "is_value") fd
  m_is_value : mg "is_value" = some (.ref (He.ga K "is_value"))
  d_l_bag : ∃ fd, FunD K "_law_bag" "_law_bag" (defArgs s_l_bag) (defBody s_l_bag) (defScope s_l_bag) [] [] (He.ga K "_law_bag") fd
  m_l_bag : mg "_law_bag" = some (.ref (He.ga K "_law_bag"))
  d_l_take : ∃ fd, FunD K "_law_take" "_law_take" (defArgs s_l_take) (defBody s_l_take) (defScope s_l_take) [] [] (He.ga K "_law_take") fd
  m_l_take : mg "_law_take" = some (.ref (He.ga K "_law_take"))
  d_l_word : ∃ fd, FunD K "_law_word" "_law_word" (defArgs s_l_word) (defBody s_l_word) (defScope s_l_word) [] [] (He.ga K "_law_word") fd
  m_l_word : mg "_law_word" = some (.ref (He.ga K "_law_word"))
  d_l_value : ∃ fd, FunD K "_law_value" "_law_value" (defArgs s_l_value) (defBody s_l_value) (defScope s_l_value) [] [] (He.ga K "_law_value") fd
  m_l_value : mg "_law_value" = some (.ref (He.ga K "_law_value"))
  d_l_is_word : ∃ fd, FunD K "_law_is_word" "_law_is_word" (defArgs s_l_is_word) (defBody s_l_is_word) (defScope s_l_is_word) [] [] (He.ga K "_law_is_word") fd
  m_l_is_word : mg "_law_is_word" = some (.ref (He.ga K "_law_is_word"))
  d_l_is_value : ∃ fd, FunD K "_law_is_value" "_law_is_value" (defArgs s_l_is_value) (defBody s_l_is_value) (defScope s_l_is_value) [] [] (He.ga K "_law_is_value") fd
  m_l_is_value : mg "_law_is_value" = some (.ref (He.ga K "_law_is_value"))
  d_l_odd : ∃ fd, FunD K "_law_odd" "_law_odd" (defArgs s_l_odd) (defBody s_l_odd) (defScope s_l_odd) [] [] (He.ga K "_law_odd") fd
  m_l_odd : mg "_law_odd" = some (.ref (He.ga K "_law_odd"))
  d_law : ∃ fd, FunD K "law" "law" (defArgs s_law) (defBody s_law) (defScope s_law) [] [] (He.ga K "law") fd
  m_law : mg "law" = some (.ref (He.ga K "law"))
  g_LEAST_NUMBER : ∃ t, mg "LEAST_NUMBER" = some (.int (-999) t)
  g_MOST_NUMBER : ∃ t, mg "MOST_NUMBER" = some (.int 999 t)
  g_MOST_LETTERS : ∃ t, mg "MOST_LETTERS" = some (.int 8 t)
  g_LETTERS : ∃ t, mg "LETTERS" = some (.str "abcdefghijklmnopqrstuvwxyz" t)
  n_abs : mg "abs" = none
  n_all : mg "all" = none
  n_bool : mg "bool" = none
  n_int : mg "int" = none
  n_isinstance : mg "isinstance" = none
  n_len : mg "len" = none
  n_max : mg "max" = none
  n_min : mg "min" = none
  n_range : mg "range" = none
  n_str : mg "str" = none
local macro_rules | `(tactic| walk_at "ar") => `(tactic| first
  | decide
  | omega
  | exact ⟨by omega, by omega⟩
  | exact ⟨by decide, by decide⟩
  | exact ⟨by omega, by omega, by omega⟩
  | exact .inl ⟨by omega, by omega⟩
  | exact .inr ⟨by omega, by omega⟩)
local macro_rules | `(tactic| walk_at "ne") => `(tactic| first
  | assumption
  | exact Ne.symm (by assumption))
local macro_rules | `(tactic| walk_at "hp") => `(tactic| first
  | assumption
  | exact upd_same
  | (refine upd_fresh (by assumption) ?_; walk_at "hp")
  | (refine same_at (by assumption) ?_; walk_at "hp")
  | (refine upd_off (by walk_at "ne") ?_; walk_at "hp")
  | (refine But.at (by assumption) (by walk_at "ne") ?_; walk_at "hp"))
local macro_rules | `(tactic| walk_at "sq") => `(tactic| first
  | assumption
  | exact SqL.of (by walk_at "hp")
  | (refine Same.seq (by assumption) ?_; walk_at "sq"))
local macro_rules | `(tactic| walk_at "sqt") => `(tactic| first
  | assumption
  | exact SqT.of (by walk_at "hp")
  | (refine same_sqT (by assumption) ?_; walk_at "sqt"))
local macro_rules | `(tactic| walk_at "ix") => `(tactic| first
  | rfl
  | assumption)
local macro_rules | `(tactic| walk_at "wp") => `(tactic| dsimp only [wipe, List.map_cons, List.map_nil, List.set_cons_succ, List.set_cons_zero, List.set])
local macro_rules | `(tactic| walk_at "go1") => `(tactic| first
  | (with_reducible refine w_gVar ?_; first | with_reducible refine w_var0 ?_ | with_reducible refine w_var1 ?_ | with_reducible refine w_var2 ?_ | with_reducible refine w_var3 ?_ | with_reducible refine w_var4 ?_ | with_reducible refine w_var5 ?_ | with_reducible refine w_var6 ?_ | with_reducible refine w_var7 ?_ | with_reducible refine w_var8 ?_ | with_reducible refine w_var9 ?_ | with_reducible refine w_var10 ?_ | with_reducible refine w_var11 ?_ | with_reducible refine w_var12 ?_ | with_reducible refine w_var13 ?_ | with_reducible refine w_var14 ?_ | with_reducible refine w_var15 ?_ | with_reducible refine w_var16 ?_ | with_reducible refine w_var17 ?_ | with_reducible refine w_var18 ?_ | with_reducible refine w_var19 ?_ | with_reducible refine w_var20 ?_ | with_reducible refine w_var21 ?_ | with_reducible refine w_var22 ?_ | with_reducible refine w_var23 ?_ | with_reducible refine w_var24 ?_ | with_reducible refine w_var25 ?_ | with_reducible refine w_var26 ?_ | with_reducible refine w_var27 ?_ | with_reducible refine w_var28 ?_ | with_reducible refine w_var29 ?_ | with_reducible refine w_var30 ?_ | with_reducible refine w_var31 ?_ | with_reducible refine w_var32 ?_ | with_reducible refine w_var33 ?_)
  | (with_reducible refine w_gSet ?_; first | with_reducible refine w_set0 ?_ | with_reducible refine w_set1 ?_ | with_reducible refine w_set2 ?_ | with_reducible refine w_set3 ?_ | with_reducible refine w_set4 ?_ | with_reducible refine w_set5 ?_ | with_reducible refine w_set6 ?_ | with_reducible refine w_set7 ?_ | with_reducible refine w_set8 ?_ | with_reducible refine w_set9 ?_ | with_reducible refine w_set10 ?_ | with_reducible refine w_set11 ?_ | with_reducible refine w_set12 ?_ | with_reducible refine w_set13 ?_ | with_reducible refine w_set14 ?_ | with_reducible refine w_set15 ?_ | with_reducible refine w_set16 ?_ | with_reducible refine w_set17 ?_ | with_reducible refine w_set18 ?_ | with_reducible refine w_set19 ?_ | with_reducible refine w_set20 ?_ | with_reducible refine w_set21 ?_ | with_reducible refine w_set22 ?_ | with_reducible refine w_set23 ?_ | with_reducible refine w_set24 ?_ | with_reducible refine w_set25 ?_ | with_reducible refine w_set26 ?_ | with_reducible refine w_set27 ?_ | with_reducible refine w_set28 ?_ | with_reducible refine w_set29 ?_ | with_reducible refine w_set30 ?_ | with_reducible refine w_set31 ?_ | with_reducible refine w_set32 ?_ | with_reducible refine w_set33 ?_)
  | with_reducible refine w_c ?_
  | with_reducible refine w_cons ?_
  | with_reducible refine w_op ?_
  | with_reducible refine w_call ?_
  | with_reducible refine w_nil ?_
  | with_reducible refine w_seq ?_
  | with_reducible refine w_asg ?_
  | with_reducible refine w_rI0 ?_
  | with_reducible refine w_un ?_
  | with_reducible refine w_rU ?_
  | with_reducible refine w_bQ ?_
  | with_reducible refine w_test ?_
  | with_reducible refine w_tB ?_
  | with_reducible refine w_not ?_
  | with_reducible refine w_and ?_
  | with_reducible refine w_or ?_
  | with_reducible refine w_bV ?_
  | with_reducible refine w_andV ?_
  | with_reducible refine w_orV ?_
  | with_reducible refine w_notV ?_
  | with_reducible refine w_ifE ?_
  | with_reducible refine w_bC ?_
  | with_reducible refine w_chain ?_
  | with_reducible refine w_tup ?_
  | with_reducible refine w_lst ?_
  | with_reducible refine w_cb ?_
  | with_reducible refine w_next ?_
  | with_reducible refine w_drop ?_
  | with_reducible refine w_ret ?_
  | with_reducible refine w_retN ?_
  | with_reducible refine w_ifS ?_
  | with_reducible refine w_brk ?_
  | with_reducible refine w_cont ?_
  | with_reducible refine w_gNil ?_
  | with_reducible refine w_gCons ?_
  | with_reducible refine w_gSub ?_
  | with_reducible refine w_for ?_
  | with_reducible refine w_rng1 ?_
  | with_reducible refine w_iList ?_
  | with_reducible refine w_iTup ?_
  | with_reducible refine w_iStr ?_
  | with_reducible refine w_kStr ?_
  | with_reducible refine w_lc ?_
  | with_reducible refine w_tYes ?_
  | with_reducible refine w_true ?_
  | with_reducible refine w_false ?_
  | with_reducible refine w_ab ?_
  | with_reducible refine w_mx2 ?_
  | with_reducible refine w_mn2 ?_
  | with_reducible refine w_inSign ?_
  | with_reducible refine w_bm ?_
  | with_reducible refine w_m1 ?_
  | with_reducible refine w_m0 ?_
  | with_reducible refine w_isS ?_
  | refine w_rI (by walk_at "ar") ?_
  | refine w_ixL (by walk_at "sq") (by walk_at "ix") ?_
  | refine w_ixT (by walk_at "sqt") (by walk_at "ix") ?_
  | refine w_setL (by walk_at "hp") (by rfl) ?_
  | refine w_lnL (by walk_at "sq") ?_
  | refine w_lnT (by walk_at "sqt") ?_
  | refine w_eq (by rfl) ?_
  | refine w_ne (by rfl) ?_)
local macro_rules | `(tactic| walk_at "gs") => `(tactic| simp only [↓e_c, ↓e_op, ↓e_un, ↓e_rU, ↓e_rI0, ↓e_rI, ↓e_bQ, ↓e_test, ↓e_tB, ↓e_not, ↓e_and, ↓e_or, ↓e_andV, ↓e_orV, ↓e_notV, ↓e_ifE, ↓e_chain, ↓e_nil, ↓e_cons, ↓e_tup, ↓e_lst, ↓e_kLst, ↓e_kTup, ↓e_small, ↓e_smallB, ↓e_call, ↓e_callN, ↓e_cb, ↓e_next, ↓e_seq, ↓e_drop, ↓e_ret, ↓e_retN, ↓e_ifS, ↓e_asg, ↓e_brk, ↓e_cont, ↓e_gNil, ↓e_gCons, ↓e_gSub, ↓e_for, ↓e_rng1, ↓e_kRng1, ↓e_iList, ↓e_iTup, ↓e_kStr, ↓e_iStr, ↓e_lc, ↓e_tYes, ↓e_ab, ↓e_mx2, ↓e_mn2, ↓e_bm, ↓e_tyS, ↓e_sIx, ↓e_m1, ↓e_m0, ↓e_isS, ↓e_addI, ↓e_addS, ↓e_addR, ↓e_seqL, ↓e_seqT, ↓e_onTup, ↓e_lstL, ↓e_ixS, ↓e_ixR, ↓e_itsL, ↓e_itsT, ↓e_slS, ↓e_slR, ↓e_newT, ↓e_mutL, ↓e_mutD, ↓e_sl, ↓e_bI, ↓e_noPart, ↓e_part, ↓e_inS, ↓e_ninS, ↓e_inR, ↓e_ninR, ↓e_lenS, ↓e_lenR, ↓e_tupR, ↓e_listR, ↓e_isR, ↓e_tyL, ↓e_tyT, ↓e_tyD, ↓e_eqI, ↓e_neI, ↓e_eqS, ↓e_neS, ↓e_eqB, ↓e_neB, ↓e_eqR, ↓e_neR, ↓e_eqR2, ↓e_neR2, ↓e_ltI, ↓e_leI, ↓e_gtI, ↓e_geI, ↓e_ltS, ↓e_leS, ↓e_gtS, ↓e_geS, ↓e_mul, ↓e_mulS, ↓e_m0F, ↓e_exS, ↓e_upS, ↓e_mod, ↓e_div, ↓e_pow, ↓e_sub, ↓e_iaddI, ↓e_iaddS, ↓e_imul, ↓e_setL, ↓e_app, ↓e_truF, ↓e_truI, ↓e_truB, ↓e_truN, ↓e_truS, ↓e_truR, ↓e_iSeq, ↓e_kSeqS, ↓e_kSeqR, ↓e_seqOL, ↓e_seqOT, ↓e_itOL, ↓e_itOT, ↓e_at0, ↓e_at1, ↓e_at2, ↓e_at3, ↓e_ex1, ↓e_ixN0, ↓e_ixN1, ↓e_updS, ↓e_updU, ↓e_lset0, ↓e_lset1, ↓e_var0, ↓e_var1, ↓e_var2, ↓e_var3, ↓e_var4, ↓e_var5, ↓e_var6, ↓e_var7, ↓e_var8, ↓e_var9, ↓e_var10, ↓e_var11, ↓e_var12, ↓e_var13, ↓e_var14, ↓e_var15, ↓e_var16, ↓e_var17, ↓e_var18, ↓e_var19, ↓e_var20, ↓e_var21, ↓e_var22, ↓e_var23, ↓e_var24, ↓e_var25, ↓e_var26, ↓e_var27, ↓e_var28, ↓e_var29, ↓e_var30, ↓e_var31, ↓e_var32, ↓e_var33, ↓e_set0, ↓e_set1, ↓e_set2, ↓e_set3, ↓e_set4, ↓e_set5, ↓e_set6, ↓e_set7, ↓e_set8, ↓e_set9, ↓e_set10, ↓e_set11, ↓e_set12, ↓e_set13, ↓e_set14, ↓e_set15, ↓e_set16, ↓e_set17, ↓e_set18, ↓e_set19, ↓e_set20, ↓e_set21, ↓e_set22, ↓e_set23, ↓e_set24, ↓e_set25, ↓e_set26, ↓e_set27, ↓e_set28, ↓e_set29, ↓e_set30, ↓e_set31, ↓e_set32, ↓e_set33, ↓e_aug0, ↓e_aug1, ↓e_aug2, ↓e_aug3, ↓e_aug4, ↓e_aug5, ↓e_aug6, ↓e_aug7, ↓e_aug8, ↓e_aug9, ↓e_aug10, ↓e_aug11, ↓e_aug12, ↓e_aug13, ↓e_aug14, ↓e_aug15, ↓e_aug16, ↓e_aug17, ↓e_aug18, ↓e_aug19, ↓e_aug20, ↓e_aug21, ↓e_aug22, ↓e_aug23, ↓e_aug24, ↓e_aug25, ↓e_aug26, ↓e_aug27, ↓e_aug28, ↓e_aug29, ↓e_aug30, ↓e_aug31, ↓e_aug32, ↓e_aug33, ↓e_is_int_bool, ↓e_is_int_int, ↓e_is_int_str, ↓e_is_int_list, ↓e_is_int_tuple, ↓e_is_int_dict, ↓e_is_bl_bool, ↓e_is_bl_int, ↓e_is_bl_str, ↓e_is_bl_list, ↓e_is_bl_tuple, ↓e_is_bl_dict, ↓e_is_str_bool, ↓e_is_str_int, ↓e_is_str_str, ↓e_is_str_list, ↓e_is_str_tuple, ↓e_is_str_dict, ↓e_is_non_bool, ↓e_is_non_int, ↓e_is_non_str, ↓e_is_non_list, ↓e_is_non_tuple, ↓e_is_non_dict, e_ib_list_bool, e_ib_list_int, e_ib_list_str, e_ib_list_list, e_ib_list_tuple, e_ib_list_dict, e_ib_tuple_bool, e_ib_tuple_int, e_ib_tuple_str, e_ib_tuple_list, e_ib_tuple_tuple, e_ib_tuple_dict, e_ib_dict_bool, e_ib_dict_int, e_ib_dict_str, e_ib_dict_list, e_ib_dict_tuple, e_ib_dict_dict, e_kn_bool, e_kn_int, e_kn_str, e_kn_list, e_kn_tuple, e_kn_dict, decide_eq_true_eq, Bool.not_eq_true', decide_eq_false_iff_not, Bool.false_eq_true, Bool.true_eq_false, if_true, if_false, List.append_nil, true_and, and_true, Bool.not_false, Bool.not_true, decide_true, decide_false, eq_self, List.cons_append, List.nil_append, and_self, List.length_cons, List.length_nil])
local macro_rules | `(tactic| walk_at "ga") => `(tactic| simp (config := {contextual := true, maxSteps := 1000000}) only [↓e_c, ↓e_op, ↓e_un, ↓e_rU, ↓e_rI0, ↓e_rI, ↓e_bQ, ↓e_test, ↓e_tB, ↓e_not, ↓e_and, ↓e_or, ↓e_andV, ↓e_orV, ↓e_notV, ↓e_ifE, ↓e_chain, ↓e_nil, ↓e_cons, ↓e_tup, ↓e_lst, ↓e_kLst, ↓e_kTup, ↓e_small, ↓e_smallB, ↓e_call, ↓e_callN, ↓e_cb, ↓e_next, ↓e_seq, ↓e_drop, ↓e_ret, ↓e_retN, ↓e_ifS, ↓e_asg, ↓e_brk, ↓e_cont, ↓e_gNil, ↓e_gCons, ↓e_gSub, ↓e_for, ↓e_rng1, ↓e_kRng1, ↓e_iList, ↓e_iTup, ↓e_kStr, ↓e_iStr, ↓e_lc, ↓e_tYes, ↓e_ab, ↓e_mx2, ↓e_mn2, ↓e_bm, ↓e_tyS, ↓e_sIx, ↓e_m1, ↓e_m0, ↓e_isS, ↓e_addI, ↓e_addS, ↓e_addR, ↓e_seqL, ↓e_seqT, ↓e_onTup, ↓e_lstL, ↓e_ixS, ↓e_ixR, ↓e_itsL, ↓e_itsT, ↓e_slS, ↓e_slR, ↓e_newT, ↓e_mutL, ↓e_mutD, ↓e_sl, ↓e_bI, ↓e_noPart, ↓e_part, ↓e_inS, ↓e_ninS, ↓e_inR, ↓e_ninR, ↓e_lenS, ↓e_lenR, ↓e_tupR, ↓e_listR, ↓e_isR, ↓e_tyL, ↓e_tyT, ↓e_tyD, ↓e_eqI, ↓e_neI, ↓e_eqS, ↓e_neS, ↓e_eqB, ↓e_neB, ↓e_eqR, ↓e_neR, ↓e_eqR2, ↓e_neR2, ↓e_ltI, ↓e_leI, ↓e_gtI, ↓e_geI, ↓e_ltS, ↓e_leS, ↓e_gtS, ↓e_geS, ↓e_mul, ↓e_mulS, ↓e_m0F, ↓e_exS, ↓e_upS, ↓e_mod, ↓e_div, ↓e_pow, ↓e_sub, ↓e_iaddI, ↓e_iaddS, ↓e_imul, ↓e_setL, ↓e_app, ↓e_truF, ↓e_truI, ↓e_truB, ↓e_truN, ↓e_truS, ↓e_truR, ↓e_iSeq, ↓e_kSeqS, ↓e_kSeqR, ↓e_seqOL, ↓e_seqOT, ↓e_itOL, ↓e_itOT, ↓e_at0, ↓e_at1, ↓e_at2, ↓e_at3, ↓e_ex1, ↓e_ixN0, ↓e_ixN1, ↓e_updS, ↓e_updU, ↓e_lset0, ↓e_lset1, ↓e_var0, ↓e_var1, ↓e_var2, ↓e_var3, ↓e_var4, ↓e_var5, ↓e_var6, ↓e_var7, ↓e_var8, ↓e_var9, ↓e_var10, ↓e_var11, ↓e_var12, ↓e_var13, ↓e_var14, ↓e_var15, ↓e_var16, ↓e_var17, ↓e_var18, ↓e_var19, ↓e_var20, ↓e_var21, ↓e_var22, ↓e_var23, ↓e_var24, ↓e_var25, ↓e_var26, ↓e_var27, ↓e_var28, ↓e_var29, ↓e_var30, ↓e_var31, ↓e_var32, ↓e_var33, ↓e_set0, ↓e_set1, ↓e_set2, ↓e_set3, ↓e_set4, ↓e_set5, ↓e_set6, ↓e_set7, ↓e_set8, ↓e_set9, ↓e_set10, ↓e_set11, ↓e_set12, ↓e_set13, ↓e_set14, ↓e_set15, ↓e_set16, ↓e_set17, ↓e_set18, ↓e_set19, ↓e_set20, ↓e_set21, ↓e_set22, ↓e_set23, ↓e_set24, ↓e_set25, ↓e_set26, ↓e_set27, ↓e_set28, ↓e_set29, ↓e_set30, ↓e_set31, ↓e_set32, ↓e_set33, ↓e_aug0, ↓e_aug1, ↓e_aug2, ↓e_aug3, ↓e_aug4, ↓e_aug5, ↓e_aug6, ↓e_aug7, ↓e_aug8, ↓e_aug9, ↓e_aug10, ↓e_aug11, ↓e_aug12, ↓e_aug13, ↓e_aug14, ↓e_aug15, ↓e_aug16, ↓e_aug17, ↓e_aug18, ↓e_aug19, ↓e_aug20, ↓e_aug21, ↓e_aug22, ↓e_aug23, ↓e_aug24, ↓e_aug25, ↓e_aug26, ↓e_aug27, ↓e_aug28, ↓e_aug29, ↓e_aug30, ↓e_aug31, ↓e_aug32, ↓e_aug33, ↓e_is_int_bool, ↓e_is_int_int, ↓e_is_int_str, ↓e_is_int_list, ↓e_is_int_tuple, ↓e_is_int_dict, ↓e_is_bl_bool, ↓e_is_bl_int, ↓e_is_bl_str, ↓e_is_bl_list, ↓e_is_bl_tuple, ↓e_is_bl_dict, ↓e_is_str_bool, ↓e_is_str_int, ↓e_is_str_str, ↓e_is_str_list, ↓e_is_str_tuple, ↓e_is_str_dict, ↓e_is_non_bool, ↓e_is_non_int, ↓e_is_non_str, ↓e_is_non_list, ↓e_is_non_tuple, ↓e_is_non_dict, e_ib_list_bool, e_ib_list_int, e_ib_list_str, e_ib_list_list, e_ib_list_tuple, e_ib_list_dict, e_ib_tuple_bool, e_ib_tuple_int, e_ib_tuple_str, e_ib_tuple_list, e_ib_tuple_tuple, e_ib_tuple_dict, e_ib_dict_bool, e_ib_dict_int, e_ib_dict_str, e_ib_dict_list, e_ib_dict_tuple, e_ib_dict_dict, e_kn_bool, e_kn_int, e_kn_str, e_kn_list, e_kn_tuple, e_kn_dict, decide_eq_true_eq, Bool.not_eq_true', decide_eq_false_iff_not, Bool.false_eq_true, Bool.true_eq_false, if_true, if_false, List.append_nil, true_and, and_true, Bool.not_false, Bool.not_true, decide_true, decide_false, eq_self, List.cons_append, List.nil_append, and_self, List.length_cons, List.length_nil, ↓Wr.e_revT, ↓Wr.e_kRevT, ↓e_forgS, ↓e_forgE, h_old, h_ne, h_comm, h_isNone, and_imp, not_false_eq_true, Option.isSome_some, implies_true, not_true_eq_false, Int.reduceLT, Int.reduceLE, Int.reduceAdd, Int.reduceSub, Int.reduceMul, Int.reduceNeg, Int.reduceEq, Int.reduceNe, Int.reduceToNat, Nat.reduceAdd, Nat.reduceSub, Nat.reduceLeDiff, reduceIte, Int.reducePow, ↓e_take, *])
local macro_rules | `(tactic| walk_at "gn") => `(tactic| simp (config := {maxSteps := 1000000}) only [↓e_c, ↓e_op, ↓e_un, ↓e_rU, ↓e_rI0, ↓e_rI, ↓e_bQ, ↓e_test, ↓e_tB, ↓e_not, ↓e_and, ↓e_or, ↓e_andV, ↓e_orV, ↓e_notV, ↓e_ifE, ↓e_chain, ↓e_nil, ↓e_cons, ↓e_tup, ↓e_lst, ↓g_kLst, ↓g_kTup, ↓e_small, ↓e_smallB, ↓e_call, ↓e_callN, ↓e_cb, ↓e_next, ↓e_seq, ↓e_drop, ↓e_ret, ↓e_retN, ↓e_ifS, ↓e_asg, ↓e_brk, ↓e_cont, ↓e_gNil, ↓e_gCons, ↓e_gSub, ↓e_for, ↓e_rng1, ↓e_kRng1, ↓e_iList, ↓e_iTup, ↓e_kStr, ↓e_iStr, ↓e_lc, ↓e_tYes, ↓e_ab, ↓e_mx2, ↓e_mn2, ↓e_bm, ↓e_tyS, ↓e_sIx, ↓e_m1, ↓e_m0, ↓e_isS, ↓e_addI, ↓e_addS, ↓g_addR, ↓e_seqL, ↓e_seqT, ↓e_onTup, ↓e_lstL, ↓e_ixS, ↓e_ixR, ↓e_itsL, ↓e_itsT, ↓e_slS, ↓g_slR, ↓e_mutL, ↓e_mutD, ↓e_sl, ↓e_bI, ↓e_noPart, ↓e_part, ↓e_inS, ↓e_ninS, ↓e_inR, ↓e_ninR, ↓e_lenS, ↓e_lenR, ↓g_tupR, ↓g_listR, ↓e_isR, ↓e_tyL, ↓e_tyT, ↓e_tyD, ↓e_eqI, ↓e_neI, ↓e_eqS, ↓e_neS, ↓e_eqB, ↓e_neB, ↓e_eqR, ↓e_neR, ↓e_eqR2, ↓e_neR2, ↓e_ltI, ↓e_leI, ↓e_gtI, ↓e_geI, ↓e_ltS, ↓e_leS, ↓e_gtS, ↓e_geS, ↓e_mul, ↓e_mulS, ↓e_m0F, ↓e_exS, ↓e_upS, ↓e_mod, ↓e_div, ↓e_pow, ↓e_sub, ↓e_iaddI, ↓e_iaddS, ↓e_imul, ↓e_setL, ↓e_app, ↓e_truF, ↓e_truI, ↓e_truB, ↓e_truN, ↓e_truS, ↓e_truR, ↓e_iSeq, ↓e_kSeqS, ↓e_kSeqR, ↓e_seqOL, ↓e_seqOT, ↓e_itOL, ↓e_itOT, ↓e_at0, ↓e_at1, ↓e_at2, ↓e_at3, ↓e_ex1, ↓e_ixN0, ↓e_ixN1, ↓e_updS, ↓e_updU, ↓e_lset0, ↓e_lset1, ↓e_var0, ↓e_var1, ↓e_var2, ↓e_var3, ↓e_var4, ↓e_var5, ↓e_var6, ↓e_var7, ↓e_var8, ↓e_var9, ↓e_var10, ↓e_var11, ↓e_var12, ↓e_var13, ↓e_var14, ↓e_var15, ↓e_var16, ↓e_var17, ↓e_var18, ↓e_var19, ↓e_var20, ↓e_var21, ↓e_var22, ↓e_var23, ↓e_var24, ↓e_var25, ↓e_var26, ↓e_var27, ↓e_var28, ↓e_var29, ↓e_var30, ↓e_var31, ↓e_var32, ↓e_var33, ↓e_set0, ↓e_set1, ↓e_set2, ↓e_set3, ↓e_set4, ↓e_set5, ↓e_set6, ↓e_set7, ↓e_set8, ↓e_set9, ↓e_set10, ↓e_set11, ↓e_set12, ↓e_set13, ↓e_set14, ↓e_set15, ↓e_set16, ↓e_set17, ↓e_set18, ↓e_set19, ↓e_set20, ↓e_set21, ↓e_set22, ↓e_set23, ↓e_set24, ↓e_set25, ↓e_set26, ↓e_set27, ↓e_set28, ↓e_set29, ↓e_set30, ↓e_set31, ↓e_set32, ↓e_set33, ↓e_aug0, ↓e_aug1, ↓e_aug2, ↓e_aug3, ↓e_aug4, ↓e_aug5, ↓e_aug6, ↓e_aug7, ↓e_aug8, ↓e_aug9, ↓e_aug10, ↓e_aug11, ↓e_aug12, ↓e_aug13, ↓e_aug14, ↓e_aug15, ↓e_aug16, ↓e_aug17, ↓e_aug18, ↓e_aug19, ↓e_aug20, ↓e_aug21, ↓e_aug22, ↓e_aug23, ↓e_aug24, ↓e_aug25, ↓e_aug26, ↓e_aug27, ↓e_aug28, ↓e_aug29, ↓e_aug30, ↓e_aug31, ↓e_aug32, ↓e_aug33, ↓e_is_int_bool, ↓e_is_int_int, ↓e_is_int_str, ↓e_is_int_list, ↓e_is_int_tuple, ↓e_is_int_dict, ↓e_is_bl_bool, ↓e_is_bl_int, ↓e_is_bl_str, ↓e_is_bl_list, ↓e_is_bl_tuple, ↓e_is_bl_dict, ↓e_is_str_bool, ↓e_is_str_int, ↓e_is_str_str, ↓e_is_str_list, ↓e_is_str_tuple, ↓e_is_str_dict, ↓e_is_non_bool, ↓e_is_non_int, ↓e_is_non_str, ↓e_is_non_list, ↓e_is_non_tuple, ↓e_is_non_dict, e_ib_list_bool, e_ib_list_int, e_ib_list_str, e_ib_list_list, e_ib_list_tuple, e_ib_list_dict, e_ib_tuple_bool, e_ib_tuple_int, e_ib_tuple_str, e_ib_tuple_list, e_ib_tuple_tuple, e_ib_tuple_dict, e_ib_dict_bool, e_ib_dict_int, e_ib_dict_str, e_ib_dict_list, e_ib_dict_tuple, e_ib_dict_dict, e_kn_bool, e_kn_int, e_kn_str, e_kn_list, e_kn_tuple, e_kn_dict, decide_eq_true_eq, Bool.not_eq_true', decide_eq_false_iff_not, Bool.false_eq_true, Bool.true_eq_false, if_true, if_false, List.append_nil, true_and, and_true, Bool.not_false, Bool.not_true, decide_true, decide_false, eq_self, List.cons_append, List.nil_append, and_self, List.length_cons, List.length_nil, ↓Wr.e_revT, ↓Wr.e_kRevT, ↓e_forgS, ↓e_forgE, upd_same, h_old, h_ne, h_comm, h_isNone, and_imp, not_false_eq_true, Option.isSome_some, implies_true, not_true_eq_false, Int.reduceLT, Int.reduceLE, Int.reduceAdd, Int.reduceSub, Int.reduceMul, Int.reduceNeg, Int.reduceEq, Int.reduceNe, Int.reduceToNat, Nat.reduceAdd, Nat.reduceSub, Nat.reduceLeDiff, reduceIte, Int.reducePow, ↓e_take, *])
local macro_rules | `(tactic| walk_at "fr") => `(tactic| simp (config := {contextual := true}) only [h_isNone, not_false_eq_true, and_self, true_and, *])
local macro_rules | `(tactic| walk_at "sm") => `(tactic| first
  | assumption
  | exact Same.refl _
  | (refine same_new' ?_ ?_; (· walk_at "fr"); walk_at "sm")
  | (refine same_updOff ?_ (by assumption); walk_at "sm"))
local macro_rules | `(tactic| walk_at "mu") => `(tactic| first
  | rfl
  | (simp (config := {contextual := true}) only [upd_same, h_old, h_ne, h_isNone, not_false_eq_true, and_self, true_and, Option.isSome_some, *]; done)
  | (simp (config := {contextual := true}) only [upd_same, h_old, h_ne, h_isNone, not_false_eq_true, and_self, true_and, Option.isSome_some, *]; rfl))
local macro_rules | `(tactic| walk_at "wh") => `(tactic| first
  | assumption
  | (refine whole_new' ?_ trivial ?_; (· walk_at "fr"); walk_at "wh")
  | (refine whole_mut' ?_ trivial ?_; (· walk_at "mu"); walk_at "wh"))
local macro_rules | `(tactic| walk_at "go") => `(tactic| repeat walk_at "go1")


/-! ### the script's cells: a bag of digits, what is taken of it -/
def bagO (g r : Int) : HO := .lst [.int g, .int r]
structure BagOk (g r : Int) : Prop where
  g0 : 0 ≤ g
  r0 : 0 ≤ r
  r1 : r < 2147483647
def onBag (o : Option HO) (F : Int → Int → Prop) : Prop := match o with
  | some (.lst [.int g, .int r]) => BagOk g r ∧ F g r
  | _ => False
theorem onBag_cases {o : Option HO} {F : Int → Int → Prop} (q : onBag o F) : ∃ g r, o = some (.lst [.int g, .int r]) ∧ BagOk g r ∧ F g r := by
  unfold onBag at q
  split at q
  · exact ⟨_, _, rfl, q⟩
  · exact q.elim
theorem e_mutB {g r : Int} : mutO (some (bagO g r)) = true := rfl
theorem e_onBag {g r : Int} {F : Int → Int → Prop} : onBag (some (bagO g r)) F = (BagOk g r ∧ F g r) := rfl
def spTake : Sp := fun vs H Q _ => match vs with
  | [.ref b, .int n] => onBag (H b) fun _ _ => (0 < n ∧ n < 1073741824) ∧ ∀ d g' r', 0 ≤ d → d < n → BagOk g' r' → Q (.int d) (upd H b (bagO g' r'))
  | _ => False
theorem e_take {b : Addr} {n : Int} {H : Hp} {Q : VK} {E : XK} : spTake [.ref b, .int n] H Q E = onBag (H b) fun _ _ => (0 < n ∧ n < 1073741824) ∧ ∀ d g' r', 0 ≤ d → d < n → BagOk g' r' → Q (.int d) (upd H b (bagO g' r')) := rfl
theorem spTake_cases {vs : List V} {H : Hp} {Q : VK} {E : XK} (h : spTake vs H Q E) : ∃ b n g r, vs = [.ref b, .int n] ∧ H b = some (.lst [.int g, .int r]) ∧ BagOk g r ∧ 0 < n ∧ n < 1073741824 ∧ ∀ d g' r', 0 ≤ d → d < n → BagOk g' r' → Q (.int d) (upd H b (bagO g' r')) := by
  unfold spTake at h
  split at h
  · obtain ⟨g, r, e, o, n, q⟩ := onBag_cases h
    exact ⟨_, _, g, r, rfl, e, o, n.1, n.2, q⟩
  · exact h.elim
local macro_rules | `(tactic| walk_at "ar") => `(tactic| first
  | decide
  | omega
  | exact ⟨by omega, by omega⟩
  | exact ⟨by decide, by decide⟩
  | exact ⟨by omega, by omega, by omega⟩
  | exact .inl ⟨by omega, by omega⟩
  | exact .inr ⟨by omega, by omega⟩)
local macro_rules | `(tactic| walk_at "ne") => `(tactic| first
  | assumption
  | exact Ne.symm (by assumption))
local macro_rules | `(tactic| walk_at "hp") => `(tactic| first
  | assumption
  | exact upd_same
  | (refine upd_fresh (by assumption) ?_; walk_at "hp")
  | (refine same_at (by assumption) ?_; walk_at "hp")
  | (refine upd_off (by walk_at "ne") ?_; walk_at "hp")
  | (refine But.at (by assumption) (by walk_at "ne") ?_; walk_at "hp"))
local macro_rules | `(tactic| walk_at "sq") => `(tactic| first
  | assumption
  | exact SqL.of (by walk_at "hp")
  | (refine Same.seq (by assumption) ?_; walk_at "sq"))
local macro_rules | `(tactic| walk_at "sqt") => `(tactic| first
  | assumption
  | exact SqT.of (by walk_at "hp")
  | (refine same_sqT (by assumption) ?_; walk_at "sqt"))
local macro_rules | `(tactic| walk_at "ix") => `(tactic| first
  | rfl
  | assumption)
local macro_rules | `(tactic| walk_at "wp") => `(tactic| dsimp only [wipe, List.map_cons, List.map_nil, List.set_cons_succ, List.set_cons_zero, List.set])
local macro_rules | `(tactic| walk_at "go1") => `(tactic| first
  | (with_reducible refine w_gVar ?_; first | with_reducible refine w_var0 ?_ | with_reducible refine w_var1 ?_ | with_reducible refine w_var2 ?_ | with_reducible refine w_var3 ?_ | with_reducible refine w_var4 ?_ | with_reducible refine w_var5 ?_ | with_reducible refine w_var6 ?_ | with_reducible refine w_var7 ?_ | with_reducible refine w_var8 ?_ | with_reducible refine w_var9 ?_ | with_reducible refine w_var10 ?_ | with_reducible refine w_var11 ?_ | with_reducible refine w_var12 ?_ | with_reducible refine w_var13 ?_ | with_reducible refine w_var14 ?_ | with_reducible refine w_var15 ?_ | with_reducible refine w_var16 ?_ | with_reducible refine w_var17 ?_ | with_reducible refine w_var18 ?_ | with_reducible refine w_var19 ?_ | with_reducible refine w_var20 ?_ | with_reducible refine w_var21 ?_ | with_reducible refine w_var22 ?_ | with_reducible refine w_var23 ?_ | with_reducible refine w_var24 ?_ | with_reducible refine w_var25 ?_ | with_reducible refine w_var26 ?_ | with_reducible refine w_var27 ?_ | with_reducible refine w_var28 ?_ | with_reducible refine w_var29 ?_ | with_reducible refine w_var30 ?_ | with_reducible refine w_var31 ?_ | with_reducible refine w_var32 ?_ | with_reducible refine w_var33 ?_)
  | (with_reducible refine w_gSet ?_; first | with_reducible refine w_set0 ?_ | with_reducible refine w_set1 ?_ | with_reducible refine w_set2 ?_ | with_reducible refine w_set3 ?_ | with_reducible refine w_set4 ?_ | with_reducible refine w_set5 ?_ | with_reducible refine w_set6 ?_ | with_reducible refine w_set7 ?_ | with_reducible refine w_set8 ?_ | with_reducible refine w_set9 ?_ | with_reducible refine w_set10 ?_ | with_reducible refine w_set11 ?_ | with_reducible refine w_set12 ?_ | with_reducible refine w_set13 ?_ | with_reducible refine w_set14 ?_ | with_reducible refine w_set15 ?_ | with_reducible refine w_set16 ?_ | with_reducible refine w_set17 ?_ | with_reducible refine w_set18 ?_ | with_reducible refine w_set19 ?_ | with_reducible refine w_set20 ?_ | with_reducible refine w_set21 ?_ | with_reducible refine w_set22 ?_ | with_reducible refine w_set23 ?_ | with_reducible refine w_set24 ?_ | with_reducible refine w_set25 ?_ | with_reducible refine w_set26 ?_ | with_reducible refine w_set27 ?_ | with_reducible refine w_set28 ?_ | with_reducible refine w_set29 ?_ | with_reducible refine w_set30 ?_ | with_reducible refine w_set31 ?_ | with_reducible refine w_set32 ?_ | with_reducible refine w_set33 ?_)
  | with_reducible refine w_c ?_
  | with_reducible refine w_cons ?_
  | with_reducible refine w_op ?_
  | with_reducible refine w_call ?_
  | with_reducible refine w_nil ?_
  | with_reducible refine w_seq ?_
  | with_reducible refine w_asg ?_
  | with_reducible refine w_rI0 ?_
  | with_reducible refine w_un ?_
  | with_reducible refine w_rU ?_
  | with_reducible refine w_bQ ?_
  | with_reducible refine w_test ?_
  | with_reducible refine w_tB ?_
  | with_reducible refine w_not ?_
  | with_reducible refine w_and ?_
  | with_reducible refine w_or ?_
  | with_reducible refine w_bV ?_
  | with_reducible refine w_andV ?_
  | with_reducible refine w_orV ?_
  | with_reducible refine w_notV ?_
  | with_reducible refine w_ifE ?_
  | with_reducible refine w_bC ?_
  | with_reducible refine w_chain ?_
  | with_reducible refine w_tup ?_
  | with_reducible refine w_lst ?_
  | with_reducible refine w_cb ?_
  | with_reducible refine w_next ?_
  | with_reducible refine w_drop ?_
  | with_reducible refine w_ret ?_
  | with_reducible refine w_retN ?_
  | with_reducible refine w_ifS ?_
  | with_reducible refine w_brk ?_
  | with_reducible refine w_cont ?_
  | with_reducible refine w_gNil ?_
  | with_reducible refine w_gCons ?_
  | with_reducible refine w_gSub ?_
  | with_reducible refine w_for ?_
  | with_reducible refine w_rng1 ?_
  | with_reducible refine w_iList ?_
  | with_reducible refine w_iTup ?_
  | with_reducible refine w_iStr ?_
  | with_reducible refine w_kStr ?_
  | with_reducible refine w_lc ?_
  | with_reducible refine w_tYes ?_
  | with_reducible refine w_true ?_
  | with_reducible refine w_false ?_
  | with_reducible refine w_ab ?_
  | with_reducible refine w_mx2 ?_
  | with_reducible refine w_mn2 ?_
  | with_reducible refine w_inSign ?_
  | with_reducible refine w_bm ?_
  | with_reducible refine w_m1 ?_
  | with_reducible refine w_m0 ?_
  | with_reducible refine w_isS ?_
  | refine w_rI (by walk_at "ar") ?_
  | refine w_ixL (by walk_at "sq") (by walk_at "ix") ?_
  | refine w_ixT (by walk_at "sqt") (by walk_at "ix") ?_
  | refine w_setL (by walk_at "hp") (by rfl) ?_
  | refine w_lnL (by walk_at "sq") ?_
  | refine w_lnT (by walk_at "sqt") ?_
  | refine w_eq (by rfl) ?_
  | refine w_ne (by rfl) ?_)
local macro_rules | `(tactic| walk_at "gs") => `(tactic| simp only [↓e_c, ↓e_op, ↓e_un, ↓e_rU, ↓e_rI0, ↓e_rI, ↓e_bQ, ↓e_test, ↓e_tB, ↓e_not, ↓e_and, ↓e_or, ↓e_andV, ↓e_orV, ↓e_notV, ↓e_ifE, ↓e_chain, ↓e_nil, ↓e_cons, ↓e_tup, ↓e_lst, ↓e_kLst, ↓e_kTup, ↓e_small, ↓e_smallB, ↓e_call, ↓e_callN, ↓e_cb, ↓e_next, ↓e_seq, ↓e_drop, ↓e_ret, ↓e_retN, ↓e_ifS, ↓e_asg, ↓e_brk, ↓e_cont, ↓e_gNil, ↓e_gCons, ↓e_gSub, ↓e_for, ↓e_rng1, ↓e_kRng1, ↓e_iList, ↓e_iTup, ↓e_kStr, ↓e_iStr, ↓e_lc, ↓e_tYes, ↓e_ab, ↓e_mx2, ↓e_mn2, ↓e_bm, ↓e_tyS, ↓e_sIx, ↓e_m1, ↓e_m0, ↓e_isS, ↓e_addI, ↓e_addS, ↓e_addR, ↓e_seqL, ↓e_seqT, ↓e_onTup, ↓e_lstL, ↓e_ixS, ↓e_ixR, ↓e_itsL, ↓e_itsT, ↓e_slS, ↓e_slR, ↓e_newT, ↓e_mutL, ↓e_mutD, ↓e_sl, ↓e_bI, ↓e_noPart, ↓e_part, ↓e_inS, ↓e_ninS, ↓e_inR, ↓e_ninR, ↓e_lenS, ↓e_lenR, ↓e_tupR, ↓e_listR, ↓e_isR, ↓e_tyL, ↓e_tyT, ↓e_tyD, ↓e_eqI, ↓e_neI, ↓e_eqS, ↓e_neS, ↓e_eqB, ↓e_neB, ↓e_eqR, ↓e_neR, ↓e_eqR2, ↓e_neR2, ↓e_ltI, ↓e_leI, ↓e_gtI, ↓e_geI, ↓e_ltS, ↓e_leS, ↓e_gtS, ↓e_geS, ↓e_mul, ↓e_mulS, ↓e_m0F, ↓e_exS, ↓e_upS, ↓e_mod, ↓e_div, ↓e_pow, ↓e_sub, ↓e_iaddI, ↓e_iaddS, ↓e_imul, ↓e_setL, ↓e_app, ↓e_truF, ↓e_truI, ↓e_truB, ↓e_truN, ↓e_truS, ↓e_truR, ↓e_iSeq, ↓e_kSeqS, ↓e_kSeqR, ↓e_seqOL, ↓e_seqOT, ↓e_itOL, ↓e_itOT, ↓e_at0, ↓e_at1, ↓e_at2, ↓e_at3, ↓e_ex1, ↓e_ixN0, ↓e_ixN1, ↓e_updS, ↓e_updU, ↓e_lset0, ↓e_lset1, ↓e_var0, ↓e_var1, ↓e_var2, ↓e_var3, ↓e_var4, ↓e_var5, ↓e_var6, ↓e_var7, ↓e_var8, ↓e_var9, ↓e_var10, ↓e_var11, ↓e_var12, ↓e_var13, ↓e_var14, ↓e_var15, ↓e_var16, ↓e_var17, ↓e_var18, ↓e_var19, ↓e_var20, ↓e_var21, ↓e_var22, ↓e_var23, ↓e_var24, ↓e_var25, ↓e_var26, ↓e_var27, ↓e_var28, ↓e_var29, ↓e_var30, ↓e_var31, ↓e_var32, ↓e_var33, ↓e_set0, ↓e_set1, ↓e_set2, ↓e_set3, ↓e_set4, ↓e_set5, ↓e_set6, ↓e_set7, ↓e_set8, ↓e_set9, ↓e_set10, ↓e_set11, ↓e_set12, ↓e_set13, ↓e_set14, ↓e_set15, ↓e_set16, ↓e_set17, ↓e_set18, ↓e_set19, ↓e_set20, ↓e_set21, ↓e_set22, ↓e_set23, ↓e_set24, ↓e_set25, ↓e_set26, ↓e_set27, ↓e_set28, ↓e_set29, ↓e_set30, ↓e_set31, ↓e_set32, ↓e_set33, ↓e_aug0, ↓e_aug1, ↓e_aug2, ↓e_aug3, ↓e_aug4, ↓e_aug5, ↓e_aug6, ↓e_aug7, ↓e_aug8, ↓e_aug9, ↓e_aug10, ↓e_aug11, ↓e_aug12, ↓e_aug13, ↓e_aug14, ↓e_aug15, ↓e_aug16, ↓e_aug17, ↓e_aug18, ↓e_aug19, ↓e_aug20, ↓e_aug21, ↓e_aug22, ↓e_aug23, ↓e_aug24, ↓e_aug25, ↓e_aug26, ↓e_aug27, ↓e_aug28, ↓e_aug29, ↓e_aug30, ↓e_aug31, ↓e_aug32, ↓e_aug33, ↓e_is_int_bool, ↓e_is_int_int, ↓e_is_int_str, ↓e_is_int_list, ↓e_is_int_tuple, ↓e_is_int_dict, ↓e_is_bl_bool, ↓e_is_bl_int, ↓e_is_bl_str, ↓e_is_bl_list, ↓e_is_bl_tuple, ↓e_is_bl_dict, ↓e_is_str_bool, ↓e_is_str_int, ↓e_is_str_str, ↓e_is_str_list, ↓e_is_str_tuple, ↓e_is_str_dict, ↓e_is_non_bool, ↓e_is_non_int, ↓e_is_non_str, ↓e_is_non_list, ↓e_is_non_tuple, ↓e_is_non_dict, e_ib_list_bool, e_ib_list_int, e_ib_list_str, e_ib_list_list, e_ib_list_tuple, e_ib_list_dict, e_ib_tuple_bool, e_ib_tuple_int, e_ib_tuple_str, e_ib_tuple_list, e_ib_tuple_tuple, e_ib_tuple_dict, e_ib_dict_bool, e_ib_dict_int, e_ib_dict_str, e_ib_dict_list, e_ib_dict_tuple, e_ib_dict_dict, e_kn_bool, e_kn_int, e_kn_str, e_kn_list, e_kn_tuple, e_kn_dict, decide_eq_true_eq, Bool.not_eq_true', decide_eq_false_iff_not, Bool.false_eq_true, Bool.true_eq_false, if_true, if_false, List.append_nil, true_and, and_true, Bool.not_false, Bool.not_true, decide_true, decide_false, eq_self, List.cons_append, List.nil_append, and_self, List.length_cons, List.length_nil])
local macro_rules | `(tactic| walk_at "ga") => `(tactic| simp (config := {contextual := true, maxSteps := 1000000}) only [↓e_c, ↓e_op, ↓e_un, ↓e_rU, ↓e_rI0, ↓e_rI, ↓e_bQ, ↓e_test, ↓e_tB, ↓e_not, ↓e_and, ↓e_or, ↓e_andV, ↓e_orV, ↓e_notV, ↓e_ifE, ↓e_chain, ↓e_nil, ↓e_cons, ↓e_tup, ↓e_lst, ↓e_kLst, ↓e_kTup, ↓e_small, ↓e_smallB, ↓e_call, ↓e_callN, ↓e_cb, ↓e_next, ↓e_seq, ↓e_drop, ↓e_ret, ↓e_retN, ↓e_ifS, ↓e_asg, ↓e_brk, ↓e_cont, ↓e_gNil, ↓e_gCons, ↓e_gSub, ↓e_for, ↓e_rng1, ↓e_kRng1, ↓e_iList, ↓e_iTup, ↓e_kStr, ↓e_iStr, ↓e_lc, ↓e_tYes, ↓e_ab, ↓e_mx2, ↓e_mn2, ↓e_bm, ↓e_tyS, ↓e_sIx, ↓e_m1, ↓e_m0, ↓e_isS, ↓e_addI, ↓e_addS, ↓e_addR, ↓e_seqL, ↓e_seqT, ↓e_onTup, ↓e_lstL, ↓e_ixS, ↓e_ixR, ↓e_itsL, ↓e_itsT, ↓e_slS, ↓e_slR, ↓e_newT, ↓e_mutL, ↓e_mutD, ↓e_sl, ↓e_bI, ↓e_noPart, ↓e_part, ↓e_inS, ↓e_ninS, ↓e_inR, ↓e_ninR, ↓e_lenS, ↓e_lenR, ↓e_tupR, ↓e_listR, ↓e_isR, ↓e_tyL, ↓e_tyT, ↓e_tyD, ↓e_eqI, ↓e_neI, ↓e_eqS, ↓e_neS, ↓e_eqB, ↓e_neB, ↓e_eqR, ↓e_neR, ↓e_eqR2, ↓e_neR2, ↓e_ltI, ↓e_leI, ↓e_gtI, ↓e_geI, ↓e_ltS, ↓e_leS, ↓e_gtS, ↓e_geS, ↓e_mul, ↓e_mulS, ↓e_m0F, ↓e_exS, ↓e_upS, ↓e_mod, ↓e_div, ↓e_pow, ↓e_sub, ↓e_iaddI, ↓e_iaddS, ↓e_imul, ↓e_setL, ↓e_app, ↓e_truF, ↓e_truI, ↓e_truB, ↓e_truN, ↓e_truS, ↓e_truR, ↓e_iSeq, ↓e_kSeqS, ↓e_kSeqR, ↓e_seqOL, ↓e_seqOT, ↓e_itOL, ↓e_itOT, ↓e_at0, ↓e_at1, ↓e_at2, ↓e_at3, ↓e_ex1, ↓e_ixN0, ↓e_ixN1, ↓e_updS, ↓e_updU, ↓e_lset0, ↓e_lset1, ↓e_var0, ↓e_var1, ↓e_var2, ↓e_var3, ↓e_var4, ↓e_var5, ↓e_var6, ↓e_var7, ↓e_var8, ↓e_var9, ↓e_var10, ↓e_var11, ↓e_var12, ↓e_var13, ↓e_var14, ↓e_var15, ↓e_var16, ↓e_var17, ↓e_var18, ↓e_var19, ↓e_var20, ↓e_var21, ↓e_var22, ↓e_var23, ↓e_var24, ↓e_var25, ↓e_var26, ↓e_var27, ↓e_var28, ↓e_var29, ↓e_var30, ↓e_var31, ↓e_var32, ↓e_var33, ↓e_set0, ↓e_set1, ↓e_set2, ↓e_set3, ↓e_set4, ↓e_set5, ↓e_set6, ↓e_set7, ↓e_set8, ↓e_set9, ↓e_set10, ↓e_set11, ↓e_set12, ↓e_set13, ↓e_set14, ↓e_set15, ↓e_set16, ↓e_set17, ↓e_set18, ↓e_set19, ↓e_set20, ↓e_set21, ↓e_set22, ↓e_set23, ↓e_set24, ↓e_set25, ↓e_set26, ↓e_set27, ↓e_set28, ↓e_set29, ↓e_set30, ↓e_set31, ↓e_set32, ↓e_set33, ↓e_aug0, ↓e_aug1, ↓e_aug2, ↓e_aug3, ↓e_aug4, ↓e_aug5, ↓e_aug6, ↓e_aug7, ↓e_aug8, ↓e_aug9, ↓e_aug10, ↓e_aug11, ↓e_aug12, ↓e_aug13, ↓e_aug14, ↓e_aug15, ↓e_aug16, ↓e_aug17, ↓e_aug18, ↓e_aug19, ↓e_aug20, ↓e_aug21, ↓e_aug22, ↓e_aug23, ↓e_aug24, ↓e_aug25, ↓e_aug26, ↓e_aug27, ↓e_aug28, ↓e_aug29, ↓e_aug30, ↓e_aug31, ↓e_aug32, ↓e_aug33, ↓e_is_int_bool, ↓e_is_int_int, ↓e_is_int_str, ↓e_is_int_list, ↓e_is_int_tuple, ↓e_is_int_dict, ↓e_is_bl_bool, ↓e_is_bl_int, ↓e_is_bl_str, ↓e_is_bl_list, ↓e_is_bl_tuple, ↓e_is_bl_dict, ↓e_is_str_bool, ↓e_is_str_int, ↓e_is_str_str, ↓e_is_str_list, ↓e_is_str_tuple, ↓e_is_str_dict, ↓e_is_non_bool, ↓e_is_non_int, ↓e_is_non_str, ↓e_is_non_list, ↓e_is_non_tuple, ↓e_is_non_dict, e_ib_list_bool, e_ib_list_int, e_ib_list_str, e_ib_list_list, e_ib_list_tuple, e_ib_list_dict, e_ib_tuple_bool, e_ib_tuple_int, e_ib_tuple_str, e_ib_tuple_list, e_ib_tuple_tuple, e_ib_tuple_dict, e_ib_dict_bool, e_ib_dict_int, e_ib_dict_str, e_ib_dict_list, e_ib_dict_tuple, e_ib_dict_dict, e_kn_bool, e_kn_int, e_kn_str, e_kn_list, e_kn_tuple, e_kn_dict, decide_eq_true_eq, Bool.not_eq_true', decide_eq_false_iff_not, Bool.false_eq_true, Bool.true_eq_false, if_true, if_false, List.append_nil, true_and, and_true, Bool.not_false, Bool.not_true, decide_true, decide_false, eq_self, List.cons_append, List.nil_append, and_self, List.length_cons, List.length_nil, ↓Wr.e_revT, ↓Wr.e_kRevT, ↓e_forgS, ↓e_forgE, h_old, h_ne, h_comm, h_isNone, and_imp, not_false_eq_true, Option.isSome_some, implies_true, not_true_eq_false, Int.reduceLT, Int.reduceLE, Int.reduceAdd, Int.reduceSub, Int.reduceMul, Int.reduceNeg, Int.reduceEq, Int.reduceNe, Int.reduceToNat, Nat.reduceAdd, Nat.reduceSub, Nat.reduceLeDiff, reduceIte, Int.reducePow, ↓e_take, ↓e_onBag, ↓e_mutB, *])
local macro_rules | `(tactic| walk_at "gn") => `(tactic| simp (config := {maxSteps := 1000000}) only [↓e_c, ↓e_op, ↓e_un, ↓e_rU, ↓e_rI0, ↓e_rI, ↓e_bQ, ↓e_test, ↓e_tB, ↓e_not, ↓e_and, ↓e_or, ↓e_andV, ↓e_orV, ↓e_notV, ↓e_ifE, ↓e_chain, ↓e_nil, ↓e_cons, ↓e_tup, ↓e_lst, ↓g_kLst, ↓g_kTup, ↓e_small, ↓e_smallB, ↓e_call, ↓e_callN, ↓e_cb, ↓e_next, ↓e_seq, ↓e_drop, ↓e_ret, ↓e_retN, ↓e_ifS, ↓e_asg, ↓e_brk, ↓e_cont, ↓e_gNil, ↓e_gCons, ↓e_gSub, ↓e_for, ↓e_rng1, ↓e_kRng1, ↓e_iList, ↓e_iTup, ↓e_kStr, ↓e_iStr, ↓e_lc, ↓e_tYes, ↓e_ab, ↓e_mx2, ↓e_mn2, ↓e_bm, ↓e_tyS, ↓e_sIx, ↓e_m1, ↓e_m0, ↓e_isS, ↓e_addI, ↓e_addS, ↓g_addR, ↓e_seqL, ↓e_seqT, ↓e_onTup, ↓e_lstL, ↓e_ixS, ↓e_ixR, ↓e_itsL, ↓e_itsT, ↓e_slS, ↓g_slR, ↓e_mutL, ↓e_mutD, ↓e_sl, ↓e_bI, ↓e_noPart, ↓e_part, ↓e_inS, ↓e_ninS, ↓e_inR, ↓e_ninR, ↓e_lenS, ↓e_lenR, ↓g_tupR, ↓g_listR, ↓e_isR, ↓e_tyL, ↓e_tyT, ↓e_tyD, ↓e_eqI, ↓e_neI, ↓e_eqS, ↓e_neS, ↓e_eqB, ↓e_neB, ↓e_eqR, ↓e_neR, ↓e_eqR2, ↓e_neR2, ↓e_ltI, ↓e_leI, ↓e_gtI, ↓e_geI, ↓e_ltS, ↓e_leS, ↓e_gtS, ↓e_geS, ↓e_mul, ↓e_mulS, ↓e_m0F, ↓e_exS, ↓e_upS, ↓e_mod, ↓e_div, ↓e_pow, ↓e_sub, ↓e_iaddI, ↓e_iaddS, ↓e_imul, ↓e_setL, ↓e_app, ↓e_truF, ↓e_truI, ↓e_truB, ↓e_truN, ↓e_truS, ↓e_truR, ↓e_iSeq, ↓e_kSeqS, ↓e_kSeqR, ↓e_seqOL, ↓e_seqOT, ↓e_itOL, ↓e_itOT, ↓e_at0, ↓e_at1, ↓e_at2, ↓e_at3, ↓e_ex1, ↓e_ixN0, ↓e_ixN1, ↓e_updS, ↓e_updU, ↓e_lset0, ↓e_lset1, ↓e_var0, ↓e_var1, ↓e_var2, ↓e_var3, ↓e_var4, ↓e_var5, ↓e_var6, ↓e_var7, ↓e_var8, ↓e_var9, ↓e_var10, ↓e_var11, ↓e_var12, ↓e_var13, ↓e_var14, ↓e_var15, ↓e_var16, ↓e_var17, ↓e_var18, ↓e_var19, ↓e_var20, ↓e_var21, ↓e_var22, ↓e_var23, ↓e_var24, ↓e_var25, ↓e_var26, ↓e_var27, ↓e_var28, ↓e_var29, ↓e_var30, ↓e_var31, ↓e_var32, ↓e_var33, ↓e_set0, ↓e_set1, ↓e_set2, ↓e_set3, ↓e_set4, ↓e_set5, ↓e_set6, ↓e_set7, ↓e_set8, ↓e_set9, ↓e_set10, ↓e_set11, ↓e_set12, ↓e_set13, ↓e_set14, ↓e_set15, ↓e_set16, ↓e_set17, ↓e_set18, ↓e_set19, ↓e_set20, ↓e_set21, ↓e_set22, ↓e_set23, ↓e_set24, ↓e_set25, ↓e_set26, ↓e_set27, ↓e_set28, ↓e_set29, ↓e_set30, ↓e_set31, ↓e_set32, ↓e_set33, ↓e_aug0, ↓e_aug1, ↓e_aug2, ↓e_aug3, ↓e_aug4, ↓e_aug5, ↓e_aug6, ↓e_aug7, ↓e_aug8, ↓e_aug9, ↓e_aug10, ↓e_aug11, ↓e_aug12, ↓e_aug13, ↓e_aug14, ↓e_aug15, ↓e_aug16, ↓e_aug17, ↓e_aug18, ↓e_aug19, ↓e_aug20, ↓e_aug21, ↓e_aug22, ↓e_aug23, ↓e_aug24, ↓e_aug25, ↓e_aug26, ↓e_aug27, ↓e_aug28, ↓e_aug29, ↓e_aug30, ↓e_aug31, ↓e_aug32, ↓e_aug33, ↓e_is_int_bool, ↓e_is_int_int, ↓e_is_int_str, ↓e_is_int_list, ↓e_is_int_tuple, ↓e_is_int_dict, ↓e_is_bl_bool, ↓e_is_bl_int, ↓e_is_bl_str, ↓e_is_bl_list, ↓e_is_bl_tuple, ↓e_is_bl_dict, ↓e_is_str_bool, ↓e_is_str_int, ↓e_is_str_str, ↓e_is_str_list, ↓e_is_str_tuple, ↓e_is_str_dict, ↓e_is_non_bool, ↓e_is_non_int, ↓e_is_non_str, ↓e_is_non_list, ↓e_is_non_tuple, ↓e_is_non_dict, e_ib_list_bool, e_ib_list_int, e_ib_list_str, e_ib_list_list, e_ib_list_tuple, e_ib_list_dict, e_ib_tuple_bool, e_ib_tuple_int, e_ib_tuple_str, e_ib_tuple_list, e_ib_tuple_tuple, e_ib_tuple_dict, e_ib_dict_bool, e_ib_dict_int, e_ib_dict_str, e_ib_dict_list, e_ib_dict_tuple, e_ib_dict_dict, e_kn_bool, e_kn_int, e_kn_str, e_kn_list, e_kn_tuple, e_kn_dict, decide_eq_true_eq, Bool.not_eq_true', decide_eq_false_iff_not, Bool.false_eq_true, Bool.true_eq_false, if_true, if_false, List.append_nil, true_and, and_true, Bool.not_false, Bool.not_true, decide_true, decide_false, eq_self, List.cons_append, List.nil_append, and_self, List.length_cons, List.length_nil, ↓Wr.e_revT, ↓Wr.e_kRevT, ↓e_forgS, ↓e_forgE, upd_same, h_old, h_ne, h_comm, h_isNone, and_imp, not_false_eq_true, Option.isSome_some, implies_true, not_true_eq_false, Int.reduceLT, Int.reduceLE, Int.reduceAdd, Int.reduceSub, Int.reduceMul, Int.reduceNeg, Int.reduceEq, Int.reduceNe, Int.reduceToNat, Nat.reduceAdd, Nat.reduceSub, Nat.reduceLeDiff, reduceIte, Int.reducePow, ↓e_take, ↓e_onBag, ↓e_mutB, *])
local macro_rules | `(tactic| walk_at "fr") => `(tactic| simp (config := {contextual := true}) only [h_isNone, not_false_eq_true, and_self, true_and, *])
local macro_rules | `(tactic| walk_at "sm") => `(tactic| first
  | assumption
  | exact Same.refl _
  | (refine same_new' ?_ ?_; (· walk_at "fr"); walk_at "sm")
  | (refine same_updOff ?_ (by assumption); walk_at "sm"))
local macro_rules | `(tactic| walk_at "mu") => `(tactic| first
  | rfl
  | (simp (config := {contextual := true}) only [upd_same, h_old, h_ne, h_isNone, not_false_eq_true, and_self, true_and, Option.isSome_some, *]; done)
  | (simp (config := {contextual := true}) only [upd_same, h_old, h_ne, h_isNone, not_false_eq_true, and_self, true_and, Option.isSome_some, *]; rfl))
local macro_rules | `(tactic| walk_at "wh") => `(tactic| first
  | assumption
  | (refine whole_new' ?_ trivial ?_; (· walk_at "fr"); walk_at "wh")
  | (refine whole_mut' ?_ trivial ?_; (· walk_at "mu"); walk_at "wh"))
local macro_rules | `(tactic| walk_at "go") => `(tactic| repeat walk_at "go1")

section
variable {P : Program} {w : World} {K : PySem.W.Frag} {mg : Str → Option Value} {base : Heap}
theorem o_l_take (T : Txt K mg) {fd : FuncData} (F : FunD K "_law_take" "_law_take" (defArgs s_l_take) (defBody s_l_take) (defScope s_l_take) [] [] (He.ga K "_law_take") fd) : FnOk P w K mg base CX0 1 (He.ga K "_law_take") fd ["_law_bag_here", "_law_many"] spTake := by
  refine FnO.of F sc_l_take (fun vs H Q E h => ?_) (fun cdv A outer s H vs Q E hr h => ?_)
  · obtain ⟨b, n, g, r, rfl, _⟩ := spTake_cases h
    rfl
  · obtain ⟨b, n, g, r, rfl, hb, ⟨g0, r0, r1⟩, n0, n1, q⟩ := spTake_cases h
    unfold bagO at q
    refine ⟨_, (pss_cons (ps_if (pt_cmpR f_gt (pe_ix f_ix (pv 0) pe_int (fun _ _ => rfl)) pe_int (nomark _))
          (pss_cons (ps_set (i := 2) sc_l_take.nd rfl (Or.inl rfl) (pe_op f_mod (pe_ix f_ix (pv 0) pe_int (fun _ _ => rfl)) (pv 1)))
        (pss_cons (ps_asg (pe_op f_div (pe_ix f_ix (pv 0) pe_int (fun _ _ => rfl)) (pv 1)) (pg_sub (pv 0) pe_int f_set))
        (pss_one (ps_ret (pv 2)))))
          pss_nil)
        (pss_cons (ps_asg (pe_op f_mod (pe_op f_add (pe_op f_mul (pe_ix f_ix (pv 0) pe_int (fun _ _ => rfl)) pe_int) pe_int) pe_int) (pg_sub (pv 0) pe_int f_set))
        (pss_one (ps_ret (pe_op f_mod (pe_op f_mod (pe_op f_pow (pe_op f_div (pe_ix f_ix (pv 0) pe_int (fun _ _ => rfl)) pe_int) pe_int) pe_int) (pv 1)))))), ?_⟩
    refine w_start (σ' := [some _, some _, none]) rfl ?_
    walk_at "ga"
    refine ite2 (fun hg => ?_) (fun hg => ?_)
    · exact q _ _ _ (Int.emod_nonneg _ (by omega)) (Int.emod_lt_of_pos _ n0) ⟨Int.ediv_nonneg g0 (by omega), r0, r1⟩
    · refine ⟨.inr ⟨by omega, by omega⟩, ⟨by omega, by omega, by omega⟩, ?_⟩
      exact q _ _ _ (Int.emod_nonneg _ (by omega)) (Int.emod_lt_of_pos _ n0) ⟨g0, by omega, by omega⟩
theorem c_l_take (T : Txt K mg) : Cd P w K mg base 1 "_law_take" [] spTake := by
  obtain ⟨fd, F⟩ := T.d_l_take
  exact Cd.by (o_l_take T F) F T.m_l_take (F.bindsN fun _ _ _ _ _ _ us hl => match us, hl with | [_, _], _ => rfl) .nil
theorem atMap {ns : List Int} {k : Int} (h0 : 0 ≤ k) (h : k < (ns.length : Int)) : atI (ns.map V.int) k = some (.int (ns.getD k.toNat 0)) := by
  have h1 : k.toNat < ns.length := by omega
  refine at_of (j := k.toNat) (by omega) ?_
  rw [List.getElem?_map, List.getElem?_eq_getElem h1, List.getD_eq_getElem?_getD, List.getElem?_eq_getElem h1]
  rfl
def spBag (K : PySem.W.Frag) : Sp := fun vs H Q _ => ∃ (a : Addr) (ns : List Int) (k : Int), vs = [.ref a, .int k] ∧ SqL K H a (ns.map V.int) ∧ 0 ≤ k ∧ k ≤ 63 ∧ Whole H ∧
  ∀ b g r, H b = none → BagOk g r → Q (.ref b) (upd H b (bagO g r))
theorem w_bag {K : PySem.W.Frag} {a : Addr} {ns : List Int} {k : Int} {H : Hp} {Q : VK} {E : XK} (hS : SqL K H a (ns.map V.int)) (k0 : 0 ≤ k) (k1 : k ≤ 63) (W : Whole H) (q : ∀ b g r, H b = none → BagOk g r → Q (.ref b) (upd H b (bagO g r))) : spBag K [.ref a, .int k] H Q E := ⟨a, ns, k, rfl, hS, k0, k1, W, q⟩
theorem o_l_bag (T : Txt K mg) {fd : FuncData} (F : FunD K "_law_bag" "_law_bag" (defArgs s_l_bag) (defBody s_l_bag) (defScope s_l_bag) [] [] (He.ga K "_law_bag") fd) : FnOk P w K mg base CX0 1 (He.ga K "_law_bag") fd ["_law_script", "_law_at"] (spBag K) := by
  refine FnO.ofF F sc_l_bag (fun vs H Q E h => ?_) (fun cdv A outer s H vs Q E hr h => ?_)
  · obtain ⟨a, ns, k, rfl, _⟩ := h
    rfl
  · obtain ⟨a, ns, k, rfl, hS, k0, k1, W, q⟩ := h
    refine ⟨_, (pss_cons (ps_set (i := 2) sc_l_bag.nd rfl (Or.inl rfl) pe_int)
        (pss_cons (ps_if (pt_cmpR f_lt (pv 1) (pe_callB (k_len (K := K) rfl) (by rfl) T.n_len (by decide +kernel) (pa_cons (pv 0) pa_nil)) (nomark _))
          (pss_one (ps_set (i := 2) sc_l_bag.nd rfl (Or.inl rfl) (pe_ix (k_ix (K := K) rfl) (pv 0) (pv 1) (fun _ _ => rfl))))
          pss_nil)
        (pss_cons (ps_set (i := 3) sc_l_bag.nd rfl (Or.inl rfl) pe_int)
        (pss_cons (ps_if (pt_cmpR f_ge (pe_callB call_ab (by rfl) T.n_abs (by decide +kernel) (pa_cons (pv 2) pa_nil)) (pe_op f_pow pe_int pe_int) (nomark _))
          (pss_one (ps_set (i := 3) sc_l_bag.nd rfl (Or.inl rfl) (pe_callB call_ab (by rfl) T.n_abs (by decide +kernel) (pa_cons (pv 2) pa_nil))))
          pss_nil)
        (pss_cons (ps_set (i := 4) sc_l_bag.nd rfl (Or.inl rfl) (pe_lst (pa_cons pe_int (pa_cons pe_int (pa_cons pe_int (pa_cons pe_int (pa_cons pe_int (pa_cons pe_int (pa_cons pe_int (pa_cons pe_int pa_nil))))))))))
        (pss_one (ps_ret (pe_lst (pa_cons (pv 3) (pa_cons (pe_op f_mod (pe_op f_pow (pe_op f_add (pe_op f_add (pe_op f_mod (pv 2) pe_int) (pe_op f_mul pe_int (pv 1))) pe_int) pe_int) (pe_ix f_ix (pv 4) (pe_op f_mod (pv 1) pe_int) (fun _ _ => rfl))) pa_nil)))))))))), ?_⟩
    refine w_start (σ' := [some _, some _, none, none, none]) rfl ?_
    walk_at "ga"
    refine w_lnL hS ?_
    walk_at "ga"
    rw [List.length_map]
    obtain ⟨v, hv, hm⟩ := at_mem (α := V) (xs := [.int 2147483629, .int 2147483587, .int 2147483579, .int 2147483563, .int 2147483549, .int 2147483543, .int 2147483497, .int 2147483489]) (i := k % 8) (by omega) (by show k % 8 < 8; omega)
    obtain ⟨e, rfl, e0, e1⟩ : ∃ e, v = .int e ∧ 0 < e ∧ e < 2147483647 := by
      simp only [List.mem_cons, List.not_mem_nil, or_false] at hm
      rcases hm with rfl | rfl | rfl | rfl | rfl | rfl | rfl | rfl <;> exact ⟨_, rfl, by decide, by decide⟩
    have fin : ∀ (gg z : Int) (L : List V), 0 ≤ gg → ∀ p, H p = none → ∀ b, ¬ b = p → H b = none → ∃ H'', Forg H (upd (upd H p (.lst L)) b (.lst [.int gg, .int (z % e)])) H'' ∧ Q (.ref b) H'' := fun gg z L g0 p hp b nb hn => by
      exact ⟨_, Forg.one W hn upd_same trivial (same_new (same_upd hp) (by rw [upd_ne nb]; exact hn)), q _ _ _ hn ⟨g0, Int.emod_nonneg _ (by omega), Int.lt_trans (Int.emod_lt_of_pos _ e0) e1⟩⟩
    have c1 : CMul 104729 k := .inr ⟨by omega, by omega⟩
    have c2 : ∀ z : Int, CPow (z % 2147483647 + 104729 * k + 7) 5 := fun z => ⟨by omega, by omega, by omega⟩
    have c3 : CPow 10 18 := ⟨by omega, by omega, by omega⟩
    refine ite2 (fun hk => ?_) (fun hk => ?_)
    · refine w_ixL hS (atMap k0 hk) ?_
      walk_at "ga"
      refine ite2 (fun hz p hp b nb hb => fin _ _ _ ?_ p hp b nb hb) fun _ => trivial
      split <;> omega
    · walk_at "ga"
theorem c_l_bag (T : Txt K mg) : Cd P w K mg base 1 "_law_bag" [] (spBag K) := by
  obtain ⟨fd, F⟩ := T.d_l_bag
  exact Cd.by (o_l_bag T F) F T.m_l_bag (F.bindsN fun _ _ _ _ _ _ us hl => match us, hl with | [_, _], _ => rfl) .nil
end
theorem only_whole {H : Hp} (h : Only H) : Whole H := by
  refine ⟨fun a C dx fs e => ?_, fun a o u e => ?_, fun a kvs e => ?_⟩
  · rcases h a with q | ⟨o, xs, q⟩ <;> (rw [q] at e; cases e)
  · rcases h a with q | ⟨o', xs, q⟩
    · rw [q] at e
      cases e
    · rw [q] at e
      cases e
      trivial
  · rcases h a with q | ⟨o, xs, q⟩ <;> (rw [q] at e; cases e)
def spLaw (K : PySem.W.Frag) : Sp := fun vs H Q _ => ∃ (a : Addr) (ns : List Int), vs = [.ref a] ∧ SqL K H a (ns.map V.int) ∧ ns.length ≤ 63 ∧ Whole H ∧ ∀ H', Q (.bl true) H'

/-! ### words and values -/
def IsWord (z : Str) : Prop := 1 ≤ z.length ∧ z.length ≤ 8 ∧ ∀ c ∈ z.cps.toList, 97 ≤ c ∧ c ≤ 122
def sgn (c : Nat) : V := .str ⟨#[c]⟩
theorem joinL_one : ∀ zs : List Nat, TL.joinL [] (zs.map fun c => [c]) = zs
  | [] => rfl
  | [c] => rfl
  | c :: d :: r => by
    show [c] ++ ([] ++ TL.joinL [] ((d :: r).map fun c => [c])) = c :: d :: r
    rw [joinL_one (d :: r)]
    rfl
theorem join_one (e : Str) (he : e.cps = #[]) (zs : List Nat) : Txt.join e (zs.map fun c => (⟨#[c]⟩ : Str)) = ⟨zs.toArray⟩ := by
  have h : (Txt.join e (zs.map fun c => (⟨#[c]⟩ : Str))).cps.toList = zs := by
    rw [TL.join_eq]
    have h2 := TL.tl_join e (zs.map fun c => (⟨#[c]⟩ : Str))
    have h3 : (zs.map fun c => (⟨#[c]⟩ : Str)).map TL.tl = zs.map fun c => [c] := by
      rw [List.map_map]
      rfl
    rw [h3] at h2
    have h4 : TL.tl e = [] := by
      show e.cps.toList = []
      rw [he]
    rw [h4, joinL_one] at h2
    exact h2
  cases hz : Txt.join e (zs.map fun c => (⟨#[c]⟩ : Str)) with
  | mk a =>
    rw [hz] at h
    rw [← h]
theorem w_joinSigns {K : PySem.W.Frag} {D : Addr} {H : Hp} {Q : VK} {zs : List Nat} (hz : H D = some (.lst (zs.map sgn))) (l : zs.length ≤ 100) (q : Q (.str ⟨zs.toArray⟩) H) : rJoin K (.str "") [.ref D] H Q := by
  refine w_joinL (ys := zs.map fun c => (⟨#[c]⟩ : Str)) (SqL.of (by rw [List.map_map]; exact hz)) ?_ ?_
  · have hs : ((zs.map fun c => (⟨#[c]⟩ : Str)).map (·.length)).sum = zs.length := by
      rw [List.map_map]
      clear hz q l
      induction zs with
      | nil => rfl
      | cons c r ih =>
        rw [List.map_cons, List.sum_cons, ih, List.length_cons]
        show 1 + r.length = r.length + 1
        omega
    rw [hs, List.length_map]
    show zs.length + zs.length * 0 ≤ 1000
    omega
  · rw [join_one (Str.ofString "") (by decide)]
    exact q
def spWord : Sp := fun vs H Q _ => match vs with
  | [.ref b] => onBag (H b) fun _ _ => Whole H ∧ ∀ z g' r', IsWord z → BagOk g' r' → Q (.str z) (upd H b (bagO g' r'))
  | _ => False
theorem e_word {b : Addr} {H : Hp} {Q : VK} {E : XK} : spWord [.ref b] H Q E = onBag (H b) fun _ _ => Whole H ∧ ∀ z g' r', IsWord z → BagOk g' r' → Q (.str z) (upd H b (bagO g' r')) := rfl
local macro_rules | `(tactic| walk_at "ar") => `(tactic| first
  | decide
  | omega
  | exact ⟨by omega, by omega⟩
  | exact ⟨by decide, by decide⟩
  | exact ⟨by omega, by omega, by omega⟩
  | exact .inl ⟨by omega, by omega⟩
  | exact .inr ⟨by omega, by omega⟩)
local macro_rules | `(tactic| walk_at "ne") => `(tactic| first
  | assumption
  | exact Ne.symm (by assumption))
local macro_rules | `(tactic| walk_at "hp") => `(tactic| first
  | assumption
  | exact upd_same
  | (refine upd_fresh (by assumption) ?_; walk_at "hp")
  | (refine same_at (by assumption) ?_; walk_at "hp")
  | (refine upd_off (by walk_at "ne") ?_; walk_at "hp")
  | (refine But.at (by assumption) (by walk_at "ne") ?_; walk_at "hp"))
local macro_rules | `(tactic| walk_at "sq") => `(tactic| first
  | assumption
  | exact SqL.of (by walk_at "hp")
  | (refine Same.seq (by assumption) ?_; walk_at "sq"))
local macro_rules | `(tactic| walk_at "sqt") => `(tactic| first
  | assumption
  | exact SqT.of (by walk_at "hp")
  | (refine same_sqT (by assumption) ?_; walk_at "sqt"))
local macro_rules | `(tactic| walk_at "ix") => `(tactic| first
  | rfl
  | assumption)
local macro_rules | `(tactic| walk_at "wp") => `(tactic| dsimp only [wipe, List.map_cons, List.map_nil, List.set_cons_succ, List.set_cons_zero, List.set])
local macro_rules | `(tactic| walk_at "go1") => `(tactic| first
  | (with_reducible refine w_gVar ?_; first | with_reducible refine w_var0 ?_ | with_reducible refine w_var1 ?_ | with_reducible refine w_var2 ?_ | with_reducible refine w_var3 ?_ | with_reducible refine w_var4 ?_ | with_reducible refine w_var5 ?_ | with_reducible refine w_var6 ?_ | with_reducible refine w_var7 ?_ | with_reducible refine w_var8 ?_ | with_reducible refine w_var9 ?_ | with_reducible refine w_var10 ?_ | with_reducible refine w_var11 ?_ | with_reducible refine w_var12 ?_ | with_reducible refine w_var13 ?_ | with_reducible refine w_var14 ?_ | with_reducible refine w_var15 ?_ | with_reducible refine w_var16 ?_ | with_reducible refine w_var17 ?_ | with_reducible refine w_var18 ?_ | with_reducible refine w_var19 ?_ | with_reducible refine w_var20 ?_ | with_reducible refine w_var21 ?_ | with_reducible refine w_var22 ?_ | with_reducible refine w_var23 ?_ | with_reducible refine w_var24 ?_ | with_reducible refine w_var25 ?_ | with_reducible refine w_var26 ?_ | with_reducible refine w_var27 ?_ | with_reducible refine w_var28 ?_ | with_reducible refine w_var29 ?_ | with_reducible refine w_var30 ?_ | with_reducible refine w_var31 ?_ | with_reducible refine w_var32 ?_ | with_reducible refine w_var33 ?_)
  | (with_reducible refine w_gSet ?_; first | with_reducible refine w_set0 ?_ | with_reducible refine w_set1 ?_ | with_reducible refine w_set2 ?_ | with_reducible refine w_set3 ?_ | with_reducible refine w_set4 ?_ | with_reducible refine w_set5 ?_ | with_reducible refine w_set6 ?_ | with_reducible refine w_set7 ?_ | with_reducible refine w_set8 ?_ | with_reducible refine w_set9 ?_ | with_reducible refine w_set10 ?_ | with_reducible refine w_set11 ?_ | with_reducible refine w_set12 ?_ | with_reducible refine w_set13 ?_ | with_reducible refine w_set14 ?_ | with_reducible refine w_set15 ?_ | with_reducible refine w_set16 ?_ | with_reducible refine w_set17 ?_ | with_reducible refine w_set18 ?_ | with_reducible refine w_set19 ?_ | with_reducible refine w_set20 ?_ | with_reducible refine w_set21 ?_ | with_reducible refine w_set22 ?_ | with_reducible refine w_set23 ?_ | with_reducible refine w_set24 ?_ | with_reducible refine w_set25 ?_ | with_reducible refine w_set26 ?_ | with_reducible refine w_set27 ?_ | with_reducible refine w_set28 ?_ | with_reducible refine w_set29 ?_ | with_reducible refine w_set30 ?_ | with_reducible refine w_set31 ?_ | with_reducible refine w_set32 ?_ | with_reducible refine w_set33 ?_)
  | with_reducible refine w_c ?_
  | with_reducible refine w_cons ?_
  | with_reducible refine w_op ?_
  | with_reducible refine w_call ?_
  | with_reducible refine w_nil ?_
  | with_reducible refine w_seq ?_
  | with_reducible refine w_asg ?_
  | with_reducible refine w_rI0 ?_
  | with_reducible refine w_un ?_
  | with_reducible refine w_rU ?_
  | with_reducible refine w_bQ ?_
  | with_reducible refine w_test ?_
  | with_reducible refine w_tB ?_
  | with_reducible refine w_not ?_
  | with_reducible refine w_and ?_
  | with_reducible refine w_or ?_
  | with_reducible refine w_bV ?_
  | with_reducible refine w_andV ?_
  | with_reducible refine w_orV ?_
  | with_reducible refine w_notV ?_
  | with_reducible refine w_ifE ?_
  | with_reducible refine w_bC ?_
  | with_reducible refine w_chain ?_
  | with_reducible refine w_tup ?_
  | with_reducible refine w_lst ?_
  | with_reducible refine w_cb ?_
  | with_reducible refine w_next ?_
  | with_reducible refine w_drop ?_
  | with_reducible refine w_ret ?_
  | with_reducible refine w_retN ?_
  | with_reducible refine w_ifS ?_
  | with_reducible refine w_brk ?_
  | with_reducible refine w_cont ?_
  | with_reducible refine w_gNil ?_
  | with_reducible refine w_gCons ?_
  | with_reducible refine w_gSub ?_
  | with_reducible refine w_for ?_
  | with_reducible refine w_rng1 ?_
  | with_reducible refine w_iList ?_
  | with_reducible refine w_iTup ?_
  | with_reducible refine w_iStr ?_
  | with_reducible refine w_kStr ?_
  | with_reducible refine w_lc ?_
  | with_reducible refine w_tYes ?_
  | with_reducible refine w_true ?_
  | with_reducible refine w_false ?_
  | with_reducible refine w_ab ?_
  | with_reducible refine w_mx2 ?_
  | with_reducible refine w_mn2 ?_
  | with_reducible refine w_inSign ?_
  | with_reducible refine w_bm ?_
  | with_reducible refine w_m1 ?_
  | with_reducible refine w_m0 ?_
  | with_reducible refine w_isS ?_
  | refine w_rI (by walk_at "ar") ?_
  | refine w_ixL (by walk_at "sq") (by walk_at "ix") ?_
  | refine w_ixT (by walk_at "sqt") (by walk_at "ix") ?_
  | refine w_setL (by walk_at "hp") (by rfl) ?_
  | refine w_lnL (by walk_at "sq") ?_
  | refine w_lnT (by walk_at "sqt") ?_
  | refine w_eq (by rfl) ?_
  | refine w_ne (by rfl) ?_)
local macro_rules | `(tactic| walk_at "gs") => `(tactic| simp only [↓e_c, ↓e_op, ↓e_un, ↓e_rU, ↓e_rI0, ↓e_rI, ↓e_bQ, ↓e_test, ↓e_tB, ↓e_not, ↓e_and, ↓e_or, ↓e_andV, ↓e_orV, ↓e_notV, ↓e_ifE, ↓e_chain, ↓e_nil, ↓e_cons, ↓e_tup, ↓e_lst, ↓e_kLst, ↓e_kTup, ↓e_small, ↓e_smallB, ↓e_call, ↓e_callN, ↓e_cb, ↓e_next, ↓e_seq, ↓e_drop, ↓e_ret, ↓e_retN, ↓e_ifS, ↓e_asg, ↓e_brk, ↓e_cont, ↓e_gNil, ↓e_gCons, ↓e_gSub, ↓e_for, ↓e_rng1, ↓e_kRng1, ↓e_iList, ↓e_iTup, ↓e_kStr, ↓e_iStr, ↓e_lc, ↓e_tYes, ↓e_ab, ↓e_mx2, ↓e_mn2, ↓e_bm, ↓e_tyS, ↓e_sIx, ↓e_m1, ↓e_m0, ↓e_isS, ↓e_addI, ↓e_addS, ↓e_addR, ↓e_seqL, ↓e_seqT, ↓e_onTup, ↓e_lstL, ↓e_ixS, ↓e_ixR, ↓e_itsL, ↓e_itsT, ↓e_slS, ↓e_slR, ↓e_newT, ↓e_mutL, ↓e_mutD, ↓e_sl, ↓e_bI, ↓e_noPart, ↓e_part, ↓e_inS, ↓e_ninS, ↓e_inR, ↓e_ninR, ↓e_lenS, ↓e_lenR, ↓e_tupR, ↓e_listR, ↓e_isR, ↓e_tyL, ↓e_tyT, ↓e_tyD, ↓e_eqI, ↓e_neI, ↓e_eqS, ↓e_neS, ↓e_eqB, ↓e_neB, ↓e_eqR, ↓e_neR, ↓e_eqR2, ↓e_neR2, ↓e_ltI, ↓e_leI, ↓e_gtI, ↓e_geI, ↓e_ltS, ↓e_leS, ↓e_gtS, ↓e_geS, ↓e_mul, ↓e_mulS, ↓e_m0F, ↓e_exS, ↓e_upS, ↓e_mod, ↓e_div, ↓e_pow, ↓e_sub, ↓e_iaddI, ↓e_iaddS, ↓e_imul, ↓e_setL, ↓e_app, ↓e_truF, ↓e_truI, ↓e_truB, ↓e_truN, ↓e_truS, ↓e_truR, ↓e_iSeq, ↓e_kSeqS, ↓e_kSeqR, ↓e_seqOL, ↓e_seqOT, ↓e_itOL, ↓e_itOT, ↓e_at0, ↓e_at1, ↓e_at2, ↓e_at3, ↓e_ex1, ↓e_ixN0, ↓e_ixN1, ↓e_updS, ↓e_updU, ↓e_lset0, ↓e_lset1, ↓e_var0, ↓e_var1, ↓e_var2, ↓e_var3, ↓e_var4, ↓e_var5, ↓e_var6, ↓e_var7, ↓e_var8, ↓e_var9, ↓e_var10, ↓e_var11, ↓e_var12, ↓e_var13, ↓e_var14, ↓e_var15, ↓e_var16, ↓e_var17, ↓e_var18, ↓e_var19, ↓e_var20, ↓e_var21, ↓e_var22, ↓e_var23, ↓e_var24, ↓e_var25, ↓e_var26, ↓e_var27, ↓e_var28, ↓e_var29, ↓e_var30, ↓e_var31, ↓e_var32, ↓e_var33, ↓e_set0, ↓e_set1, ↓e_set2, ↓e_set3, ↓e_set4, ↓e_set5, ↓e_set6, ↓e_set7, ↓e_set8, ↓e_set9, ↓e_set10, ↓e_set11, ↓e_set12, ↓e_set13, ↓e_set14, ↓e_set15, ↓e_set16, ↓e_set17, ↓e_set18, ↓e_set19, ↓e_set20, ↓e_set21, ↓e_set22, ↓e_set23, ↓e_set24, ↓e_set25, ↓e_set26, ↓e_set27, ↓e_set28, ↓e_set29, ↓e_set30, ↓e_set31, ↓e_set32, ↓e_set33, ↓e_aug0, ↓e_aug1, ↓e_aug2, ↓e_aug3, ↓e_aug4, ↓e_aug5, ↓e_aug6, ↓e_aug7, ↓e_aug8, ↓e_aug9, ↓e_aug10, ↓e_aug11, ↓e_aug12, ↓e_aug13, ↓e_aug14, ↓e_aug15, ↓e_aug16, ↓e_aug17, ↓e_aug18, ↓e_aug19, ↓e_aug20, ↓e_aug21, ↓e_aug22, ↓e_aug23, ↓e_aug24, ↓e_aug25, ↓e_aug26, ↓e_aug27, ↓e_aug28, ↓e_aug29, ↓e_aug30, ↓e_aug31, ↓e_aug32, ↓e_aug33, ↓e_is_int_bool, ↓e_is_int_int, ↓e_is_int_str, ↓e_is_int_list, ↓e_is_int_tuple, ↓e_is_int_dict, ↓e_is_bl_bool, ↓e_is_bl_int, ↓e_is_bl_str, ↓e_is_bl_list, ↓e_is_bl_tuple, ↓e_is_bl_dict, ↓e_is_str_bool, ↓e_is_str_int, ↓e_is_str_str, ↓e_is_str_list, ↓e_is_str_tuple, ↓e_is_str_dict, ↓e_is_non_bool, ↓e_is_non_int, ↓e_is_non_str, ↓e_is_non_list, ↓e_is_non_tuple, ↓e_is_non_dict, e_ib_list_bool, e_ib_list_int, e_ib_list_str, e_ib_list_list, e_ib_list_tuple, e_ib_list_dict, e_ib_tuple_bool, e_ib_tuple_int, e_ib_tuple_str, e_ib_tuple_list, e_ib_tuple_tuple, e_ib_tuple_dict, e_ib_dict_bool, e_ib_dict_int, e_ib_dict_str, e_ib_dict_list, e_ib_dict_tuple, e_ib_dict_dict, e_kn_bool, e_kn_int, e_kn_str, e_kn_list, e_kn_tuple, e_kn_dict, decide_eq_true_eq, Bool.not_eq_true', decide_eq_false_iff_not, Bool.false_eq_true, Bool.true_eq_false, if_true, if_false, List.append_nil, true_and, and_true, Bool.not_false, Bool.not_true, decide_true, decide_false, eq_self, List.cons_append, List.nil_append, and_self, List.length_cons, List.length_nil])
local macro_rules | `(tactic| walk_at "ga") => `(tactic| simp (config := {contextual := true, maxSteps := 1000000}) only [↓e_c, ↓e_op, ↓e_un, ↓e_rU, ↓e_rI0, ↓e_rI, ↓e_bQ, ↓e_test, ↓e_tB, ↓e_not, ↓e_and, ↓e_or, ↓e_andV, ↓e_orV, ↓e_notV, ↓e_ifE, ↓e_chain, ↓e_nil, ↓e_cons, ↓e_tup, ↓e_lst, ↓e_kLst, ↓e_kTup, ↓e_small, ↓e_smallB, ↓e_call, ↓e_callN, ↓e_cb, ↓e_next, ↓e_seq, ↓e_drop, ↓e_ret, ↓e_retN, ↓e_ifS, ↓e_asg, ↓e_brk, ↓e_cont, ↓e_gNil, ↓e_gCons, ↓e_gSub, ↓e_for, ↓e_rng1, ↓e_kRng1, ↓e_iList, ↓e_iTup, ↓e_kStr, ↓e_iStr, ↓e_lc, ↓e_tYes, ↓e_ab, ↓e_mx2, ↓e_mn2, ↓e_bm, ↓e_tyS, ↓e_sIx, ↓e_m1, ↓e_m0, ↓e_isS, ↓e_addI, ↓e_addS, ↓e_addR, ↓e_seqL, ↓e_seqT, ↓e_onTup, ↓e_lstL, ↓e_ixS, ↓e_ixR, ↓e_itsL, ↓e_itsT, ↓e_slS, ↓e_slR, ↓e_newT, ↓e_mutL, ↓e_mutD, ↓e_sl, ↓e_bI, ↓e_noPart, ↓e_part, ↓e_inS, ↓e_ninS, ↓e_inR, ↓e_ninR, ↓e_lenS, ↓e_lenR, ↓e_tupR, ↓e_listR, ↓e_isR, ↓e_tyL, ↓e_tyT, ↓e_tyD, ↓e_eqI, ↓e_neI, ↓e_eqS, ↓e_neS, ↓e_eqB, ↓e_neB, ↓e_eqR, ↓e_neR, ↓e_eqR2, ↓e_neR2, ↓e_ltI, ↓e_leI, ↓e_gtI, ↓e_geI, ↓e_ltS, ↓e_leS, ↓e_gtS, ↓e_geS, ↓e_mul, ↓e_mulS, ↓e_m0F, ↓e_exS, ↓e_upS, ↓e_mod, ↓e_div, ↓e_pow, ↓e_sub, ↓e_iaddI, ↓e_iaddS, ↓e_imul, ↓e_setL, ↓e_app, ↓e_truF, ↓e_truI, ↓e_truB, ↓e_truN, ↓e_truS, ↓e_truR, ↓e_iSeq, ↓e_kSeqS, ↓e_kSeqR, ↓e_seqOL, ↓e_seqOT, ↓e_itOL, ↓e_itOT, ↓e_at0, ↓e_at1, ↓e_at2, ↓e_at3, ↓e_ex1, ↓e_ixN0, ↓e_ixN1, ↓e_updS, ↓e_updU, ↓e_lset0, ↓e_lset1, ↓e_var0, ↓e_var1, ↓e_var2, ↓e_var3, ↓e_var4, ↓e_var5, ↓e_var6, ↓e_var7, ↓e_var8, ↓e_var9, ↓e_var10, ↓e_var11, ↓e_var12, ↓e_var13, ↓e_var14, ↓e_var15, ↓e_var16, ↓e_var17, ↓e_var18, ↓e_var19, ↓e_var20, ↓e_var21, ↓e_var22, ↓e_var23, ↓e_var24, ↓e_var25, ↓e_var26, ↓e_var27, ↓e_var28, ↓e_var29, ↓e_var30, ↓e_var31, ↓e_var32, ↓e_var33, ↓e_set0, ↓e_set1, ↓e_set2, ↓e_set3, ↓e_set4, ↓e_set5, ↓e_set6, ↓e_set7, ↓e_set8, ↓e_set9, ↓e_set10, ↓e_set11, ↓e_set12, ↓e_set13, ↓e_set14, ↓e_set15, ↓e_set16, ↓e_set17, ↓e_set18, ↓e_set19, ↓e_set20, ↓e_set21, ↓e_set22, ↓e_set23, ↓e_set24, ↓e_set25, ↓e_set26, ↓e_set27, ↓e_set28, ↓e_set29, ↓e_set30, ↓e_set31, ↓e_set32, ↓e_set33, ↓e_aug0, ↓e_aug1, ↓e_aug2, ↓e_aug3, ↓e_aug4, ↓e_aug5, ↓e_aug6, ↓e_aug7, ↓e_aug8, ↓e_aug9, ↓e_aug10, ↓e_aug11, ↓e_aug12, ↓e_aug13, ↓e_aug14, ↓e_aug15, ↓e_aug16, ↓e_aug17, ↓e_aug18, ↓e_aug19, ↓e_aug20, ↓e_aug21, ↓e_aug22, ↓e_aug23, ↓e_aug24, ↓e_aug25, ↓e_aug26, ↓e_aug27, ↓e_aug28, ↓e_aug29, ↓e_aug30, ↓e_aug31, ↓e_aug32, ↓e_aug33, ↓e_is_int_bool, ↓e_is_int_int, ↓e_is_int_str, ↓e_is_int_list, ↓e_is_int_tuple, ↓e_is_int_dict, ↓e_is_bl_bool, ↓e_is_bl_int, ↓e_is_bl_str, ↓e_is_bl_list, ↓e_is_bl_tuple, ↓e_is_bl_dict, ↓e_is_str_bool, ↓e_is_str_int, ↓e_is_str_str, ↓e_is_str_list, ↓e_is_str_tuple, ↓e_is_str_dict, ↓e_is_non_bool, ↓e_is_non_int, ↓e_is_non_str, ↓e_is_non_list, ↓e_is_non_tuple, ↓e_is_non_dict, e_ib_list_bool, e_ib_list_int, e_ib_list_str, e_ib_list_list, e_ib_list_tuple, e_ib_list_dict, e_ib_tuple_bool, e_ib_tuple_int, e_ib_tuple_str, e_ib_tuple_list, e_ib_tuple_tuple, e_ib_tuple_dict, e_ib_dict_bool, e_ib_dict_int, e_ib_dict_str, e_ib_dict_list, e_ib_dict_tuple, e_ib_dict_dict, e_kn_bool, e_kn_int, e_kn_str, e_kn_list, e_kn_tuple, e_kn_dict, decide_eq_true_eq, Bool.not_eq_true', decide_eq_false_iff_not, Bool.false_eq_true, Bool.true_eq_false, if_true, if_false, List.append_nil, true_and, and_true, Bool.not_false, Bool.not_true, decide_true, decide_false, eq_self, List.cons_append, List.nil_append, and_self, List.length_cons, List.length_nil, ↓Wr.e_revT, ↓Wr.e_kRevT, ↓e_forgS, ↓e_forgE, h_old, h_ne, h_comm, h_isNone, and_imp, not_false_eq_true, Option.isSome_some, implies_true, not_true_eq_false, Int.reduceLT, Int.reduceLE, Int.reduceAdd, Int.reduceSub, Int.reduceMul, Int.reduceNeg, Int.reduceEq, Int.reduceNe, Int.reduceToNat, Nat.reduceAdd, Nat.reduceSub, Nat.reduceLeDiff, reduceIte, Int.reducePow, ↓e_take, ↓e_onBag, ↓e_mutB, ↓e_word, *])
local macro_rules | `(tactic| walk_at "gn") => `(tactic| simp (config := {maxSteps := 1000000}) only [↓e_c, ↓e_op, ↓e_un, ↓e_rU, ↓e_rI0, ↓e_rI, ↓e_bQ, ↓e_test, ↓e_tB, ↓e_not, ↓e_and, ↓e_or, ↓e_andV, ↓e_orV, ↓e_notV, ↓e_ifE, ↓e_chain, ↓e_nil, ↓e_cons, ↓e_tup, ↓e_lst, ↓g_kLst, ↓g_kTup, ↓e_small, ↓e_smallB, ↓e_call, ↓e_callN, ↓e_cb, ↓e_next, ↓e_seq, ↓e_drop, ↓e_ret, ↓e_retN, ↓e_ifS, ↓e_asg, ↓e_brk, ↓e_cont, ↓e_gNil, ↓e_gCons, ↓e_gSub, ↓e_for, ↓e_rng1, ↓e_kRng1, ↓e_iList, ↓e_iTup, ↓e_kStr, ↓e_iStr, ↓e_lc, ↓e_tYes, ↓e_ab, ↓e_mx2, ↓e_mn2, ↓e_bm, ↓e_tyS, ↓e_sIx, ↓e_m1, ↓e_m0, ↓e_isS, ↓e_addI, ↓e_addS, ↓g_addR, ↓e_seqL, ↓e_seqT, ↓e_onTup, ↓e_lstL, ↓e_ixS, ↓e_ixR, ↓e_itsL, ↓e_itsT, ↓e_slS, ↓g_slR, ↓e_mutL, ↓e_mutD, ↓e_sl, ↓e_bI, ↓e_noPart, ↓e_part, ↓e_inS, ↓e_ninS, ↓e_inR, ↓e_ninR, ↓e_lenS, ↓e_lenR, ↓g_tupR, ↓g_listR, ↓e_isR, ↓e_tyL, ↓e_tyT, ↓e_tyD, ↓e_eqI, ↓e_neI, ↓e_eqS, ↓e_neS, ↓e_eqB, ↓e_neB, ↓e_eqR, ↓e_neR, ↓e_eqR2, ↓e_neR2, ↓e_ltI, ↓e_leI, ↓e_gtI, ↓e_geI, ↓e_ltS, ↓e_leS, ↓e_gtS, ↓e_geS, ↓e_mul, ↓e_mulS, ↓e_m0F, ↓e_exS, ↓e_upS, ↓e_mod, ↓e_div, ↓e_pow, ↓e_sub, ↓e_iaddI, ↓e_iaddS, ↓e_imul, ↓e_setL, ↓e_app, ↓e_truF, ↓e_truI, ↓e_truB, ↓e_truN, ↓e_truS, ↓e_truR, ↓e_iSeq, ↓e_kSeqS, ↓e_kSeqR, ↓e_seqOL, ↓e_seqOT, ↓e_itOL, ↓e_itOT, ↓e_at0, ↓e_at1, ↓e_at2, ↓e_at3, ↓e_ex1, ↓e_ixN0, ↓e_ixN1, ↓e_updS, ↓e_updU, ↓e_lset0, ↓e_lset1, ↓e_var0, ↓e_var1, ↓e_var2, ↓e_var3, ↓e_var4, ↓e_var5, ↓e_var6, ↓e_var7, ↓e_var8, ↓e_var9, ↓e_var10, ↓e_var11, ↓e_var12, ↓e_var13, ↓e_var14, ↓e_var15, ↓e_var16, ↓e_var17, ↓e_var18, ↓e_var19, ↓e_var20, ↓e_var21, ↓e_var22, ↓e_var23, ↓e_var24, ↓e_var25, ↓e_var26, ↓e_var27, ↓e_var28, ↓e_var29, ↓e_var30, ↓e_var31, ↓e_var32, ↓e_var33, ↓e_set0, ↓e_set1, ↓e_set2, ↓e_set3, ↓e_set4, ↓e_set5, ↓e_set6, ↓e_set7, ↓e_set8, ↓e_set9, ↓e_set10, ↓e_set11, ↓e_set12, ↓e_set13, ↓e_set14, ↓e_set15, ↓e_set16, ↓e_set17, ↓e_set18, ↓e_set19, ↓e_set20, ↓e_set21, ↓e_set22, ↓e_set23, ↓e_set24, ↓e_set25, ↓e_set26, ↓e_set27, ↓e_set28, ↓e_set29, ↓e_set30, ↓e_set31, ↓e_set32, ↓e_set33, ↓e_aug0, ↓e_aug1, ↓e_aug2, ↓e_aug3, ↓e_aug4, ↓e_aug5, ↓e_aug6, ↓e_aug7, ↓e_aug8, ↓e_aug9, ↓e_aug10, ↓e_aug11, ↓e_aug12, ↓e_aug13, ↓e_aug14, ↓e_aug15, ↓e_aug16, ↓e_aug17, ↓e_aug18, ↓e_aug19, ↓e_aug20, ↓e_aug21, ↓e_aug22, ↓e_aug23, ↓e_aug24, ↓e_aug25, ↓e_aug26, ↓e_aug27, ↓e_aug28, ↓e_aug29, ↓e_aug30, ↓e_aug31, ↓e_aug32, ↓e_aug33, ↓e_is_int_bool, ↓e_is_int_int, ↓e_is_int_str, ↓e_is_int_list, ↓e_is_int_tuple, ↓e_is_int_dict, ↓e_is_bl_bool, ↓e_is_bl_int, ↓e_is_bl_str, ↓e_is_bl_list, ↓e_is_bl_tuple, ↓e_is_bl_dict, ↓e_is_str_bool, ↓e_is_str_int, ↓e_is_str_str, ↓e_is_str_list, ↓e_is_str_tuple, ↓e_is_str_dict, ↓e_is_non_bool, ↓e_is_non_int, ↓e_is_non_str, ↓e_is_non_list, ↓e_is_non_tuple, ↓e_is_non_dict, e_ib_list_bool, e_ib_list_int, e_ib_list_str, e_ib_list_list, e_ib_list_tuple, e_ib_list_dict, e_ib_tuple_bool, e_ib_tuple_int, e_ib_tuple_str, e_ib_tuple_list, e_ib_tuple_tuple, e_ib_tuple_dict, e_ib_dict_bool, e_ib_dict_int, e_ib_dict_str, e_ib_dict_list, e_ib_dict_tuple, e_ib_dict_dict, e_kn_bool, e_kn_int, e_kn_str, e_kn_list, e_kn_tuple, e_kn_dict, decide_eq_true_eq, Bool.not_eq_true', decide_eq_false_iff_not, Bool.false_eq_true, Bool.true_eq_false, if_true, if_false, List.append_nil, true_and, and_true, Bool.not_false, Bool.not_true, decide_true, decide_false, eq_self, List.cons_append, List.nil_append, and_self, List.length_cons, List.length_nil, ↓Wr.e_revT, ↓Wr.e_kRevT, ↓e_forgS, ↓e_forgE, upd_same, h_old, h_ne, h_comm, h_isNone, and_imp, not_false_eq_true, Option.isSome_some, implies_true, not_true_eq_false, Int.reduceLT, Int.reduceLE, Int.reduceAdd, Int.reduceSub, Int.reduceMul, Int.reduceNeg, Int.reduceEq, Int.reduceNe, Int.reduceToNat, Nat.reduceAdd, Nat.reduceSub, Nat.reduceLeDiff, reduceIte, Int.reducePow, ↓e_take, ↓e_onBag, ↓e_mutB, ↓e_word, *])
local macro_rules | `(tactic| walk_at "fr") => `(tactic| simp (config := {contextual := true}) only [h_isNone, not_false_eq_true, and_self, true_and, *])
local macro_rules | `(tactic| walk_at "sm") => `(tactic| first
  | assumption
  | exact Same.refl _
  | (refine same_new' ?_ ?_; (· walk_at "fr"); walk_at "sm")
  | (refine same_updOff ?_ (by assumption); walk_at "sm"))
local macro_rules | `(tactic| walk_at "mu") => `(tactic| first
  | rfl
  | (simp (config := {contextual := true}) only [upd_same, h_old, h_ne, h_isNone, not_false_eq_true, and_self, true_and, Option.isSome_some, *]; done)
  | (simp (config := {contextual := true}) only [upd_same, h_old, h_ne, h_isNone, not_false_eq_true, and_self, true_and, Option.isSome_some, *]; rfl))
local macro_rules | `(tactic| walk_at "wh") => `(tactic| first
  | assumption
  | (refine whole_new' ?_ trivial ?_; (· walk_at "fr"); walk_at "wh")
  | (refine whole_mut' ?_ trivial ?_; (· walk_at "mu"); walk_at "wh"))
local macro_rules | `(tactic| walk_at "go") => `(tactic| repeat walk_at "go1")

section
variable {P : Program} {w : World} {K : PySem.W.Frag} {mg : Str → Option Value} {base : Heap}
theorem o_l_word (T : Txt K mg) (G_l_take : Cd P w K mg base 1 "_law_take" [] spTake) {fd : FuncData} (F : FunD K "_law_word" "_law_word" (defArgs s_l_word) (defBody s_l_word) (defScope s_l_word) [] [] (He.ga K "_law_word") fd) : FnOk P w K mg base CX0 2 (He.ga K "_law_word") fd ["_law_bag_here"] spWord := by
  refine FnO.ofF F sc_l_word (fun vs H Q E h => ?_) (fun cdv A outer s H vs Q E hr h => ?_)
  · unfold spWord at h
    split at h
    · rfl
    · exact h.elim
  · unfold spWord at h
    split at h
    · rename_i b
      obtain ⟨g, r, hb, ok, W, q⟩ := onBag_cases h
      replace hb : H b = some (bagO g r) := hb
      refine ⟨_, (pss_cons (ps_if (pt_cmpR (f_eq (K := K) rfl hr) (pe_callC G_l_take (hr.mono (by decide)) (pa_cons (pv 0) (pa_cons pe_int pa_nil))) pe_int (nomark _))
            (pss_one (ps_ret (pe_ix f_ix (pe_tup (pa_cons pe_str (pa_cons pe_str (pa_cons pe_str (pa_cons pe_str pa_nil))))) (pe_callC G_l_take (hr.mono (by decide)) (pa_cons (pv 0) (pa_cons pe_int pa_nil))) (fun _ _ => rfl))))
            pss_nil)
          (pss_cons (ps_set (i := 1) sc_l_word.nd rfl (Or.inr rfl) pe_str)
          (pss_one (ps_ret (k_join (K := K) rfl pe_str (pe_lc (own := [("_law_turn", 2)]) (g := (gName 2)) (tt := tYes) (by rfl) sc_l_word.nd (pi_range1 rfl T.n_range (pa_cons (pe_op f_add pe_int (pe_callC G_l_take (hr.mono (by decide)) (pa_cons (pv 0) (pa_cons pe_int pa_nil)))) pa_nil)) (blkOk_by (own := [("_law_turn", 2)]) (N := ["_law_bag_here", "_law_letters", "_law_turn"]) (sc := defScope s_l_word) (by decide +kernel)) (fun _ _ _ _ _ => (pg_name (i := 2) sc_l_word.nd rfl (Or.inl rfl))) (fun _ _ _ _ _ => pts_nil) (fun _ _ _ _ _ => (pe_ix f_ix (pv 1) (pe_callC G_l_take (hr.mono (by decide)) (pa_cons (pv 0) (pa_cons pe_int pa_nil))) (fun _ _ => rfl))))))))), ?_⟩
      refine w_start (σ' := [some _, none, none]) rfl ?_
      walk_at "ga"
      have hbL : H b = some (HO.lst [.int g, .int r]) := hb
      intro d g1 r1 d0 d1 ok1
      refine ite2 (fun _ => ?_) fun _ => ?_
      · intro p np hp d g2 r2 d0 d1 ok2
        obtain ⟨v, hv, hm⟩ := at_mem (xs := [V.str "a", V.str "b", V.str "ab", V.str "zzzzzzzz"]) d0 d1
        have hw : ∃ z, v = .str z ∧ IsWord z := by
          simp only [List.mem_cons, List.not_mem_nil, or_false] at hm
          rcases hm with rfl | rfl | rfl | rfl <;> exact ⟨_, rfl, by unfold IsWord; decide⟩
        obtain ⟨z, rfl, hz⟩ := hw
        exact ⟨_, hv, _, Forg.but (o' := bagO g2 r2) W hbL trivial (fun _ _ _ e => by cases e) trivial (by walk_at "ga") (But.new (But.mut (But.refl H)) (by walk_at "fr")), q _ _ _ hz ok2⟩
      · intro n g2 r2 n0 n1 ok2
        refine ⟨⟨by omega, by omega⟩, ?_⟩
        refine w_lcwalk walk_range [_, _, none] rfl fun D hD => ⟨fun i H' => ∃ (zs : List Nat) (g3 r3 : Int), H' = upd (upd H b (bagO g3 r3)) D (.lst (zs.map sgn)) ∧ zs.length = i ∧ (∀ c ∈ zs, 97 ≤ c ∧ c ≤ 122) ∧ BagOk g3 r3, ⟨[], g2, r2, rfl, rfl, fun c hc => (by cases hc), ok2⟩, fun _ _ _ _ => trivial, ?_, ?_⟩
        · rintro i x H3 H4 hi ⟨zs, g3, r3, rfl, hl, hc, ok3⟩ ⟨rfl, rfl⟩
          have hD2 : ¬ D = b ∧ H D = none := by
            rw [← h_isNone]
            exact hD
          obtain ⟨nDb, hDn⟩ := hD2
          walk_at "ga"
          refine ⟨rfl, fun d g4 r4 d0 d1 ok4 => ⟨by decide, ?_⟩⟩
          obtain ⟨c, e, hm⟩ := at_mem (xs := (Str.ofString "abcdefghijklmnopqrstuvwxyz").cps.toList) d0 d1
          have hc' : 97 ≤ c ∧ c ≤ 122 := (by decide : ∀ c ∈ (Str.ofString "abcdefghijklmnopqrstuvwxyz").cps.toList, 97 ≤ c ∧ c ≤ 122) c hm
          refine ⟨c, e, w_kEl upd_same (by rw [List.length_map]; omega) ⟨zs ++ [c], g4, r4, ?_, by rw [List.length_append, hl]; rfl, fun e he => ?_, ok4⟩⟩
          · rw [upd_upd, List.map_append]
            rfl
          · rcases List.mem_append.mp he with he | he
            · exact hc e he
            · rw [List.mem_singleton.mp he]
              exact hc'
        · rintro H3 ⟨zs, g3, r3, rfl, hl, hc, ok3⟩
          obtain ⟨nDb, hDn⟩ : ¬ D = b ∧ H D = none := by
            rw [← h_isNone]
            exact hD
          refine w_joinSigns upd_same (by omega) ⟨_, Forg.but (o' := bagO g3 r3) W hbL trivial (fun _ _ _ e => by cases e) trivial (by walk_at "ga") (But.new (But.mut (But.refl H)) (by walk_at "fr")), q _ _ _ ⟨?_, ?_, hc⟩ ok3⟩
          · show 1 ≤ zs.toArray.size
            rw [List.size_toArray]
            omega
          · show zs.toArray.size ≤ 8
            rw [List.size_toArray]
            omega
    · exact h.elim
theorem c_l_word (T : Txt K mg) (G_l_take : Cd P w K mg base 1 "_law_take" [] spTake) : Cd P w K mg base 2 "_law_word" [] spWord := by
  obtain ⟨fd, F⟩ := T.d_l_word
  exact Cd.by (o_l_word T G_l_take F) F T.m_l_word (F.bindsN fun _ _ _ _ _ _ us hl => match us, hl with | [_], _ => rfl) .nil
end
def IsNum (i : Int) : Prop := -999 ≤ i ∧ i ≤ 999
def IsVal (k : Str) (v : V) : Prop := (k = "word" ∧ ∃ z, v = .str z ∧ IsWord z) ∨ (k ≠ "word" ∧ ∃ i, v = .int i ∧ IsNum i)
def spValue : Sp := fun vs H Q _ => match vs with
  | [.ref b, .str k] => onBag (H b) fun _ _ => Whole H ∧ ∀ v g' r', IsVal k v → BagOk g' r' → Q v (upd H b (bagO g' r'))
  | _ => False
theorem e_value {b : Addr} {k : Str} {H : Hp} {Q : VK} {E : XK} : spValue [.ref b, .str k] H Q E = onBag (H b) fun _ _ => Whole H ∧ ∀ v g' r', IsVal k v → BagOk g' r' → Q v (upd H b (bagO g' r')) := rfl
section
variable {P : Program} {w : World} {K : PySem.W.Frag} {mg : Str → Option Value} {base : Heap}
theorem o_l_value (T : Txt K mg) (G_l_take : Cd P w K mg base 1 "_law_take" [] spTake) (G_l_word : Cd P w K mg base 2 "_law_word" [] spWord) {fd : FuncData} (F : FunD K "_law_value" "_law_value" (defArgs s_l_value) (defBody s_l_value) (defScope s_l_value) [] [] (He.ga K "_law_value") fd) : FnOk P w K mg base CX0 3 (He.ga K "_law_value") fd ["_law_bag_here", "_law_kind"] spValue := by
  refine FnO.of F sc_l_value (fun vs H Q E h => ?_) (fun cdv A outer s H vs Q E hr h => ?_)
  · unfold spValue at h
    split at h
    · rfl
    · exact h.elim
  · unfold spValue at h
    split at h
    · rename_i b k
      obtain ⟨g, r, hb, ok, W, q⟩ := onBag_cases h
      replace hb : H b = some (bagO g r) := hb
      refine ⟨_, (pss_cons (ps_if (pt_cmpR (f_eq (K := K) rfl hr) (pv 1) pe_str (nomark _))
            (pss_one (ps_ret (pe_callC G_l_word (hr.mono (by decide)) (pa_cons (pv 0) pa_nil))))
            pss_nil)
          (pss_cons (ps_set (i := 2) sc_l_value.nd rfl (Or.inl rfl) (pe_callC G_l_take (hr.mono (by decide)) (pa_cons (pv 0) (pa_cons pe_int pa_nil))))
          (pss_one (ps_ret (pe_ifExp (pt_cmpR f_lt (pv 2) pe_int (nomark _)) (pe_op f_sub (pe_callC G_l_take (hr.mono (by decide)) (pa_cons (pv 0) (pa_cons pe_int pa_nil))) pe_int) (pe_op f_sub (pe_callC G_l_take (hr.mono (by decide)) (pa_cons (pv 0) (pa_cons pe_int pa_nil))) pe_int)))))), ?_⟩
      refine w_start (σ' := [some _, some _, none]) rfl ?_
      walk_at "ga"
      refine ite2 (fun e z g' r' hz o => q _ _ _ (.inl ⟨e, z, rfl, hz⟩) o) fun e d g1 r1 d0 d1 ok1 => ite2 (fun _ d g2 r2 d0 d1 ok2 => ?_) fun _ d g2 r2 d0 d1 ok2 => ?_
      · exact q _ _ _ (.inr ⟨e, _, rfl, by unfold IsNum; omega⟩) ok2
      · exact q _ _ _ (.inr ⟨e, _, rfl, by unfold IsNum; omega⟩) ok2
    · exact h.elim
theorem c_l_value (T : Txt K mg) (G_l_take : Cd P w K mg base 1 "_law_take" [] spTake) (G_l_word : Cd P w K mg base 2 "_law_word" [] spWord) : Cd P w K mg base 3 "_law_value" [] spValue := by
  obtain ⟨fd, F⟩ := T.d_l_value
  exact Cd.by (o_l_value T G_l_take G_l_word F) F T.m_l_value (F.bindsN fun _ _ _ _ _ _ us hl => match us, hl with | [_, _], _ => rfl) .nil
end

/-! ### things of any kind, and what they are -/
def Thing (H : Hp) : V → Prop
  | .non => True
  | .bl _ => True
  | .int _ => True
  | .str z => z.length ≤ 100
  | .ref p => seqO (H p) = true
  | _ => False
theorem Thing.mono {H H' : Hp} {v : V} (h : Thing H v) (f : ∀ p, seqO (H p) = true → seqO (H' p) = true) : Thing H' v := by
  cases v with
  | ref p => exact f p h
  | _ => exact h
theorem Thing.same {H H' : Hp} {v : V} (h : Thing H v) (s : Same H H') : Thing H' v := h.mono fun p e => by
  cases k : H p with
  | none => rw [k] at e; cases e
  | some o => rw [k] at e; rw [s p o k]; exact e
theorem Thing.put {H : Hp} {v : V} {b : Addr} {xs : List V} (h : Thing H v) : Thing (upd H b (.lst xs)) v := h.mono fun p e => by
  by_cases n : p = b
  · rw [n, upd_same]
    rfl
  · rw [upd_ne n]
    exact e
theorem Thing.but {H H' : Hp} {v : V} {b : Addr} {xs : List V} (h : Thing H v) (s : But b H H') (e : H' b = some (.lst xs)) : Thing H' v := h.mono fun p e2 => by
  by_cases n : p = b
  · rw [n, e]
    rfl
  · cases k : H p with
    | none => rw [k] at e2; cases e2
    | some o => rw [k] at e2; rw [s p o n k]; exact e2
theorem at_go {α : Type} {xs : List α} {i : Int} {R : α → Prop} (h0 : 0 ≤ i) (h1 : i < xs.length) (h : ∀ v, v ∈ xs → R v) : ∃ v, atI xs i = some v ∧ R v := by
  obtain ⟨v, hv, hm⟩ := at_mem h0 h1
  exact ⟨v, hv, h v hm⟩
theorem but_of {b : Addr} {o : HO} {H H1 : Hp} (s : Same H H1) : But b H (upd H1 b o) := fun a o n e => by
  rw [upd_ne n]
  exact s a o e
def wholeF : V → Bool
  | .int i => decide (-999 ≤ i ∧ i ≤ 999)
  | _ => false
def abcL : List Nat := (Str.ofString "abcdefghijklmnopqrstuvwxyz").cps.toList
def wordF : V → Bool
  | .str z => decide (1 ≤ z.length ∧ z.length ≤ 8) && z.cps.toList.all fun c => decide (c ∈ abcL)
  | _ => false
def valF (k : Str) (v : V) : Bool := if k = "word" then wordF v else wholeF v
theorem Thing.cases {H : Hp} {v : V} (h : Thing H v) : v = .non ∨ (∃ b, v = .bl b) ∨ (∃ i, v = .int i) ∨ (∃ z, v = .str z ∧ z.length ≤ 100) ∨ (∃ p xs, v = .ref p ∧ H p = some (.lst xs)) ∨ ∃ p xs, v = .ref p ∧ H p = some (.tup xs) := by
  unfold Thing at h
  split at h
  · exact .inl rfl
  · exact .inr (.inl ⟨_, rfl⟩)
  · exact .inr (.inr (.inl ⟨_, rfl⟩))
  · exact .inr (.inr (.inr (.inl ⟨_, rfl, h⟩)))
  · rename_i p
    cases e : H p with
    | none => rw [e] at h; cases h
    | some o =>
      rw [e] at h
      cases o with
      | lst xs => exact .inr (.inr (.inr (.inr (.inl ⟨_, _, rfl, e⟩))))
      | tup xs => exact .inr (.inr (.inr (.inr (.inr ⟨_, _, rfl, e⟩))))
      | _ => cases h
  · exact h.elim
def spWhole : Sp := fun vs H Q _ => ∃ v, vs = [v, .int (-999), .int 999] ∧ Thing H v ∧ Q (.bl (wholeF v)) H
theorem e_whole {v : V} {H : Hp} {Q : VK} {E : XK} : spWhole [v, .int (-999), .int 999] H Q E = (Thing H v ∧ Q (.bl (wholeF v)) H) := propext ⟨fun ⟨_, e, a, q⟩ => by cases e; exact ⟨a, q⟩, fun ⟨a, q⟩ => ⟨v, rfl, a, q⟩⟩
def spIsWord : Sp := fun vs H Q _ => ∃ v, vs = [v] ∧ Thing H v ∧ Whole H ∧ Q (.bl (wordF v)) H
theorem e_isWord {v : V} {H : Hp} {Q : VK} {E : XK} : spIsWord [v] H Q E = (Thing H v ∧ Whole H ∧ Q (.bl (wordF v)) H) := propext ⟨fun ⟨_, e, a, q⟩ => by cases e; exact ⟨a, q⟩, fun ⟨a, q⟩ => ⟨v, rfl, a, q⟩⟩
def spIsValue : Sp := fun vs H Q _ => ∃ k v, vs = [.str k, v] ∧ (k = "number" ∨ k = "word") ∧ Thing H v ∧ Whole H ∧ Q (.bl (valF k v)) H
theorem e_isValue {k : Str} {v : V} {H : Hp} {Q : VK} {E : XK} : spIsValue [.str k, v] H Q E = ((k = "number" ∨ k = "word") ∧ Thing H v ∧ Whole H ∧ Q (.bl (valF k v)) H) := propext ⟨fun ⟨_, _, e, a, q⟩ => by cases e; exact ⟨a, q⟩, fun ⟨a, q⟩ => ⟨k, v, rfl, a, q⟩⟩
local macro_rules | `(tactic| walk_at "ar") => `(tactic| first
  | decide
  | omega
  | exact ⟨by omega, by omega⟩
  | exact ⟨by decide, by decide⟩
  | exact ⟨by omega, by omega, by omega⟩
  | exact .inl ⟨by omega, by omega⟩
  | exact .inr ⟨by omega, by omega⟩)
local macro_rules | `(tactic| walk_at "ne") => `(tactic| first
  | assumption
  | exact Ne.symm (by assumption))
local macro_rules | `(tactic| walk_at "hp") => `(tactic| first
  | assumption
  | exact upd_same
  | (refine upd_fresh (by assumption) ?_; walk_at "hp")
  | (refine same_at (by assumption) ?_; walk_at "hp")
  | (refine upd_off (by walk_at "ne") ?_; walk_at "hp")
  | (refine But.at (by assumption) (by walk_at "ne") ?_; walk_at "hp"))
local macro_rules | `(tactic| walk_at "sq") => `(tactic| first
  | assumption
  | exact SqL.of (by walk_at "hp")
  | (refine Same.seq (by assumption) ?_; walk_at "sq"))
local macro_rules | `(tactic| walk_at "sqt") => `(tactic| first
  | assumption
  | exact SqT.of (by walk_at "hp")
  | (refine same_sqT (by assumption) ?_; walk_at "sqt"))
local macro_rules | `(tactic| walk_at "ix") => `(tactic| first
  | rfl
  | assumption)
local macro_rules | `(tactic| walk_at "wp") => `(tactic| dsimp only [wipe, List.map_cons, List.map_nil, List.set_cons_succ, List.set_cons_zero, List.set])
local macro_rules | `(tactic| walk_at "go1") => `(tactic| first
  | (with_reducible refine w_gVar ?_; first | with_reducible refine w_var0 ?_ | with_reducible refine w_var1 ?_ | with_reducible refine w_var2 ?_ | with_reducible refine w_var3 ?_ | with_reducible refine w_var4 ?_ | with_reducible refine w_var5 ?_ | with_reducible refine w_var6 ?_ | with_reducible refine w_var7 ?_ | with_reducible refine w_var8 ?_ | with_reducible refine w_var9 ?_ | with_reducible refine w_var10 ?_ | with_reducible refine w_var11 ?_ | with_reducible refine w_var12 ?_ | with_reducible refine w_var13 ?_ | with_reducible refine w_var14 ?_ | with_reducible refine w_var15 ?_ | with_reducible refine w_var16 ?_ | with_reducible refine w_var17 ?_ | with_reducible refine w_var18 ?_ | with_reducible refine w_var19 ?_ | with_reducible refine w_var20 ?_ | with_reducible refine w_var21 ?_ | with_reducible refine w_var22 ?_ | with_reducible refine w_var23 ?_ | with_reducible refine w_var24 ?_ | with_reducible refine w_var25 ?_ | with_reducible refine w_var26 ?_ | with_reducible refine w_var27 ?_ | with_reducible refine w_var28 ?_ | with_reducible refine w_var29 ?_ | with_reducible refine w_var30 ?_ | with_reducible refine w_var31 ?_ | with_reducible refine w_var32 ?_ | with_reducible refine w_var33 ?_)
  | (with_reducible refine w_gSet ?_; first | with_reducible refine w_set0 ?_ | with_reducible refine w_set1 ?_ | with_reducible refine w_set2 ?_ | with_reducible refine w_set3 ?_ | with_reducible refine w_set4 ?_ | with_reducible refine w_set5 ?_ | with_reducible refine w_set6 ?_ | with_reducible refine w_set7 ?_ | with_reducible refine w_set8 ?_ | with_reducible refine w_set9 ?_ | with_reducible refine w_set10 ?_ | with_reducible refine w_set11 ?_ | with_reducible refine w_set12 ?_ | with_reducible refine w_set13 ?_ | with_reducible refine w_set14 ?_ | with_reducible refine w_set15 ?_ | with_reducible refine w_set16 ?_ | with_reducible refine w_set17 ?_ | with_reducible refine w_set18 ?_ | with_reducible refine w_set19 ?_ | with_reducible refine w_set20 ?_ | with_reducible refine w_set21 ?_ | with_reducible refine w_set22 ?_ | with_reducible refine w_set23 ?_ | with_reducible refine w_set24 ?_ | with_reducible refine w_set25 ?_ | with_reducible refine w_set26 ?_ | with_reducible refine w_set27 ?_ | with_reducible refine w_set28 ?_ | with_reducible refine w_set29 ?_ | with_reducible refine w_set30 ?_ | with_reducible refine w_set31 ?_ | with_reducible refine w_set32 ?_ | with_reducible refine w_set33 ?_)
  | with_reducible refine w_c ?_
  | with_reducible refine w_cons ?_
  | with_reducible refine w_op ?_
  | with_reducible refine w_call ?_
  | with_reducible refine w_nil ?_
  | with_reducible refine w_seq ?_
  | with_reducible refine w_asg ?_
  | with_reducible refine w_rI0 ?_
  | with_reducible refine w_un ?_
  | with_reducible refine w_rU ?_
  | with_reducible refine w_bQ ?_
  | with_reducible refine w_test ?_
  | with_reducible refine w_tB ?_
  | with_reducible refine w_not ?_
  | with_reducible refine w_and ?_
  | with_reducible refine w_or ?_
  | with_reducible refine w_bV ?_
  | with_reducible refine w_andV ?_
  | with_reducible refine w_orV ?_
  | with_reducible refine w_notV ?_
  | with_reducible refine w_ifE ?_
  | with_reducible refine w_bC ?_
  | with_reducible refine w_chain ?_
  | with_reducible refine w_tup ?_
  | with_reducible refine w_lst ?_
  | with_reducible refine w_cb ?_
  | with_reducible refine w_next ?_
  | with_reducible refine w_drop ?_
  | with_reducible refine w_ret ?_
  | with_reducible refine w_retN ?_
  | with_reducible refine w_ifS ?_
  | with_reducible refine w_brk ?_
  | with_reducible refine w_cont ?_
  | with_reducible refine w_gNil ?_
  | with_reducible refine w_gCons ?_
  | with_reducible refine w_gSub ?_
  | with_reducible refine w_for ?_
  | with_reducible refine w_rng1 ?_
  | with_reducible refine w_iList ?_
  | with_reducible refine w_iTup ?_
  | with_reducible refine w_iStr ?_
  | with_reducible refine w_kStr ?_
  | with_reducible refine w_lc ?_
  | with_reducible refine w_tYes ?_
  | with_reducible refine w_true ?_
  | with_reducible refine w_false ?_
  | with_reducible refine w_ab ?_
  | with_reducible refine w_mx2 ?_
  | with_reducible refine w_mn2 ?_
  | with_reducible refine w_inSign ?_
  | with_reducible refine w_bm ?_
  | with_reducible refine w_m1 ?_
  | with_reducible refine w_m0 ?_
  | with_reducible refine w_isS ?_
  | refine w_rI (by walk_at "ar") ?_
  | refine w_ixL (by walk_at "sq") (by walk_at "ix") ?_
  | refine w_ixT (by walk_at "sqt") (by walk_at "ix") ?_
  | refine w_setL (by walk_at "hp") (by rfl) ?_
  | refine w_lnL (by walk_at "sq") ?_
  | refine w_lnT (by walk_at "sqt") ?_
  | refine w_eq (by rfl) ?_
  | refine w_ne (by rfl) ?_)
local macro_rules | `(tactic| walk_at "gs") => `(tactic| simp only [↓e_c, ↓e_op, ↓e_un, ↓e_rU, ↓e_rI0, ↓e_rI, ↓e_bQ, ↓e_test, ↓e_tB, ↓e_not, ↓e_and, ↓e_or, ↓e_andV, ↓e_orV, ↓e_notV, ↓e_ifE, ↓e_chain, ↓e_nil, ↓e_cons, ↓e_tup, ↓e_lst, ↓e_kLst, ↓e_kTup, ↓e_small, ↓e_smallB, ↓e_call, ↓e_callN, ↓e_cb, ↓e_next, ↓e_seq, ↓e_drop, ↓e_ret, ↓e_retN, ↓e_ifS, ↓e_asg, ↓e_brk, ↓e_cont, ↓e_gNil, ↓e_gCons, ↓e_gSub, ↓e_for, ↓e_rng1, ↓e_kRng1, ↓e_iList, ↓e_iTup, ↓e_kStr, ↓e_iStr, ↓e_lc, ↓e_tYes, ↓e_ab, ↓e_mx2, ↓e_mn2, ↓e_bm, ↓e_tyS, ↓e_sIx, ↓e_m1, ↓e_m0, ↓e_isS, ↓e_addI, ↓e_addS, ↓e_addR, ↓e_seqL, ↓e_seqT, ↓e_onTup, ↓e_lstL, ↓e_ixS, ↓e_ixR, ↓e_itsL, ↓e_itsT, ↓e_slS, ↓e_slR, ↓e_newT, ↓e_mutL, ↓e_mutD, ↓e_sl, ↓e_bI, ↓e_noPart, ↓e_part, ↓e_inS, ↓e_ninS, ↓e_inR, ↓e_ninR, ↓e_lenS, ↓e_lenR, ↓e_tupR, ↓e_listR, ↓e_isR, ↓e_tyL, ↓e_tyT, ↓e_tyD, ↓e_eqI, ↓e_neI, ↓e_eqS, ↓e_neS, ↓e_eqB, ↓e_neB, ↓e_eqR, ↓e_neR, ↓e_eqR2, ↓e_neR2, ↓e_ltI, ↓e_leI, ↓e_gtI, ↓e_geI, ↓e_ltS, ↓e_leS, ↓e_gtS, ↓e_geS, ↓e_mul, ↓e_mulS, ↓e_m0F, ↓e_exS, ↓e_upS, ↓e_mod, ↓e_div, ↓e_pow, ↓e_sub, ↓e_iaddI, ↓e_iaddS, ↓e_imul, ↓e_setL, ↓e_app, ↓e_truF, ↓e_truI, ↓e_truB, ↓e_truN, ↓e_truS, ↓e_truR, ↓e_iSeq, ↓e_kSeqS, ↓e_kSeqR, ↓e_seqOL, ↓e_seqOT, ↓e_itOL, ↓e_itOT, ↓e_at0, ↓e_at1, ↓e_at2, ↓e_at3, ↓e_ex1, ↓e_ixN0, ↓e_ixN1, ↓e_updS, ↓e_updU, ↓e_lset0, ↓e_lset1, ↓e_var0, ↓e_var1, ↓e_var2, ↓e_var3, ↓e_var4, ↓e_var5, ↓e_var6, ↓e_var7, ↓e_var8, ↓e_var9, ↓e_var10, ↓e_var11, ↓e_var12, ↓e_var13, ↓e_var14, ↓e_var15, ↓e_var16, ↓e_var17, ↓e_var18, ↓e_var19, ↓e_var20, ↓e_var21, ↓e_var22, ↓e_var23, ↓e_var24, ↓e_var25, ↓e_var26, ↓e_var27, ↓e_var28, ↓e_var29, ↓e_var30, ↓e_var31, ↓e_var32, ↓e_var33, ↓e_set0, ↓e_set1, ↓e_set2, ↓e_set3, ↓e_set4, ↓e_set5, ↓e_set6, ↓e_set7, ↓e_set8, ↓e_set9, ↓e_set10, ↓e_set11, ↓e_set12, ↓e_set13, ↓e_set14, ↓e_set15, ↓e_set16, ↓e_set17, ↓e_set18, ↓e_set19, ↓e_set20, ↓e_set21, ↓e_set22, ↓e_set23, ↓e_set24, ↓e_set25, ↓e_set26, ↓e_set27, ↓e_set28, ↓e_set29, ↓e_set30, ↓e_set31, ↓e_set32, ↓e_set33, ↓e_aug0, ↓e_aug1, ↓e_aug2, ↓e_aug3, ↓e_aug4, ↓e_aug5, ↓e_aug6, ↓e_aug7, ↓e_aug8, ↓e_aug9, ↓e_aug10, ↓e_aug11, ↓e_aug12, ↓e_aug13, ↓e_aug14, ↓e_aug15, ↓e_aug16, ↓e_aug17, ↓e_aug18, ↓e_aug19, ↓e_aug20, ↓e_aug21, ↓e_aug22, ↓e_aug23, ↓e_aug24, ↓e_aug25, ↓e_aug26, ↓e_aug27, ↓e_aug28, ↓e_aug29, ↓e_aug30, ↓e_aug31, ↓e_aug32, ↓e_aug33, ↓e_is_int_bool, ↓e_is_int_int, ↓e_is_int_str, ↓e_is_int_list, ↓e_is_int_tuple, ↓e_is_int_dict, ↓e_is_bl_bool, ↓e_is_bl_int, ↓e_is_bl_str, ↓e_is_bl_list, ↓e_is_bl_tuple, ↓e_is_bl_dict, ↓e_is_str_bool, ↓e_is_str_int, ↓e_is_str_str, ↓e_is_str_list, ↓e_is_str_tuple, ↓e_is_str_dict, ↓e_is_non_bool, ↓e_is_non_int, ↓e_is_non_str, ↓e_is_non_list, ↓e_is_non_tuple, ↓e_is_non_dict, e_ib_list_bool, e_ib_list_int, e_ib_list_str, e_ib_list_list, e_ib_list_tuple, e_ib_list_dict, e_ib_tuple_bool, e_ib_tuple_int, e_ib_tuple_str, e_ib_tuple_list, e_ib_tuple_tuple, e_ib_tuple_dict, e_ib_dict_bool, e_ib_dict_int, e_ib_dict_str, e_ib_dict_list, e_ib_dict_tuple, e_ib_dict_dict, e_kn_bool, e_kn_int, e_kn_str, e_kn_list, e_kn_tuple, e_kn_dict, decide_eq_true_eq, Bool.not_eq_true', decide_eq_false_iff_not, Bool.false_eq_true, Bool.true_eq_false, if_true, if_false, List.append_nil, true_and, and_true, Bool.not_false, Bool.not_true, decide_true, decide_false, eq_self, List.cons_append, List.nil_append, and_self, List.length_cons, List.length_nil])
local macro_rules | `(tactic| walk_at "ga") => `(tactic| simp (config := {contextual := true, maxSteps := 1000000}) only [↓e_c, ↓e_op, ↓e_un, ↓e_rU, ↓e_rI0, ↓e_rI, ↓e_bQ, ↓e_test, ↓e_tB, ↓e_not, ↓e_and, ↓e_or, ↓e_andV, ↓e_orV, ↓e_notV, ↓e_ifE, ↓e_chain, ↓e_nil, ↓e_cons, ↓e_tup, ↓e_lst, ↓e_kLst, ↓e_kTup, ↓e_small, ↓e_smallB, ↓e_call, ↓e_callN, ↓e_cb, ↓e_next, ↓e_seq, ↓e_drop, ↓e_ret, ↓e_retN, ↓e_ifS, ↓e_asg, ↓e_brk, ↓e_cont, ↓e_gNil, ↓e_gCons, ↓e_gSub, ↓e_for, ↓e_rng1, ↓e_kRng1, ↓e_iList, ↓e_iTup, ↓e_kStr, ↓e_iStr, ↓e_lc, ↓e_tYes, ↓e_ab, ↓e_mx2, ↓e_mn2, ↓e_bm, ↓e_tyS, ↓e_sIx, ↓e_m1, ↓e_m0, ↓e_isS, ↓e_addI, ↓e_addS, ↓e_addR, ↓e_seqL, ↓e_seqT, ↓e_onTup, ↓e_lstL, ↓e_ixS, ↓e_ixR, ↓e_itsL, ↓e_itsT, ↓e_slS, ↓e_slR, ↓e_newT, ↓e_mutL, ↓e_mutD, ↓e_sl, ↓e_bI, ↓e_noPart, ↓e_part, ↓e_inS, ↓e_ninS, ↓e_inR, ↓e_ninR, ↓e_lenS, ↓e_lenR, ↓e_tupR, ↓e_listR, ↓e_isR, ↓e_tyL, ↓e_tyT, ↓e_tyD, ↓e_eqI, ↓e_neI, ↓e_eqS, ↓e_neS, ↓e_eqB, ↓e_neB, ↓e_eqR, ↓e_neR, ↓e_eqR2, ↓e_neR2, ↓e_ltI, ↓e_leI, ↓e_gtI, ↓e_geI, ↓e_ltS, ↓e_leS, ↓e_gtS, ↓e_geS, ↓e_mul, ↓e_mulS, ↓e_m0F, ↓e_exS, ↓e_upS, ↓e_mod, ↓e_div, ↓e_pow, ↓e_sub, ↓e_iaddI, ↓e_iaddS, ↓e_imul, ↓e_setL, ↓e_app, ↓e_truF, ↓e_truI, ↓e_truB, ↓e_truN, ↓e_truS, ↓e_truR, ↓e_iSeq, ↓e_kSeqS, ↓e_kSeqR, ↓e_seqOL, ↓e_seqOT, ↓e_itOL, ↓e_itOT, ↓e_at0, ↓e_at1, ↓e_at2, ↓e_at3, ↓e_ex1, ↓e_ixN0, ↓e_ixN1, ↓e_updS, ↓e_updU, ↓e_lset0, ↓e_lset1, ↓e_var0, ↓e_var1, ↓e_var2, ↓e_var3, ↓e_var4, ↓e_var5, ↓e_var6, ↓e_var7, ↓e_var8, ↓e_var9, ↓e_var10, ↓e_var11, ↓e_var12, ↓e_var13, ↓e_var14, ↓e_var15, ↓e_var16, ↓e_var17, ↓e_var18, ↓e_var19, ↓e_var20, ↓e_var21, ↓e_var22, ↓e_var23, ↓e_var24, ↓e_var25, ↓e_var26, ↓e_var27, ↓e_var28, ↓e_var29, ↓e_var30, ↓e_var31, ↓e_var32, ↓e_var33, ↓e_set0, ↓e_set1, ↓e_set2, ↓e_set3, ↓e_set4, ↓e_set5, ↓e_set6, ↓e_set7, ↓e_set8, ↓e_set9, ↓e_set10, ↓e_set11, ↓e_set12, ↓e_set13, ↓e_set14, ↓e_set15, ↓e_set16, ↓e_set17, ↓e_set18, ↓e_set19, ↓e_set20, ↓e_set21, ↓e_set22, ↓e_set23, ↓e_set24, ↓e_set25, ↓e_set26, ↓e_set27, ↓e_set28, ↓e_set29, ↓e_set30, ↓e_set31, ↓e_set32, ↓e_set33, ↓e_aug0, ↓e_aug1, ↓e_aug2, ↓e_aug3, ↓e_aug4, ↓e_aug5, ↓e_aug6, ↓e_aug7, ↓e_aug8, ↓e_aug9, ↓e_aug10, ↓e_aug11, ↓e_aug12, ↓e_aug13, ↓e_aug14, ↓e_aug15, ↓e_aug16, ↓e_aug17, ↓e_aug18, ↓e_aug19, ↓e_aug20, ↓e_aug21, ↓e_aug22, ↓e_aug23, ↓e_aug24, ↓e_aug25, ↓e_aug26, ↓e_aug27, ↓e_aug28, ↓e_aug29, ↓e_aug30, ↓e_aug31, ↓e_aug32, ↓e_aug33, ↓e_is_int_bool, ↓e_is_int_int, ↓e_is_int_str, ↓e_is_int_list, ↓e_is_int_tuple, ↓e_is_int_dict, ↓e_is_bl_bool, ↓e_is_bl_int, ↓e_is_bl_str, ↓e_is_bl_list, ↓e_is_bl_tuple, ↓e_is_bl_dict, ↓e_is_str_bool, ↓e_is_str_int, ↓e_is_str_str, ↓e_is_str_list, ↓e_is_str_tuple, ↓e_is_str_dict, ↓e_is_non_bool, ↓e_is_non_int, ↓e_is_non_str, ↓e_is_non_list, ↓e_is_non_tuple, ↓e_is_non_dict, e_ib_list_bool, e_ib_list_int, e_ib_list_str, e_ib_list_list, e_ib_list_tuple, e_ib_list_dict, e_ib_tuple_bool, e_ib_tuple_int, e_ib_tuple_str, e_ib_tuple_list, e_ib_tuple_tuple, e_ib_tuple_dict, e_ib_dict_bool, e_ib_dict_int, e_ib_dict_str, e_ib_dict_list, e_ib_dict_tuple, e_ib_dict_dict, e_kn_bool, e_kn_int, e_kn_str, e_kn_list, e_kn_tuple, e_kn_dict, decide_eq_true_eq, Bool.not_eq_true', decide_eq_false_iff_not, Bool.false_eq_true, Bool.true_eq_false, if_true, if_false, List.append_nil, true_and, and_true, Bool.not_false, Bool.not_true, decide_true, decide_false, eq_self, List.cons_append, List.nil_append, and_self, List.length_cons, List.length_nil, ↓Wr.e_revT, ↓Wr.e_kRevT, ↓e_forgS, ↓e_forgE, h_old, h_ne, h_comm, h_isNone, and_imp, not_false_eq_true, Option.isSome_some, implies_true, not_true_eq_false, Int.reduceLT, Int.reduceLE, Int.reduceAdd, Int.reduceSub, Int.reduceMul, Int.reduceNeg, Int.reduceEq, Int.reduceNe, Int.reduceToNat, Nat.reduceAdd, Nat.reduceSub, Nat.reduceLeDiff, reduceIte, Int.reducePow, ↓e_take, ↓e_onBag, ↓e_mutB, ↓e_word, ↓e_value, ↓e_whole, ↓e_isWord, ↓e_isValue, *])
local macro_rules | `(tactic| walk_at "gn") => `(tactic| simp (config := {maxSteps := 1000000}) only [↓e_c, ↓e_op, ↓e_un, ↓e_rU, ↓e_rI0, ↓e_rI, ↓e_bQ, ↓e_test, ↓e_tB, ↓e_not, ↓e_and, ↓e_or, ↓e_andV, ↓e_orV, ↓e_notV, ↓e_ifE, ↓e_chain, ↓e_nil, ↓e_cons, ↓e_tup, ↓e_lst, ↓g_kLst, ↓g_kTup, ↓e_small, ↓e_smallB, ↓e_call, ↓e_callN, ↓e_cb, ↓e_next, ↓e_seq, ↓e_drop, ↓e_ret, ↓e_retN, ↓e_ifS, ↓e_asg, ↓e_brk, ↓e_cont, ↓e_gNil, ↓e_gCons, ↓e_gSub, ↓e_for, ↓e_rng1, ↓e_kRng1, ↓e_iList, ↓e_iTup, ↓e_kStr, ↓e_iStr, ↓e_lc, ↓e_tYes, ↓e_ab, ↓e_mx2, ↓e_mn2, ↓e_bm, ↓e_tyS, ↓e_sIx, ↓e_m1, ↓e_m0, ↓e_isS, ↓e_addI, ↓e_addS, ↓g_addR, ↓e_seqL, ↓e_seqT, ↓e_onTup, ↓e_lstL, ↓e_ixS, ↓e_ixR, ↓e_itsL, ↓e_itsT, ↓e_slS, ↓g_slR, ↓e_mutL, ↓e_mutD, ↓e_sl, ↓e_bI, ↓e_noPart, ↓e_part, ↓e_inS, ↓e_ninS, ↓e_inR, ↓e_ninR, ↓e_lenS, ↓e_lenR, ↓g_tupR, ↓g_listR, ↓e_isR, ↓e_tyL, ↓e_tyT, ↓e_tyD, ↓e_eqI, ↓e_neI, ↓e_eqS, ↓e_neS, ↓e_eqB, ↓e_neB, ↓e_eqR, ↓e_neR, ↓e_eqR2, ↓e_neR2, ↓e_ltI, ↓e_leI, ↓e_gtI, ↓e_geI, ↓e_ltS, ↓e_leS, ↓e_gtS, ↓e_geS, ↓e_mul, ↓e_mulS, ↓e_m0F, ↓e_exS, ↓e_upS, ↓e_mod, ↓e_div, ↓e_pow, ↓e_sub, ↓e_iaddI, ↓e_iaddS, ↓e_imul, ↓e_setL, ↓e_app, ↓e_truF, ↓e_truI, ↓e_truB, ↓e_truN, ↓e_truS, ↓e_truR, ↓e_iSeq, ↓e_kSeqS, ↓e_kSeqR, ↓e_seqOL, ↓e_seqOT, ↓e_itOL, ↓e_itOT, ↓e_at0, ↓e_at1, ↓e_at2, ↓e_at3, ↓e_ex1, ↓e_ixN0, ↓e_ixN1, ↓e_updS, ↓e_updU, ↓e_lset0, ↓e_lset1, ↓e_var0, ↓e_var1, ↓e_var2, ↓e_var3, ↓e_var4, ↓e_var5, ↓e_var6, ↓e_var7, ↓e_var8, ↓e_var9, ↓e_var10, ↓e_var11, ↓e_var12, ↓e_var13, ↓e_var14, ↓e_var15, ↓e_var16, ↓e_var17, ↓e_var18, ↓e_var19, ↓e_var20, ↓e_var21, ↓e_var22, ↓e_var23, ↓e_var24, ↓e_var25, ↓e_var26, ↓e_var27, ↓e_var28, ↓e_var29, ↓e_var30, ↓e_var31, ↓e_var32, ↓e_var33, ↓e_set0, ↓e_set1, ↓e_set2, ↓e_set3, ↓e_set4, ↓e_set5, ↓e_set6, ↓e_set7, ↓e_set8, ↓e_set9, ↓e_set10, ↓e_set11, ↓e_set12, ↓e_set13, ↓e_set14, ↓e_set15, ↓e_set16, ↓e_set17, ↓e_set18, ↓e_set19, ↓e_set20, ↓e_set21, ↓e_set22, ↓e_set23, ↓e_set24, ↓e_set25, ↓e_set26, ↓e_set27, ↓e_set28, ↓e_set29, ↓e_set30, ↓e_set31, ↓e_set32, ↓e_set33, ↓e_aug0, ↓e_aug1, ↓e_aug2, ↓e_aug3, ↓e_aug4, ↓e_aug5, ↓e_aug6, ↓e_aug7, ↓e_aug8, ↓e_aug9, ↓e_aug10, ↓e_aug11, ↓e_aug12, ↓e_aug13, ↓e_aug14, ↓e_aug15, ↓e_aug16, ↓e_aug17, ↓e_aug18, ↓e_aug19, ↓e_aug20, ↓e_aug21, ↓e_aug22, ↓e_aug23, ↓e_aug24, ↓e_aug25, ↓e_aug26, ↓e_aug27, ↓e_aug28, ↓e_aug29, ↓e_aug30, ↓e_aug31, ↓e_aug32, ↓e_aug33, ↓e_is_int_bool, ↓e_is_int_int, ↓e_is_int_str, ↓e_is_int_list, ↓e_is_int_tuple, ↓e_is_int_dict, ↓e_is_bl_bool, ↓e_is_bl_int, ↓e_is_bl_str, ↓e_is_bl_list, ↓e_is_bl_tuple, ↓e_is_bl_dict, ↓e_is_str_bool, ↓e_is_str_int, ↓e_is_str_str, ↓e_is_str_list, ↓e_is_str_tuple, ↓e_is_str_dict, ↓e_is_non_bool, ↓e_is_non_int, ↓e_is_non_str, ↓e_is_non_list, ↓e_is_non_tuple, ↓e_is_non_dict, e_ib_list_bool, e_ib_list_int, e_ib_list_str, e_ib_list_list, e_ib_list_tuple, e_ib_list_dict, e_ib_tuple_bool, e_ib_tuple_int, e_ib_tuple_str, e_ib_tuple_list, e_ib_tuple_tuple, e_ib_tuple_dict, e_ib_dict_bool, e_ib_dict_int, e_ib_dict_str, e_ib_dict_list, e_ib_dict_tuple, e_ib_dict_dict, e_kn_bool, e_kn_int, e_kn_str, e_kn_list, e_kn_tuple, e_kn_dict, decide_eq_true_eq, Bool.not_eq_true', decide_eq_false_iff_not, Bool.false_eq_true, Bool.true_eq_false, if_true, if_false, List.append_nil, true_and, and_true, Bool.not_false, Bool.not_true, decide_true, decide_false, eq_self, List.cons_append, List.nil_append, and_self, List.length_cons, List.length_nil, ↓Wr.e_revT, ↓Wr.e_kRevT, ↓e_forgS, ↓e_forgE, upd_same, h_old, h_ne, h_comm, h_isNone, and_imp, not_false_eq_true, Option.isSome_some, implies_true, not_true_eq_false, Int.reduceLT, Int.reduceLE, Int.reduceAdd, Int.reduceSub, Int.reduceMul, Int.reduceNeg, Int.reduceEq, Int.reduceNe, Int.reduceToNat, Nat.reduceAdd, Nat.reduceSub, Nat.reduceLeDiff, reduceIte, Int.reducePow, ↓e_take, ↓e_onBag, ↓e_mutB, ↓e_word, ↓e_value, ↓e_whole, ↓e_isWord, ↓e_isValue, *])
local macro_rules | `(tactic| walk_at "fr") => `(tactic| simp (config := {contextual := true}) only [h_isNone, not_false_eq_true, and_self, true_and, *])
local macro_rules | `(tactic| walk_at "sm") => `(tactic| first
  | assumption
  | exact Same.refl _
  | (refine same_new' ?_ ?_; (· walk_at "fr"); walk_at "sm")
  | (refine same_updOff ?_ (by assumption); walk_at "sm"))
local macro_rules | `(tactic| walk_at "mu") => `(tactic| first
  | rfl
  | (simp (config := {contextual := true}) only [upd_same, h_old, h_ne, h_isNone, not_false_eq_true, and_self, true_and, Option.isSome_some, *]; done)
  | (simp (config := {contextual := true}) only [upd_same, h_old, h_ne, h_isNone, not_false_eq_true, and_self, true_and, Option.isSome_some, *]; rfl))
local macro_rules | `(tactic| walk_at "wh") => `(tactic| first
  | assumption
  | (refine whole_new' ?_ trivial ?_; (· walk_at "fr"); walk_at "wh")
  | (refine whole_mut' ?_ trivial ?_; (· walk_at "mu"); walk_at "wh"))
local macro_rules | `(tactic| walk_at "go") => `(tactic| repeat walk_at "go1")

section
variable {P : Program} {w : World} {K : PySem.W.Frag} {mg : Str → Option Value} {base : Heap}
theorem o_is_whole (T : Txt K mg) {fd : FuncData} (F : FunD K "is_whole" "is_whole" (defArgs s_is_whole) (defBody s_is_whole) (defScope s_is_whole) [(.int (-999)), (.int (999))] [] (He.ga K "is_whole") fd) : FnOk P w K mg base CX0 1 (He.ga K "is_whole") fd ["thing", "low", "high"] spWhole := by
  refine FnO.of F sc_is_whole (fun vs H Q E h => ?_) (fun cdv A outer s H vs Q E hr h => ?_)
  · obtain ⟨v, rfl, _⟩ := h
    rfl
  · obtain ⟨v, rfl, hv, q⟩ := h
    refine ⟨_, (pss_one (ps_ret (pe_and (pe_callB f_isi (by rfl) T.n_isinstance (by decide +kernel) (pa_cons (pv 0) (pa_cons (pe_gT (n := "int") T.n_int (by decide +kernel)) pa_nil))) (pe_and (pe_not (pe_callB f_isi (by rfl) T.n_isinstance (by decide +kernel) (pa_cons (pv 0) (pa_cons (pe_gT (n := "bool") T.n_bool (by decide +kernel)) pa_nil)))) (pe_one (pe_chain f_le f_le (pv 1) (pv 0) (pv 2))))))), ?_⟩
    refine w_start (σ' := [some _, some _, some _]) rfl ?_
    walk_at "ga"
    rcases hv.cases with rfl | ⟨b, rfl⟩ | ⟨i, rfl⟩ | ⟨z, rfl, hz⟩ | ⟨p, xs, rfl, hp⟩ | ⟨p, xs, rfl, hp⟩
    · walk_at "ga"
      exact q
    · walk_at "ga"
      exact q
    · walk_at "ga"
      by_cases h1 : -999 ≤ i
      · rw [if_pos h1]
        have e : wholeF (.int i) = decide (i ≤ 999) := by
          show decide (_ ∧ _) = _
          simp only [h1, true_and]
        rw [← e]
        exact q
      · rw [if_neg h1]
        have e : wholeF (.int i) = false := decide_eq_false fun h => h1 h.1
        rw [← e]
        exact q
    · walk_at "ga"
      exact q
    · walk_at "ga"
      exact q
    · walk_at "ga"
      exact q
theorem c_is_whole_1 (T : Txt K mg) : Cd P w K mg base 1 "is_whole" [(.int (-999)), (.int (999))] spWhole := by
  obtain ⟨fd, F⟩ := T.d_is_whole
  obtain ⟨ds, hd, hb⟩ := F.binds1 (ps := ["thing", "low", "high"]) 1 0 (by decide) rfl fun _ _ _ _ _ _ _ us its hl hi => match us, hl, its, hi with | [_], _, [_, _], _ => ⟨_, rfl, rfl⟩
  exact Cd.by (o_is_whole T F) F T.m_is_whole hb hd
theorem o_is_word (T : Txt K mg) {fd : FuncData} (F : FunD K "is_word" "is_word" (defArgs s_is_word) (defBody s_is_word) (defScope s_is_word) [] [] (He.ga K "is_word") fd) : FnOk P w K mg base CX0 1 (He.ga K "is_word") fd ["thing"] spIsWord := by
  refine FnO.ofF F sc_is_word (fun vs H Q E h => ?_) (fun cdv A outer s H vs Q E hr h => ?_)
  · obtain ⟨v, rfl, _⟩ := h
    rfl
  · obtain ⟨v, rfl, hv, W, q⟩ := h
    refine ⟨_, (pss_cons (ps_if (PW.pt (pw_or (pt_not (f_truth (pe_callB f_isi (by rfl) T.n_isinstance (by decide +kernel) (pa_cons (pv 0) (pa_cons (pe_gT (n := "str") T.n_str (by decide +kernel)) pa_nil))))) (pw_or1 (pt_not (pt_chain f_le f_le pe_int (pe_callB f_len (by rfl) T.n_len (by decide +kernel) (pa_cons (pv 0) pa_nil)) (pe_gI T.g_MOST_LETTERS))))))
          (pss_one (ps_ret pe_bl))
          pss_nil)
        (pss_one (ps_ret (pe_callB (f_all rfl) (by rfl) T.n_all (by decide +kernel) (pa_cons (pe_lc (own := [("sign", 1)]) (g := (gName 1)) (tt := tYes) (by rfl) sc_is_word.nd (f_walk (K := K) rfl (pv 0)) (blkOk_by (own := [("sign", 1)]) (N := ["thing", "sign"]) (sc := defScope s_is_word) (by decide +kernel)) (fun _ _ _ _ _ => (pg_name (i := 1) sc_is_word.nd rfl (Or.inl rfl))) (fun _ _ _ _ _ => pts_nil) (fun _ _ _ _ _ => (pe_cmpR f_in (pv 1) (pe_gS T.g_LETTERS) (by with_unfolding_all rfl)))) pa_nil))))), ?_⟩
    refine w_start (σ' := [some _, none]) rfl ?_
    walk_at "ga"
    rcases hv.cases with rfl | ⟨b, rfl⟩ | ⟨i, rfl⟩ | ⟨z, rfl, hz⟩ | ⟨p, xs, rfl, hp⟩ | ⟨p, xs, rfl, hp⟩
    · walk_at "ga"
      exact ⟨H, Forg.same W (Same.refl _), q⟩
    · walk_at "ga"
      exact ⟨H, Forg.same W (Same.refl _), q⟩
    · walk_at "ga"
      exact ⟨H, Forg.same W (Same.refl _), q⟩
    · walk_at "ga"
      have no : ¬ (1 ≤ z.length ∧ z.length ≤ 8) → ∃ H'', Forg H H H'' ∧ Q (V.bl false) H'' := fun n => by
        have e : wordF (.str z) = false := by
          show (decide _ && _) = false
          rw [decide_eq_false n]
          rfl
        rw [e] at q
        exact ⟨H, Forg.same W (Same.refl _), q⟩
      refine ⟨Nat.le_trans hz (by decide), ite2 (fun h1 => ite2 (fun h2 => no fun h => h2 (by omega)) fun h2 => ?_) fun h1 => no fun h => h1 (by omega)⟩
      have h2 : z.length ≤ 8 := by omega
      refine w_lcwalk walk_str [_, none] rfl fun D hD => ⟨fun j H' => Same H H' ∧ H' D = some (.lst (((z.cps.toList.take j).map fun c => decide (c ∈ abcL)).map V.bl)), ?_, fun _ _ _ _ => trivial, ?_, ?_⟩
      · exact ⟨by walk_at "sm", upd_same⟩
      · rintro j x H3 H4 hj ⟨s3, hD3⟩ ⟨rfl, c, hc, rfl⟩
        walk_at "ga"
        refine ⟨rfl, w_kEl (acc := ((z.cps.toList.take j).map fun c => decide (c ∈ abcL)).map V.bl) hD3 (by rw [List.length_map, List.length_map, List.length_take]; exact Nat.lt_of_le_of_lt (Nat.min_le_left _ _) (Nat.lt_of_lt_of_le hj (Nat.le_trans hz (by decide)))) ⟨same_updOff s3 hD, upd_same.trans ?_⟩⟩
        have e : z.cps.toList[j]? = some c := by rw [← hc, Array.getElem?_toList]
        rw [List.take_add_one, e, Option.toList_some, List.map_append, List.map_append]
        rfl
      · rintro H3 ⟨s3, hD3⟩
        refine ⟨_, hD3, H, Forg.same W s3, ?_⟩
        rw [show z.cps.toList.take z.cps.size = z.cps.toList from List.take_of_length_le (by rw [Array.length_toList]; exact Nat.le_refl _)]
        have e : wordF (.str z) = (z.cps.toList.map fun c => decide (c ∈ abcL)).all id := by
          show (decide _ && _) = _
          rw [decide_eq_true ⟨by omega, h2⟩, List.all_map]
          rfl
        rw [← e]
        exact q
    · walk_at "ga"
      exact ⟨H, Forg.same W (Same.refl _), q⟩
    · walk_at "ga"
      exact ⟨H, Forg.same W (Same.refl _), q⟩
theorem c_is_word (T : Txt K mg) : Cd P w K mg base 1 "is_word" [] spIsWord := by
  obtain ⟨fd, F⟩ := T.d_is_word
  exact Cd.by (o_is_word T F) F T.m_is_word (F.bindsN fun _ _ _ _ _ _ us hl => match us, hl with | [_], _ => rfl) .nil
theorem o_is_value (T : Txt K mg) (G_is_whole_1 : Cd P w K mg base 1 "is_whole" [(.int (-999)), (.int (999))] spWhole) (G_is_word : Cd P w K mg base 1 "is_word" [] spIsWord) {fd : FuncData} (F : FunD K "is_value" "is_value" (defArgs s_is_value) (defBody s_is_value) (defScope s_is_value) [] [] (He.ga K "is_value") fd) : FnOk P w K mg base CX0 2 (He.ga K "is_value") fd ["kind", "thing"] spIsValue := by
  refine FnO.of F sc_is_value (fun vs H Q E h => ?_) (fun cdv A outer s H vs Q E hr h => ?_)
  · obtain ⟨k, v, rfl, _⟩ := h
    rfl
  · obtain ⟨k, v, rfl, hk, hv, W, q⟩ := h
    rcases hk with rfl | rfl
    ·
      refine ⟨_, (pss_one (ps_ret (pe_ifExp (pt_cmpR (f_eq (K := K) rfl hr) (pv 0) pe_str (nomark _)) (pe_callC G_is_whole_1 (hr.mono (by decide)) (pa_cons (pv 1) pa_nil)) (pe_callC G_is_word (hr.mono (by decide)) (pa_cons (pv 1) pa_nil))))), ?_⟩
      refine w_start (σ' := [some _, some _]) rfl ?_
      walk_at "ga"
      exact q
    ·
      refine ⟨_, (pss_one (ps_ret (pe_ifExp (pt_cmpR (f_eq (K := K) rfl hr) (pv 0) pe_str (nomark _)) (pe_callC G_is_whole_1 (hr.mono (by decide)) (pa_cons (pv 1) pa_nil)) (pe_callC G_is_word (hr.mono (by decide)) (pa_cons (pv 1) pa_nil))))), ?_⟩
      refine w_start (σ' := [some _, some _]) rfl ?_
      walk_at "ga"
      exact q
theorem c_is_value (T : Txt K mg) (G_is_whole_1 : Cd P w K mg base 1 "is_whole" [(.int (-999)), (.int (999))] spWhole) (G_is_word : Cd P w K mg base 1 "is_word" [] spIsWord) : Cd P w K mg base 2 "is_value" [] spIsValue := by
  obtain ⟨fd, F⟩ := T.d_is_value
  exact Cd.by (o_is_value T G_is_whole_1 G_is_word F) F T.m_is_value (F.bindsN fun _ _ _ _ _ _ us hl => match us, hl with | [_, _], _ => rfl) .nil
theorem o_l_is_word (T : Txt K mg) {fd : FuncData} (F : FunD K "_law_is_word" "_law_is_word" (defArgs s_l_is_word) (defBody s_l_is_word) (defScope s_l_is_word) [] [] (He.ga K "_law_is_word") fd) : FnOk P w K mg base CX0 1 (He.ga K "_law_is_word") fd ["_law_thing"] spIsWord := by
  refine FnO.ofF F sc_l_is_word (fun vs H Q E h => ?_) (fun cdv A outer s H vs Q E hr h => ?_)
  · obtain ⟨v, rfl, _⟩ := h
    rfl
  · obtain ⟨v, rfl, hv, W, q⟩ := h
    refine ⟨_, (pss_cons (ps_if (PW.pt (pw_or (pt_not (f_truth (pe_callB f_isi (by rfl) T.n_isinstance (by decide +kernel) (pa_cons (pv 0) (pa_cons (pe_gT (n := "str") T.n_str (by decide +kernel)) pa_nil))))) (pw_or1 (pt_not (pt_chain f_le f_le pe_int (pe_callB f_len (by rfl) T.n_len (by decide +kernel) (pa_cons (pv 0) pa_nil)) pe_int)))))
          (pss_one (ps_ret pe_bl))
          pss_nil)
        (pss_one (ps_ret (pe_callB (f_all rfl) (by rfl) T.n_all (by decide +kernel) (pa_cons (pe_lc (own := [("_law_sign", 1)]) (g := (gName 1)) (tt := tYes) (by rfl) sc_l_is_word.nd (f_walk (K := K) rfl (pv 0)) (blkOk_by (own := [("_law_sign", 1)]) (N := ["_law_thing", "_law_sign"]) (sc := defScope s_l_is_word) (by decide +kernel)) (fun _ _ _ _ _ => (pg_name (i := 1) sc_l_is_word.nd rfl (Or.inl rfl))) (fun _ _ _ _ _ => pts_nil) (fun _ _ _ _ _ => (pe_cmpR f_in (pv 1) pe_str (by with_unfolding_all rfl)))) pa_nil))))), ?_⟩
    refine w_start (σ' := [some _, none]) rfl ?_
    walk_at "ga"
    rcases hv.cases with rfl | ⟨b, rfl⟩ | ⟨i, rfl⟩ | ⟨z, rfl, hz⟩ | ⟨p, xs, rfl, hp⟩ | ⟨p, xs, rfl, hp⟩
    · walk_at "ga"
      exact ⟨H, Forg.same W (Same.refl _), q⟩
    · walk_at "ga"
      exact ⟨H, Forg.same W (Same.refl _), q⟩
    · walk_at "ga"
      exact ⟨H, Forg.same W (Same.refl _), q⟩
    · walk_at "ga"
      have no : ¬ (1 ≤ z.length ∧ z.length ≤ 8) → ∃ H'', Forg H H H'' ∧ Q (V.bl false) H'' := fun n => by
        have e : wordF (.str z) = false := by
          show (decide _ && _) = false
          rw [decide_eq_false n]
          rfl
        rw [e] at q
        exact ⟨H, Forg.same W (Same.refl _), q⟩
      refine ⟨Nat.le_trans hz (by decide), ite2 (fun h1 => ite2 (fun h2 => no fun h => h2 (by omega)) fun h2 => ?_) fun h1 => no fun h => h1 (by omega)⟩
      have h2 : z.length ≤ 8 := by omega
      refine w_lcwalk walk_str [_, none] rfl fun D hD => ⟨fun j H' => Same H H' ∧ H' D = some (.lst (((z.cps.toList.take j).map fun c => decide (c ∈ abcL)).map V.bl)), ?_, fun _ _ _ _ => trivial, ?_, ?_⟩
      · exact ⟨by walk_at "sm", upd_same⟩
      · rintro j x H3 H4 hj ⟨s3, hD3⟩ ⟨rfl, c, hc, rfl⟩
        walk_at "ga"
        refine ⟨rfl, w_kEl (acc := ((z.cps.toList.take j).map fun c => decide (c ∈ abcL)).map V.bl) hD3 (by rw [List.length_map, List.length_map, List.length_take]; exact Nat.lt_of_le_of_lt (Nat.min_le_left _ _) (Nat.lt_of_lt_of_le hj (Nat.le_trans hz (by decide)))) ⟨same_updOff s3 hD, upd_same.trans ?_⟩⟩
        have e : z.cps.toList[j]? = some c := by rw [← hc, Array.getElem?_toList]
        rw [List.take_add_one, e, Option.toList_some, List.map_append, List.map_append]
        rfl
      · rintro H3 ⟨s3, hD3⟩
        refine ⟨_, hD3, H, Forg.same W s3, ?_⟩
        rw [show z.cps.toList.take z.cps.size = z.cps.toList from List.take_of_length_le (by rw [Array.length_toList]; exact Nat.le_refl _)]
        have e : wordF (.str z) = (z.cps.toList.map fun c => decide (c ∈ abcL)).all id := by
          show (decide _ && _) = _
          rw [decide_eq_true ⟨by omega, h2⟩, List.all_map]
          rfl
        rw [← e]
        exact q
    · walk_at "ga"
      exact ⟨H, Forg.same W (Same.refl _), q⟩
    · walk_at "ga"
      exact ⟨H, Forg.same W (Same.refl _), q⟩
theorem c_l_is_word (T : Txt K mg) : Cd P w K mg base 1 "_law_is_word" [] spIsWord := by
  obtain ⟨fd, F⟩ := T.d_l_is_word
  exact Cd.by (o_l_is_word T F) F T.m_l_is_word (F.bindsN fun _ _ _ _ _ _ us hl => match us, hl with | [_], _ => rfl) .nil
theorem o_l_is_value (T : Txt K mg) (G_l_is_word : Cd P w K mg base 1 "_law_is_word" [] spIsWord) {fd : FuncData} (F : FunD K "_law_is_value" "_law_is_value" (defArgs s_l_is_value) (defBody s_l_is_value) (defScope s_l_is_value) [] [] (He.ga K "_law_is_value") fd) : FnOk P w K mg base CX0 2 (He.ga K "_law_is_value") fd ["_law_kind", "_law_thing"] spIsValue := by
  refine FnO.of F sc_l_is_value (fun vs H Q E h => ?_) (fun cdv A outer s H vs Q E hr h => ?_)
  · obtain ⟨k, v, rfl, _⟩ := h
    rfl
  · obtain ⟨k, v, rfl, hk, hv, W, q⟩ := h
    rcases hk with rfl | rfl
    ·
      refine ⟨_, (pss_cons (ps_if (pt_cmpR (f_eq (K := K) rfl hr) (pv 0) pe_str (nomark _))
            (pss_one (ps_ret (pe_callC G_l_is_word (hr.mono (by decide)) (pa_cons (pv 1) pa_nil))))
            pss_nil)
          (pss_one (ps_ret (pe_and (pe_callB f_isi (by rfl) T.n_isinstance (by decide +kernel) (pa_cons (pv 1) (pa_cons (pe_gT (n := "int") T.n_int (by decide +kernel)) pa_nil))) (pe_and (pe_not (pe_callB f_isi (by rfl) T.n_isinstance (by decide +kernel) (pa_cons (pv 1) (pa_cons (pe_gT (n := "bool") T.n_bool (by decide +kernel)) pa_nil)))) (pe_one (pe_chain f_le f_le (pe_un un_neg pe_int) (pv 1) pe_int))))))), ?_⟩
      refine w_start (σ' := [some _, some _]) rfl ?_
      walk_at "ga"
      rcases hv.cases with rfl | ⟨b, rfl⟩ | ⟨i, rfl⟩ | ⟨z, rfl, hz⟩ | ⟨p, xs, rfl, hp⟩ | ⟨p, xs, rfl, hp⟩
      · walk_at "ga"
        exact q
      · walk_at "ga"
        exact q
      · walk_at "ga"
        by_cases h1 : -999 ≤ i
        · rw [if_pos h1]
          have e : wholeF (.int i) = decide (i ≤ 999) := by
            show decide (_ ∧ _) = _
            simp only [h1, true_and]
          rw [← e]
          exact q
        · rw [if_neg h1]
          have e : wholeF (.int i) = false := decide_eq_false fun h => h1 h.1
          rw [← e]
          exact q
      · walk_at "ga"
        exact q
      · walk_at "ga"
        exact q
      · walk_at "ga"
        exact q
    ·
      refine ⟨_, (pss_cons (ps_if (pt_cmpR (f_eq (K := K) rfl hr) (pv 0) pe_str (nomark _))
            (pss_one (ps_ret (pe_callC G_l_is_word (hr.mono (by decide)) (pa_cons (pv 1) pa_nil))))
            pss_nil)
          (pss_one (ps_ret (pe_and (pe_callB f_isi (by rfl) T.n_isinstance (by decide +kernel) (pa_cons (pv 1) (pa_cons (pe_gT (n := "int") T.n_int (by decide +kernel)) pa_nil))) (pe_and (pe_not (pe_callB f_isi (by rfl) T.n_isinstance (by decide +kernel) (pa_cons (pv 1) (pa_cons (pe_gT (n := "bool") T.n_bool (by decide +kernel)) pa_nil)))) (pe_one (pe_chain f_le f_le (pe_un un_neg pe_int) (pv 1) pe_int))))))), ?_⟩
      refine w_start (σ' := [some _, some _]) rfl ?_
      walk_at "ga"
      exact q
theorem c_l_is_value (T : Txt K mg) (G_l_is_word : Cd P w K mg base 1 "_law_is_word" [] spIsWord) : Cd P w K mg base 2 "_law_is_value" [] spIsValue := by
  obtain ⟨fd, F⟩ := T.d_l_is_value
  exact Cd.by (o_l_is_value T G_l_is_word F) F T.m_l_is_value (F.bindsN fun _ _ _ _ _ _ us hl => match us, hl with | [_, _], _ => rfl) .nil
end

def spOdd : Sp := fun vs H Q _ => match vs with
  | [.ref b, .str z] => onBag (H b) fun _ _ => Whole H ∧ z.length ≤ 8 ∧ ∀ v H' g r, But b H H' → H' b = some (bagO g r) → BagOk g r → Whole H' → Thing H' v → Q v H'
  | _ => False
theorem e_odd {b : Addr} {z : Str} {H : Hp} {Q : VK} {E : XK} : spOdd [.ref b, .str z] H Q E = onBag (H b) fun _ _ => Whole H ∧ z.length ≤ 8 ∧ ∀ v H' g r, But b H H' → H' b = some (bagO g r) → BagOk g r → Whole H' → Thing H' v → Q v H' := rfl
local macro_rules | `(tactic| walk_at "ar") => `(tactic| first
  | decide
  | omega
  | exact ⟨by omega, by omega⟩
  | exact ⟨by decide, by decide⟩
  | exact ⟨by omega, by omega, by omega⟩
  | exact .inl ⟨by omega, by omega⟩
  | exact .inr ⟨by omega, by omega⟩)
local macro_rules | `(tactic| walk_at "ne") => `(tactic| first
  | assumption
  | exact Ne.symm (by assumption))
local macro_rules | `(tactic| walk_at "hp") => `(tactic| first
  | assumption
  | exact upd_same
  | (refine upd_fresh (by assumption) ?_; walk_at "hp")
  | (refine same_at (by assumption) ?_; walk_at "hp")
  | (refine upd_off (by walk_at "ne") ?_; walk_at "hp")
  | (refine But.at (by assumption) (by walk_at "ne") ?_; walk_at "hp"))
local macro_rules | `(tactic| walk_at "sq") => `(tactic| first
  | assumption
  | exact SqL.of (by walk_at "hp")
  | (refine Same.seq (by assumption) ?_; walk_at "sq"))
local macro_rules | `(tactic| walk_at "sqt") => `(tactic| first
  | assumption
  | exact SqT.of (by walk_at "hp")
  | (refine same_sqT (by assumption) ?_; walk_at "sqt"))
local macro_rules | `(tactic| walk_at "ix") => `(tactic| first
  | rfl
  | assumption)
local macro_rules | `(tactic| walk_at "wp") => `(tactic| dsimp only [wipe, List.map_cons, List.map_nil, List.set_cons_succ, List.set_cons_zero, List.set])
local macro_rules | `(tactic| walk_at "go1") => `(tactic| first
  | (with_reducible refine w_gVar ?_; first | with_reducible refine w_var0 ?_ | with_reducible refine w_var1 ?_ | with_reducible refine w_var2 ?_ | with_reducible refine w_var3 ?_ | with_reducible refine w_var4 ?_ | with_reducible refine w_var5 ?_ | with_reducible refine w_var6 ?_ | with_reducible refine w_var7 ?_ | with_reducible refine w_var8 ?_ | with_reducible refine w_var9 ?_ | with_reducible refine w_var10 ?_ | with_reducible refine w_var11 ?_ | with_reducible refine w_var12 ?_ | with_reducible refine w_var13 ?_ | with_reducible refine w_var14 ?_ | with_reducible refine w_var15 ?_ | with_reducible refine w_var16 ?_ | with_reducible refine w_var17 ?_ | with_reducible refine w_var18 ?_ | with_reducible refine w_var19 ?_ | with_reducible refine w_var20 ?_ | with_reducible refine w_var21 ?_ | with_reducible refine w_var22 ?_ | with_reducible refine w_var23 ?_ | with_reducible refine w_var24 ?_ | with_reducible refine w_var25 ?_ | with_reducible refine w_var26 ?_ | with_reducible refine w_var27 ?_ | with_reducible refine w_var28 ?_ | with_reducible refine w_var29 ?_ | with_reducible refine w_var30 ?_ | with_reducible refine w_var31 ?_ | with_reducible refine w_var32 ?_ | with_reducible refine w_var33 ?_)
  | (with_reducible refine w_gSet ?_; first | with_reducible refine w_set0 ?_ | with_reducible refine w_set1 ?_ | with_reducible refine w_set2 ?_ | with_reducible refine w_set3 ?_ | with_reducible refine w_set4 ?_ | with_reducible refine w_set5 ?_ | with_reducible refine w_set6 ?_ | with_reducible refine w_set7 ?_ | with_reducible refine w_set8 ?_ | with_reducible refine w_set9 ?_ | with_reducible refine w_set10 ?_ | with_reducible refine w_set11 ?_ | with_reducible refine w_set12 ?_ | with_reducible refine w_set13 ?_ | with_reducible refine w_set14 ?_ | with_reducible refine w_set15 ?_ | with_reducible refine w_set16 ?_ | with_reducible refine w_set17 ?_ | with_reducible refine w_set18 ?_ | with_reducible refine w_set19 ?_ | with_reducible refine w_set20 ?_ | with_reducible refine w_set21 ?_ | with_reducible refine w_set22 ?_ | with_reducible refine w_set23 ?_ | with_reducible refine w_set24 ?_ | with_reducible refine w_set25 ?_ | with_reducible refine w_set26 ?_ | with_reducible refine w_set27 ?_ | with_reducible refine w_set28 ?_ | with_reducible refine w_set29 ?_ | with_reducible refine w_set30 ?_ | with_reducible refine w_set31 ?_ | with_reducible refine w_set32 ?_ | with_reducible refine w_set33 ?_)
  | with_reducible refine w_c ?_
  | with_reducible refine w_cons ?_
  | with_reducible refine w_op ?_
  | with_reducible refine w_call ?_
  | with_reducible refine w_nil ?_
  | with_reducible refine w_seq ?_
  | with_reducible refine w_asg ?_
  | with_reducible refine w_rI0 ?_
  | with_reducible refine w_un ?_
  | with_reducible refine w_rU ?_
  | with_reducible refine w_bQ ?_
  | with_reducible refine w_test ?_
  | with_reducible refine w_tB ?_
  | with_reducible refine w_not ?_
  | with_reducible refine w_and ?_
  | with_reducible refine w_or ?_
  | with_reducible refine w_bV ?_
  | with_reducible refine w_andV ?_
  | with_reducible refine w_orV ?_
  | with_reducible refine w_notV ?_
  | with_reducible refine w_ifE ?_
  | with_reducible refine w_bC ?_
  | with_reducible refine w_chain ?_
  | with_reducible refine w_tup ?_
  | with_reducible refine w_lst ?_
  | with_reducible refine w_cb ?_
  | with_reducible refine w_next ?_
  | with_reducible refine w_drop ?_
  | with_reducible refine w_ret ?_
  | with_reducible refine w_retN ?_
  | with_reducible refine w_ifS ?_
  | with_reducible refine w_brk ?_
  | with_reducible refine w_cont ?_
  | with_reducible refine w_gNil ?_
  | with_reducible refine w_gCons ?_
  | with_reducible refine w_gSub ?_
  | with_reducible refine w_for ?_
  | with_reducible refine w_rng1 ?_
  | with_reducible refine w_iList ?_
  | with_reducible refine w_iTup ?_
  | with_reducible refine w_iStr ?_
  | with_reducible refine w_kStr ?_
  | with_reducible refine w_lc ?_
  | with_reducible refine w_tYes ?_
  | with_reducible refine w_true ?_
  | with_reducible refine w_false ?_
  | with_reducible refine w_ab ?_
  | with_reducible refine w_mx2 ?_
  | with_reducible refine w_mn2 ?_
  | with_reducible refine w_inSign ?_
  | with_reducible refine w_bm ?_
  | with_reducible refine w_m1 ?_
  | with_reducible refine w_m0 ?_
  | with_reducible refine w_isS ?_
  | refine w_rI (by walk_at "ar") ?_
  | refine w_ixL (by walk_at "sq") (by walk_at "ix") ?_
  | refine w_ixT (by walk_at "sqt") (by walk_at "ix") ?_
  | refine w_setL (by walk_at "hp") (by rfl) ?_
  | refine w_lnL (by walk_at "sq") ?_
  | refine w_lnT (by walk_at "sqt") ?_
  | refine w_eq (by rfl) ?_
  | refine w_ne (by rfl) ?_)
local macro_rules | `(tactic| walk_at "gs") => `(tactic| simp only [↓e_c, ↓e_op, ↓e_un, ↓e_rU, ↓e_rI0, ↓e_rI, ↓e_bQ, ↓e_test, ↓e_tB, ↓e_not, ↓e_and, ↓e_or, ↓e_andV, ↓e_orV, ↓e_notV, ↓e_ifE, ↓e_chain, ↓e_nil, ↓e_cons, ↓e_tup, ↓e_lst, ↓e_kLst, ↓e_kTup, ↓e_small, ↓e_smallB, ↓e_call, ↓e_callN, ↓e_cb, ↓e_next, ↓e_seq, ↓e_drop, ↓e_ret, ↓e_retN, ↓e_ifS, ↓e_asg, ↓e_brk, ↓e_cont, ↓e_gNil, ↓e_gCons, ↓e_gSub, ↓e_for, ↓e_rng1, ↓e_kRng1, ↓e_iList, ↓e_iTup, ↓e_kStr, ↓e_iStr, ↓e_lc, ↓e_tYes, ↓e_ab, ↓e_mx2, ↓e_mn2, ↓e_bm, ↓e_tyS, ↓e_sIx, ↓e_m1, ↓e_m0, ↓e_isS, ↓e_addI, ↓e_addS, ↓e_addR, ↓e_seqL, ↓e_seqT, ↓e_onTup, ↓e_lstL, ↓e_ixS, ↓e_ixR, ↓e_itsL, ↓e_itsT, ↓e_slS, ↓e_slR, ↓e_newT, ↓e_mutL, ↓e_mutD, ↓e_sl, ↓e_bI, ↓e_noPart, ↓e_part, ↓e_inS, ↓e_ninS, ↓e_inR, ↓e_ninR, ↓e_lenS, ↓e_lenR, ↓e_tupR, ↓e_listR, ↓e_isR, ↓e_tyL, ↓e_tyT, ↓e_tyD, ↓e_eqI, ↓e_neI, ↓e_eqS, ↓e_neS, ↓e_eqB, ↓e_neB, ↓e_eqR, ↓e_neR, ↓e_eqR2, ↓e_neR2, ↓e_ltI, ↓e_leI, ↓e_gtI, ↓e_geI, ↓e_ltS, ↓e_leS, ↓e_gtS, ↓e_geS, ↓e_mul, ↓e_mulS, ↓e_m0F, ↓e_exS, ↓e_upS, ↓e_mod, ↓e_div, ↓e_pow, ↓e_sub, ↓e_iaddI, ↓e_iaddS, ↓e_imul, ↓e_setL, ↓e_app, ↓e_truF, ↓e_truI, ↓e_truB, ↓e_truN, ↓e_truS, ↓e_truR, ↓e_iSeq, ↓e_kSeqS, ↓e_kSeqR, ↓e_seqOL, ↓e_seqOT, ↓e_itOL, ↓e_itOT, ↓e_at0, ↓e_at1, ↓e_at2, ↓e_at3, ↓e_ex1, ↓e_ixN0, ↓e_ixN1, ↓e_updS, ↓e_updU, ↓e_lset0, ↓e_lset1, ↓e_var0, ↓e_var1, ↓e_var2, ↓e_var3, ↓e_var4, ↓e_var5, ↓e_var6, ↓e_var7, ↓e_var8, ↓e_var9, ↓e_var10, ↓e_var11, ↓e_var12, ↓e_var13, ↓e_var14, ↓e_var15, ↓e_var16, ↓e_var17, ↓e_var18, ↓e_var19, ↓e_var20, ↓e_var21, ↓e_var22, ↓e_var23, ↓e_var24, ↓e_var25, ↓e_var26, ↓e_var27, ↓e_var28, ↓e_var29, ↓e_var30, ↓e_var31, ↓e_var32, ↓e_var33, ↓e_set0, ↓e_set1, ↓e_set2, ↓e_set3, ↓e_set4, ↓e_set5, ↓e_set6, ↓e_set7, ↓e_set8, ↓e_set9, ↓e_set10, ↓e_set11, ↓e_set12, ↓e_set13, ↓e_set14, ↓e_set15, ↓e_set16, ↓e_set17, ↓e_set18, ↓e_set19, ↓e_set20, ↓e_set21, ↓e_set22, ↓e_set23, ↓e_set24, ↓e_set25, ↓e_set26, ↓e_set27, ↓e_set28, ↓e_set29, ↓e_set30, ↓e_set31, ↓e_set32, ↓e_set33, ↓e_aug0, ↓e_aug1, ↓e_aug2, ↓e_aug3, ↓e_aug4, ↓e_aug5, ↓e_aug6, ↓e_aug7, ↓e_aug8, ↓e_aug9, ↓e_aug10, ↓e_aug11, ↓e_aug12, ↓e_aug13, ↓e_aug14, ↓e_aug15, ↓e_aug16, ↓e_aug17, ↓e_aug18, ↓e_aug19, ↓e_aug20, ↓e_aug21, ↓e_aug22, ↓e_aug23, ↓e_aug24, ↓e_aug25, ↓e_aug26, ↓e_aug27, ↓e_aug28, ↓e_aug29, ↓e_aug30, ↓e_aug31, ↓e_aug32, ↓e_aug33, ↓e_is_int_bool, ↓e_is_int_int, ↓e_is_int_str, ↓e_is_int_list, ↓e_is_int_tuple, ↓e_is_int_dict, ↓e_is_bl_bool, ↓e_is_bl_int, ↓e_is_bl_str, ↓e_is_bl_list, ↓e_is_bl_tuple, ↓e_is_bl_dict, ↓e_is_str_bool, ↓e_is_str_int, ↓e_is_str_str, ↓e_is_str_list, ↓e_is_str_tuple, ↓e_is_str_dict, ↓e_is_non_bool, ↓e_is_non_int, ↓e_is_non_str, ↓e_is_non_list, ↓e_is_non_tuple, ↓e_is_non_dict, e_ib_list_bool, e_ib_list_int, e_ib_list_str, e_ib_list_list, e_ib_list_tuple, e_ib_list_dict, e_ib_tuple_bool, e_ib_tuple_int, e_ib_tuple_str, e_ib_tuple_list, e_ib_tuple_tuple, e_ib_tuple_dict, e_ib_dict_bool, e_ib_dict_int, e_ib_dict_str, e_ib_dict_list, e_ib_dict_tuple, e_ib_dict_dict, e_kn_bool, e_kn_int, e_kn_str, e_kn_list, e_kn_tuple, e_kn_dict, decide_eq_true_eq, Bool.not_eq_true', decide_eq_false_iff_not, Bool.false_eq_true, Bool.true_eq_false, if_true, if_false, List.append_nil, true_and, and_true, Bool.not_false, Bool.not_true, decide_true, decide_false, eq_self, List.cons_append, List.nil_append, and_self, List.length_cons, List.length_nil])
local macro_rules | `(tactic| walk_at "ga") => `(tactic| simp (config := {contextual := true, maxSteps := 1000000}) only [↓e_c, ↓e_op, ↓e_un, ↓e_rU, ↓e_rI0, ↓e_rI, ↓e_bQ, ↓e_test, ↓e_tB, ↓e_not, ↓e_and, ↓e_or, ↓e_andV, ↓e_orV, ↓e_notV, ↓e_ifE, ↓e_chain, ↓e_nil, ↓e_cons, ↓e_tup, ↓e_lst, ↓e_kLst, ↓e_kTup, ↓e_small, ↓e_smallB, ↓e_call, ↓e_callN, ↓e_cb, ↓e_next, ↓e_seq, ↓e_drop, ↓e_ret, ↓e_retN, ↓e_ifS, ↓e_asg, ↓e_brk, ↓e_cont, ↓e_gNil, ↓e_gCons, ↓e_gSub, ↓e_for, ↓e_rng1, ↓e_kRng1, ↓e_iList, ↓e_iTup, ↓e_kStr, ↓e_iStr, ↓e_lc, ↓e_tYes, ↓e_ab, ↓e_mx2, ↓e_mn2, ↓e_bm, ↓e_tyS, ↓e_sIx, ↓e_m1, ↓e_m0, ↓e_isS, ↓e_addI, ↓e_addS, ↓e_addR, ↓e_seqL, ↓e_seqT, ↓e_onTup, ↓e_lstL, ↓e_ixS, ↓e_ixR, ↓e_itsL, ↓e_itsT, ↓e_slS, ↓e_slR, ↓e_newT, ↓e_mutL, ↓e_mutD, ↓e_sl, ↓e_bI, ↓e_noPart, ↓e_part, ↓e_inS, ↓e_ninS, ↓e_inR, ↓e_ninR, ↓e_lenS, ↓e_lenR, ↓e_tupR, ↓e_listR, ↓e_isR, ↓e_tyL, ↓e_tyT, ↓e_tyD, ↓e_eqI, ↓e_neI, ↓e_eqS, ↓e_neS, ↓e_eqB, ↓e_neB, ↓e_eqR, ↓e_neR, ↓e_eqR2, ↓e_neR2, ↓e_ltI, ↓e_leI, ↓e_gtI, ↓e_geI, ↓e_ltS, ↓e_leS, ↓e_gtS, ↓e_geS, ↓e_mul, ↓e_mulS, ↓e_m0F, ↓e_exS, ↓e_upS, ↓e_mod, ↓e_div, ↓e_pow, ↓e_sub, ↓e_iaddI, ↓e_iaddS, ↓e_imul, ↓e_setL, ↓e_app, ↓e_truF, ↓e_truI, ↓e_truB, ↓e_truN, ↓e_truS, ↓e_truR, ↓e_iSeq, ↓e_kSeqS, ↓e_kSeqR, ↓e_seqOL, ↓e_seqOT, ↓e_itOL, ↓e_itOT, ↓e_at0, ↓e_at1, ↓e_at2, ↓e_at3, ↓e_ex1, ↓e_ixN0, ↓e_ixN1, ↓e_updS, ↓e_updU, ↓e_lset0, ↓e_lset1, ↓e_var0, ↓e_var1, ↓e_var2, ↓e_var3, ↓e_var4, ↓e_var5, ↓e_var6, ↓e_var7, ↓e_var8, ↓e_var9, ↓e_var10, ↓e_var11, ↓e_var12, ↓e_var13, ↓e_var14, ↓e_var15, ↓e_var16, ↓e_var17, ↓e_var18, ↓e_var19, ↓e_var20, ↓e_var21, ↓e_var22, ↓e_var23, ↓e_var24, ↓e_var25, ↓e_var26, ↓e_var27, ↓e_var28, ↓e_var29, ↓e_var30, ↓e_var31, ↓e_var32, ↓e_var33, ↓e_set0, ↓e_set1, ↓e_set2, ↓e_set3, ↓e_set4, ↓e_set5, ↓e_set6, ↓e_set7, ↓e_set8, ↓e_set9, ↓e_set10, ↓e_set11, ↓e_set12, ↓e_set13, ↓e_set14, ↓e_set15, ↓e_set16, ↓e_set17, ↓e_set18, ↓e_set19, ↓e_set20, ↓e_set21, ↓e_set22, ↓e_set23, ↓e_set24, ↓e_set25, ↓e_set26, ↓e_set27, ↓e_set28, ↓e_set29, ↓e_set30, ↓e_set31, ↓e_set32, ↓e_set33, ↓e_aug0, ↓e_aug1, ↓e_aug2, ↓e_aug3, ↓e_aug4, ↓e_aug5, ↓e_aug6, ↓e_aug7, ↓e_aug8, ↓e_aug9, ↓e_aug10, ↓e_aug11, ↓e_aug12, ↓e_aug13, ↓e_aug14, ↓e_aug15, ↓e_aug16, ↓e_aug17, ↓e_aug18, ↓e_aug19, ↓e_aug20, ↓e_aug21, ↓e_aug22, ↓e_aug23, ↓e_aug24, ↓e_aug25, ↓e_aug26, ↓e_aug27, ↓e_aug28, ↓e_aug29, ↓e_aug30, ↓e_aug31, ↓e_aug32, ↓e_aug33, ↓e_is_int_bool, ↓e_is_int_int, ↓e_is_int_str, ↓e_is_int_list, ↓e_is_int_tuple, ↓e_is_int_dict, ↓e_is_bl_bool, ↓e_is_bl_int, ↓e_is_bl_str, ↓e_is_bl_list, ↓e_is_bl_tuple, ↓e_is_bl_dict, ↓e_is_str_bool, ↓e_is_str_int, ↓e_is_str_str, ↓e_is_str_list, ↓e_is_str_tuple, ↓e_is_str_dict, ↓e_is_non_bool, ↓e_is_non_int, ↓e_is_non_str, ↓e_is_non_list, ↓e_is_non_tuple, ↓e_is_non_dict, e_ib_list_bool, e_ib_list_int, e_ib_list_str, e_ib_list_list, e_ib_list_tuple, e_ib_list_dict, e_ib_tuple_bool, e_ib_tuple_int, e_ib_tuple_str, e_ib_tuple_list, e_ib_tuple_tuple, e_ib_tuple_dict, e_ib_dict_bool, e_ib_dict_int, e_ib_dict_str, e_ib_dict_list, e_ib_dict_tuple, e_ib_dict_dict, e_kn_bool, e_kn_int, e_kn_str, e_kn_list, e_kn_tuple, e_kn_dict, decide_eq_true_eq, Bool.not_eq_true', decide_eq_false_iff_not, Bool.false_eq_true, Bool.true_eq_false, if_true, if_false, List.append_nil, true_and, and_true, Bool.not_false, Bool.not_true, decide_true, decide_false, eq_self, List.cons_append, List.nil_append, and_self, List.length_cons, List.length_nil, ↓Wr.e_revT, ↓Wr.e_kRevT, ↓e_forgS, ↓e_forgE, h_old, h_ne, h_comm, h_isNone, and_imp, not_false_eq_true, Option.isSome_some, implies_true, not_true_eq_false, Int.reduceLT, Int.reduceLE, Int.reduceAdd, Int.reduceSub, Int.reduceMul, Int.reduceNeg, Int.reduceEq, Int.reduceNe, Int.reduceToNat, Nat.reduceAdd, Nat.reduceSub, Nat.reduceLeDiff, reduceIte, Int.reducePow, ↓e_take, ↓e_onBag, ↓e_mutB, ↓e_word, ↓e_value, ↓e_whole, ↓e_isWord, ↓e_isValue, ↓e_odd, *])
local macro_rules | `(tactic| walk_at "gn") => `(tactic| simp (config := {maxSteps := 1000000}) only [↓e_c, ↓e_op, ↓e_un, ↓e_rU, ↓e_rI0, ↓e_rI, ↓e_bQ, ↓e_test, ↓e_tB, ↓e_not, ↓e_and, ↓e_or, ↓e_andV, ↓e_orV, ↓e_notV, ↓e_ifE, ↓e_chain, ↓e_nil, ↓e_cons, ↓e_tup, ↓e_lst, ↓g_kLst, ↓g_kTup, ↓e_small, ↓e_smallB, ↓e_call, ↓e_callN, ↓e_cb, ↓e_next, ↓e_seq, ↓e_drop, ↓e_ret, ↓e_retN, ↓e_ifS, ↓e_asg, ↓e_brk, ↓e_cont, ↓e_gNil, ↓e_gCons, ↓e_gSub, ↓e_for, ↓e_rng1, ↓e_kRng1, ↓e_iList, ↓e_iTup, ↓e_kStr, ↓e_iStr, ↓e_lc, ↓e_tYes, ↓e_ab, ↓e_mx2, ↓e_mn2, ↓e_bm, ↓e_tyS, ↓e_sIx, ↓e_m1, ↓e_m0, ↓e_isS, ↓e_addI, ↓e_addS, ↓g_addR, ↓e_seqL, ↓e_seqT, ↓e_onTup, ↓e_lstL, ↓e_ixS, ↓e_ixR, ↓e_itsL, ↓e_itsT, ↓e_slS, ↓g_slR, ↓e_mutL, ↓e_mutD, ↓e_sl, ↓e_bI, ↓e_noPart, ↓e_part, ↓e_inS, ↓e_ninS, ↓e_inR, ↓e_ninR, ↓e_lenS, ↓e_lenR, ↓g_tupR, ↓g_listR, ↓e_isR, ↓e_tyL, ↓e_tyT, ↓e_tyD, ↓e_eqI, ↓e_neI, ↓e_eqS, ↓e_neS, ↓e_eqB, ↓e_neB, ↓e_eqR, ↓e_neR, ↓e_eqR2, ↓e_neR2, ↓e_ltI, ↓e_leI, ↓e_gtI, ↓e_geI, ↓e_ltS, ↓e_leS, ↓e_gtS, ↓e_geS, ↓e_mul, ↓e_mulS, ↓e_m0F, ↓e_exS, ↓e_upS, ↓e_mod, ↓e_div, ↓e_pow, ↓e_sub, ↓e_iaddI, ↓e_iaddS, ↓e_imul, ↓e_setL, ↓e_app, ↓e_truF, ↓e_truI, ↓e_truB, ↓e_truN, ↓e_truS, ↓e_truR, ↓e_iSeq, ↓e_kSeqS, ↓e_kSeqR, ↓e_seqOL, ↓e_seqOT, ↓e_itOL, ↓e_itOT, ↓e_at0, ↓e_at1, ↓e_at2, ↓e_at3, ↓e_ex1, ↓e_ixN0, ↓e_ixN1, ↓e_updS, ↓e_updU, ↓e_lset0, ↓e_lset1, ↓e_var0, ↓e_var1, ↓e_var2, ↓e_var3, ↓e_var4, ↓e_var5, ↓e_var6, ↓e_var7, ↓e_var8, ↓e_var9, ↓e_var10, ↓e_var11, ↓e_var12, ↓e_var13, ↓e_var14, ↓e_var15, ↓e_var16, ↓e_var17, ↓e_var18, ↓e_var19, ↓e_var20, ↓e_var21, ↓e_var22, ↓e_var23, ↓e_var24, ↓e_var25, ↓e_var26, ↓e_var27, ↓e_var28, ↓e_var29, ↓e_var30, ↓e_var31, ↓e_var32, ↓e_var33, ↓e_set0, ↓e_set1, ↓e_set2, ↓e_set3, ↓e_set4, ↓e_set5, ↓e_set6, ↓e_set7, ↓e_set8, ↓e_set9, ↓e_set10, ↓e_set11, ↓e_set12, ↓e_set13, ↓e_set14, ↓e_set15, ↓e_set16, ↓e_set17, ↓e_set18, ↓e_set19, ↓e_set20, ↓e_set21, ↓e_set22, ↓e_set23, ↓e_set24, ↓e_set25, ↓e_set26, ↓e_set27, ↓e_set28, ↓e_set29, ↓e_set30, ↓e_set31, ↓e_set32, ↓e_set33, ↓e_aug0, ↓e_aug1, ↓e_aug2, ↓e_aug3, ↓e_aug4, ↓e_aug5, ↓e_aug6, ↓e_aug7, ↓e_aug8, ↓e_aug9, ↓e_aug10, ↓e_aug11, ↓e_aug12, ↓e_aug13, ↓e_aug14, ↓e_aug15, ↓e_aug16, ↓e_aug17, ↓e_aug18, ↓e_aug19, ↓e_aug20, ↓e_aug21, ↓e_aug22, ↓e_aug23, ↓e_aug24, ↓e_aug25, ↓e_aug26, ↓e_aug27, ↓e_aug28, ↓e_aug29, ↓e_aug30, ↓e_aug31, ↓e_aug32, ↓e_aug33, ↓e_is_int_bool, ↓e_is_int_int, ↓e_is_int_str, ↓e_is_int_list, ↓e_is_int_tuple, ↓e_is_int_dict, ↓e_is_bl_bool, ↓e_is_bl_int, ↓e_is_bl_str, ↓e_is_bl_list, ↓e_is_bl_tuple, ↓e_is_bl_dict, ↓e_is_str_bool, ↓e_is_str_int, ↓e_is_str_str, ↓e_is_str_list, ↓e_is_str_tuple, ↓e_is_str_dict, ↓e_is_non_bool, ↓e_is_non_int, ↓e_is_non_str, ↓e_is_non_list, ↓e_is_non_tuple, ↓e_is_non_dict, e_ib_list_bool, e_ib_list_int, e_ib_list_str, e_ib_list_list, e_ib_list_tuple, e_ib_list_dict, e_ib_tuple_bool, e_ib_tuple_int, e_ib_tuple_str, e_ib_tuple_list, e_ib_tuple_tuple, e_ib_tuple_dict, e_ib_dict_bool, e_ib_dict_int, e_ib_dict_str, e_ib_dict_list, e_ib_dict_tuple, e_ib_dict_dict, e_kn_bool, e_kn_int, e_kn_str, e_kn_list, e_kn_tuple, e_kn_dict, decide_eq_true_eq, Bool.not_eq_true', decide_eq_false_iff_not, Bool.false_eq_true, Bool.true_eq_false, if_true, if_false, List.append_nil, true_and, and_true, Bool.not_false, Bool.not_true, decide_true, decide_false, eq_self, List.cons_append, List.nil_append, and_self, List.length_cons, List.length_nil, ↓Wr.e_revT, ↓Wr.e_kRevT, ↓e_forgS, ↓e_forgE, upd_same, h_old, h_ne, h_comm, h_isNone, and_imp, not_false_eq_true, Option.isSome_some, implies_true, not_true_eq_false, Int.reduceLT, Int.reduceLE, Int.reduceAdd, Int.reduceSub, Int.reduceMul, Int.reduceNeg, Int.reduceEq, Int.reduceNe, Int.reduceToNat, Nat.reduceAdd, Nat.reduceSub, Nat.reduceLeDiff, reduceIte, Int.reducePow, ↓e_take, ↓e_onBag, ↓e_mutB, ↓e_word, ↓e_value, ↓e_whole, ↓e_isWord, ↓e_isValue, ↓e_odd, *])
local macro_rules | `(tactic| walk_at "fr") => `(tactic| simp (config := {contextual := true}) only [h_isNone, not_false_eq_true, and_self, true_and, *])
local macro_rules | `(tactic| walk_at "sm") => `(tactic| first
  | assumption
  | exact Same.refl _
  | (refine same_new' ?_ ?_; (· walk_at "fr"); walk_at "sm")
  | (refine same_updOff ?_ (by assumption); walk_at "sm"))
local macro_rules | `(tactic| walk_at "mu") => `(tactic| first
  | rfl
  | (simp (config := {contextual := true}) only [upd_same, h_old, h_ne, h_isNone, not_false_eq_true, and_self, true_and, Option.isSome_some, *]; done)
  | (simp (config := {contextual := true}) only [upd_same, h_old, h_ne, h_isNone, not_false_eq_true, and_self, true_and, Option.isSome_some, *]; rfl))
local macro_rules | `(tactic| walk_at "wh") => `(tactic| first
  | assumption
  | (refine whole_new' ?_ trivial ?_; (· walk_at "fr"); walk_at "wh")
  | (refine whole_mut' ?_ trivial ?_; (· walk_at "mu"); walk_at "wh"))
local macro_rules | `(tactic| walk_at "go") => `(tactic| repeat walk_at "go1")

section
variable {P : Program} {w : World} {K : PySem.W.Frag} {mg : Str → Option Value} {base : Heap}
theorem o_l_odd (T : Txt K mg) (G_l_take : Cd P w K mg base 1 "_law_take" [] spTake) {fd : FuncData} (F : FunD K "_law_odd" "_law_odd" (defArgs s_l_odd) (defBody s_l_odd) (defScope s_l_odd) [] [] (He.ga K "_law_odd") fd) : FnOk P w K mg base CX0 2 (He.ga K "_law_odd") fd ["_law_bag_here", "_law_name"] spOdd := by
  refine FnO.of F sc_l_odd (fun vs H Q E h => ?_) (fun cdv A outer s H vs Q E hr h => ?_)
  · unfold spOdd at h
    split at h
    · rfl
    · exact h.elim
  · unfold spOdd at h
    split at h
    · rename_i b z
      obtain ⟨g, r, hb, ok, W, hz, q⟩ := onBag_cases h
      replace hb : H b = some (bagO g r) := hb
      refine ⟨_, (pss_cons (ps_set (i := 2) sc_l_odd.nd rfl (Or.inl rfl) (pe_lst (pa_cons pe_non (pa_cons pe_bl (pa_cons pe_bl (pa_cons pe_int (pa_cons pe_int (pa_cons pe_int (pa_cons (pe_un un_neg pe_int) (pa_cons (pe_un un_neg pe_int) (pa_cons (pe_op f_pow pe_int pe_int) (pa_cons pe_str (pa_cons (pv 1) (pa_cons (pe_op f_add (pv 1) (pe_op f_mul pe_str pe_int)) (pa_cons pe_str (pa_cons pe_str (pa_cons pe_str (pa_cons (pe_lst pa_nil) (pa_cons (pe_tup pa_nil) pa_nil)))))))))))))))))))
          (pss_one (ps_ret (pe_ix f_ix (pe_op f_add (pv 2) (pe_lst (pa_cons (pe_lst (pa_cons pe_str pa_nil)) (pa_cons (pe_tup (pa_cons pe_str pa_nil)) (pa_cons (pe_tup (pa_cons (pv 1) (pa_cons pe_str pa_nil))) (pa_cons (pe_lst (pa_cons pe_int (pa_cons (pe_tup (pa_cons pe_int (pa_cons (pe_lst pa_nil) pa_nil))) pa_nil))) pa_nil)))))) (pe_callC G_l_take (hr.mono (by decide)) (pa_cons (pv 0) (pa_cons pe_int pa_nil))) (fun _ _ => rfl))))), ?_⟩
      refine w_start (σ' := [some _, some _, none]) rfl ?_
      walk_at "gn"
      have l8 : (Txt.mul (Str.ofString "z") 8).length = 8 := by decide +kernel
      refine ⟨⟨by decide, by decide, by decide⟩, by decide, by rw [l8]; exact Nat.le_trans (Nat.add_le_add hz (Nat.le_refl _)) (by decide), ?_⟩
      refine newO.go trivial fun p1 H1 n_p1 e_p1 f_H1 m_p1 k_p1 s_H1 w_H1 => ?_
      refine newO.go trivial fun p2 H2 n_p2 e_p2 f_H2 m_p2 k_p2 s_H2 w_H2 => ?_
      refine newO.go trivial fun p3 H3 n_p3 e_p3 f_H3 m_p3 k_p3 s_H3 w_H3 => ?_
      refine newO.go trivial fun p4 H4 n_p4 e_p4 f_H4 m_p4 k_p4 s_H4 w_H4 => ?_
      refine newO.go trivial fun p5 H5 n_p5 e_p5 f_H5 m_p5 k_p5 s_H5 w_H5 => ?_
      refine newO.go trivial fun p6 H6 n_p6 e_p6 f_H6 m_p6 k_p6 s_H6 w_H6 => ?_
      refine newO.go trivial fun p7 H7 n_p7 e_p7 f_H7 m_p7 k_p7 s_H7 w_H7 => ?_
      refine newO.go trivial fun p8 H8 n_p8 e_p8 f_H8 m_p8 k_p8 s_H8 w_H8 => ?_
      refine newO.go trivial fun p9 H9 n_p9 e_p9 f_H9 m_p9 k_p9 s_H9 w_H9 => ?_
      refine newO.go trivial fun p10 H10 n_p10 e_p10 f_H10 m_p10 k_p10 s_H10 w_H10 => ?_
      have a_p3 : H10 p3 = _ := s_H10 _ _ (s_H9 _ _ (s_H8 _ _ (s_H7 _ _ (s_H6 _ _ (s_H5 _ _ (s_H4 _ _ (e_p3)))))))
      have a_p10 : H10 p10 = _ := e_p10
      have a_b : H10 b = _ := s_H10 _ _ (s_H9 _ _ (s_H8 _ _ (s_H7 _ _ (s_H6 _ _ (s_H5 _ _ (s_H4 _ _ (s_H3 _ _ (s_H2 _ _ (s_H1 _ _ (hb))))))))))
      walk_at "gn"
      refine newO.go trivial fun p11 H11 n_p11 e_p11 f_H11 m_p11 k_p11 s_H11 w_H11 => ?_
      have ss : Same H H11 := ((((((((((s_H1).trans s_H2).trans s_H3).trans s_H4).trans s_H5).trans s_H6).trans s_H7).trans s_H8).trans s_H9).trans s_H10).trans s_H11
      have ww : Whole H11 := w_H11 (w_H10 (w_H9 (w_H8 (w_H7 (w_H6 (w_H5 (w_H4 (w_H3 (w_H2 (w_H1 (W)))))))))))
      have a_b10 := a_b
      have a_p1 : H11 p1 = _ := s_H11 _ _ (s_H10 _ _ (s_H9 _ _ (s_H8 _ _ (s_H7 _ _ (s_H6 _ _ (s_H5 _ _ (s_H4 _ _ (s_H3 _ _ (s_H2 _ _ (e_p1))))))))))
      have a_p2 : H11 p2 = _ := s_H11 _ _ (s_H10 _ _ (s_H9 _ _ (s_H8 _ _ (s_H7 _ _ (s_H6 _ _ (s_H5 _ _ (s_H4 _ _ (s_H3 _ _ (e_p2)))))))))
      have a_p4 : H11 p4 = _ := s_H11 _ _ (s_H10 _ _ (s_H9 _ _ (s_H8 _ _ (s_H7 _ _ (s_H6 _ _ (s_H5 _ _ (e_p4)))))))
      have a_p5 : H11 p5 = _ := s_H11 _ _ (s_H10 _ _ (s_H9 _ _ (s_H8 _ _ (s_H7 _ _ (s_H6 _ _ (e_p5))))))
      have a_p6 : H11 p6 = _ := s_H11 _ _ (s_H10 _ _ (s_H9 _ _ (s_H8 _ _ (s_H7 _ _ (e_p6)))))
      have a_p9 : H11 p9 = _ := s_H11 _ _ (s_H10 _ _ (e_p9))
      have a_b : H11 b = _ := s_H11 _ _ (s_H10 _ _ (s_H9 _ _ (s_H8 _ _ (s_H7 _ _ (s_H6 _ _ (s_H5 _ _ (s_H4 _ _ (s_H3 _ _ (s_H2 _ _ (s_H1 _ _ (hb)))))))))))
      walk_at "gn"
      refine fun d g1 r1 d0 d1 ok1 => ?_
      refine at_go d0 (by show d < 21; exact d1) fun v hm => ?_
      refine q v _ g1 r1 (but_of ss) upd_same ok1 (whole_mut' (by rw [a_b]; rfl) trivial ww) (Thing.put ?_)
      have t1 : Thing H11 (.ref p1) := by show seqO (H11 p1) = true; rw [a_p1]; rfl
      have t2 : Thing H11 (.ref p2) := by show seqO (H11 p2) = true; rw [a_p2]; rfl
      have t4 : Thing H11 (.ref p4) := by show seqO (H11 p4) = true; rw [a_p4]; rfl
      have t5 : Thing H11 (.ref p5) := by show seqO (H11 p5) = true; rw [a_p5]; rfl
      have t6 : Thing H11 (.ref p6) := by show seqO (H11 p6) = true; rw [a_p6]; rfl
      have t9 : Thing H11 (.ref p9) := by show seqO (H11 p9) = true; rw [a_p9]; rfl
      have t12 : Thing H11 (.str (z ++ Txt.mul (Str.ofString "z") 8)) := by
        show (z ++ Txt.mul (Str.ofString "z") 8).length ≤ 100
        rw [PySem.Str.length_append, l8]
        omega
      have t11 : Thing H11 (.str z) := Nat.le_trans hz (by decide)
      simp only [List.cons_append, List.nil_append, List.mem_cons, List.not_mem_nil, or_false] at hm
      rcases hm with rfl | rfl | rfl | rfl | rfl | rfl | rfl | rfl | rfl | rfl | rfl | rfl | rfl | rfl | rfl | rfl | rfl | rfl | rfl | rfl | rfl
      all_goals first | assumption | exact trivial | (show _ ≤ 100; decide)
    · exact h.elim
theorem c_l_odd (T : Txt K mg) (G_l_take : Cd P w K mg base 1 "_law_take" [] spTake) : Cd P w K mg base 2 "_law_odd" [] spOdd := by
  obtain ⟨fd, F⟩ := T.d_l_odd
  exact Cd.by (o_l_odd T G_l_take F) F T.m_l_odd (F.bindsN fun _ _ _ _ _ _ us hl => match us, hl with | [_, _], _ => rfl) .nil
end

local macro_rules | `(tactic| walk_at "ar") => `(tactic| first
  | decide
  | omega
  | exact ⟨by omega, by omega⟩
  | exact ⟨by decide, by decide⟩
  | exact ⟨by omega, by omega, by omega⟩
  | exact .inl ⟨by omega, by omega⟩
  | exact .inr ⟨by omega, by omega⟩)
local macro_rules | `(tactic| walk_at "ne") => `(tactic| first
  | assumption
  | exact Ne.symm (by assumption))
local macro_rules | `(tactic| walk_at "hp") => `(tactic| first
  | assumption
  | exact upd_same
  | (refine upd_fresh (by assumption) ?_; walk_at "hp")
  | (refine same_at (by assumption) ?_; walk_at "hp")
  | (refine upd_off (by walk_at "ne") ?_; walk_at "hp")
  | (refine But.at (by assumption) (by walk_at "ne") ?_; walk_at "hp"))
local macro_rules | `(tactic| walk_at "sq") => `(tactic| first
  | assumption
  | exact SqL.of (by walk_at "hp")
  | (refine Same.seq (by assumption) ?_; walk_at "sq"))
local macro_rules | `(tactic| walk_at "sqt") => `(tactic| first
  | assumption
  | exact SqT.of (by walk_at "hp")
  | (refine same_sqT (by assumption) ?_; walk_at "sqt"))
local macro_rules | `(tactic| walk_at "ix") => `(tactic| first
  | rfl
  | assumption)
local macro_rules | `(tactic| walk_at "wp") => `(tactic| dsimp only [wipe, List.map_cons, List.map_nil, List.set_cons_succ, List.set_cons_zero, List.set])
local macro_rules | `(tactic| walk_at "go1") => `(tactic| first
  | (with_reducible refine w_gVar ?_; first | with_reducible refine w_var0 ?_ | with_reducible refine w_var1 ?_ | with_reducible refine w_var2 ?_ | with_reducible refine w_var3 ?_ | with_reducible refine w_var4 ?_ | with_reducible refine w_var5 ?_ | with_reducible refine w_var6 ?_ | with_reducible refine w_var7 ?_ | with_reducible refine w_var8 ?_ | with_reducible refine w_var9 ?_ | with_reducible refine w_var10 ?_ | with_reducible refine w_var11 ?_ | with_reducible refine w_var12 ?_ | with_reducible refine w_var13 ?_ | with_reducible refine w_var14 ?_ | with_reducible refine w_var15 ?_ | with_reducible refine w_var16 ?_ | with_reducible refine w_var17 ?_ | with_reducible refine w_var18 ?_ | with_reducible refine w_var19 ?_ | with_reducible refine w_var20 ?_ | with_reducible refine w_var21 ?_ | with_reducible refine w_var22 ?_ | with_reducible refine w_var23 ?_ | with_reducible refine w_var24 ?_ | with_reducible refine w_var25 ?_ | with_reducible refine w_var26 ?_ | with_reducible refine w_var27 ?_ | with_reducible refine w_var28 ?_ | with_reducible refine w_var29 ?_ | with_reducible refine w_var30 ?_ | with_reducible refine w_var31 ?_ | with_reducible refine w_var32 ?_ | with_reducible refine w_var33 ?_)
  | (with_reducible refine w_gSet ?_; first | with_reducible refine w_set0 ?_ | with_reducible refine w_set1 ?_ | with_reducible refine w_set2 ?_ | with_reducible refine w_set3 ?_ | with_reducible refine w_set4 ?_ | with_reducible refine w_set5 ?_ | with_reducible refine w_set6 ?_ | with_reducible refine w_set7 ?_ | with_reducible refine w_set8 ?_ | with_reducible refine w_set9 ?_ | with_reducible refine w_set10 ?_ | with_reducible refine w_set11 ?_ | with_reducible refine w_set12 ?_ | with_reducible refine w_set13 ?_ | with_reducible refine w_set14 ?_ | with_reducible refine w_set15 ?_ | with_reducible refine w_set16 ?_ | with_reducible refine w_set17 ?_ | with_reducible refine w_set18 ?_ | with_reducible refine w_set19 ?_ | with_reducible refine w_set20 ?_ | with_reducible refine w_set21 ?_ | with_reducible refine w_set22 ?_ | with_reducible refine w_set23 ?_ | with_reducible refine w_set24 ?_ | with_reducible refine w_set25 ?_ | with_reducible refine w_set26 ?_ | with_reducible refine w_set27 ?_ | with_reducible refine w_set28 ?_ | with_reducible refine w_set29 ?_ | with_reducible refine w_set30 ?_ | with_reducible refine w_set31 ?_ | with_reducible refine w_set32 ?_ | with_reducible refine w_set33 ?_)
  | with_reducible refine w_c ?_
  | with_reducible refine w_cons ?_
  | with_reducible refine w_op ?_
  | with_reducible refine w_call ?_
  | with_reducible refine w_nil ?_
  | with_reducible refine w_seq ?_
  | with_reducible refine w_asg ?_
  | with_reducible refine w_rI0 ?_
  | with_reducible refine w_un ?_
  | with_reducible refine w_rU ?_
  | with_reducible refine w_bQ ?_
  | with_reducible refine w_test ?_
  | with_reducible refine w_tB ?_
  | with_reducible refine w_not ?_
  | with_reducible refine w_and ?_
  | with_reducible refine w_or ?_
  | with_reducible refine w_bV ?_
  | with_reducible refine w_andV ?_
  | with_reducible refine w_orV ?_
  | with_reducible refine w_notV ?_
  | with_reducible refine w_ifE ?_
  | with_reducible refine w_bC ?_
  | with_reducible refine w_chain ?_
  | with_reducible refine w_tup ?_
  | with_reducible refine w_lst ?_
  | with_reducible refine w_cb ?_
  | with_reducible refine w_next ?_
  | with_reducible refine w_drop ?_
  | with_reducible refine w_ret ?_
  | with_reducible refine w_retN ?_
  | with_reducible refine w_ifS ?_
  | with_reducible refine w_brk ?_
  | with_reducible refine w_cont ?_
  | with_reducible refine w_gNil ?_
  | with_reducible refine w_gCons ?_
  | with_reducible refine w_gSub ?_
  | with_reducible refine w_for ?_
  | with_reducible refine w_rng1 ?_
  | with_reducible refine w_iList ?_
  | with_reducible refine w_iTup ?_
  | with_reducible refine w_iStr ?_
  | with_reducible refine w_kStr ?_
  | with_reducible refine w_lc ?_
  | with_reducible refine w_tYes ?_
  | with_reducible refine w_true ?_
  | with_reducible refine w_false ?_
  | with_reducible refine w_ab ?_
  | with_reducible refine w_mx2 ?_
  | with_reducible refine w_mn2 ?_
  | with_reducible refine w_inSign ?_
  | with_reducible refine w_bm ?_
  | with_reducible refine w_m1 ?_
  | with_reducible refine w_m0 ?_
  | with_reducible refine w_isS ?_
  | refine w_rI (by walk_at "ar") ?_
  | refine w_ixL (by walk_at "sq") (by walk_at "ix") ?_
  | refine w_ixT (by walk_at "sqt") (by walk_at "ix") ?_
  | refine w_setL (by walk_at "hp") (by rfl) ?_
  | refine w_lnL (by walk_at "sq") ?_
  | refine w_lnT (by walk_at "sqt") ?_
  | refine w_eq (by rfl) ?_
  | refine w_ne (by rfl) ?_)
local macro_rules | `(tactic| walk_at "gs") => `(tactic| simp only [↓e_c, ↓e_op, ↓e_un, ↓e_rU, ↓e_rI0, ↓e_rI, ↓e_bQ, ↓e_test, ↓e_tB, ↓e_not, ↓e_and, ↓e_or, ↓e_andV, ↓e_orV, ↓e_notV, ↓e_ifE, ↓e_chain, ↓e_nil, ↓e_cons, ↓e_tup, ↓e_lst, ↓e_kLst, ↓e_kTup, ↓e_small, ↓e_smallB, ↓e_call, ↓e_callN, ↓e_cb, ↓e_next, ↓e_seq, ↓e_drop, ↓e_ret, ↓e_retN, ↓e_ifS, ↓e_asg, ↓e_brk, ↓e_cont, ↓e_gNil, ↓e_gCons, ↓e_gSub, ↓e_for, ↓e_rng1, ↓e_kRng1, ↓e_iList, ↓e_iTup, ↓e_kStr, ↓e_iStr, ↓e_lc, ↓e_tYes, ↓e_ab, ↓e_mx2, ↓e_mn2, ↓e_bm, ↓e_tyS, ↓e_sIx, ↓e_m1, ↓e_m0, ↓e_isS, ↓e_addI, ↓e_addS, ↓e_addR, ↓e_seqL, ↓e_seqT, ↓e_onTup, ↓e_lstL, ↓e_ixS, ↓e_ixR, ↓e_itsL, ↓e_itsT, ↓e_slS, ↓e_slR, ↓e_newT, ↓e_mutL, ↓e_mutD, ↓e_sl, ↓e_bI, ↓e_noPart, ↓e_part, ↓e_inS, ↓e_ninS, ↓e_inR, ↓e_ninR, ↓e_lenS, ↓e_lenR, ↓e_tupR, ↓e_listR, ↓e_isR, ↓e_tyL, ↓e_tyT, ↓e_tyD, ↓e_eqI, ↓e_neI, ↓e_eqS, ↓e_neS, ↓e_eqB, ↓e_neB, ↓e_eqR, ↓e_neR, ↓e_eqR2, ↓e_neR2, ↓e_ltI, ↓e_leI, ↓e_gtI, ↓e_geI, ↓e_ltS, ↓e_leS, ↓e_gtS, ↓e_geS, ↓e_mul, ↓e_mulS, ↓e_m0F, ↓e_exS, ↓e_upS, ↓e_mod, ↓e_div, ↓e_pow, ↓e_sub, ↓e_iaddI, ↓e_iaddS, ↓e_imul, ↓e_setL, ↓e_app, ↓e_truF, ↓e_truI, ↓e_truB, ↓e_truN, ↓e_truS, ↓e_truR, ↓e_iSeq, ↓e_kSeqS, ↓e_kSeqR, ↓e_seqOL, ↓e_seqOT, ↓e_itOL, ↓e_itOT, ↓e_at0, ↓e_at1, ↓e_at2, ↓e_at3, ↓e_ex1, ↓e_ixN0, ↓e_ixN1, ↓e_updS, ↓e_updU, ↓e_lset0, ↓e_lset1, ↓e_var0, ↓e_var1, ↓e_var2, ↓e_var3, ↓e_var4, ↓e_var5, ↓e_var6, ↓e_var7, ↓e_var8, ↓e_var9, ↓e_var10, ↓e_var11, ↓e_var12, ↓e_var13, ↓e_var14, ↓e_var15, ↓e_var16, ↓e_var17, ↓e_var18, ↓e_var19, ↓e_var20, ↓e_var21, ↓e_var22, ↓e_var23, ↓e_var24, ↓e_var25, ↓e_var26, ↓e_var27, ↓e_var28, ↓e_var29, ↓e_var30, ↓e_var31, ↓e_var32, ↓e_var33, ↓e_set0, ↓e_set1, ↓e_set2, ↓e_set3, ↓e_set4, ↓e_set5, ↓e_set6, ↓e_set7, ↓e_set8, ↓e_set9, ↓e_set10, ↓e_set11, ↓e_set12, ↓e_set13, ↓e_set14, ↓e_set15, ↓e_set16, ↓e_set17, ↓e_set18, ↓e_set19, ↓e_set20, ↓e_set21, ↓e_set22, ↓e_set23, ↓e_set24, ↓e_set25, ↓e_set26, ↓e_set27, ↓e_set28, ↓e_set29, ↓e_set30, ↓e_set31, ↓e_set32, ↓e_set33, ↓e_aug0, ↓e_aug1, ↓e_aug2, ↓e_aug3, ↓e_aug4, ↓e_aug5, ↓e_aug6, ↓e_aug7, ↓e_aug8, ↓e_aug9, ↓e_aug10, ↓e_aug11, ↓e_aug12, ↓e_aug13, ↓e_aug14, ↓e_aug15, ↓e_aug16, ↓e_aug17, ↓e_aug18, ↓e_aug19, ↓e_aug20, ↓e_aug21, ↓e_aug22, ↓e_aug23, ↓e_aug24, ↓e_aug25, ↓e_aug26, ↓e_aug27, ↓e_aug28, ↓e_aug29, ↓e_aug30, ↓e_aug31, ↓e_aug32, ↓e_aug33, ↓e_is_int_bool, ↓e_is_int_int, ↓e_is_int_str, ↓e_is_int_list, ↓e_is_int_tuple, ↓e_is_int_dict, ↓e_is_bl_bool, ↓e_is_bl_int, ↓e_is_bl_str, ↓e_is_bl_list, ↓e_is_bl_tuple, ↓e_is_bl_dict, ↓e_is_str_bool, ↓e_is_str_int, ↓e_is_str_str, ↓e_is_str_list, ↓e_is_str_tuple, ↓e_is_str_dict, ↓e_is_non_bool, ↓e_is_non_int, ↓e_is_non_str, ↓e_is_non_list, ↓e_is_non_tuple, ↓e_is_non_dict, e_ib_list_bool, e_ib_list_int, e_ib_list_str, e_ib_list_list, e_ib_list_tuple, e_ib_list_dict, e_ib_tuple_bool, e_ib_tuple_int, e_ib_tuple_str, e_ib_tuple_list, e_ib_tuple_tuple, e_ib_tuple_dict, e_ib_dict_bool, e_ib_dict_int, e_ib_dict_str, e_ib_dict_list, e_ib_dict_tuple, e_ib_dict_dict, e_kn_bool, e_kn_int, e_kn_str, e_kn_list, e_kn_tuple, e_kn_dict, decide_eq_true_eq, Bool.not_eq_true', decide_eq_false_iff_not, Bool.false_eq_true, Bool.true_eq_false, if_true, if_false, List.append_nil, true_and, and_true, Bool.not_false, Bool.not_true, decide_true, decide_false, eq_self, List.cons_append, List.nil_append, and_self, List.length_cons, List.length_nil])
local macro_rules | `(tactic| walk_at "ga") => `(tactic| simp (config := {contextual := true, maxSteps := 1000000}) only [↓e_c, ↓e_op, ↓e_un, ↓e_rU, ↓e_rI0, ↓e_rI, ↓e_bQ, ↓e_test, ↓e_tB, ↓e_not, ↓e_and, ↓e_or, ↓e_andV, ↓e_orV, ↓e_notV, ↓e_ifE, ↓e_chain, ↓e_nil, ↓e_cons, ↓e_tup, ↓e_lst, ↓e_kLst, ↓e_kTup, ↓e_small, ↓e_smallB, ↓e_call, ↓e_callN, ↓e_cb, ↓e_next, ↓e_seq, ↓e_drop, ↓e_ret, ↓e_retN, ↓e_ifS, ↓e_asg, ↓e_brk, ↓e_cont, ↓e_gNil, ↓e_gCons, ↓e_gSub, ↓e_for, ↓e_rng1, ↓e_kRng1, ↓e_iList, ↓e_iTup, ↓e_kStr, ↓e_iStr, ↓e_lc, ↓e_tYes, ↓e_ab, ↓e_mx2, ↓e_mn2, ↓e_bm, ↓e_tyS, ↓e_sIx, ↓e_m1, ↓e_m0, ↓e_isS, ↓e_addI, ↓e_addS, ↓e_addR, ↓e_seqL, ↓e_seqT, ↓e_onTup, ↓e_lstL, ↓e_ixS, ↓e_ixR, ↓e_itsL, ↓e_itsT, ↓e_slS, ↓e_slR, ↓e_newT, ↓e_mutL, ↓e_mutD, ↓e_sl, ↓e_bI, ↓e_noPart, ↓e_part, ↓e_inS, ↓e_ninS, ↓e_inR, ↓e_ninR, ↓e_lenS, ↓e_lenR, ↓e_tupR, ↓e_listR, ↓e_isR, ↓e_tyL, ↓e_tyT, ↓e_tyD, ↓e_eqI, ↓e_neI, ↓e_eqS, ↓e_neS, ↓e_eqB, ↓e_neB, ↓e_eqR, ↓e_neR, ↓e_eqR2, ↓e_neR2, ↓e_ltI, ↓e_leI, ↓e_gtI, ↓e_geI, ↓e_ltS, ↓e_leS, ↓e_gtS, ↓e_geS, ↓e_mul, ↓e_mulS, ↓e_m0F, ↓e_exS, ↓e_upS, ↓e_mod, ↓e_div, ↓e_pow, ↓e_sub, ↓e_iaddI, ↓e_iaddS, ↓e_imul, ↓e_setL, ↓e_app, ↓e_truF, ↓e_truI, ↓e_truB, ↓e_truN, ↓e_truS, ↓e_truR, ↓e_iSeq, ↓e_kSeqS, ↓e_kSeqR, ↓e_seqOL, ↓e_seqOT, ↓e_itOL, ↓e_itOT, ↓e_at0, ↓e_at1, ↓e_at2, ↓e_at3, ↓e_ex1, ↓e_ixN0, ↓e_ixN1, ↓e_updS, ↓e_updU, ↓e_lset0, ↓e_lset1, ↓e_var0, ↓e_var1, ↓e_var2, ↓e_var3, ↓e_var4, ↓e_var5, ↓e_var6, ↓e_var7, ↓e_var8, ↓e_var9, ↓e_var10, ↓e_var11, ↓e_var12, ↓e_var13, ↓e_var14, ↓e_var15, ↓e_var16, ↓e_var17, ↓e_var18, ↓e_var19, ↓e_var20, ↓e_var21, ↓e_var22, ↓e_var23, ↓e_var24, ↓e_var25, ↓e_var26, ↓e_var27, ↓e_var28, ↓e_var29, ↓e_var30, ↓e_var31, ↓e_var32, ↓e_var33, ↓e_set0, ↓e_set1, ↓e_set2, ↓e_set3, ↓e_set4, ↓e_set5, ↓e_set6, ↓e_set7, ↓e_set8, ↓e_set9, ↓e_set10, ↓e_set11, ↓e_set12, ↓e_set13, ↓e_set14, ↓e_set15, ↓e_set16, ↓e_set17, ↓e_set18, ↓e_set19, ↓e_set20, ↓e_set21, ↓e_set22, ↓e_set23, ↓e_set24, ↓e_set25, ↓e_set26, ↓e_set27, ↓e_set28, ↓e_set29, ↓e_set30, ↓e_set31, ↓e_set32, ↓e_set33, ↓e_aug0, ↓e_aug1, ↓e_aug2, ↓e_aug3, ↓e_aug4, ↓e_aug5, ↓e_aug6, ↓e_aug7, ↓e_aug8, ↓e_aug9, ↓e_aug10, ↓e_aug11, ↓e_aug12, ↓e_aug13, ↓e_aug14, ↓e_aug15, ↓e_aug16, ↓e_aug17, ↓e_aug18, ↓e_aug19, ↓e_aug20, ↓e_aug21, ↓e_aug22, ↓e_aug23, ↓e_aug24, ↓e_aug25, ↓e_aug26, ↓e_aug27, ↓e_aug28, ↓e_aug29, ↓e_aug30, ↓e_aug31, ↓e_aug32, ↓e_aug33, ↓e_is_int_bool, ↓e_is_int_int, ↓e_is_int_str, ↓e_is_int_list, ↓e_is_int_tuple, ↓e_is_int_dict, ↓e_is_bl_bool, ↓e_is_bl_int, ↓e_is_bl_str, ↓e_is_bl_list, ↓e_is_bl_tuple, ↓e_is_bl_dict, ↓e_is_str_bool, ↓e_is_str_int, ↓e_is_str_str, ↓e_is_str_list, ↓e_is_str_tuple, ↓e_is_str_dict, ↓e_is_non_bool, ↓e_is_non_int, ↓e_is_non_str, ↓e_is_non_list, ↓e_is_non_tuple, ↓e_is_non_dict, e_ib_list_bool, e_ib_list_int, e_ib_list_str, e_ib_list_list, e_ib_list_tuple, e_ib_list_dict, e_ib_tuple_bool, e_ib_tuple_int, e_ib_tuple_str, e_ib_tuple_list, e_ib_tuple_tuple, e_ib_tuple_dict, e_ib_dict_bool, e_ib_dict_int, e_ib_dict_str, e_ib_dict_list, e_ib_dict_tuple, e_ib_dict_dict, e_kn_bool, e_kn_int, e_kn_str, e_kn_list, e_kn_tuple, e_kn_dict, decide_eq_true_eq, Bool.not_eq_true', decide_eq_false_iff_not, Bool.false_eq_true, Bool.true_eq_false, if_true, if_false, List.append_nil, true_and, and_true, Bool.not_false, Bool.not_true, decide_true, decide_false, eq_self, List.cons_append, List.nil_append, and_self, List.length_cons, List.length_nil, ↓Wr.e_revT, ↓Wr.e_kRevT, ↓e_forgS, ↓e_forgE, h_old, h_ne, h_comm, h_isNone, and_imp, not_false_eq_true, Option.isSome_some, implies_true, not_true_eq_false, Int.reduceLT, Int.reduceLE, Int.reduceAdd, Int.reduceSub, Int.reduceMul, Int.reduceNeg, Int.reduceEq, Int.reduceNe, Int.reduceToNat, Nat.reduceAdd, Nat.reduceSub, Nat.reduceLeDiff, reduceIte, Int.reducePow, ↓e_take, ↓e_onBag, ↓e_mutB, ↓e_word, ↓e_value, ↓e_whole, ↓e_isWord, ↓e_isValue, ↓e_odd, *])
local macro_rules | `(tactic| walk_at "gn") => `(tactic| simp (config := {maxSteps := 1000000}) only [↓e_c, ↓e_op, ↓e_un, ↓e_rU, ↓e_rI0, ↓e_rI, ↓e_bQ, ↓e_test, ↓e_tB, ↓e_not, ↓e_and, ↓e_or, ↓e_andV, ↓e_orV, ↓e_notV, ↓e_ifE, ↓e_chain, ↓e_nil, ↓e_cons, ↓e_tup, ↓e_lst, ↓g_kLst, ↓g_kTup, ↓e_small, ↓e_smallB, ↓e_call, ↓e_callN, ↓e_cb, ↓e_next, ↓e_seq, ↓e_drop, ↓e_ret, ↓e_retN, ↓e_ifS, ↓e_asg, ↓e_brk, ↓e_cont, ↓e_gNil, ↓e_gCons, ↓e_gSub, ↓e_for, ↓e_rng1, ↓e_kRng1, ↓e_iList, ↓e_iTup, ↓e_kStr, ↓e_iStr, ↓e_lc, ↓e_tYes, ↓e_ab, ↓e_mx2, ↓e_mn2, ↓e_bm, ↓e_tyS, ↓e_sIx, ↓e_m1, ↓e_m0, ↓e_isS, ↓e_addI, ↓e_addS, ↓g_addR, ↓e_seqL, ↓e_seqT, ↓e_onTup, ↓e_lstL, ↓e_ixS, ↓e_ixR, ↓e_itsL, ↓e_itsT, ↓e_slS, ↓g_slR, ↓e_mutL, ↓e_mutD, ↓e_sl, ↓e_bI, ↓e_noPart, ↓e_part, ↓e_inS, ↓e_ninS, ↓e_inR, ↓e_ninR, ↓e_lenS, ↓e_lenR, ↓g_tupR, ↓g_listR, ↓e_isR, ↓e_tyL, ↓e_tyT, ↓e_tyD, ↓e_eqI, ↓e_neI, ↓e_eqS, ↓e_neS, ↓e_eqB, ↓e_neB, ↓e_eqR, ↓e_neR, ↓e_eqR2, ↓e_neR2, ↓e_ltI, ↓e_leI, ↓e_gtI, ↓e_geI, ↓e_ltS, ↓e_leS, ↓e_gtS, ↓e_geS, ↓e_mul, ↓e_mulS, ↓e_m0F, ↓e_exS, ↓e_upS, ↓e_mod, ↓e_div, ↓e_pow, ↓e_sub, ↓e_iaddI, ↓e_iaddS, ↓e_imul, ↓e_setL, ↓e_app, ↓e_truF, ↓e_truI, ↓e_truB, ↓e_truN, ↓e_truS, ↓e_truR, ↓e_iSeq, ↓e_kSeqS, ↓e_kSeqR, ↓e_seqOL, ↓e_seqOT, ↓e_itOL, ↓e_itOT, ↓e_at0, ↓e_at1, ↓e_at2, ↓e_at3, ↓e_ex1, ↓e_ixN0, ↓e_ixN1, ↓e_updS, ↓e_updU, ↓e_lset0, ↓e_lset1, ↓e_var0, ↓e_var1, ↓e_var2, ↓e_var3, ↓e_var4, ↓e_var5, ↓e_var6, ↓e_var7, ↓e_var8, ↓e_var9, ↓e_var10, ↓e_var11, ↓e_var12, ↓e_var13, ↓e_var14, ↓e_var15, ↓e_var16, ↓e_var17, ↓e_var18, ↓e_var19, ↓e_var20, ↓e_var21, ↓e_var22, ↓e_var23, ↓e_var24, ↓e_var25, ↓e_var26, ↓e_var27, ↓e_var28, ↓e_var29, ↓e_var30, ↓e_var31, ↓e_var32, ↓e_var33, ↓e_set0, ↓e_set1, ↓e_set2, ↓e_set3, ↓e_set4, ↓e_set5, ↓e_set6, ↓e_set7, ↓e_set8, ↓e_set9, ↓e_set10, ↓e_set11, ↓e_set12, ↓e_set13, ↓e_set14, ↓e_set15, ↓e_set16, ↓e_set17, ↓e_set18, ↓e_set19, ↓e_set20, ↓e_set21, ↓e_set22, ↓e_set23, ↓e_set24, ↓e_set25, ↓e_set26, ↓e_set27, ↓e_set28, ↓e_set29, ↓e_set30, ↓e_set31, ↓e_set32, ↓e_set33, ↓e_aug0, ↓e_aug1, ↓e_aug2, ↓e_aug3, ↓e_aug4, ↓e_aug5, ↓e_aug6, ↓e_aug7, ↓e_aug8, ↓e_aug9, ↓e_aug10, ↓e_aug11, ↓e_aug12, ↓e_aug13, ↓e_aug14, ↓e_aug15, ↓e_aug16, ↓e_aug17, ↓e_aug18, ↓e_aug19, ↓e_aug20, ↓e_aug21, ↓e_aug22, ↓e_aug23, ↓e_aug24, ↓e_aug25, ↓e_aug26, ↓e_aug27, ↓e_aug28, ↓e_aug29, ↓e_aug30, ↓e_aug31, ↓e_aug32, ↓e_aug33, ↓e_is_int_bool, ↓e_is_int_int, ↓e_is_int_str, ↓e_is_int_list, ↓e_is_int_tuple, ↓e_is_int_dict, ↓e_is_bl_bool, ↓e_is_bl_int, ↓e_is_bl_str, ↓e_is_bl_list, ↓e_is_bl_tuple, ↓e_is_bl_dict, ↓e_is_str_bool, ↓e_is_str_int, ↓e_is_str_str, ↓e_is_str_list, ↓e_is_str_tuple, ↓e_is_str_dict, ↓e_is_non_bool, ↓e_is_non_int, ↓e_is_non_str, ↓e_is_non_list, ↓e_is_non_tuple, ↓e_is_non_dict, e_ib_list_bool, e_ib_list_int, e_ib_list_str, e_ib_list_list, e_ib_list_tuple, e_ib_list_dict, e_ib_tuple_bool, e_ib_tuple_int, e_ib_tuple_str, e_ib_tuple_list, e_ib_tuple_tuple, e_ib_tuple_dict, e_ib_dict_bool, e_ib_dict_int, e_ib_dict_str, e_ib_dict_list, e_ib_dict_tuple, e_ib_dict_dict, e_kn_bool, e_kn_int, e_kn_str, e_kn_list, e_kn_tuple, e_kn_dict, decide_eq_true_eq, Bool.not_eq_true', decide_eq_false_iff_not, Bool.false_eq_true, Bool.true_eq_false, if_true, if_false, List.append_nil, true_and, and_true, Bool.not_false, Bool.not_true, decide_true, decide_false, eq_self, List.cons_append, List.nil_append, and_self, List.length_cons, List.length_nil, ↓Wr.e_revT, ↓Wr.e_kRevT, ↓e_forgS, ↓e_forgE, upd_same, h_old, h_ne, h_comm, h_isNone, and_imp, not_false_eq_true, Option.isSome_some, implies_true, not_true_eq_false, Int.reduceLT, Int.reduceLE, Int.reduceAdd, Int.reduceSub, Int.reduceMul, Int.reduceNeg, Int.reduceEq, Int.reduceNe, Int.reduceToNat, Nat.reduceAdd, Nat.reduceSub, Nat.reduceLeDiff, reduceIte, Int.reducePow, ↓e_take, ↓e_onBag, ↓e_mutB, ↓e_word, ↓e_value, ↓e_whole, ↓e_isWord, ↓e_isValue, ↓e_odd, *])
local macro_rules | `(tactic| walk_at "fr") => `(tactic| simp (config := {contextual := true}) only [h_isNone, not_false_eq_true, and_self, true_and, *])
local macro_rules | `(tactic| walk_at "sm") => `(tactic| first
  | assumption
  | exact Same.refl _
  | (refine same_new' ?_ ?_; (· walk_at "fr"); walk_at "sm")
  | (refine same_updOff ?_ (by assumption); walk_at "sm"))
local macro_rules | `(tactic| walk_at "mu") => `(tactic| first
  | rfl
  | (simp (config := {contextual := true}) only [upd_same, h_old, h_ne, h_isNone, not_false_eq_true, and_self, true_and, Option.isSome_some, *]; done)
  | (simp (config := {contextual := true}) only [upd_same, h_old, h_ne, h_isNone, not_false_eq_true, and_self, true_and, Option.isSome_some, *]; rfl))
local macro_rules | `(tactic| walk_at "wh") => `(tactic| first
  | assumption
  | (refine whole_new' ?_ trivial ?_; (· walk_at "fr"); walk_at "wh")
  | (refine whole_mut' ?_ trivial ?_; (· walk_at "mu"); walk_at "wh"))
local macro_rules | `(tactic| walk_at "go") => `(tactic| repeat walk_at "go1")

section
variable {P : Program} {w : World} {K : PySem.W.Frag} {mg : Str → Option Value} {base : Heap}
theorem o_law (T : Txt K mg) (G_l_bag : Cd P w K mg base 1 "_law_bag" [] (spBag K)) (G_l_word : Cd P w K mg base 2 "_law_word" [] spWord) (G_l_value : Cd P w K mg base 3 "_law_value" [] spValue) (G_l_odd : Cd P w K mg base 2 "_law_odd" [] spOdd) (G_is_value : Cd P w K mg base 2 "is_value" [] spIsValue) (G_l_is_value : Cd P w K mg base 2 "_law_is_value" [] spIsValue) {fd : FuncData} (F : FunD K "law" "law" (defArgs s_law) (defBody s_law) (defScope s_law) [] [] (He.ga K "law") fd) : FnOk P w K mg base CX0 4 (He.ga K "law") fd ["_law_script"] (spLaw K) := by
  refine FnO.of F sc_law (fun vs H Q E h => ?_) (fun cdv A outer s H vs Q E hr h => ?_)
  · obtain ⟨a, ns, rfl, _⟩ := h
    rfl
  · obtain ⟨a, ns, rfl, hS, hl, W, q⟩ := h
    refine ⟨_, (pss_cons (ps_for PassesOwn.never rfl (pi_range1 rfl T.n_range (pa_cons (pe_callB (call_mx2 rfl) (by rfl) T.n_max (by decide +kernel) (pa_cons pe_int (pa_cons (pe_callB (call_mn2 rfl) (by rfl) T.n_min (by decide +kernel) (pa_cons pe_int (pa_cons (pe_callB (k_len (K := K) rfl) (by rfl) T.n_len (by decide +kernel) (pa_cons (pv 0) pa_nil)) pa_nil))) pa_nil))) pa_nil)) (pg_name (i := 1) sc_law.nd rfl (Or.inl rfl))
          (pss_forg (pss_cons (ps_set (i := 2) sc_law.nd rfl (Or.inl rfl) (pe_callC G_l_bag (hr.mono (by decide)) (pa_cons (pv 0) (pa_cons (pv 1) pa_nil))))
        (pss_cons (ps_set (i := 3) sc_law.nd rfl (Or.inl rfl) (pe_callC G_l_word (hr.mono (by decide)) (pa_cons (pv 2) pa_nil)))
        (pss_cons (ps_set (i := 4) sc_law.nd rfl (Or.inl rfl) (pe_lst (pa_cons (pe_callC G_l_value (hr.mono (by decide)) (pa_cons (pv 2) (pa_cons pe_str pa_nil))) (pa_cons (pv 3) (pa_cons (pe_callC G_l_odd (hr.mono (by decide)) (pa_cons (pv 2) (pa_cons (pv 3) pa_nil))) (pa_cons (pe_callC G_l_odd (hr.mono (by decide)) (pa_cons (pv 2) (pa_cons pe_str pa_nil))) (pa_cons (pe_slice f_sl (pv 3) po_none (po_some (pe_un un_neg pe_int))) (pa_cons (pe_op f_add (pv 3) pe_str) pa_nil))))))))
        (pss_cons (ps_set (i := 4) sc_law.nd rfl (Or.inl rfl) (pe_op f_add (pv 4) (pe_lst (pa_cons (f_upper (pv 3)) (pa_cons (pe_op f_add (pv 3) pe_str) (pa_cons (pe_op f_add pe_str (pv 3)) (pa_cons (pe_lst (pa_cons (pv 3) pa_nil)) (pa_cons (pe_tup (pa_cons (pv 3) pa_nil)) (pa_cons (pe_un un_neg pe_int) (pa_cons pe_int (pa_cons pe_int (pa_cons (pe_un un_neg pe_int) (pa_cons pe_bl (pa_cons pe_non pa_nil))))))))))))))
        (pss_one (ps_for PassesOwn.never rfl (f_walk (K := K) rfl (pv 4)) (pg_name (i := 5) sc_law.nd rfl (Or.inl rfl))
          (pss_forg (pss_one (ps_for PassesOwn.never rfl (f_walk (K := K) rfl (pe_tup (pa_cons pe_str (pa_cons pe_str (pa_cons pe_str pa_nil))))) (pg_name (i := 6) sc_law.nd rfl (Or.inl rfl))
          (pss_cons (ps_set (i := 7) sc_law.nd rfl (Or.inl rfl) (pe_callC G_is_value (hr.mono (by decide)) (pa_cons (pv 6) (pa_cons (pv 5) pa_nil))))
        (pss_one (ps_if (PW.pt (pw_or (pt_not (f_truth (pe_callB f_isi (by rfl) T.n_isinstance (by decide +kernel) (pa_cons (pv 7) (pa_cons (pe_gT (n := "bool") T.n_bool (by decide +kernel)) pa_nil))))) (pw_or1 (pt_cmpR (f_ne (K := K) rfl hr) (pv 7) (pe_callC G_l_is_value (hr.mono (by decide)) (pa_cons (pv 6) (pa_cons (pv 5) pa_nil))) (nomark _)))))
          (pss_one (ps_ret pe_bl))
          pss_nil))))))))))))))
        (pss_one (ps_ret pe_bl))), ?_⟩
    refine w_start (σ' := [some _, none, none, none, none, none, none, none]) rfl ?_
    walk_at "gn"
    refine w_lnL hS ?_
    walk_at "gn"
    rw [List.length_map]
    have hn : 0 ≤ (if 6 < (if (ns.length : Int) < 20 then (ns.length : Int) else 20) then (if (ns.length : Int) < 20 then (ns.length : Int) else 20) else 6) ∧ (if 6 < (if (ns.length : Int) < 20 then (ns.length : Int) else 20) then (if (ns.length : Int) < 20 then (ns.length : Int) else 20) else 6) ≤ 20 := by
      split <;> split <;> omega
    refine ⟨⟨by omega, by omega⟩, ?_⟩
    refine w_walk walk_range (fun i σ H' => H' = H ∧ ∃ s1 s2 s3 s4 s5 s6 s7, σ = [some (.ref a), s1, s2, s3, s4, s5, s6, s7]) ⟨rfl, none, none, none, none, none, none, none, rfl⟩ (fun _ _ _ _ _ => trivial) ?_ ?_
    · rintro i x σ H1 H2 hi ⟨rfl, s1, s2, s3, s4, s5, s6, s7, rfl⟩ ⟨rfl, rfl⟩
      walk_at "gn"
      refine w_bag hS (by omega) (by omega) W fun b g r hbn ok => ?_
      walk_at "gn"
      refine ⟨whole_new' hbn trivial W, fun z g1 r1 hz ok1 => ⟨ok1, whole_new' hbn trivial W, fun v0 g2 r2 hv0 ok2 => ⟨ok2, whole_new' hbn trivial W, hz.2.1, fun v1 H3 g3 r3 b3 hb3 ok3 W3 t1 => ?_⟩⟩⟩
      walk_at "gn"
      refine ⟨by decide, fun v2 H4 g4 r4 b4 hb4 ok4 W4 t2 => ?_⟩
      have z8 : z.length ≤ 8 := hz.2.1
      have len : ∀ y : Str, y.length ≤ 1 → z.length + y.length ≤ big ∧ y.length + z.length ≤ big := fun y hy => ⟨by show _ ≤ 1000000; omega, by show _ ≤ 1000000; omega⟩
      refine ⟨Nat.le_trans z8 (by decide), (len _ (by decide)).1, ?_⟩
      refine newO.go trivial fun p1 H5 n_p1 e_p1 f_H5 m_p1 k_p1 s_H5 w_H5 => ?_
      refine ⟨Nat.le_trans z8 (by decide), (len _ (by decide)).1, (len _ (by decide)).2, ?_⟩
      refine newO.go trivial fun p2 H6 n_p2 e_p2 f_H6 m_p2 k_p2 s_H6 w_H6 => ?_
      refine newO.go trivial fun p3 H7 n_p3 e_p3 f_H7 m_p3 k_p3 s_H7 w_H7 => ?_
      refine newO.go trivial fun p4 H8 n_p4 e_p4 f_H8 m_p4 k_p4 s_H8 w_H8 => ?_
      have a_p1 : H8 p1 = _ := s_H8 _ _ (s_H7 _ _ (s_H6 _ _ (e_p1)))
      have a_p4 : H8 p4 = _ := e_p4
      walk_at "gn"
      refine newO.go trivial fun p5 H9 n_p5 e_p5 f_H9 m_p5 k_p5 s_H9 w_H9 => ?_
      walk_at "gn"
      have sx : Same H4 H9 := ((((s_H5).trans s_H6).trans s_H7).trans s_H8).trans s_H9
      have W9 : Whole H9 := w_H9 (w_H8 (w_H7 (w_H6 (w_H5 (W4)))))
      have S9 : Same H2 H9 := (same_but (same_but (same_upd hbn) hbn b3) hbn b4).trans sx
      have a_p2 : H9 p2 = _ := s_H9 _ _ (s_H8 _ _ (s_H7 _ _ (e_p2)))
      have a_p3 : H9 p3 = _ := s_H9 _ _ (s_H8 _ _ (e_p3))
      have hall : ∀ x ∈ [v0, V.str z, v1, v2, V.str (cutS z none (some (-1))), V.str (z ++ Str.ofString "a"), V.str (Txt.upper z), V.str (z ++ Str.ofString "-"), V.str (Str.ofString " " ++ z), V.ref p2, V.ref p3, V.int (-999), V.int 999, V.int 1000, V.int (-1000), V.bl true, V.non], Thing H9 x := by
        intro x hx
        have c0 : Thing H9 v0 := by
          rcases hv0 with ⟨e, _⟩ | ⟨_, i0, rfl, _⟩
          · exact absurd e (by decide)
          · exact trivial
        have c1 : Thing H9 (.str z) := Nat.le_trans z8 (by decide)
        have c2 : Thing H9 v1 := (t1.but b4 hb4).same sx
        have c3 : Thing H9 v2 := t2.same sx
        have c4 : Thing H9 (.str (cutS z none (some (-1)))) := Nat.le_trans (cutS_length _ _ _) (Nat.le_trans z8 (by decide))
        have c5 : Thing H9 (.str (z ++ Str.ofString "a")) := by show _ ≤ 100; rw [PySem.Str.length_append, show (Str.ofString "a").length = 1 by decide]; omega
        have c6 : Thing H9 (.str (Txt.upper z)) := by
          rw [PyProof.Rows.upper_ascii fun c hc => Nat.lt_of_le_of_lt (hz.2.2 c hc).2 (by decide)]
          show (z.cps.map _).size ≤ 100
          rw [Array.size_map]
          exact Nat.le_trans z8 (by decide)
        have c7 : Thing H9 (.str (z ++ Str.ofString "-")) := by show _ ≤ 100; rw [PySem.Str.length_append, show (Str.ofString "-").length = 1 by decide]; omega
        have c8 : Thing H9 (.str (Str.ofString " " ++ z)) := by show _ ≤ 100; rw [PySem.Str.length_append, show (Str.ofString " ").length = 1 by decide]; omega
        have c9 : Thing H9 (.ref p2) := by show seqO (H9 p2) = true; rw [a_p2]; rfl
        have c10 : Thing H9 (.ref p3) := by show seqO (H9 p3) = true; rw [a_p3]; rfl
        simp only [List.mem_cons, List.not_mem_nil, or_false] at hx
        rcases hx with rfl | rfl | rfl | rfl | rfl | rfl | rfl | rfl | rfl | rfl | rfl | rfl | rfl | rfl | rfl | rfl | rfl
        all_goals first | assumption | exact trivial
      refine w_walk walk_list (fun j σ H' => H' = H9 ∧ ∃ s5 s6 s7, σ = [some (.ref a), some (.int (0 + (i : Int))), some (.ref b), some (.str z), some (.ref p5), s5, s6, s7]) ⟨rfl, s5, s6, s7, rfl⟩ (fun _ _ _ _ ⟨e, _⟩ => by rw [e]; exact SqL.of e_p5) ?_ ?_
      · rintro j x σ Ha Hb hj ⟨rfl, s5, s6, s7, rfl⟩ ⟨rfl, hx⟩
        have hth := hall x (List.mem_of_getElem? hx)
        walk_at "gn"
        refine newO.go trivial fun q1 Hc n_q1 e_q1 f_Hc m_q1 k_q1 s_Hc w_Hc => ?_
        walk_at "gn"
        have tc : Thing Hc x := hth.same s_Hc
        have Wc : Whole Hc := w_Hc W9
        refine w_walk walk_tup (fun m σ H' => H' = Hc ∧ ∃ s6 s7, σ = [some (.ref a), some (.int (0 + (i : Int))), some (.ref b), some (.str z), some (.ref p5), some x, s6, s7]) ⟨rfl, s6, s7, rfl⟩ (fun _ _ _ _ ⟨e, _⟩ => by rw [e]; exact SqT.of e_q1) ?_ ?_
        · rintro m y σ Hd He hm ⟨rfl, s6, s7, rfl⟩ ⟨rfl, hy⟩
          have ey : ∃ k, y = V.str k ∧ (k = Str.ofString "number" ∨ k = Str.ofString "word") := by
            have := List.mem_of_getElem? hy
            simp only [List.mem_cons, List.not_mem_nil, or_false] at this
            rcases this with rfl | rfl | rfl
            · exact ⟨_, rfl, .inl rfl⟩
            · exact ⟨_, rfl, .inr rfl⟩
            · exact ⟨_, rfl, .inl rfl⟩
          obtain ⟨k, rfl, hk⟩ := ey
          walk_at "gn"
          exact ⟨_, _, rfl⟩
        · rintro σ Hd ⟨rfl, s6, s7, rfl⟩
          exact ⟨Hb, Forg.same W9 s_Hc, rfl, _, _, _, rfl⟩
      · rintro σ Ha ⟨rfl, s5, s6, s7, rfl⟩
        exact ⟨H2, Forg.same W S9, rfl, _, _, _, _, _, _, _, rfl⟩
    · rintro σ H1 ⟨rfl, s1, s2, s3, s4, s5, s6, s7, rfl⟩
      walk_at "gn"
theorem ok_law (T : Txt K mg) {fd : FuncData} (F : FunD K "law" "law" (defArgs s_law) (defBody s_law) (defScope s_law) [] [] (He.ga K "law") fd) : FnOk P w K mg base CX0 4 (He.ga K "law") fd ["_law_script"] (spLaw K) := o_law T (c_l_bag T) (c_l_word T (c_l_take T)) (c_l_value T (c_l_take T) (c_l_word T (c_l_take T))) (c_l_odd T (c_l_take T)) (c_is_value T (c_is_whole_1 T) (c_is_word T)) (c_l_is_value T (c_l_is_word T)) F
end
/-! ### the head -/
def fn : List He.DefD := [⟨("is_whole", none), "is_whole", "is_whole", defArgs s_is_whole, defBody s_is_whole, defScope s_is_whole, [(.int (-999)), (.int (999))], []⟩,
  ⟨("is_word", none), "is_word", "is_word", defArgs s_is_word, defBody s_is_word, defScope s_is_word, [], []⟩,
  ⟨("is_value", none), "is_value", "is_value", defArgs s_is_value, defBody s_is_value, defScope s_is_value, [], []⟩,
  ⟨("_law_bag", none), "_law_bag", "_law_bag", defArgs s_l_bag, defBody s_l_bag, defScope s_l_bag, [], []⟩,
  ⟨("_law_take", none), "_law_take", "_law_take", defArgs s_l_take, defBody s_l_take, defScope s_l_take, [], []⟩,
  ⟨("_law_word", none), "_law_word", "_law_word", defArgs s_l_word, defBody s_l_word, defScope s_l_word, [], []⟩,
  ⟨("_law_value", none), "_law_value", "_law_value", defArgs s_l_value, defBody s_l_value, defScope s_l_value, [], []⟩,
  ⟨("_law_is_word", none), "_law_is_word", "_law_is_word", defArgs s_l_is_word, defBody s_l_is_word, defScope s_l_is_word, [], []⟩,
  ⟨("_law_is_value", none), "_law_is_value", "_law_is_value", defArgs s_l_is_value, defBody s_l_is_value, defScope s_l_is_value, [], []⟩,
  ⟨("_law_odd", none), "_law_odd", "_law_odd", defArgs s_l_odd, defBody s_l_odd, defScope s_l_odd, [], []⟩,
  ⟨("law", none), "law", "law", defArgs s_law, defBody s_law, defScope s_law, [], []⟩]
def fa : List He.Fa := [.glo "is_whole", .glo "is_word", .glo "is_value", .glo "_law_bag", .glo "_law_take", .glo "_law_word", .glo "_law_value", .glo "_law_is_word", .glo "_law_is_value", .glo "_law_odd", .glo "law", .int "LEAST_NUMBER" (-999), .int "MOST_NUMBER" 999, .int "MOST_LETTERS" 8, .str "LETTERS" "abcdefghijklmnopqrstuvwxyz", .free "abs", .free "all", .free "bool", .free "int", .free "isinstance", .free "len", .free "max", .free "min", .free "range", .free "str"]
theorem txt_of {K : PySem.W.Frag} {h : Heap} {mg : Str → Option Value} (X : K.In h) (G : h.Ns mainGlobals mg) (c : He.SaysD fa fn K) : Txt K mg :=
  ⟨c.def_ 0 rfl,
   He.glo_ok X G (c.fact 0 rfl),
   c.def_ 1 rfl,
   He.glo_ok X G (c.fact 1 rfl),
   c.def_ 2 rfl,
   He.glo_ok X G (c.fact 2 rfl),
   c.def_ 3 rfl,
   He.glo_ok X G (c.fact 3 rfl),
   c.def_ 4 rfl,
   He.glo_ok X G (c.fact 4 rfl),
   c.def_ 5 rfl,
   He.glo_ok X G (c.fact 5 rfl),
   c.def_ 6 rfl,
   He.glo_ok X G (c.fact 6 rfl),
   c.def_ 7 rfl,
   He.glo_ok X G (c.fact 7 rfl),
   c.def_ 8 rfl,
   He.glo_ok X G (c.fact 8 rfl),
   c.def_ 9 rfl,
   He.glo_ok X G (c.fact 9 rfl),
   c.def_ 10 rfl,
   He.glo_ok X G (c.fact 10 rfl),
   He.int_ok X G (c.fact 11 rfl),
   He.int_ok X G (c.fact 12 rfl),
   He.int_ok X G (c.fact 13 rfl),
   He.str_ok X G (c.fact 14 rfl),
   He.free_ok X G (c.fact 15 rfl),
   He.free_ok X G (c.fact 16 rfl),
   He.free_ok X G (c.fact 17 rfl),
   He.free_ok X G (c.fact 18 rfl),
   He.free_ok X G (c.fact 19 rfl),
   He.free_ok X G (c.fact 20 rfl),
   He.free_ok X G (c.fact 21 rfl),
   He.free_ok X G (c.fact 22 rfl),
   He.free_ok X G (c.fact 23 rfl),
   He.free_ok X G (c.fact 24 rfl)⟩
abbrev R : PySem.W.OpenRow := PySem.W.OpenLaw.row PySem.Challenge.rw_whatindex_k01_values_known
abbrev hk : PySem.W.Hook := He.hookD 4 fa fn
def ob (s : PySem.W.SharedT) : He.AlD := He.obsDG 4 fa fn (HandSHeadRun.getT s)
theorem ob_eq (s : PySem.W.SharedT) : ob s = hk.obs s.abs := He.obsDG_eq (HandSHeadRun.getT_eq s)
theorem run (w : World) : HandSHeadRun.RunEq R (PySem.W.view R.prog [16]) hk ob 2000 ["LEAST_NUMBER", "MOST_NUMBER", "MOST_LETTERS", "LETTERS", "is_whole", "is_word", "is_value", "_law_bag", "_law_take", "_law_word", "_law_value", "_law_is_word", "_law_is_value", "_law_odd"] w := by
  intro os
  kernel_rfl
theorem facts {P : Program} {w : World} {K : PySem.W.Frag} {h : Heap} {mg : Str → Option Value} {f : Addr} (X : K.In h) (G : h.Ns mainGlobals mg) (hfa : mg ("law" : Str) = some (.ref f)) (c : He.SaysD fa fn K) :
    ∃ fd : FuncData, (∀ (s : Shared) (v : Value), BindsTo s fd ⟨[v], []⟩ [("_law_script", v)]) ∧ ∀ base : Heap, K.In base → base.Ns mainGlobals mg → FnOk P w K mg base CX0 4 f fd ["_law_script"] (spLaw K) := by
  have T := txt_of X G c
  obtain ⟨fd, F⟩ := T.d_law
  have e := hfa.symm.trans T.m_law
  cases e
  have b := FunD.bindsA (ps := ["_law_script"]) F fun _ _ _ _ _ _ us hl => match us, hl with | [_], _ => rfl
  exact ⟨fd, fun s v => b s [v] rfl, fun base _ _ => ok_law T F⟩
end Wk
open PySem PySem.W PySem.Calls PyProof.Rows
theorem PySem.Challenge.cw_whatindex_k01_values_known_holds : PySem.Challenge.rw_whatindex_k01_values_known.Holds := by
  w_on; o_law
  refine HandSHeadRun.head_any (r := OpenLaw.row PySem.Challenge.rw_whatindex_k01_values_known) (q := view (OpenLaw.row PySem.Challenge.rw_whatindex_k01_values_known).prog [16]) (H := Wk.hk) (ob := Wk.ob) (M := 2000) (loose := ["LEAST_NUMBER", "MOST_NUMBER", "MOST_LETTERS", "LETTERS", "is_whole", "is_word", "is_value", "_law_bag", "_law_take", "_law_word", "_law_value", "_law_is_word", "_law_is_value", "_law_odd"]) (d := HandSHeadRun.topDef (OpenLaw.row PySem.Challenge.rw_whatindex_k01_values_known).prog 16) (kwd := []) Wk.ob_eq
    (by kernel_rfl) (fun s => by kernel_rfl) Wk.run (by kernel_rfl) (by kernel_rfl) (by kernel_rfl) (by rfl) (by first | assumption | decide +kernel) (by decide +kernel) ⟨rfl, rfl, rfl, rfl, rfl, by decide +kernel⟩ ?hw ?hc
  case hw => w_witness2
  case hc =>
    refine L2.walk_ofE (l := PySem.Challenge.rw_whatindex_k01_values_known) (n := 63) (k := 4) (x := "_law_script") (CX := L2.CX0) rfl (by decide) (by kernel_rfl) ⟨rfl, by decide, by decide⟩ ?F (fun _ _ _ _ z => z)
    intro w mg fa h Y G hmg0
    obtain ⟨K, KX, c⟩ := Y
    have hmg : mg ("law" : PySem.Str) = some (.ref fa) := by
      have e : (HandSHeadRun.topDef (OpenLaw.row PySem.Challenge.rw_whatindex_k01_values_known).prog 16).name = ("law" : PySem.Str) := by kernel_rfl
      rw [← e]
      exact hmg0
    obtain ⟨fd, hb, hF⟩ := Wk.facts (P := (PySem.Challenge.rw_whatindex_k01_values_known).prog) (w := w) KX G hmg c
    exact ⟨K, fd, Wk.spLaw K, KX, hb, fun H a ns hl hO hS => ⟨a, ns, rfl, hS, hl, Wk.only_whole hO, fun _ => rfl⟩, hF⟩




