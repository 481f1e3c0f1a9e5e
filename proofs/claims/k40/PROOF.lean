import PyProof.Rows.All
import Wide.All
import OpenK.AllK
import Wide.FinOn
import HandS.ForMost
import HandS.Exc
import HandS.ExcOwn
import HandS.WordsExc
import HandS.IsInst
import HandS.Zip
import HandS.Codes
import HandS.Walk
import KE.GoesZip
import KE.GoesMore
import HandS.DictComp
import HandS.DeepEq
import HandS.TupLen
import KE.KDictCopyH
import PySem.Challenge.RW_oneplainrun_k40_whole_what_stores_find
set_option Elab.async false
set_option linter.all false
set_option maxRecDepth 100000
set_option maxHeartbeats 4000000
/-! P1: bundles of a def, a method, a class; rules with K told; data of tuples; frames -/
namespace Hq
open PySem PySem.Spec PyProof.Rows L2

/-! ### what the module's names hold -/
def GlV (mg : Str → Option Value) (x : Str) (v : V) : Prop := ∃ u, mg x = some u ∧ RelV v u
theorem pe_gl {X : Cx} {x : Str} {v : V} {pos : Pos} (hg : Gl X x) (h : GlV X.mg x v) (hd : (x == ("__debug__" : Str)) = false := by decide) : PE X (.Name x pos) (tC v) := by
  obtain ⟨u, hm, r⟩ := h
  exact pe_glob hg hm r hd
theorem pe_ty (n : String) {X : Cx} {x : Str} {pos : Pos} (hg : Gl X x) (hm : X.mg x = none) (hv : bootBuiltins x = some (.type n)) (hn : x ≠ "__name__" := by decide) (hd : (x == ("__debug__" : Str)) = false := by decide) : PE X (.Name x pos) (tC (.ty n)) :=
  pe_bltn hg hm hv rfl hn hd

/-! ### a def, a method, a class, as callers see them -/
structure Dn (P : Program) (w : World) (K : PySem.W.Frag) (mg : Str → Option Value) (base : Heap) (x : Str) (k : Nat) (ps : List Str) (sp : Sp) : Prop where
  ok : ∃ f fd, FnOk P w K mg base (L2.CX P w) k f fd ps sp ∧ mg x = some (.ref f) ∧ PySem.W.keepIn K (.ref f) = true ∧ Binds K fd ps []
structure Mn (P : Program) (w : World) (K : PySem.W.Frag) (mg : Str → Option Value) (base : Heap) (C : Addr) (m : Str) (k : Nat) (ps : List Str) (sp : Sp) : Prop where
  cl : Cls K C
  ok : ∃ f fd, FnOk P w K mg base (L2.CX P w) k f fd ps sp ∧ Meth K C m f ∧ Binds K fd ps []
structure Cn (P : Program) (w : World) (K : PySem.W.Frag) (mg : Str → Option Value) (base : Heap) (x : Str) (C : Addr) (k : Nat) (ps : List Str) (sp : Sp) : Prop where
  mgC : mg x = some (.ref C)
  ok : ∃ f fd, FnOk P w K mg base (L2.CX P w) k f fd ps sp ∧ Mk K C f ∧ Binds K fd ps []
section
variable {P : Program} {w : World} {K : PySem.W.Frag} {mg : Str → Option Value} {base : Heap} {x : Str} {k j : Nat} {ps : List Str} {sp sp' : Sp} {C : Addr} {m : Str}
theorem Dn.imp (D : Dn P w K mg base x k ps sp) (h : ∀ vs H Q E, sp' vs H Q E → sp vs H Q E) : Dn P w K mg base x k ps sp' := by
  obtain ⟨f, fd, F, a, b, c⟩ := D.ok
  exact ⟨f, fd, F.imp h, a, b, c⟩
theorem Mn.imp (D : Mn P w K mg base C m k ps sp) (h : ∀ vs H Q E, sp' vs H Q E → sp vs H Q E) : Mn P w K mg base C m k ps sp' := by
  obtain ⟨f, fd, F, a, b⟩ := D.ok
  exact ⟨D.cl, f, fd, F.imp h, a, b⟩
theorem Dn.up (D : Dn P w K mg base x j ps sp) (h : j ≤ k) : Dn P w K mg base x k ps sp := by
  obtain ⟨f, fd, F, a, b, c⟩ := D.ok
  exact ⟨f, fd, F.mono h, a, b, c⟩
end
section
variable {X : Cx} {k : Nat} {ps : List Str} {sp : Sp} {C : Addr} {x m : Str} {p pos apos : Pos} {e o : Expr} {es : List Expr} {ta : TE} {t : TA}
theorem pe_d (D : Dn X.prog X.w X.K X.mg X.base x k ps sp) (E : XK) (hr : Room k X.A) (hg : Gl X x) (hx : Passes (L2.CX X.prog X.w) X E) (ha : PA X (e :: es) t) (hdb : (x == ("__debug__" : Str)) = false := by decide)
    (he : starEach (e :: es) X.env = (false, eval e X.env) :: starEach es X.env := by rfl) (hpl : (backTo pos (starEach es X.env)).any (·.1) = false := by rfl) :
    PE X (.Call (.Name x p) (e :: es) [] pos) (tCall sp [] E t) := by
  obtain ⟨f, fd, F, a, b, c⟩ := D.ok
  exact pe_call F hr hg a b c .nil hx ha hdb he hpl
theorem pe_d0 (D : Dn X.prog X.w X.K X.mg X.base x k ps sp) (E : XK) (hr : Room k X.A) (hg : Gl X x) (hx : Passes (L2.CX X.prog X.w) X E) (hdb : (x == ("__debug__" : Str)) = false := by decide) :
    PE X (.Call (.Name x p) [] [] pos) (tCall sp [] E tNil) := by
  obtain ⟨f, fd, F, a, b, c⟩ := D.ok
  exact pe_call0 F hr hg a b c .nil hx hdb
theorem pe_m (D : Mn X.prog X.w X.K X.mg X.base C m k ps sp) (E : XK) (hr : Room k X.A) (he : PE X o ta) (hx : Passes (L2.CX X.prog X.w) X E) (ha : PA X (e :: es) t) (pl : Sem Bool)
    (hst : starEach (e :: es) X.env = (false, eval e X.env) :: starEach es X.env := by rfl) (hpl : (backTo pos (starEach es X.env)).any (·.1) = false := by rfl)
    (ht : eval (.Call (.Attribute o m apos) (e :: es) [] pos) X.env = (do
      let v ← eval o X.env
      standAt apos.atName
      let (g, fs) ← holding [v] (getMethod v m pl)
      callWith pos g fs (backTo pos (starEach (e :: es) X.env)) (backToKw pos (keywordEach [] X.env))) := by rfl) :
    PE X (.Call (.Attribute o m apos) (e :: es) [] pos) (tMeth C m sp [] E ta t) := by
  obtain ⟨f, fd, F, a, b⟩ := D.ok
  exact pe_meth (pl := pl) he D.cl a F hr b .nil hx ha hst hpl ht
theorem pe_m0 (D : Mn X.prog X.w X.K X.mg X.base C m k ps sp) (E : XK) (hr : Room k X.A) (he : PE X o ta) (hx : Passes (L2.CX X.prog X.w) X E) (pl : Sem Bool)
    (ht : eval (.Call (.Attribute o m apos) [] [] pos) X.env = (do
      let v ← eval o X.env
      standAt apos.atName
      let (g, fs) ← holding [v] (getMethod v m pl)
      callWith pos g fs (backTo pos (starEach [] X.env)) (backToKw pos (keywordEach [] X.env))) := by rfl) :
    PE X (.Call (.Attribute o m apos) [] [] pos) (tMeth C m sp [] E ta tNil) := by
  obtain ⟨f, fd, F, a, b⟩ := D.ok
  exact pe_meth0 (pl := pl) he D.cl a F hr b .nil hx ht
theorem pe_c (D : Cn X.prog X.w X.K X.mg X.base x C k ps sp) (E : XK) (hr : Room (k + 1) X.A) (hg : Gl X x) (hx : Passes (L2.CX X.prog X.w) X E) (ha : PA X (e :: es) t) (hdb : (x == ("__debug__" : Str)) = false := by decide)
    (he : starEach (e :: es) X.env = (false, eval e X.env) :: starEach es X.env := by rfl) (hpl : (backTo pos (starEach es X.env)).any (·.1) = false := by rfl) :
    PE X (.Call (.Name x p) (e :: es) [] pos) (tMake C sp [] E t) := by
  obtain ⟨f, fd, F, M, b⟩ := D.ok
  exact pe_make M F hr hg D.mgC b .nil hx ha hdb he hpl
theorem pe_c0 (D : Cn X.prog X.w X.K X.mg X.base x C k ps sp) (E : XK) (hr : Room (k + 1) X.A) (hg : Gl X x) (hx : Passes (L2.CX X.prog X.w) X E) (hdb : (x == ("__debug__" : Str)) = false := by decide) :
    PE X (.Call (.Name x p) [] [] pos) (tMake C sp [] E tNil) := by
  obtain ⟨f, fd, F, M, b⟩ := D.ok
  exact pe_make0 M F hr hg D.mgC b .nil hx hdb
end
theorem dn_mk {P : Program} {w : World} {K : PySem.W.Frag} {mg : Str → Option Value} {base : Heap} {x q : Str} {st : Stmt} {f : Addr} {fd : FuncData} {k : Nat} {ps : List Str} {sp : Sp} (F : Fun K x q st f fd) (hm : mg x = some (.ref f)) (b : Binds K fd ps [])
    (ok : FnOk P w K mg base (L2.CX P w) k f fd ps sp) : Dn P w K mg base x k ps sp := ⟨⟨f, fd, ok, hm, F.kp, b⟩⟩
theorem mn_mk {P : Program} {w : World} {K : PySem.W.Frag} {mg : Str → Option Value} {base : Heap} {C : Addr} {x q : Str} {st : Stmt} {f : Addr} {fd : FuncData} {k : Nat} {ps : List Str} {sp : Sp} (c : Cls K C) (F : Fun K x q st f fd) (m : Meth K C x f) (b : Binds K fd ps [])
    (ok : FnOk P w K mg base (L2.CX P w) k f fd ps sp) : Mn P w K mg base C x k ps sp := ⟨c, f, fd, ok, m, b⟩
/-- what holds of all smaller ones -/
theorem fn_less {P : Program} {w : World} {K : PySem.W.Frag} {mg : Str → Option Value} {base : Heap} {f : Addr} {fd : FuncData} {k n : Nat} {ps : List Str} {sp : Nat → Sp} (h : ∀ m, m < n → FnOk P w K mg base (L2.CX P w) k f fd ps (sp m)) :
    FnOk P w K mg base (L2.CX P w) k f fd ps (fun vs H Q E => ∃ m, m < n ∧ sp m vs H Q E) :=
  ⟨fun vs H Q E ⟨m, hm, q⟩ => (h m hm).len vs H Q E q, fun A outer s H args us vs Q E hr he hb hv ⟨m, hm, q⟩ => (h m hm).run A outer s H args us vs Q E hr he hb hv q⟩
/-- a def that calls itself, by a size -/
theorem fn_rec {P : Program} {w : World} {K : PySem.W.Frag} {mg : Str → Option Value} {base : Heap} {x q : Str} {st : Stmt} {f : Addr} {fd : FuncData} {k : Nat} {ps : List Str} {sp : Nat → Sp} (F : Fun K x q st f fd) (hm : mg x = some (.ref f)) (b : Binds K fd ps [])
    (step : ∀ n, Dn P w K mg base x (k + n) ps (fun vs H Q E => ∃ m, m < n ∧ sp m vs H Q E) → FnOk P w K mg base (L2.CX P w) (k + n + 1) f fd ps (sp n)) : ∀ n, FnOk P w K mg base (L2.CX P w) (k + n + 1) f fd ps (sp n) := by
  intro n
  induction n using Nat.strongRecOn with
  | ind n ih => exact step n (dn_mk F hm b (fn_less fun m hm => (ih m hm).mono (by omega)))
/-- a def's body in which nothing is raised -/
theorem okN {P : Program} {w : World} {K : PySem.W.Frag} {mg : Str → Option Value} {base : Heap} {x qual : Str} {st : Stmt} {f : Addr} {fd : FuncData} {N ps : List Str} {k : Nat} {sp : Sp} (F : Fun K x qual st f fd) (S : FnScope N ps (defScope st))
    (len : ∀ vs H Q E, sp vs H Q E → vs.length = ps.length)
    (hb : ∀ (cdv : Value) (A : Around) (outer : List Env) (s : Shared) (H : Hp) (vs : List V) (Q : VK) (E : XK), Room k (A.deeper (envOfC qual (defScope st) s.heap.objs.size f cdv)) → sp vs H Q E →
      ∃ t σ, L2.start N vs = σ ∧ PSs (cxOf (L2.CX P w) P w K mg base N qual (defScope st) f cdv A outer s H E).nox (defBody st) t ∧ t { nx := fun _ H' => Q .non H', rt := Q } σ H) : FnOk P w K mg base (L2.CX P w) (k + 1) f fd ps sp :=
  F.okX S len fun cdv A outer s H vs Q E hr hs => by
    obtain ⟨t, σ, e, h, q⟩ := hb cdv A outer s H vs Q E hr hs
    cases e
    exact ⟨t, h.nox, q⟩

/-! ### the layer's rules, the written part told by its own letter -/
section
variable {X : Cx} {K : PySem.W.Frag}
theorem kIxL (h : X.K = K := by rfl) : IxR X (rIxL K) := by cases h; exact ix_list
theorem kIxT (h : X.K = K := by rfl) : IxR X (rIxT K) := by cases h; exact ix_tup
theorem kSlL (h : X.K = K := by rfl) : SlR X (rSlL K) := by cases h; exact sl_list
theorem kSlT (h : X.K = K := by rfl) : SlR X (rSlT K) := by cases h; exact sl_tup
theorem kPiL {tg l : Expr} {tl : TE} (hl : PE X l tl) (h : X.K = K := by rfl) : PI X tg l (iList K tl) := by cases h; exact pi_list hl
theorem kPiT {tg l : Expr} {tl : TE} (hl : PE X l tl) (h : X.K = K := by rfl) : PI X tg l (iTup K tl) := by cases h; exact pi_tup hl
theorem kFld {e : Expr} {f : Str} {ta : TE} {pos : Pos} (he : PE X e ta) (hb : attributeBase e f X.env (eval e X.env) = eval e X.env) (h : X.K = K := by rfl) : PE X (.Attribute e f pos) (tFld K ta f) := by
  cases h; exact pe_fld he hb
theorem kSFld {o value : Expr} {f : Str} {ta tv : TE} {pos pos' : Pos} (ha : PE X o ta) (hv : PE X value tv) (hs : swapsWith value (some (.Attribute o f pos')) pos.line X.env = pure false) (h : X.K = K := by rfl) :
    PS X (.Assign [.Attribute o f pos'] value pos) (sFld K ta tv f) := by cases h; exact ps_fld ha hv hs
def rLen (K : PySem.W.Frag) : List V → Hp → VK → Prop := fun xs H Q => ∃ p ys, xs = [.ref p] ∧ (SqL K H p ys ∨ SqT K H p ys) ∧ Q (.int ys.length) H
theorem kLen (h : X.K = K := by rfl) : CallR X (.builtin "len") (rLen K) := by cases h; exact call_len_seq
def rListOf (K : PySem.W.Frag) : List V → Hp → VK → Prop := fun xs H Q => ∃ p ys, xs = [.ref p] ∧ (SqL K H p ys ∨ SqT K H p ys) ∧ ∀ l, H l = none → Q (.ref l) (upd H l (.lst ys))
theorem kListOf (h : X.K = K := by rfl) : CallR X (.type "list") (rListOf K) := by cases h; exact call_list_of
def rTupOf (K : PySem.W.Frag) : List V → Hp → VK → Prop := fun xs H Q => ∃ p ys, xs = [.ref p] ∧ ((SqL K H p ys ∧ ∀ l, H l = none → Q (.ref l) (upd H l (.tup ys))) ∨ (SqT K H p ys ∧ Q (.ref p) H))
theorem kTupOf (h : X.K = K := by rfl) : CallR X (.type "tuple") (rTupOf K) := by cases h; exact call_tuple_of
theorem kSum (hc : X.calm = true := by rfl) (h : X.K = K := by rfl) : CallR X (.builtin "sum") (rSum K) := by cases h; exact cr_sum hc
theorem kAll (hc : X.calm = true := by rfl) (h : X.K = K := by rfl) : CallR X (.builtin "all") (rAll K) := by cases h; exact cr_all hc
theorem kAny (hc : X.calm = true := by rfl) (h : X.K = K := by rfl) : CallR X (.builtin "any") (rAny K) := by cases h; exact cr_any hc
theorem kEqD (hu : X.A.units + 64 < cLine) (h : X.K = K := by rfl) : OpR X (compareOp .Eq) (rEqD K) := by cases h; exact op_eqD hu
theorem kNeD (hu : X.A.units + 64 < cLine) (h : X.K = K := by rfl) : OpR X (compareOp .NotEq) (rNeD K) := by cases h; exact op_neD hu
theorem kIn (h : X.K = K := by rfl) : OpR X (compareOp .In) (rIn K false) := by cases h; exact op_in_seq
theorem kNotIn (h : X.K = K := by rfl) : OpR X (compareOp .NotIn) (rIn K true) := by cases h; exact op_notIn_seq
theorem kTupT {es : List Expr} {k : Nat} {t : TGs} {n : Nat} {pos : Pos} (hp : PGs X es t) (hc : X.calm = true := by rfl) (h : X.K = K := by rfl) (hn : (assignEach es X.env).length = n := by rfl) (hst : (assignEach es X.env).findIdx? (·.1) = none := by rfl) :
    PG X (.Tuple es k pos) (gTup K n t) := by cases h; exact pg_tup hc hp hn hst
theorem kCatT (h : X.K = K := by rfl) : OpR X (binaryOp .Add) (rCatT K) := by cases h; exact op_catT
theorem kIsi (h : X.K = K := by rfl) : CallR X (.builtin "isinstance") (rIsi K) := by cases h; exact call_isi
theorem kIsiT (h : X.K = K := by rfl) : CallR X (.builtin "isinstance") (rIsiT K) := by cases h; exact call_isiT
def tApp (K : PySem.W.Frag) (to te : TE) : TE := tBM K "list" rAppend to (tCons te tNil)
theorem kApp {o e : Expr} {to te : TE} {apos cpos : Pos} (ho : PE X o to) (ha : PE X e te) (hbase : attributeBase o "append" X.env (eval o X.env) = eval o X.env := by rfl)
    (hfew : ((backTo cpos (starEach [e] X.env)).all (fun x => !x.1) && (backToKw cpos (keywordEach [] X.env)).all (fun x => x.1.isSome)
      && decide (([e] : List Expr).length + ([] : List Keyword).length + (if ([] : List Keyword).isEmpty then 0 else 1) < 30)) = true := by rfl)
    (hline : (apos.endLine == cpos.line) = true := by rfl) (hs : starEach [e] X.env = (false, eval e X.env) :: starEach [] X.env := by rfl)
    (h : X.K = K := by rfl) : PE X (.Call (.Attribute o "append" apos) [e] [] cpos) (tApp K to te) := by
  cases h
  exact pe_bm PySem.F.plainAttrs_list PySem.F.slot_list_append PySem.F.type_list_append mt_append ho (pa_cons ha pa_nil hs) hbase hfew hline hs rfl
end

section
variable {X : Cx} {K : PySem.W.Frag}
theorem kBm {T id : String} {o e : Expr} {es : List Expr} {to : TE} {t : TA} {name : Str} {apos cpos : Pos} {r : V → List V → Hp → VK → Prop} (pa : PlainAttrs T) (slot : Slot T name id) (hty : typeOf (.builtin id) = pure (.type "method_descriptor")) (hm : MtR X id r) (ho : PE X o to) (ha : PA X (e :: es) t)
    (hbase : attributeBase o name X.env (eval o X.env) = eval o X.env := by rfl)
    (hfew : ((backTo cpos (starEach (e :: es) X.env)).all (fun x => !x.1) && (backToKw cpos (keywordEach [] X.env)).all (fun x => x.1.isSome)
      && decide ((e :: es : List Expr).length + ([] : List Keyword).length + (if ([] : List Keyword).isEmpty then 0 else 1) < 30)) = true := by rfl)
    (hline : (apos.endLine == cpos.line) = true := by rfl) (hs : starEach (e :: es) X.env = (false, eval e X.env) :: starEach es X.env := by rfl) (hplain : (backTo cpos (starEach es X.env)).any (·.1) = false := by rfl)
    (h : X.K = K := by rfl) : PE X (.Call (.Attribute o name apos) (e :: es) [] cpos) (tBM K T r to t) := by
  cases h
  exact pe_bm pa slot hty hm ho ha hbase hfew hline hs hplain
end
/-! ### data made of tuples: it stands for good -/
mutual
inductive TD (H : Hp) : V → PyData → Prop
  | non : TD H .non .none
  | bl (b : Bool) : TD H (.bl b) (.bool b)
  | int (i : Int) : TD H (.int i) (.int i)
  | str (x : Str) : TD H (.str x) (.str x)
  | tup {a : Addr} {xs : List V} {ds : List PyData} : H a = some (.tup xs) → TDs H xs ds → TD H (.ref a) (.tuple ds)
inductive TDs (H : Hp) : List V → List PyData → Prop
  | nil : TDs H [] []
  | cons {v : V} {vs : List V} {d : PyData} {ds : List PyData} : TD H v d → TDs H vs ds → TDs H (v :: vs) (d :: ds)
end
/-- tuples stay -/
def Tp (H H' : Hp) : Prop := ∀ a xs, H a = some (.tup xs) → H' a = some (.tup xs)
theorem Tp.refl (H : Hp) : Tp H H := fun _ _ h => h
theorem Tp.trans {H H1 H2 : Hp} (a : Tp H H1) (b : Tp H1 H2) : Tp H H2 := fun c o h => b c o (a c o h)
mutual
theorem TD.mono {H H' : Hp} (t : Tp H H') : ∀ (d : PyData) (v : V), TD H v d → TD H' v d
  | .none, _, h => by cases h; exact .non
  | .bool _, _, h => by cases h; exact .bl _
  | .int _, _, h => by cases h; exact .int _
  | .str _, _, h => by cases h; exact .str _
  | .tuple ds, _, h => by
    cases h with
    | tup e q => exact .tup (t _ _ e) (TDs.mono t ds _ q)
  | .list _, _, h => by cases h
  | .dict _, _, h => by cases h
theorem TDs.mono {H H' : Hp} (t : Tp H H') : ∀ (ds : List PyData) (vs : List V), TDs H vs ds → TDs H' vs ds
  | [], _, h => by cases h; exact .nil
  | d :: ds, _, h => by
    cases h with
    | cons h1 h2 => exact .cons (TD.mono t d _ h1) (TDs.mono t ds _ h2)
end
mutual
theorem TD.dp {K : PySem.W.Frag} {H : Hp} : ∀ (d : PyData) (v : V), TD H v d → Dp K H v d
  | .none, _, h => by cases h; exact .non
  | .bool _, _, h => by cases h; exact .bl _
  | .int _, _, h => by cases h; exact .int _
  | .str _, _, h => by cases h; exact .str _
  | .tuple ds, _, h => by
    cases h with
    | tup e q => exact .tup (SqT.of e) (TDs.dp ds _ q)
  | .list _, _, h => by cases h
  | .dict _, _, h => by cases h
theorem TDs.dp {K : PySem.W.Frag} {H : Hp} : ∀ (ds : List PyData) (vs : List V), TDs H vs ds → DpAll K H vs ds
  | [], _, h => by cases h; exact .nil
  | d :: ds, _, h => by
    cases h with
    | cons h1 h2 => exact .cons (TD.dp d _ h1) (TDs.dp ds _ h2)
end
section
variable {H H' : Hp} {vs us : List V} {ds es : List PyData} {v : V} {d : PyData} {i : Nat}
theorem TDs.length (h : TDs H vs ds) : vs.length = ds.length := by
  induction ds generalizing vs with
  | nil => cases h; rfl
  | cons d ds ih =>
    cases h with
    | cons h1 h2 => simp only [List.length_cons, ih h2]
theorem TDs.app (h : TDs H vs ds) (g : TDs H us es) : TDs H (vs ++ us) (ds ++ es) := by
  induction ds generalizing vs with
  | nil => cases h; exact g
  | cons d ds ih =>
    cases h with
    | cons h1 h2 => exact .cons h1 (ih h2)
theorem TDs.snoc (h : TDs H vs ds) (g : TD H v d) : TDs H (vs ++ [v]) (ds ++ [d]) := h.app (.cons g .nil)
theorem TDs.at_ (h : TDs H vs ds) (e : vs[i]? = some v) : ∃ d, ds[i]? = some d ∧ TD H v d := by
  induction ds generalizing vs i with
  | nil => cases h; cases e
  | cons d ds ih =>
    cases h with
    | cons h1 h2 =>
      cases i with
      | zero => cases e; exact ⟨d, rfl, h1⟩
      | succ i =>
        obtain ⟨d, a, b⟩ := ih h2 (by simpa using e)
        exact ⟨d, a, b⟩
theorem TDs.to_ (h : TDs H vs ds) (e : ds[i]? = some d) : ∃ v, vs[i]? = some v ∧ TD H v d := by
  induction ds generalizing vs i with
  | nil => cases e
  | cons d' ds ih =>
    cases h with
    | cons h1 h2 =>
      cases i with
      | zero => cases e; exact ⟨_, rfl, h1⟩
      | succ i =>
        obtain ⟨v, a, b⟩ := ih h2 e
        exact ⟨v, a, b⟩
theorem TDs.take (n : Nat) (h : TDs H vs ds) : TDs H (vs.take n) (ds.take n) := by
  induction ds generalizing vs n with
  | nil => cases h; rw [List.take_nil, List.take_nil]; exact .nil
  | cons d ds ih =>
    cases h with
    | cons h1 h2 =>
      cases n with
      | zero => exact .nil
      | succ n => exact .cons h1 (ih n h2)
theorem TDs.drop (n : Nat) (h : TDs H vs ds) : TDs H (vs.drop n) (ds.drop n) := by
  induction ds generalizing vs n with
  | nil => cases h; rw [List.drop_nil, List.drop_nil]; exact .nil
  | cons d ds ih =>
    cases h with
    | cons h1 h2 =>
      cases n with
      | zero => exact .cons h1 h2
      | succ n => exact ih n h2
end

theorem fresh_ne {H : Hp} {p D : Addr} {o : HO} (h : upd H p o D = none) : D ≠ p := fun z => by
  rw [z, upd_same] at h
  cases h
theorem upd_old {H : Hp} {p b : Addr} {o o' : HO} (hp : H p = none) (hb : H b = some o) : upd H p o' b = some o := by
  rw [upd_ne (ne_of_none hb hp)]
  exact hb
theorem fresh_of {H : Hp} {p D : Addr} {o : HO} (h : upd H p o D = none) : H D = none := by
  rw [upd_ne (fresh_ne h)] at h
  exact h
/-! ### frames -/
/-- all but ms is as it was, tuples are there -/
structure Fr (ms : List Addr) (H H' : Hp) : Prop where
  keep : ∀ b o, b ∉ ms → H b = some o → H' b = some o
  tup : Tp H H'
section
variable {ms ns : List Addr} {H H1 H2 : Hp} {p : Addr} {o o' : HO}
theorem Fr.refl (H : Hp) : Fr ms H H := ⟨fun _ _ _ h => h, Tp.refl H⟩
theorem Fr.trans (a : Fr ms H H1) (b : Fr ms H1 H2) : Fr ms H H2 := ⟨fun c o n h => b.keep c o n (a.keep c o n h), a.tup.trans b.tup⟩
theorem Fr.mono (a : Fr ms H H1) (h : ∀ b, b ∈ ms → b ∈ ns) : Fr ns H H1 := ⟨fun c o n e => a.keep c o (fun z => n (h c z)) e, a.tup⟩
theorem Fr.same (a : Fr [] H H1) : Same H H1 := fun b o e => a.keep b o (List.not_mem_nil) e
theorem Fr.ofSame (s : Same H H1) : Fr ms H H1 := ⟨fun b o _ e => s b o e, fun a xs e => s a _ e⟩
theorem Fr.new (a : Fr ms H H1) (h : H1 p = none) : Fr ms H (upd H1 p o) := by
  refine ⟨fun b u n e => ?_, fun b xs e => ?_⟩
  · have q := a.keep b u n e
    rw [upd_ne (ne_of_none q h)]
    exact q
  · have q := a.tup b xs e
    rw [upd_ne (ne_of_none q h)]
    exact q
theorem Fr.up (h : H p = none) : Fr ms H (upd H p o) := (Fr.refl H).new h
/-- a list, an instance .. is written: it is one of ms, or new -/
theorem Fr.wr (a : Fr ms H H1) (h : H1 p = some o) (m : Mut (some o)) (hp : p ∈ ms ∨ H p = none) : Fr ms H (upd H1 p o') := by
  refine ⟨fun b u n e => ?_, fun b xs e => ?_⟩
  · have ne : b ≠ p := fun z => by
      rcases hp with q | q
      · exact n (z ▸ q)
      · rw [z, q] at e; cases e
    rw [upd_ne ne]
    exact a.keep b u n e
  · have q := a.tup b xs e
    have ne : b ≠ p := fun z => by
      rw [z, h] at q
      cases q
      exact m
    rw [upd_ne ne]
    exact q
theorem Fr.wl {xs : List V} (a : Fr ms H H1) (h : H1 p = some (.lst xs)) (hp : p ∈ ms ∨ H p = none) : Fr ms H (upd H1 p o') := a.wr h trivial hp
theorem Fr.wi {C dx : Addr} {fs : List (Str × V)} (a : Fr ms H H1) (h : H1 p = some (.ins C dx fs)) (hp : p ∈ ms ∨ H p = none) : Fr ms H (upd H1 p o') := a.wr h trivial hp
/-- what was not there ahead may be of ms -/
theorem Fr.cut (a : Fr (ms ++ ns) H H1) (h : ∀ b, b ∈ ns → H b = none) : Fr ms H H1 := by
  refine ⟨fun c o n e => a.keep c o (fun z => ?_) e, a.tup⟩
  rcases List.mem_append.mp z with q | q
  · exact n q
  · rw [h c q] at e
    cases e
theorem Fr.free (a : Fr [] H H1) (h : H1 p = none) : H p = none := a.same.free h
theorem Fr.back (a : Fr ms H H1) (n : p ∉ ms) (h : H1 p = none) : H p = none := by
  cases q : H p with
  | none => rfl
  | some o =>
    rw [a.keep p o n q] at h
    cases h
end
end Hq

/-! P2: readings step by step -/
namespace Hq
open PySem PySem.Spec PyProof.Rows L2
section
variable {σ : L2.St} {H : Hp} {Q : VK} {QT : Bool → Hp → Prop} {QA : List V → Hp → Prop} {D : Ends} {te ta tb tc : TE} {t u : TT} {ts us : TS} {tA tr : TA} {v x y : V} {i : Nat} {n j : Int} {K : PySem.W.Frag} {r r' : R2} {a p C dx : Addr} {fs : List (Str × V)} {f m : Str} {xs ys : List V} {sp : Sp} {E : XK}
theorem st_var (h : σ[i]? = some (some v)) (q : Q v H) : tVar i σ H Q := ⟨v, h, q⟩
theorem st_c (q : Q v H) : tC v σ H Q := q
theorem st_op (q : ta σ H fun x H1 => tb σ H1 fun y H2 => r x y H2 Q) : tOp r ta tb σ H Q := q
theorem st_un {r : V → Hp → VK → Prop} (q : ta σ H fun x H1 => r x H1 Q) : tUn r ta σ H Q := q
theorem st_I {c : Int → Int → Prop} {g : Int → Int → V} (h : c n j) (q : Q (g n j) H) : rI c g (.int n) (.int j) H Q := ⟨n, j, rfl, rfl, h, q⟩
theorem st_I0 {g : Int → Int → V} (q : Q (g n j) H) : rI0 g (.int n) (.int j) H Q := ⟨n, j, rfl, rfl, q⟩
theorem st_U {g : Int → V} (q : Q (g n) H) : rU g (.int n) H Q := ⟨n, rfl, q⟩
theorem st_eq (h : scal x y = true) (q : Q (.bl (decide (x = y))) H) : rEq x y H Q := ⟨h, q⟩
theorem st_ne (h : scal x y = true) (q : Q (.bl (!decide (x = y))) H) : rNe x y H Q := ⟨h, q⟩
theorem st_test (q : te σ H fun x H' => ∃ k, x = .bl k ∧ QT k H') : tTest te σ H QT := q
theorem st_B (q : te σ H fun x H' => ∃ k, x = .bl k ∧ QT k H') : tB te σ H QT := q
theorem st_bl {b : Bool} {R : Bool → Prop} (q : R b) : ∃ k, V.bl b = .bl k ∧ R k := ⟨b, rfl, q⟩
theorem st_isN (q : ta σ H fun x H1 => Q (.bl (decide (x = .non))) H1) : tIsN ta σ H Q := q
theorem st_notN (q : ta σ H fun x H1 => Q (.bl (!decide (x = .non))) H1) : tNotN ta σ H Q := q
theorem st_chain (q : ta σ H fun x H1 => tb σ H1 fun y H2 => r x y H2 fun z H3 => ∃ k, z = .bl k ∧ (if k = true then tc σ H3 fun w' H4 => r' y w' H4 Q else Q (.bl false) H3)) : tChain r r' ta tb tc σ H Q := q
theorem st_and (q : t σ H fun c H1 => if c = true then u σ H1 QT else QT false H1) : tAnd t u σ H QT := q
theorem st_or (q : t σ H fun c H1 => if c = true then QT true H1 else u σ H1 QT) : tOr t u σ H QT := q
theorem st_not (q : t σ H fun c H1 => QT (!c) H1) : tNot t σ H QT := q
theorem st_andV (q : ta σ H fun x H1 => ∃ c, x = .bl c ∧ if c = true then tb σ H1 Q else Q (.bl false) H1) : tAndV ta tb σ H Q := q
theorem st_orV (q : ta σ H fun x H1 => ∃ c, x = .bl c ∧ if c = true then Q (.bl true) H1 else tb σ H1 Q) : tOrV ta tb σ H Q := q
theorem st_notV (q : ta σ H fun x H1 => ∃ c, x = .bl c ∧ Q (.bl (!c)) H1) : tNotV ta σ H Q := q
theorem st_if (q : t σ H fun c H1 => if c = true then ta σ H1 Q else tb σ H1 Q) : tIf t ta tb σ H Q := q
theorem st_CB {r : List V → Hp → VK → Prop} (q : tA σ H fun vs H1 => r vs H1 Q) : tCB r tA σ H Q := q
theorem st_cons (q : te σ H fun x H1 => tr σ H1 fun xs H2 => QA (x :: xs) H2) : tCons te tr σ H QA := q
theorem st_nil (q : QA [] H) : tNil σ H QA := q
theorem st_tup (q : tA σ H fun xs H1 => xs.length ≤ sizeLine ∧ ∀ p, H1 p = none → Q (.ref p) (upd H1 p (.tup xs))) : tTup tA σ H Q := q
theorem st_lst (q : tA σ H fun xs H1 => xs.length ≤ sizeLine ∧ ∀ p, H1 p = none → Q (.ref p) (upd H1 p (.lst xs))) : tLst tA σ H Q := q
theorem st_fld (q : ta σ H fun x H1 => ∃ a C dx fs v, x = .ref a ∧ H1 a = some (.ins C dx fs) ∧ Cls K C ∧ NoAttr K C f ∧ fs.lookup f = some v ∧ Q v H1) : tFld K ta f σ H Q := q
theorem st_call (q : tA σ H fun vs H1 => sp (vs ++ []) H1 Q E) : tCall sp [] E tA σ H Q := q
theorem st_meth (q : ta σ H fun x H1 => ∃ a dx fs, x = .ref a ∧ H1 a = some (.ins C dx fs) ∧ fs.lookup m = none ∧ tA σ H1 fun vs H2 => sp (x :: (vs ++ [])) H2 Q E) : tMeth C m sp [] E ta tA σ H Q := q
theorem st_make (q : tA σ H fun vs H1 => ∀ x dx, H1 x = none → H1 dx = none → dx ≠ x → sp (.ref x :: (vs ++ [])) (upd (upd H1 dx (.own x)) x (.ins C dx [])) (fun v H2 => v = .non ∧ Q (.ref x) H2) E) : tMake C sp [] E tA σ H Q := q
theorem st_sl {r : V → Option Int → Option Int → Hp → VK → Prop} {tl th : TO} (q : te σ H fun x H1 => tl σ H1 fun l H2 => th σ H2 fun u H3 => r x l u H3 Q) : tSl r te tl th σ H Q := q
theorem st_noPart {QO : Option Int → Hp → Prop} (q : QO none H) : tNoPart σ H QO := q
theorem st_part {QO : Option Int → Hp → Prop} (q : te σ H fun x H1 => ∃ i, x = .int i ∧ QO (some i) H1) : tPart te σ H QO := q
theorem st_int {R : Int → Prop} (q : R n) : ∃ i, V.int n = .int i ∧ R i := ⟨n, rfl, q⟩
theorem st_ixL (h : SqL K H p xs) (e : atI xs n = some v) (q : Q v H) : rIxL K (.ref p) (.int n) H Q := ⟨p, xs, n, v, rfl, rfl, h, e, q⟩
theorem st_ixT (h : SqT K H p xs) (e : atI xs n = some v) (q : Q v H) : rIxT K (.ref p) (.int n) H Q := ⟨p, xs, n, v, rfl, rfl, h, e, q⟩
theorem st_bm {T : String} {r : V → List V → Hp → VK → Prop} (q : ta σ H fun x H1 => tyV K T x H1 ∧ tA σ H1 fun xs H2 => r x xs H2 Q) : tBM K T r ta tA σ H Q := q
theorem st_app (q : ta σ H fun x H1 => tyV K "list" x H1 ∧ te σ H1 fun y H2 => rAppend x [y] H2 Q) : tApp K ta te σ H Q := q
theorem ty_lst (h : H p = some (.lst xs)) : tyV K "list" (.ref p) H := .inl ⟨rfl, _, SqL.of h⟩
theorem st_append (h : H p = some (.lst xs)) (l : xs.length < sizeLine) (q : Q .non (upd H p (.lst (xs ++ [v])))) : rAppend (.ref p) [v] H Q := ⟨p, xs, v, rfl, rfl, h, l, q⟩
theorem st_len {n : Nat} (h : SqL K H p xs ∨ SqT K H p xs) (q : Q (.int xs.length) H) : rLen K [.ref p] H Q := ⟨p, xs, rfl, h, q⟩
theorem st_listOf (h : SqL K H p xs ∨ SqT K H p xs) (q : ∀ l, H l = none → Q (.ref l) (upd H l (.lst xs))) : rListOf K [.ref p] H Q := ⟨p, xs, rfl, h, q⟩
theorem st_tupOf (h : SqL K H p xs) (q : ∀ l, H l = none → Q (.ref l) (upd H l (.tup xs))) : rTupOf K [.ref p] H Q := ⟨p, xs, rfl, .inl ⟨h, q⟩⟩
def rIntI : List V → Hp → VK → Prop := fun xs H Q => ∃ i, xs = [.int i] ∧ Q (.int i) H
theorem st_intI (q : Q (.int n) H) : rIntI [.int n] H Q := ⟨n, rfl, q⟩
theorem kInt {X : Cx} : CallR X (.type "int") rIntI := by
  intro pins s σ H xs us Q I r h
  exact call_int1 pins s σ H xs us Q I r (.inl h)
def rAbs : List V → Hp → VK → Prop := fun xs H Q => ∃ i, xs = [.int i] ∧ Q (.int (if i < 0 then -i else i)) H
theorem st_abs (q : Q (.int (if n < 0 then -n else n)) H) : rAbs [.int n] H Q := ⟨n, rfl, q⟩
theorem kAbs {X : Cx} : CallR X (.builtin "abs") rAbs := call_abs
theorem iteNT {A B : Prop} (h : B) : if (!true) = true then A else B := by simpa using h
theorem iteNF {A B : Prop} (h : A) : if (!false) = true then A else B := by simpa using h
theorem iteD {p A B : Prop} [Decidable p] (h1 : p → A) (h2 : ¬ p → B) : if decide p = true then A else B := by
  by_cases h : p
  · rw [if_pos (decide_eq_true h)]
    exact h1 h
  · rw [if_neg (by simpa using h)]
    exact h2 h
theorem iteDN {p A B : Prop} [Decidable p] (h1 : p → A) (h2 : ¬ p → B) : if (!decide p) = true then B else A := by
  by_cases h : p
  · rw [if_neg (by simpa using h)]
    exact h1 h
  · rw [if_pos (by simpa using h)]
    exact h2 h
theorem iteB {b : Bool} {A B : Prop} (h1 : b = true → A) (h2 : b = false → B) : if b = true then A else B := by
  cases b with
  | true => rw [if_pos rfl]; exact h1 rfl
  | false => rw [if_neg Bool.false_ne_true]; exact h2 rfl
theorem at0 {x : V} {xs : List V} : atI (x :: xs) 0 = some x := by
  have h := atI_nat (xs := x :: xs) (j := 0) (v := x) rfl
  exact h
theorem at1 {x y : V} {xs : List V} : atI (x :: y :: xs) 1 = some y := by
  have h := atI_nat (xs := x :: y :: xs) (j := 1) (v := y) rfl
  exact h
theorem at2 {x0 x1 x2 : V} {xs : List V} : atI (x0 :: x1 :: x2 :: xs) 2 = some x2 := by
  have h := atI_nat (xs := x0 :: x1 :: x2 :: xs) (j := 2) (v := x2) rfl
  exact h
theorem at3 {x0 x1 x2 x3 : V} {xs : List V} : atI (x0 :: x1 :: x2 :: x3 :: xs) 3 = some x3 := by
  have h := atI_nat (xs := x0 :: x1 :: x2 :: x3 :: xs) (j := 3) (v := x3) rfl
  exact h
theorem at4 {x0 x1 x2 x3 x4 : V} {xs : List V} : atI (x0 :: x1 :: x2 :: x3 :: x4 :: xs) 4 = some x4 := by
  have h := atI_nat (xs := x0 :: x1 :: x2 :: x3 :: x4 :: xs) (j := 4) (v := x4) rfl
  exact h
theorem at5 {x0 x1 x2 x3 x4 x5 : V} {xs : List V} : atI (x0 :: x1 :: x2 :: x3 :: x4 :: x5 :: xs) 5 = some x5 := by
  have h := atI_nat (xs := x0 :: x1 :: x2 :: x3 :: x4 :: x5 :: xs) (j := 5) (v := x5) rfl
  exact h
theorem at6 {x0 x1 x2 x3 x4 x5 x6 : V} {xs : List V} : atI (x0 :: x1 :: x2 :: x3 :: x4 :: x5 :: x6 :: xs) 6 = some x6 := by
  have h := atI_nat (xs := x0 :: x1 :: x2 :: x3 :: x4 :: x5 :: x6 :: xs) (j := 6) (v := x6) rfl
  exact h
theorem at7 {x0 x1 x2 x3 x4 x5 x6 x7 : V} {xs : List V} : atI (x0 :: x1 :: x2 :: x3 :: x4 :: x5 :: x6 :: x7 :: xs) 7 = some x7 := by
  have h := atI_nat (xs := x0 :: x1 :: x2 :: x3 :: x4 :: x5 :: x6 :: x7 :: xs) (j := 7) (v := x7) rfl
  exact h
theorem at8 {x0 x1 x2 x3 x4 x5 x6 x7 x8 : V} {xs : List V} : atI (x0 :: x1 :: x2 :: x3 :: x4 :: x5 :: x6 :: x7 :: x8 :: xs) 8 = some x8 := by
  have h := atI_nat (xs := x0 :: x1 :: x2 :: x3 :: x4 :: x5 :: x6 :: x7 :: x8 :: xs) (j := 8) (v := x8) rfl
  exact h
theorem ixN_nat {n k : Nat} (h : k < n) : ixN n (k : Int) = some k := by
  unfold ixN
  rw [if_pos (by omega), if_pos (by omega)]
  rfl
theorem ix0 {n : Nat} : ixN (n + 1) 0 = some 0 := ixN_nat (k := 0) (by omega)
theorem seq0 {n : Nat} : PySem.seqIndex? 0 (n + 1) = some 0 := by
  unfold PySem.seqIndex?
  simp
theorem and_left {A B : Prop} (h : A) (q : B) : A ∧ B := ⟨h, q⟩
theorem st_popAt {k : Nat} (h : H p = some (.lst xs)) (hk : PySem.seqIndex? 0 xs.length = some k) (e : xs[k]? = some v) (q : Q v (upd H p (.lst (xs.eraseIdx k)))) : rPopAt (.ref p) [.int 0] H Q :=
  ⟨p, xs, 0, k, v, rfl, rfl, h, by decide, by decide, hk, e, q⟩
theorem at_in {xs : List V} {n : Int} (h0 : 0 ≤ n) (h1 : n < xs.length) : ∃ v, v ∈ xs ∧ atI xs n = some v := by
  obtain ⟨j, e⟩ : ∃ j : Nat, n = (j : Int) := ⟨n.toNat, by omega⟩
  have hj : j < xs.length := by omega
  subst e
  exact ⟨xs[j], List.getElem_mem hj, atI_nat (List.getElem?_eq_getElem hj)⟩
theorem st_popAtN {k : Nat} (hl : xs.length ≤ 1000000) (h : H p = some (.lst xs)) (e : xs[k]? = some v) (q : Q v (upd H p (.lst (xs.eraseIdx k)))) : rPopAt (.ref p) [.int k] H Q := by
  have hk := (List.getElem?_eq_some_iff.mp e).1
  refine ⟨p, xs, k, k, v, rfl, rfl, h, by omega, by omega, ?_, e, q⟩
  unfold PySem.seqIndex?
  have h1 : ¬ ((k : Int) < 0) := by omega
  have h2 : ¬ ((xs.length : Int) ≤ (k : Int)) := by omega
  simp [h1, h2]
  omega
theorem look_cons (f g : Str) (v : V) (fs : List (Str × V)) : List.lookup g ((f, v) :: fs) = if g = f then some v else List.lookup g fs := by
  rw [List.lookup_cons]
  by_cases h : g = f
  · rw [if_pos h, h]; simp
  · rw [if_neg h]
    have : (g == f) = false := by simpa using h
    rw [this]
theorem put_cons (f g : Str) (v w : V) (fs : List (Str × V)) : putF g w ((f, v) :: fs) = if f = g then (f, w) :: fs else (f, v) :: putF g w fs := rfl
theorem put_nil (g : Str) (w : V) : putF g w [] = [(g, w)] := rfl
theorem at_mod {xs : List V} (t : Int) (h : 0 < xs.length) : ∃ j : Nat, j < xs.length ∧ t % (xs.length : Int) = (j : Int) ∧ atI xs (t % (xs.length : Int)) = xs[j]? := by
  have h0 : 0 ≤ t % (xs.length : Int) := Int.emod_nonneg _ (by omega)
  have h1 : t % (xs.length : Int) < xs.length := Int.emod_lt_of_pos _ (by omega)
  obtain ⟨j, e⟩ : ∃ j : Nat, t % (xs.length : Int) = (j : Int) := ⟨(t % (xs.length : Int)).toNat, by omega⟩
  have hj : j < xs.length := by omega
  refine ⟨j, hj, e, ?_⟩
  rw [e, List.getElem?_eq_getElem hj]
  exact atI_nat (List.getElem?_eq_getElem hj)
theorem st_ins {R : Addr → Addr → Addr → List (Str × V) → Prop} (h : H a = some (.ins C dx fs)) (c : Cls K C) (n : NoAttr K C f) (l : fs.length < 1000) (q : R a C dx fs) :
    ∃ a' C' dx' fs', V.ref a = .ref a' ∧ H a' = some (.ins C' dx' fs') ∧ Cls K C' ∧ NoAttr K C' f ∧ fs'.length < 1000 ∧ R a' C' dx' fs' := ⟨a, C, dx, fs, rfl, h, c, n, l, q⟩
theorem st_att {R : V → Prop} (h : H a = some (.ins C dx fs)) (c : Cls K C) (n : NoAttr K C f) (l : fs.lookup f = some v) (q : R v) :
    ∃ a' C' dx' fs' v', V.ref a = .ref a' ∧ H a' = some (.ins C' dx' fs') ∧ Cls K C' ∧ NoAttr K C' f ∧ fs'.lookup f = some v' ∧ R v' := ⟨a, C, dx, fs, v, rfl, h, c, n, l, q⟩
theorem st_mt {R : Addr → Prop} (h : H a = some (.ins C dx fs)) (l : fs.lookup m = none) (q : R a) : ∃ a' dx' fs', V.ref a = .ref a' ∧ H a' = some (.ins C dx' fs') ∧ fs'.lookup m = none ∧ R a' := ⟨a, dx, fs, rfl, h, l, q⟩
theorem st_extend (h : H a = some (.lst xs)) (h2 : H p = some (.lst ys)) (l : xs.length + ys.length ≤ sizeLine) (q : Q .non (upd H a (.lst (xs ++ ys)))) : rExtend (.ref a) [.ref p] H Q := ⟨a, p, xs, ys, rfl, rfl, h, h2, l, q⟩
/-! isinstance against a built-in class -/
theorem st_isi {t n : String} {b : Bool} (h : TyX K H x (.type t)) (e : kitB t n = some b) (q : Q (.bl b) H) : rIsi K [x, .ty n] H Q := ⟨x, .ty n, _, _, b, rfl, .ty n, h, kit_ty e, q⟩
theorem kit_NoneType_bool : kitB "NoneType" "bool" = some false := by decide +kernel
theorem kit_NoneType_int : kitB "NoneType" "int" = some false := by decide +kernel
theorem kit_NoneType_str : kitB "NoneType" "str" = some false := by decide +kernel
theorem kit_NoneType_tuple : kitB "NoneType" "tuple" = some false := by decide +kernel
theorem kit_NoneType_list : kitB "NoneType" "list" = some false := by decide +kernel
theorem kit_NoneType_dict : kitB "NoneType" "dict" = some false := by decide +kernel
theorem kit_bool_bool : kitB "bool" "bool" = some true := by decide +kernel
theorem kit_bool_int : kitB "bool" "int" = some true := by decide +kernel
theorem kit_bool_str : kitB "bool" "str" = some false := by decide +kernel
theorem kit_bool_tuple : kitB "bool" "tuple" = some false := by decide +kernel
theorem kit_bool_list : kitB "bool" "list" = some false := by decide +kernel
theorem kit_bool_dict : kitB "bool" "dict" = some false := by decide +kernel
theorem kit_int_bool : kitB "int" "bool" = some false := by decide +kernel
theorem kit_int_int : kitB "int" "int" = some true := by decide +kernel
theorem kit_int_str : kitB "int" "str" = some false := by decide +kernel
theorem kit_int_tuple : kitB "int" "tuple" = some false := by decide +kernel
theorem kit_int_list : kitB "int" "list" = some false := by decide +kernel
theorem kit_int_dict : kitB "int" "dict" = some false := by decide +kernel
theorem kit_str_bool : kitB "str" "bool" = some false := by decide +kernel
theorem kit_str_int : kitB "str" "int" = some false := by decide +kernel
theorem kit_str_str : kitB "str" "str" = some true := by decide +kernel
theorem kit_str_tuple : kitB "str" "tuple" = some false := by decide +kernel
theorem kit_str_list : kitB "str" "list" = some false := by decide +kernel
theorem kit_str_dict : kitB "str" "dict" = some false := by decide +kernel
theorem kit_tuple_bool : kitB "tuple" "bool" = some false := by decide +kernel
theorem kit_tuple_int : kitB "tuple" "int" = some false := by decide +kernel
theorem kit_tuple_str : kitB "tuple" "str" = some false := by decide +kernel
theorem kit_tuple_tuple : kitB "tuple" "tuple" = some true := by decide +kernel
theorem kit_tuple_list : kitB "tuple" "list" = some false := by decide +kernel
theorem kit_tuple_dict : kitB "tuple" "dict" = some false := by decide +kernel
theorem kit_list_bool : kitB "list" "bool" = some false := by decide +kernel
theorem kit_list_int : kitB "list" "int" = some false := by decide +kernel
theorem kit_list_str : kitB "list" "str" = some false := by decide +kernel
theorem kit_list_tuple : kitB "list" "tuple" = some false := by decide +kernel
theorem kit_list_list : kitB "list" "list" = some true := by decide +kernel
theorem kit_list_dict : kitB "list" "dict" = some false := by decide +kernel
theorem kit_dict_bool : kitB "dict" "bool" = some false := by decide +kernel
theorem kit_dict_int : kitB "dict" "int" = some false := by decide +kernel
theorem kit_dict_str : kitB "dict" "str" = some false := by decide +kernel
theorem kit_dict_tuple : kitB "dict" "tuple" = some false := by decide +kernel
theorem kit_dict_list : kitB "dict" "list" = some false := by decide +kernel
theorem kit_dict_dict : kitB "dict" "dict" = some true := by decide +kernel
/-! statements -/
theorem st_seq (q : ts { D with nx := us D } σ H) : tSeq ts us D σ H := q
theorem st_next (q : D.nx σ H) : tNext D σ H := q
theorem st_drop (q : te σ H fun _ H1 => D.nx σ H1) : tDrop te D σ H := q
theorem st_ret (q : te σ H D.rt) : tRet te D σ H := q
theorem st_retN (q : D.rt .non H) : tRetN D σ H := q
theorem st_ifS {c : TT} (q : c σ H fun b H1 => if b = true then ts D σ H1 else us D σ H1) : tIfS c ts us D σ H := q
theorem st_asg {g : TG} (q : te σ H fun x H1 => g x σ H1 D.nx) : tAsg te g D σ H := q
theorem st_name {QG : L2.St → Hp → Prop} (q : QG (σ.set i (some v)) H) : gName i v σ H QG := q
theorem st_par {j : Nat} (q : tA σ H fun vs H1 => ∃ v w, vs = [v, w] ∧ D.nx ((σ.set i (some v)).set j (some w)) H1) : tPar i j tA D σ H := q
theorem st_gtup {QG : L2.St → Hp → Prop} {k : Nat} {g : TGs} (h : SqT K H a xs) (hl : xs.length = k) (q : g xs σ H QG) : gTup K k g (.ref a) σ H QG := ⟨a, xs, rfl, h, hl, q⟩
theorem st_gcons {QG : L2.St → Hp → Prop} {g : TG} {gs : TGs} (q : g v σ H fun σ' H' => gs xs σ' H' QG) : gCons g gs (v :: xs) σ H QG := ⟨v, xs, rfl, q⟩
theorem st_gnil {QG : L2.St → Hp → Prop} (q : QG σ H) : gNil [] σ H QG := ⟨rfl, q⟩
theorem st_gsub {QG : L2.St → Hp → Prop} {st : TSet} (q : ta σ H fun o H1 => tb σ H1 fun i H2 => st o i v H2 fun H3 => QG σ H3) : gSub ta tb st v σ H QG := q
theorem st_setL {QH : Hp → Prop} {k : Nat} (h : H p = some (.lst xs)) (e : ixN xs.length n = some k) (q : QH (upd H p (.lst (xs.set k v)))) : rSetL (.ref p) (.int n) v H QH := ⟨p, xs, n, k, rfl, rfl, h, e, q⟩
theorem st_sFld {tv : TE} (q : tv σ H fun y H1 => ta σ H1 fun x H2 => ∃ a C dx fs, x = .ref a ∧ H2 a = some (.ins C dx fs) ∧ Cls K C ∧ NoAttr K C f ∧ fs.length < 1000 ∧ D.nx σ (upd H2 a (.ins C dx (putF f y fs)))) : sFld K ta tv f D σ H := q
end
end Hq

/-! P3: zip of two sequences, each a list or a tuple -/
namespace Hq
open PySem PySem.Spec PyProof.Rows L2

/-- tuples: true, lists: false -/
def SqB (b : Bool) (K : PySem.W.Frag) (H : Hp) (a : Addr) (xs : List V) : Prop := match b with
  | true => SqT K H a xs
  | false => SqL K H a xs
def hIter (b : Bool) (h : Heap) (it l : Addr) (i : Nat) : Prop := match b with
  | true => h.IsTupleIter it l i
  | false => h.IsListIter it l i
def hSeq (b : Bool) (h : Heap) (l : Addr) (vs : Array Value) : Prop := match b with
  | true => h.IsTuple l vs
  | false => h.IsList l vs
def itName (b : Bool) : String := match b with
  | true => "tuple_iterator"
  | false => "list_iterator"
abbrev itObj (b : Bool) (l : Addr) : Obj := { cls := .type (itName b), data := .fields #[.ref l, .int 0 0] }
theorem hSeq.push {b : Bool} {h : Heap} {l : Addr} {vs : Array Value} (q : hSeq b h l vs) (o : Obj) : hSeq b (h.push o) l vs := by
  cases b with
  | true => exact Heap.IsTuple.push q o
  | false => exact Heap.IsList.push q o
theorem hSeq.lt {b : Bool} {h : Heap} {l : Addr} {vs : Array Value} (q : hSeq b h l vs) : l < h.objs.size := by
  cases b with
  | true =>
    obtain ⟨o, e, _⟩ := (show h.IsTuple l vs from q)
    exact Heap.lt_size e
  | false =>
    obtain ⟨o, _, e, _⟩ := (show h.IsList l vs from q)
    first | exact Heap.lt_size e | exact Heap.lt_size (by assumption)
theorem hIter.at {b : Bool} {h g : Heap} {it l : Addr} {i : Nat} (q : hIter b h it l i) (k : ∀ o, h.get? it = some o → g.get? it = some o) : hIter b g it l i := by
  cases b with
  | true => exact Heap.IsTupleIter.at q k
  | false => exact Heap.IsListIter.at q k
theorem hIter.obj {b : Bool} {h : Heap} {it l : Addr} {i : Nat} (q : hIter b h it l i) : ∃ o, h.get? it = some o ∧ ∀ v, o.data ≠ .cell v := by
  cases b with
  | true =>
    obtain ⟨o, e, _, d⟩ := (show h.IsTupleIter it l i from q)
    exact ⟨o, e, fun v z => by rw [d] at z; cases z⟩
  | false =>
    obtain ⟨o, e, _, d⟩ := (show h.IsListIter it l i from q)
    exact ⟨o, e, fun v z => by rw [d] at z; cases z⟩
theorem hIter.new (b : Bool) {h : Heap} {it l : Addr} (e : h.get? it = some (itObj b l)) : hIter b h it l 0 := by
  cases b with
  | true => exact ⟨_, e, rfl, rfl⟩
  | false => exact ⟨_, e, rfl, rfl⟩
theorem draws2 (b : Bool) {prog : Program} {w : World} {A : Around} (hh : A.handled = none) (it l : Addr) (ne : l ≠ it) (vs : Array Value) :
    Draws prog w A it [it, l] vs.size (fun i v => vs[i]? = some v) (fun i h => hIter b h it l i ∧ hSeq b h l vs) := by
  cases b with
  | true => exact Draws.tuple hh it l ne vs
  | false => exact Draws.list hh it l ne vs
section
variable {prog : Program} {w : World} {A : Around} {E : Value → Shared → Prop} {s : Shared}
theorem iter2 (b : Bool) {l : Addr} {vs : Array Value} {Q : Value → Shared → Prop} (q : hSeq b s.heap l vs) (h : Q (.ref s.heap.objs.size) { s with heap := s.heap.push (itObj b l) }) :
    wpAny (model prog w) A (pyIter (.ref l)) Q E s := by
  cases b with
  | true => exact wpAny_pyIter_tuple (show s.heap.IsTuple l vs from q) h
  | false => exact wpAny_pyIter_list (show s.heap.IsList l vs from q) h
end
section
variable (b c : Bool)
abbrev zg1 (h : Heap) (l m : Addr) : Heap := h.push (itObj b l)
abbrev zg2 (h : Heap) (l m : Addr) : Heap := (zg1 b h l m).push (itObj c m)
abbrev zg3 (h : Heap) (l m : Addr) : Heap := (zg2 b c h l m).push { cls := .type "tuple", data := .seq #[.ref h.objs.size, .ref (zg1 b h l m).objs.size] }
abbrev zg4 (h : Heap) (l m : Addr) : Heap := (zg3 b c h l m).push { cls := .type "tuple", data := .seq #[.none, .none] }
abbrev zg5 (h : Heap) (l m : Addr) : Heap := (zg4 b c h l m).push { cls := .type "zip", data := .fields #[.none, .bool false, .bool false, .ref (zg2 b c h l m).objs.size, .ref (zg3 b c h l m).objs.size] }
theorem zipNew (l m : Addr) (xs ys : Array Value) :
    Meets (Builtin.«zip.__new__» ⟨[.type "zip", .ref l, .ref m], []⟩) (fun _ R s => hSeq b s.heap l xs ∧ hSeq c s.heap m ys ∧
      R (.ok (.ret (.ref (zg4 b c s.heap l m).objs.size))) { s with heap := zg5 b c s.heap l m }) :=
  .of_wp fun prog w A R s h => by
    obtain ⟨hp, g, d, tk, os⟩ := s
    obtain ⟨q1, q2, h⟩ := h
    have sub := sub_zip
    have q1' : hSeq b (Shared.heap ⟨hp, g, d, tk, os⟩) l xs := q1
    have q2' : hSeq c (Shared.heap ⟨hp.push (itObj b l), g, d, tk, os⟩) m ys := hSeq.push q2 _
    wp_walk using iter2 b q1', iter2 c q2'
    exact ⟨_, rfl, h⟩
variable {prog : Program} {w : World} {A : Around} {E : Value → Shared → Prop} {s : Shared}
theorem zipCall {l m : Addr} {xs ys : Array Value} {Q : Value → Shared → Prop} (q1 : hSeq b s.heap l xs) (q2 : hSeq c s.heap m ys)
    (h : ∀ g, IsZip g (s.heap.objs.size + 4) (s.heap.objs.size + 2) (s.heap.objs.size + 3) .none → IsTupOf2 g (s.heap.objs.size + 2) (.ref s.heap.objs.size) (.ref (s.heap.objs.size + 1)) →
      IsTupOf2 g (s.heap.objs.size + 3) .none .none → hIter b g s.heap.objs.size l 0 → hIter c g (s.heap.objs.size + 1) m 0 →
      (∀ a o, s.heap.get? a = some o → g.get? a = some o) → Q (.ref (s.heap.objs.size + 4)) { s with heap := g }) :
    wpAny (model prog w) A (call (.type "zip") [.ref l, .ref m]) Q E s := by
  refine callType_new F.called_zip (by decide) (F.typeCall_zip_2 _ _) (F.newCall_zip_2 _ _) (fun obj => F.args_object_init_3 obj _ _) F.entry_zip_new (zipNew b c l m xs ys) ⟨q1, q2, ?_⟩
  have n1 : (zg1 b s.heap l m).objs.size = s.heap.objs.size + 1 := Heap.size_push ..
  have n2 : (zg2 b c s.heap l m).objs.size = s.heap.objs.size + 2 := by rw [Heap.size_push, n1]
  have n3 : (zg3 b c s.heap l m).objs.size = s.heap.objs.size + 3 := by rw [Heap.size_push, n2]
  have n4 : (zg4 b c s.heap l m).objs.size = s.heap.objs.size + 4 := by rw [Heap.size_push, n3]
  have up : ∀ a o, s.heap.get? a = some o → (zg5 b c s.heap l m).get? a = some o := fun a o e =>
    Heap.get?_push_of_some _ (Heap.get?_push_of_some _ (Heap.get?_push_of_some _ (Heap.get?_push_of_some _ (Heap.get?_push_of_some _ e))))
  have g5 : (zg5 b c s.heap l m).get? (zg4 b c s.heap l m).objs.size = some _ := Heap.get?_push_size _ rfl
  have g4 : (zg5 b c s.heap l m).get? (zg3 b c s.heap l m).objs.size = some _ := Heap.get?_push_of_some _ (Heap.get?_push_size _ rfl)
  have g3 : (zg5 b c s.heap l m).get? (zg2 b c s.heap l m).objs.size = some _ := Heap.get?_push_of_some _ (Heap.get?_push_of_some _ (Heap.get?_push_size _ rfl))
  have g2 : (zg5 b c s.heap l m).get? (zg1 b s.heap l m).objs.size = some (itObj c m) := Heap.get?_push_of_some _ (Heap.get?_push_of_some _ (Heap.get?_push_of_some _ (Heap.get?_push_size _ (by cases c <;> rfl))))
  have g1 : (zg5 b c s.heap l m).get? s.heap.objs.size = some (itObj b l) :=
    Heap.get?_push_of_some _ (Heap.get?_push_of_some _ (Heap.get?_push_of_some _ (Heap.get?_push_of_some _ (Heap.get?_push_size _ (by cases b <;> rfl)))))
  show _ ∧ _
  rw [n2, n3, n4] at g5
  rw [n1, n2] at g3
  rw [n3] at g4
  rw [n1] at g2
  rw [n4]
  exact ⟨⟨_, g5, rfl⟩, h _ g5 g3 g4 (hIter.new b g1) (hIter.new c g2) up⟩
end
section
variable {X : Cx} {pins : List (Addr × Obj)} {σ : L2.St} {H : Hp} {s : Shared}
theorem Inv_seq (I : Inv X pins σ H s) (b : Bool) {a : Addr} {xs : List V} (h : SqB b X.K H a xs) : ∃ its : List Value, Vals xs its ∧ hSeq b s.heap a its.toArray := by
  cases b with
  | true =>
    obtain ⟨its, r, p, _⟩ := I.tuple h
    exact ⟨its, r, p⟩
  | false =>
    obtain ⟨its, r, p, _⟩ := I.list h
    exact ⟨its, r, p.isList⟩
theorem Inv_seq_inj (I : Inv X pins σ H s) (b : Bool) {a : Addr} {xs ys : List V} (h : SqB b X.K H a xs) (g : SqB b X.K H a ys) : xs = ys := by
  cases b with
  | true => exact I.tuple_inj h g
  | false => exact I.list_inj h g
end
/-- the sequences at a and b as they stand at each turn, the items in new pairs -/
def ItZ (b c : Bool) (K : PySem.W.Frag) (l m : Addr) : It where
  go := fun i H => ∃ xs ys x y, SqB b K H l xs ∧ SqB c K H m ys ∧ xs[i]? = some x ∧ ys[i]? = some y
  yld := fun i H v H' => ∃ T x y, v = .ref T ∧ H T = none ∧ H' = upd H T (.tup [x, y]) ∧ (∀ xs, SqB b K H l xs → xs[i]? = some x) ∧ ∀ ys, SqB c K H m ys → ys[i]? = some y
  stop := fun i H => ∃ xs ys, SqB b K H l xs ∧ SqB c K H m ys ∧ i ≤ xs.length ∧ i ≤ ys.length ∧ (i = xs.length ∨ i = ys.length)
theorem turnZ {P : Program} {w : World} {K : PySem.W.Frag} {elts : List Expr} {kk : Nat} {tpos : Pos} (b c : Bool) {l m z TI TO i1 i2 : Addr} (a1 : TI ≠ z) (a2 : TO ≠ z) (a3 : TI ≠ TO) (a4 : TI ≠ i1) (a5 : TI ≠ i2) (a6 : z ≠ i1) (a7 : z ≠ i2) (a8 : TO ≠ i1) (a9 : TO ≠ i2) (a0 : i1 ≠ i2)
    (lz : l ≠ z) (lt : l ≠ TO) (l1 : l ≠ i1) (l2 : l ≠ i2) (mz : m ≠ z) (mt : m ≠ TO) (m1 : m ≠ i1) (m2 : m ≠ i2) :
    Turn P w K (.Tuple elts kk tpos) (ItZ b c K l m) [z, TI, TO, i1, i2] z (fun i h => IsZip h z TI TO .none ∧ IsTupOf2 h TI (.ref i1) (.ref i2) ∧ (∃ x y, IsTupOf2 h TO x y) ∧ hIter b h i1 l i ∧ hIter c h i2 m i) where
  mem := by simp
  obj := fun i h st d hd => by
    obtain ⟨hz, hI, ⟨x, y, hO⟩, h1, h2⟩ := st
    have hd' : d = z ∨ d = TI ∨ d = TO ∨ d = i1 ∨ d = i2 := by simpa using hd
    rcases hd' with rfl | rfl | rfl | rfl | rfl
    · exact ⟨_, hz, fun v q => nomatch q⟩
    · exact ⟨_, hI, fun v q => nomatch q⟩
    · exact ⟨_, hO, fun v q => nomatch q⟩
    · exact h1.obj
    · exact h2.obj
  keep := fun i h g st k => by
    obtain ⟨hz, hI, ⟨x, y, hO⟩, h1, h2⟩ := st
    exact ⟨k z (by simp) _ hz, k TI (by simp) _ hI, ⟨x, y, k TO (by simp) _ hO⟩, h1.at fun o q => k i1 (by simp) o q, h2.at fun o q => k i2 (by simp) o q⟩
  item := by
    intro X eP ew eK hc i pins s σ H E I hf st hg
    cases eP
    cases ew
    cases eK
    obtain ⟨hz, hI, ⟨x0, y0, hO⟩, h1, h2⟩ := st
    obtain ⟨xs, ys, x, y, qx, qy, hx, hy⟩ := hg
    obtain ⟨its, rv, p⟩ := Inv_seq I b qx
    obtain ⟨jts, rw2, p2⟩ := Inv_seq I c qy
    obtain ⟨u, hu, ru⟩ := rv.get hx
    obtain ⟨v, hv, rv'⟩ := rw2.get hy
    have zl : z < s.heap.objs.size := Heap.lt_size hz
    have hh : X.A.in1.handled = none := I.ok.hd hc
    have S : ZipSep2 z TI TO i1 i2 [i1, l] [i2, m] := ⟨a1, a2, a3, a4, by simp, by simp [a6, lz.symm], by simp [a8, lt.symm], a5, by simp, by simp [a7, mz.symm], by simp [a9, mt.symm], by simp [a0, m1.symm], by simp [a0.symm, l2.symm]⟩
    have b1 : i < its.toArray.size := by
      have := (List.getElem?_eq_some_iff.mp hu).1
      simpa using this
    have b2 : i < jts.toArray.size := by
      have := (List.getElem?_eq_some_iff.mp hv).1
      simpa using this
    refine wpAny_pyNext_zipD2_item S (draws2 b hh i1 l l1 its.toArray) (draws2 c hh i2 m m2 jts.toArray) hz hI hO ⟨h1, p⟩ ⟨h2, p2⟩ b1 b2 fun v1 v2 g tk e1 e2 gz gO s1 s2 gT gs gk => ?_
    have e1' : v1 = u := by
      have := e1.symm.trans (show its.toArray[i]? = some u by simpa using hu)
      simpa using this
    have e2' : v2 = v := by
      have := e2.symm.trans (show jts.toArray[i]? = some v by simpa using hv)
      simpa using this
    subst e1' e2'
    refine ⟨_, rfl, wpAny_letOwnedTupleGo_zip (s := { s with heap := g, toks := tk }) gz fun g2 gz2 sb => ?_⟩
    have gT2 : g2.get? s.heap.objs.size = some { cls := .type "tuple", data := .seq #[v1, v2] } := (sb.2 _ (Nat.ne_of_gt zl)).trans gT
    have new : ObjOk X.prog X.w (upd H s.heap.objs.size (.tup [x, y])) g2 s.heap.objs.size (.tup [x, y]) := ⟨by show 2 ≤ sizeLine; decide, [v1, v2], .cons ru (.cons rv' .nil), ⟨_, gT2, rfl, _, rfl⟩⟩
    have I1 : Inv X pins σ (upd H s.heap.objs.size (.tup [x, y])) { s with heap := g2, toks := tk } :=
      I.turnedNew (t' := tk) (ch := [z, TI, TO, i1, i2]) (fun d o hb q => (sb.2 d (fun q' => hb (by simp [q']))).trans (gk d o (fun q' => hb (by simp [q'])) (fun q' => hb (by simp [q'])) (fun q' => hb (by simp [q'])) (fun q' => hb (by simp [q'])) q)) hf (Nat.le_refl _) new
    refine ⟨.ref s.heap.objs.size, _, I1, rfl, ⟨_, x, y, rfl, I.hok.fresh (Nat.le_refl _), rfl, fun us hl => ?_, fun us hl => ?_⟩, ⟨gz2, ?_, ⟨v1, v2, ?_⟩, ?_, ?_⟩, fun d hd => ?_⟩
    · rw [Inv_seq_inj I b hl qx]; exact hx
    · rw [Inv_seq_inj I c hl qy]; exact hy
    · exact (sb.2 _ a1).trans (gk _ _ a1 a3 a4 a5 hI)
    · exact (sb.2 _ a2).trans gO
    · exact s1.1.at fun o q => (sb.2 _ a6.symm).trans q
    · exact s2.1.at fun o q => (sb.2 _ a7.symm).trans q
    · have lt : d < s.heap.objs.size := by
        have hd' : d = z ∨ d = TI ∨ d = TO ∨ d = i1 ∨ d = i2 := by simpa using hd
        rcases hd' with rfl | rfl | rfl | rfl | rfl
        · exact zl
        · exact Heap.lt_size hI
        · exact Heap.lt_size hO
        · obtain ⟨_, e, _⟩ := h1.obj
          exact Heap.lt_size e
        · obtain ⟨_, e, _⟩ := h2.obj
          exact Heap.lt_size e
      rw [upd_ne (Nat.ne_of_lt lt)]
      exact (hf d hd).1
  done := by
    intro X eP ew eK hc i pins s σ H E I hf st hg
    cases eP
    cases ew
    cases eK
    obtain ⟨hz, hI, ⟨x0, y0, hO⟩, h1, h2⟩ := st
    obtain ⟨xs, ys, qx, qy, le1, le2, hend⟩ := hg
    obtain ⟨its, rv, p⟩ := Inv_seq I b qx
    obtain ⟨jts, rw2, p2⟩ := Inv_seq I c qy
    have n1 := rv.length
    have n2 := rw2.length
    have hh : X.A.in1.handled = none := I.ok.hd hc
    have S : ZipSep2 z TI TO i1 i2 [i1, l] [i2, m] := ⟨a1, a2, a3, a4, by simp, by simp [a6, lz.symm], by simp [a8, lt.symm], a5, by simp, by simp [a7, mz.symm], by simp [a9, mt.symm], by simp [a0, m1.symm], by simp [a0.symm, l2.symm]⟩
    refine wpAny_pyNext_zipD2_end S (draws2 b hh i1 l l1 its.toArray) (draws2 c hh i2 m m2 jts.toArray) hz hI hO ⟨h1, p⟩ ⟨h2, p2⟩ (by simp; omega) (by simp; omega) (by simp; omega) fun g tk gk => ?_
    exact ⟨rfl, I.turnedL (t' := tk) (ch := [z, TI, TO, i1, i2]) (fun d o hb q => gk d o (fun q' => hb (by simp [q'])) (fun q' => hb (by simp [q'])) (fun q' => hb (by simp [q'])) (fun q' => hb (by simp [q'])) q) hf⟩
  self := fun A i s Q E st h => wpAny_pyIter_zip st.1 h
theorem apartN (n l m : Nat) (hl : l < n) (hm : m < n) : n + 2 ≠ n + 4 ∧ n + 3 ≠ n + 4 ∧ n + 2 ≠ n + 3 ∧ n + 2 ≠ n ∧ n + 2 ≠ n + 1 ∧ n + 4 ≠ n ∧ n + 4 ≠ n + 1 ∧ n + 3 ≠ n ∧ n + 3 ≠ n + 1 ∧ n ≠ n + 1 ∧
    l ≠ n + 4 ∧ l ≠ n + 3 ∧ l ≠ n ∧ l ≠ n + 1 ∧ m ≠ n + 4 ∧ m ≠ n + 3 ∧ m ≠ n ∧ m ≠ n + 1 := by omega
theorem geN (n d : Nat) (h : d = n + 4 ∨ d = n + 2 ∨ d = n + 3 ∨ d = n ∨ d = n + 1) : n ≤ d := by omega
def iZ (b c : Bool) (K : PySem.W.Frag) (ta : TA) : TI := fun σ H R => ta σ H fun vs H1 => ∃ l m xs ys, vs = [.ref l, .ref m] ∧ SqB b K H1 l xs ∧ SqB c K H1 m ys ∧ R (ItZ b c K l m) H1
theorem kZip (b c : Bool) {X : Cx} {K : PySem.W.Frag} {e e2 : Expr} {ta : TA} {p pos tpos : Pos} {elts : List Expr} {kk : Nat} (hg : Gl X "zip") (hm : X.mg "zip" = none) (ha : PA X [e, e2] ta) (hK : X.K = K := by rfl)
    (hs : starEach [e, e2] X.env = (false, eval e X.env) :: starEach [e2] X.env := by rfl) (hpl : (backTo pos (starEach [e2] X.env)).any (·.1) = false := by rfl) :
    PI X (.Tuple elts kk tpos) (.Call (.Name "zip" p) [e, e2] [] pos) (iZ b c K ta) := by
  cases hK
  refine ⟨fun pins s σ H R I h => ?_⟩
  refine Call_ (ld_blt I hg hm PyProof.Rows.boot_zip (PyProof.Rows.callWith_type1 (thn (ha.run pos pins s σ H _ I h) ?_) hs hpl))
  rintro us s1 ⟨vs, H1, I1, r1, l, m, xs, ys, rfl, qx, qy, q⟩
  obtain ⟨u1, u2, rfl, e1, e2⟩ := vals2 r1
  cases e1
  cases e2
  obtain ⟨its, rv, p1⟩ := Inv_seq I1 b qx
  obtain ⟨jts, rw2, p2⟩ := Inv_seq I1 c qy
  have ll := p1.lt
  have lm := p2.lt
  refine zipCall b c p1 p2 fun g gz gI gO g1 g2 gk => wpAny_pyIter_zip gz ?_
  have I2 : Inv X pins σ H1 { s1 with heap := g } := I1.kept (t' := s1.toks) gk
  obtain ⟨a1, a2, a3, a4, a5, a6, a7, a8, a9, a0, b1, b2, b3, b4, b5, b6, b7, b8⟩ := apartN s1.heap.objs.size l m ll lm
  refine ⟨s1.heap.objs.size + 4, [s1.heap.objs.size + 4, s1.heap.objs.size + 2, s1.heap.objs.size + 3, s1.heap.objs.size, s1.heap.objs.size + 1], _, _, H1, rfl, I2,
    turnZ b c a1 a2 a3 a4 a5 a6 a7 a8 a9 a0 b1 b2 b3 b4 b5 b6 b7 b8, ⟨gz, gI, ⟨_, _, gO⟩, g1, g2⟩, fun d hd => ?_, q⟩
  have le : s1.heap.objs.size ≤ d := geN _ _ (by simpa using hd)
  exact I1.fpOk le (I1.hok.fresh le)
theorem walkZ {b c : Bool} {K : PySem.W.Frag} {l m : Addr} {xs ys : List V} {n : Nat} (hn : n = min xs.length ys.length) : Walk (ItZ b c K l m) n (fun H => SqB b K H l xs ∧ SqB c K H m ys) (YPair (fun i => xs[i]?) (fun i => ys[i]?)) := by
  cases hn
  refine ⟨fun i H hi q => ?_, fun H q => ⟨xs, ys, q.1, q.2, by omega, by omega, by omega⟩, fun i H v H' hi q y => ?_⟩
  · have h1 : i < xs.length := by omega
    have h2 : i < ys.length := by omega
    exact ⟨xs, ys, xs[i], ys[i], q.1, q.2, by simp [h1], by simp [h2]⟩
  · obtain ⟨T, x, z, h1, h2, h3, h4, h5⟩ := y
    exact ⟨T, x, z, h1, h2, h3, h4 xs q.1, h5 ys q.2⟩
end Hq

/-! P4: what is walked; comprehensions and loops over a walk -/
namespace Hq
open PySem PySem.Spec PyProof.Rows L2
section
variable {σ : L2.St} {H : Hp} {K : PySem.W.Frag} {R : It → Hp → Prop} {tl te : TE} {ta : TA} {tt : TT} {g : TG} {wi : TI} {vs : List Nat} {Q : VK} {D : Ends} {tb : TS} {a l m : Addr} {xs ys : List V} {n i j : Int} {b c : Bool}
theorem st_iL (q : tl σ H fun x H1 => ∃ a, x = .ref a ∧ (∃ xs, SqL K H1 a xs) ∧ R (Itl K a) H1) : iList K tl σ H R := q
theorem st_iT (q : tl σ H fun x H1 => ∃ a, x = .ref a ∧ (∃ xs, SqT K H1 a xs) ∧ R (Itt K a) H1) : iTup K tl σ H R := q
theorem st_refL {R : Addr → Prop} (h : SqL K H a xs) (q : R a) : ∃ a', V.ref a = .ref a' ∧ (∃ xs, SqL K H a' xs) ∧ R a' := ⟨a, rfl, ⟨xs, h⟩, q⟩
theorem st_refT {R : Addr → Prop} (h : SqT K H a xs) (q : R a) : ∃ a', V.ref a = .ref a' ∧ (∃ xs, SqT K H a' xs) ∧ R a' := ⟨a, rfl, ⟨xs, h⟩, q⟩
theorem st_iR1 (q : ta σ H fun vs H1 => ∃ j : Int, vs = [.int j] ∧ -(2 ^ 62) ≤ j ∧ j < 2 ^ 62 ∧ R (Itr 0 j.toNat) H1) : iRng1 ta σ H R := q
theorem st_iR2 (q : ta σ H fun vs H1 => ∃ i j : Int, vs = [.int i, .int j] ∧ (-(2 ^ 62) ≤ i ∧ i < 2 ^ 62 ∧ -(2 ^ 62) ≤ j ∧ j < 2 ^ 62) ∧ R (Itr i (j - i).toNat) H1) : iRng2 ta σ H R := q
theorem st_rng1 {R : Int → Prop} (h : -1000000000 ≤ n ∧ n ≤ 1000000000) (q : R n) : ∃ j : Int, [V.int n] = [.int j] ∧ -(2 ^ 62) ≤ j ∧ j < 2 ^ 62 ∧ R j := ⟨n, rfl, by omega, by omega, q⟩
theorem st_rng2 {R : Int → Int → Prop} (h : (-1000000000 ≤ i ∧ i ≤ 1000000000) ∧ -1000000000 ≤ j ∧ j ≤ 1000000000) (q : R i j) : ∃ i' j' : Int, [V.int i, .int j] = [.int i', .int j'] ∧ (-(2 ^ 62) ≤ i' ∧ i' < 2 ^ 62 ∧ -(2 ^ 62) ≤ j' ∧ j' < 2 ^ 62) ∧ R i' j' :=
  ⟨i, j, rfl, ⟨by omega, by omega, by omega, by omega⟩, q⟩
theorem st_iZ (q : ta σ H fun vs H1 => ∃ l m xs ys, vs = [.ref l, .ref m] ∧ SqB b K H1 l xs ∧ SqB c K H1 m ys ∧ R (ItZ b c K l m) H1) : iZ b c K ta σ H R := q
theorem st_zip {R : Addr → Addr → Prop} (h : SqB b K H l xs) (h2 : SqB c K H m ys) (q : R l m) : ∃ l' m' xs ys, [V.ref l, .ref m] = [.ref l', .ref m'] ∧ SqB b K H l' xs ∧ SqB c K H m' ys ∧ R l' m' := ⟨l, m, xs, ys, rfl, h, h2, q⟩
theorem st_lc (q : wi σ H fun J H1 => ∀ D, H1 D = none → ∃ W : Nat → Nat → Hp → Prop, (∃ m, W 0 m (upd H1 D (.lst []))) ∧ ∀ i m H, W i m H →
  (J.stop i H ∧ Q (.ref D) H) ∨ (J.go i H ∧ ∃ Nx : Hp → Prop, (∀ H', Nx H' → ∃ m', m' < m ∧ W (i + 1) m' H') ∧ ∀ x H', J.yld i H x H' → g x (wipe σ vs) H' fun σ2 H2 => wipe σ2 vs = wipe σ vs ∧ tt σ2 H2 fun b H3 =>
    if b = true then te σ2 H3 fun y H4 => ∃ acc, H4 D = some (.lst acc) ∧ acc.length < sizeLine ∧ Nx (upd H4 D (.lst (acc ++ [y]))) else Nx H3)) : tLc wi g tt te vs σ H Q := q
theorem st_for (q : wi σ H fun J H1 => ∃ W : Nat → Nat → L2.St → Hp → Prop, (∃ m, W 0 m σ H1) ∧ ∀ i m σ H, W i m σ H →
  (J.stop i H ∧ D.nx σ H) ∨ (J.go i H ∧ ∃ N : L2.St → Hp → Prop, (∀ σ' H', N σ' H' → ∃ m', m' < m ∧ W (i + 1) m' σ' H') ∧ ∀ x H', J.yld i H x H' → g x σ H' fun σ2 H2 => tb { D with nx := N, ct := N, bk := D.nx } σ2 H2)) : tFor wi g tb D σ H := q
theorem st_wipe {σ2 : L2.St} {B : Prop} (h : wipe σ2 vs = wipe σ vs) (q : B) : wipe σ2 vs = wipe σ vs ∧ B := ⟨h, q⟩
theorem st_slL {lo hi : Option Int} (h : SqL K H a xs) (q : ∀ p, H p = none → Q (.ref p) (upd H p (.lst (cutV xs lo hi)))) : rSlL K (.ref a) lo hi H Q := ⟨a, xs, rfl, h, q⟩
theorem cut_take (xs : List V) (k : Nat) : cutV xs none (some (k : Int)) = xs.take k := by
  unfold cutV
  rw [HT.sIx_none, HT.sIx_nat, List.drop_zero, Nat.sub_zero]
  by_cases h : k ≤ xs.length
  · rw [Nat.min_eq_left h]
  · rw [Nat.min_eq_right (by omega), List.take_length, List.take_of_length_le (by omega)]
theorem cut_drop (xs : List V) (k : Nat) : cutV xs (some (k : Int)) none = xs.drop k := by
  unfold cutV
  rw [HT.sIx_none, HT.sIx_nat]
  by_cases h : k ≤ xs.length
  · rw [Nat.min_eq_left h, List.take_of_length_le (by simp)]
  · rw [Nat.min_eq_right (by omega), List.drop_length, List.drop_of_length_le (by omega), List.take_nil]
theorem st_cat {zs : List V} (h : H a = some (.lst xs)) (h2 : H l = some (.lst zs)) (hl : xs.length + zs.length ≤ sizeLine) (q : ∀ p, H p = none → Q (.ref p) (upd H p (.lst (xs ++ zs)))) : rCat (.ref a) (.ref l) H Q := ⟨a, l, xs, zs, rfl, rfl, h, h2, hl, q⟩
theorem st_sum {ns : List Int} (h : SqL K H a (ns.map V.int)) (q : Q (.int ns.sum) H) : rSum K [.ref a] H Q := ⟨a, ns, rfl, h, q⟩
theorem st_all {bs : List Bool} (h : SqL K H a (bs.map V.bl)) (q : Q (.bl (bs.all id)) H) : rAll K [.ref a] H Q := ⟨a, bs, rfl, h, q⟩
theorem st_any {bs : List Bool} (h : SqL K H a (bs.map V.bl)) (q : Q (.bl (bs.any id)) H) : rAny K [.ref a] H Q := ⟨a, bs, rfl, h, q⟩
theorem ex_int {ns : List Int} {x : V} (h : x ∈ ns.map V.int) : ∃ n, n ∈ ns ∧ x = .int n := by
  obtain ⟨n, a, b⟩ := List.mem_map.mp h
  exact ⟨n, a, b.symm⟩
theorem line_of {n : Nat} (h : n ≤ 100000) : n ≤ sizeLine := Nat.le_trans h (by decide)
theorem line_lt {n : Nat} (h : n ≤ 100000) : n < sizeLine := Nat.lt_of_le_of_lt h (by decide)
theorem st_size {zs : List V} {B : Prop} (h : zs.length ≤ sizeLine) (q : B) : zs.length ≤ sizeLine ∧ B := ⟨h, q⟩
theorem take_snoc {α : Type} {xs : List α} {i : Nat} {x : α} (h : xs[i]? = some x) : xs.take (i + 1) = xs.take i ++ [x] := by
  rw [List.take_add_one, h]
  rfl
theorem st_two {x y : V} {R : V → V → Prop} (q : R x y) : ∃ v w, [x, y] = [v, w] ∧ R v w := ⟨x, y, rfl, q⟩
theorem st_yes {QT : Bool → Hp → Prop} (q : QT true H) : tYes σ H QT := q
end
section
variable {J : It} {n : Nat} {G : Hp → Prop} {Y : Nat → Hp → V → Hp → Prop} {g : TG} {tt : TT} {te : TE} {vs : List Nat} {σ : L2.St} {H1 : Hp} {D : Addr} {Qd : Hp → Prop}
/-- a comprehension that changes nothing: f tells what becomes of an item -/
theorem lc_pure {xs : List V} (f : V → Option V) (w : Walk J xs.length G (YAt xs)) (hG : ∀ o, G (upd H1 D o)) (hl : xs.length < sizeLine)
    (hs : ∀ x acc, x ∈ xs → acc.length < sizeLine → ∀ Nx : Hp → Prop, Nx (upd H1 D (.lst (acc ++ (f x).toList))) → g x (wipe σ vs) (upd H1 D (.lst acc)) fun σ2 H2 => wipe σ2 vs = wipe σ vs ∧ tt σ2 H2 fun b H3 =>
      if b = true then te σ2 H3 fun y H4 => ∃ acc, H4 D = some (.lst acc) ∧ acc.length < sizeLine ∧ Nx (upd H4 D (.lst (acc ++ [y]))) else Nx H3)
    (hd : Qd (upd H1 D (.lst (xs.filterMap f)))) :
    ∃ W : Nat → Nat → Hp → Prop, (∃ m, W 0 m (upd H1 D (.lst []))) ∧ ∀ i m H, W i m H →
      (J.stop i H ∧ Qd H) ∨ (J.go i H ∧ ∃ Nx : Hp → Prop, (∀ H', Nx H' → ∃ m', m' < m ∧ W (i + 1) m' H') ∧ ∀ x H', J.yld i H x H' → g x (wipe σ vs) H' fun σ2 H2 => wipe σ2 vs = wipe σ vs ∧ tt σ2 H2 fun b H3 =>
        if b = true then te σ2 H3 fun y H4 => ∃ acc, H4 D = some (.lst acc) ∧ acc.length < sizeLine ∧ Nx (upd H4 D (.lst (acc ++ [y]))) else Nx H3) := by
  refine lc_it w (fun i H => H = upd H1 D (.lst ((xs.take i).filterMap f))) (by simp) (fun i H hi e => by rw [e]; exact hG _) (fun i x H H' hi e y => ?_) (fun H e => ?_)
  · obtain ⟨e2, hx⟩ := y
    subst e2
    rw [e]
    have hlen : ((xs.take i).filterMap f).length < sizeLine := by
      have h1 := List.length_filterMap_le f (xs.take i)
      have h2 : (xs.take i).length ≤ xs.length := by rw [List.length_take]; exact Nat.min_le_right _ _
      exact Nat.lt_of_le_of_lt (Nat.le_trans h1 h2) hl
    refine hs x _ (List.mem_of_getElem? hx) hlen _ ?_
    have e3 : xs.take (i + 1) = xs.take i ++ [x] := by
      rw [List.take_add_one, hx]
      rfl
    have e4 : List.filterMap f [x] = (f x).toList := by
      cases hf : f x with
      | none => rw [List.filterMap_cons_none hf]; rfl
      | some z => rw [List.filterMap_cons_some hf]; rfl
    rw [e3, List.filterMap_append, e4]
  · rw [e, List.take_length]
    exact hd
theorem fm_ints (f : Int → Option Int) (F : V → Option V) (h : ∀ n, F (.int n) = (f n).map V.int) : ∀ ns : List Int, (ns.map V.int).filterMap F = (ns.filterMap f).map V.int
  | [] => rfl
  | n :: ns => by
    rw [List.map_cons]
    cases e : f n with
    | none => rw [List.filterMap_cons_none (by rw [h, e]; rfl), List.filterMap_cons_none e, fm_ints f F h ns]
    | some z => rw [List.filterMap_cons_some (b := V.int z) (by rw [h, e]; rfl), List.filterMap_cons_some e, fm_ints f F h ns, List.map_cons]
theorem lc_ints {ns : List Int} (f : Int → Option Int) (w : Walk J (ns.map V.int).length G (YAt (ns.map V.int))) (hG : ∀ o, G (upd H1 D o)) (hl : ns.length < sizeLine)
    (hs : ∀ x acc, x ∈ ns → acc.length < sizeLine → ∀ Nx : Hp → Prop, Nx (upd H1 D (.lst (acc ++ ((f x).map V.int).toList))) → g (.int x) (wipe σ vs) (upd H1 D (.lst acc)) fun σ2 H2 => wipe σ2 vs = wipe σ vs ∧ tt σ2 H2 fun b H3 =>
      if b = true then te σ2 H3 fun y H4 => ∃ acc, H4 D = some (.lst acc) ∧ acc.length < sizeLine ∧ Nx (upd H4 D (.lst (acc ++ [y]))) else Nx H3)
    (hd : Qd (upd H1 D (.lst ((ns.filterMap f).map V.int)))) :
    ∃ W : Nat → Nat → Hp → Prop, (∃ m, W 0 m (upd H1 D (.lst []))) ∧ ∀ i m H, W i m H →
      (J.stop i H ∧ Qd H) ∨ (J.go i H ∧ ∃ Nx : Hp → Prop, (∀ H', Nx H' → ∃ m', m' < m ∧ W (i + 1) m' H') ∧ ∀ x H', J.yld i H x H' → g x (wipe σ vs) H' fun σ2 H2 => wipe σ2 vs = wipe σ vs ∧ tt σ2 H2 fun b H3 =>
        if b = true then te σ2 H3 fun y H4 => ∃ acc, H4 D = some (.lst acc) ∧ acc.length < sizeLine ∧ Nx (upd H4 D (.lst (acc ++ [y]))) else Nx H3) := by
  refine lc_pure (fun x => match x with | .int n => (f n).map V.int | _ => none) w hG (by simpa using hl) (fun x acc hx ha Nx hN => ?_) ?_
  · obtain ⟨n, hn, rfl⟩ := ex_int hx
    exact hs n acc hn ha Nx hN
  · rw [fm_ints f _ (fun n => rfl)]
    exact hd
end
end Hq

/-! P5: dicts with tuple keys: == and !=, the dict comprehension (also of dicts with other keys) -/
namespace Hq
open PySem PySem.Spec PyProof.Rows L2 PyProof.V PySem.W

/-! ### == of two dicts with tuple keys -/
section
variable {prog : Program} {w : World} {K : Type} [DecidableEq K] {knd : HeapKind prog w K} {A : Around} {E : Value → Shared → Prop} {s : Shared}
/-- every key of the one stands in the other, with an equal worth -/
def HitsH (prog : Program) (w : World) (A : Around) (s : Shared) (kb : List (K × Addr × Value)) (ka : List (K × Addr × Value)) : Prop :=
  ∀ x ∈ ka, ∃ p, atKey kb x.1 = some p ∧ SeqAt.EqP prog w A s x.2.2 p.2 true
theorem sameH {nm : String} {a b : Addr} {ka kb : List (K × Addr × Value)} {Q : Bool → Shared → Prop} (hu : knd.room A) (ha : (a == sysModules) = false) (hb : (b == sysModules) = false)
    (da : s.heap.DictOfH knd a ka) (db : s.heap.DictOfH knd b kb) (hl : ka.length = kb.length) (hits : HitsH prog w A s kb ka) (h : Q true s) :
    wpAny (model prog w) A (Builtin.Dict.samePairs nm a b) Q E s := by
  obtain ⟨oa, es, ep, hoa, _, hda, hea, hia, _⟩ := da
  obtain ⟨ob, fs, ep', hob, _, hdb, heb, hib, hnb⟩ := db
  have hsa : es.size = ka.length := size_of_entries hea
  have hsb : fs.size = kb.length := size_of_entries heb
  unfold Builtin.Dict.samePairs Builtin.Dict.showsAll
  rw [if_neg (show ¬ (a == sysModules) = true by rw [ha]; exact Bool.false_ne_true), if_neg (show ¬ (b == sysModules) = true by rw [hb]; exact Bool.false_ne_true)]
  refine wpAny_bind (wpAny_pure (wpAny_bind (wpAny_pure ?_)))
  refine wpAny_bind (wpAny_dictEntries hoa hda ?_)
  dsimp only
  refine wpAny_bind (wpAny_dictEntries hob hdb ?_)
  have hsz : es.size = fs.size := by omega
  rw [if_neg (by rw [hsz]; simp)]
  refine wpAny_bind (wpAny_dictEpoch hoa hda ?_)
  refine wpAny_bind ?_
  rw [Std.Legacy.Range.forIn_eq_forIn_range']
  simp only [Std.Legacy.Range.size, Nat.sub_zero, Nat.add_sub_cancel, Nat.div_one]
  refine wpAny_forIn_list _ (fun rest q s' => s' = s ∧ q = (none, ()) ∧ ∃ i, rest = List.range' i (es.size - i) ∧ i ≤ es.size) _ ?_ ?_ _ _ ⟨rfl, rfl, 0, by simp, Nat.zero_le _⟩
  · rintro x rest q s' ⟨rfl, rfl, i, hr, hi⟩
    have hlt : i < es.size := by
      rcases Nat.lt_or_ge i es.size with h | h
      · exact h
      · rw [Nat.sub_eq_zero_of_le h] at hr; simp at hr
    obtain ⟨rfl, hrest⟩ : x = i ∧ rest = List.range' (i + 1) (es.size - (i + 1)) := by
      have e : es.size - i = (es.size - (i + 1)) + 1 := by omega
      rw [e, List.range'_succ] at hr
      injection hr with h1 h2
      exact ⟨h1, h2⟩
    refine wpAny_bind (wpAny_dictEntries hoa hda ?_)
    have hx : x < ka.length := by omega
    have hat : es[x]? = some (entryOfKey knd ka[x]) := by rw [entry_at hea x, List.getElem?_eq_getElem hx]; rfl
    rw [hat]
    obtain ⟨p, hp, he⟩ := hits ka[x] (List.getElem_mem hx)
    show wpAny _ _ (holding [Value.ref ka[x].2.1, ka[x].2.2] _ >>= _) _ _ _
    refine wpAny_bind (wpAny_holding (wpAny_bind (wpAny_dictFind_heap (k := ka[x].1) hu (hia _ (List.getElem_mem hx)) hob hdb heb hib hnb (fun hno => ?_) (fun j p' hj => ?_))))
    · rw [atKey_none_of_get hno] at hp
      exact nomatch hp
    · rw [atKey_of_get hnb hj] at hp
      cases hp
      refine wpAny_bind (wpAny_dictEntries hob hdb ?_)
      rw [entry_at heb j, hj]
      refine wpAny_holding (he _ _ ?_)
      show wpAny _ _ (if (!true) = true then _ else _) _ _ _
      rw [if_neg (by decide)]
      refine wpAny_bind (wpAny_dictEpoch hoa hda ?_)
      rw [if_neg (by simp)]
      exact wpAny_pure ⟨rfl, rfl, x + 1, hrest, hlt⟩
  · rintro q s' ⟨rfl, rfl, i, hr, hi⟩
    exact wpAny_pure h
theorem eqH {nm : Bool} {a b : Addr} {ka kb : List (K × Addr × Value)} {Q : Value → Shared → Prop} (hu : A.units < cLine) (hr : knd.room A.in1) (ha : (a == sysModules) = false) (hb : (b == sysModules) = false)
    (da : s.heap.DictOfH knd a ka) (db : s.heap.DictOfH knd b kb) (hl : ka.length = kb.length) (hits : HitsH prog w A.in1 s kb ka) (h : Q (.bool nm) s) :
    wpAny (model prog w) A (compareOp (if nm = true then .Eq else .NotEq) (.ref a) (.ref b)) Q E s := by
  cases nm with
  | true =>
    rw [if_pos rfl]
    refine wpAny_richCompare_same_room (op := .Eq) da.typeIs db.typeIs PySem.F.slot_dict_eq (wpAny_call_entry PySem.F.slot_dict_eq da.typeIs PySem.F.entry_dict_eq ?_ (PySem.F.args_dict_eq_2 _ _)) hu
    show wpAny _ _ (Builtin.Dict.dictSlotArgs "__eq__" ⟨[.ref a, .ref b], []⟩ >>= _) _ _ s
    refine wpAny_bind ?_
    unfold Builtin.Dict.dictSlotArgs
    refine wpAny_bind (wpAny_notOrdered_dict da.typeIs ?_)
    show wpAny _ _ (pure (Value.ref a, Value.ref b)) _ _ s
    refine wpAny_pure ?_
    refine wpAny_bind (wpAny_isInstance (T := "dict") db.typeIs PySem.F.sub_dict_dict ?_)
    simp only [Bool.not_true, Bool.false_eq_true, if_false]
    refine wpAny_bind (wpAny_pure (wpAny_bind (wpAny_pure ?_)))
    refine wpAny_bind (sameH hr ha hb da db hl hits ?_)
    exact wpAny_pure ⟨_, rfl, fun x => (nomatch x), h⟩
  | false =>
    rw [if_neg Bool.false_ne_true]
    refine wpAny_richCompare_same_room (op := .NotEq) da.typeIs db.typeIs PySem.F.slot_dict_ne (wpAny_call_entry PySem.F.slot_dict_ne da.typeIs PySem.F.entry_dict_ne ?_ (PySem.F.args_dict_ne_2 _ _)) hu
    show wpAny _ _ (Builtin.Dict.dictSlotArgs "__ne__" ⟨[.ref a, .ref b], []⟩ >>= _) _ _ s
    refine wpAny_bind ?_
    unfold Builtin.Dict.dictSlotArgs
    refine wpAny_bind (wpAny_notOrdered_dict da.typeIs ?_)
    show wpAny _ _ (pure (Value.ref a, Value.ref b)) _ _ s
    refine wpAny_pure ?_
    refine wpAny_bind (wpAny_isInstance (T := "dict") db.typeIs PySem.F.sub_dict_dict ?_)
    simp only [Bool.not_true, Bool.false_eq_true, if_false]
    refine wpAny_bind (wpAny_pure (wpAny_bind (wpAny_pure ?_)))
    refine wpAny_bind (sameH hr ha hb da db hl hits ?_)
    exact wpAny_pure ⟨_, rfl, fun x => (nomatch x), h⟩
end
/-- the two dicts hold the same keys with equal data -/
def SameT (K : PySem.W.Frag) (H : Hp) (x y : V) : Prop := ∃ a b ks ls, x = .ref a ∧ y = .ref b ∧ H a = some (.dT ks) ∧ H b = some (.dT ls) ∧ ks.length = ls.length ∧
  ∀ p ∈ ks, ∃ u d, valV ls p.1 = some u ∧ Dp K H p.2 d ∧ Dp K H u d ∧ SeqAt.shaped d = true
theorem hitsT {X : Cx} {pins : List (Addr × Obj)} {σ : L2.St} {H : Hp} {s : Shared} (I : Inv X pins σ H s) {A : Around} (hu : A.in1.units + 64 < cLine) {ls : List (List Key × V)} {kb : List (List Key × Addr × Value)} (rb : KT H ls kb) {ks : List (List Key × V)} {ka : List (List Key × Addr × Value)}
    (ra : KT H ks ka) : (∀ p ∈ ks, ∃ u d, valV ls p.1 = some u ∧ Dp X.K H p.2 d ∧ Dp X.K H u d ∧ SeqAt.shaped d = true) → HitsH X.prog X.w A.in1 s kb ka := by
  induction ra with
  | nil => exact fun _ x hx => nomatch hx
  | @cons p q ps qs h t ih =>
    intro hp x hx
    rcases List.mem_cons.mp hx with e | hx
    · subst e
      obtain ⟨u, d, e, d1, d2, sh⟩ := hp p List.mem_cons_self
      obtain ⟨h1, _, h3⟩ := h
      obtain ⟨y, hy, ry⟩ := RelO.some_of (v := u) (o := (atKey kb p.1).map (·.2)) (by rw [← e]; exact rb.val p.1)
      obtain ⟨z, hz, ez⟩ := Option.map_eq_some_iff.mp hy
      obtain ⟨as, r1⟩ := Dp.reads I d _ _ d1 h3
      obtain ⟨bs, r2⟩ := Dp.reads I d _ _ d2 ry
      refine ⟨z, by rw [← h1]; exact hz, ?_⟩
      rw [ez]
      have k := PySem.W.keq_at r1 r2 sh sh hu
      rw [SeqAt.eqv_refl _ (SeqAt.canLay_of_shaped sh)] at k
      exact k.eqP
    · exact ih (fun p' hm => hp p' (List.mem_cons_of_mem _ hm)) x hx
section
variable {X : Cx} {K : PySem.W.Frag}
theorem sameT_run {pins : List (Addr × Obj)} {σ : L2.St} {H : Hp} {s : Shared} {x y : V} {v u : Value} {E : Value → Shared → Prop} {Q : Value → Shared → Prop} (nm : Bool) (hu : X.A.units + 66 < cLine) (I : Inv X pins σ H s) (rx : RelV x v) (ry : RelV y u) (h : SameT X.K H x y) (q : Q (.bool nm) s) :
    wpAny (model X.prog X.w) X.A (compareOp (if nm = true then .Eq else .NotEq) v u) Q E s := by
  obtain ⟨a, b, ks, ls, rfl, rfl, ea, eb, hl, hp⟩ := h
  obtain rfl : v = Value.ref a := rx
  obtain rfl : u = Value.ref b := ry
  obtain ⟨_, ya, va, ra, da⟩ := dt_of I.hok ea
  obtain ⟨_, yb, vb, rb, db⟩ := dt_of I.hok eb
  have hu1 : X.A.in1.units = X.A.units + 1 := rfl
  exact eqH (by omega) (tupleKind_room_in1 (by omega)) ya yb da db (by rw [← Paired.length ra, ← Paired.length rb]; exact hl) (hitsT I (by rw [hu1]; omega) rb ra hp) q
def rNeT (K : PySem.W.Frag) : R2 := fun x y H Q => SameT K H x y ∧ Q (.bl false) H
def rEqT (K : PySem.W.Frag) : R2 := fun x y H Q => SameT K H x y ∧ Q (.bl true) H
theorem kNeT (hu : X.A.units + 66 < cLine) (h : X.K = K := by rfl) : OpR X (compareOp .NotEq) (rNeT K) := by
  cases h
  intro pins s σ H x y v u Q I rx ry ⟨h, q⟩
  exact sameT_run false hu I rx ry h ⟨.bl false, H, I, rfl, q⟩
theorem kEqT (hu : X.A.units + 66 < cLine) (h : X.K = K := by rfl) : OpR X (compareOp .Eq) (rEqT K) := by
  cases h
  intro pins s σ H x y v u Q I rx ry ⟨h, q⟩
  exact sameT_run true hu I rx ry h ⟨.bl true, H, I, rfl, q⟩
end
/-! ### the dict comprehension, whatever the keys: after the library's own one -/
/-- d[y] = z by a comprehension -/
theorem d_dictSetG {X : Cx} {pins : List (Addr × Obj)} {σ : L2.St} {H H' : Hp} {s : Shared} {E : Value → Shared → Prop} {D : Addr} {y v : V} {u r : Value} {Q : Unit → Shared → Prop} (hu : X.A.units < cLine) (I : Inv X pins σ H s) (g : DPut H D y v H')
    (ry : RelV y u) (rv : RelV v r) (h : ∀ s', Inv X pins σ H' s' → Q () s') : wpAny (model X.prog X.w) X.A (dictSet D u r) Q E s := by
  rcases g with ⟨kvs, k, e, ey, l, eH⟩ | ⟨kvs, k, b, e, ey, eb, l, eH⟩
  · subst ey eH
    exact d_dictSet I e l ry rv h
  · subst ey eH
    cases (show u = Value.ref b from ry)
    obtain ⟨z, hd, xs, rel, dd⟩ := dt_of I.hok e
    have hz : xs.length ≤ sizeLine := by rw [← Paired.length rel]; exact z
    have hl : (putK kvs k v).length ≤ sizeLine := by have := length_putK kvs k v; omega
    refine wpAny_dictSet_heap (hsz := hz) (show (tupleKind (mixKind X.prog X.w)).room X.A from hu) (key_of I.hok eb) dd fun h' dd' hs => h _ ?_
    obtain ⟨q, es, ep, hq, h2, h3, h4, _, h5⟩ := dd'
    refine d_write I (by rw [e]; exact True.intro) hs ⟨q, hq⟩ ⟨hl, hd, _, (rel.put k eb rv).keeps fun c ys ec => ?_, q, es, ep, hq, h2, h3, h4, h5⟩
    rw [upd_ne (ne_of ec e (fun z => nomatch z))]
    exact ec
section
variable {X : Cx}
/-- {k: v for target in iter if ..}: D the new dict -/
def tDcG (o0 : HO) (wi : TI) (g : TG) (tt : TT) (tk tv : TE) (vs : List Nat) : TE := fun σ H Q => wi σ H fun J H1 => ∀ D, H1 D = none → ∃ W : Nat → Nat → Hp → Prop, (∃ m, W 0 m (upd H1 D o0)) ∧ ∀ i m H, W i m H →
  (J.stop i H ∧ Q (.ref D) H) ∨ (J.go i H ∧ ∃ Nx : Hp → Prop, (∀ H', Nx H' → ∃ m', m' < m ∧ W (i + 1) m' H') ∧ ∀ x H', J.yld i H x H' → g x (wipe σ vs) H' fun σ2 H2 => wipe σ2 vs = wipe σ vs ∧ tt σ2 H2 fun b H3 =>
    if b = true then tk σ2 H3 fun y H4 => tv σ2 H4 fun z H5 => ∃ H6, DPut H5 D y z H6 ∧ Nx H6 else Nx H3)
theorem dcG_core (o0 : HO) (hu : X.A.units < cLine) (ho : o0 = .dK [] ∨ o0 = .dT []) {pins : List (Addr × Obj)} {s : Shared} {σ : L2.St} {H : Hp} {Q : VK} {kx vx tg iter : Expr} {ifs : List Expr} {scope : Scope} {own : List (Str × Nat)} {pos pos' : Pos} {wi : TI} {g : TG} {tt : TT} {tk tv : TE} {use : Option (Value → Sem Unit)} {Qf : Value → Shared → Prop}
    (hc : X.calm = true) (hN : X.N.Nodup) (I : Inv X pins σ H s) (hi : PI X tg iter wi) (ok : BlkOk X.N X.env.scope scope own)
    (hg : ∀ (s : Shared) (H : Hp) (C : Addr) (cl : List (Str × Addr)) (fp : List Addr), PG (X.blk s H scope (compEnvC scope cl C X.env) fp) tg g) (ht : ∀ (s : Shared) (H : Hp) (C : Addr) (cl : List (Str × Addr)) (fp : List Addr), PTs (X.blk s H scope (compEnvC scope cl C X.env) fp) ifs tt)
    (hk : ∀ (s : Shared) (H : Hp) (C : Addr) (cl : List (Str × Addr)) (fp : List Addr), PE (X.blk s H scope (compEnvC scope cl C X.env) fp) kx tk)
    (he : ∀ (s : Shared) (H : Hp) (C : Addr) (cl : List (Str × Addr)) (fp : List Addr), PE (X.blk s H scope (compEnvC scope cl C X.env) fp) vx tv) (hs : ∀ x, foldedSetIterable iter X.env x = pure x)
    (h : tDcG o0 wi g tt tk tv (own.map (·.2)) σ H Q)
    (hRR : ∀ D C s' m H', Inv X pins σ H' s' → Q (.ref D) H' → s'.heap.Ns C m → FpOk X pins H' C → compPost (model X.prog X.w) X.A X.xe use Qf (.ref D) C (.ok .next) s') :
    wpAny (model X.prog X.w) X.A (comprehension (.DictComp kx vx [⟨tg, iter, ifs, 0⟩] scope pos) scope X.env pos' newDict false (eval iter X.env) use) Qf X.xe s := by
  have hfree : ∀ y ∈ scope.names, y.2 = .free → ∃ c, X.env.cells.lookup y.1 = some c := fun y hy e => by
    rcases ok.free y hy e with k | k
    · exact I.ok.has _ (.inl k)
    · exact I.ok.has _ (.inr k)
  refine wpAny_comprehension_free (use := use) rfl hs (closure_ok hfree) ok.kind (fun y hy e => by rw [ok.uniq y hy, e])
    (thn (hi.run pins s σ H _ I h) fun xv s1 hx => thn hx fun itv s2 h2 => ?_)
  obtain ⟨it, fp, tn, J, H2, e, I2, T, st2, f2, q⟩ := h2
  subst e
  refine wpAny_newObj_type (newEnv_comp ?_)
  generalize hD : s2.heap.objs.size = D
  have hDn : H2 D = none := I2.hok.fresh (Nat.le_of_eq hD)
  obtain ⟨W, ⟨m0, w0⟩, turn⟩ := q D hDn
  -- the new list
  generalize hs3 : ({ s2 with heap := s2.heap.push { cls := .type "dict", data := .dict #[] } } : Shared) = s3
  have I3 : Inv X pins σ (upd H2 D o0) s3 := by
    rw [← hs3]
    refine I2.laid (t' := s2.toks) (fun b o e => Heap.get?_push_of_some _ e) (Nat.le_of_eq hD) ?_
    rw [← hD]
    rcases ho with e | e
    · rw [e]; exact dk_empty s2.heap I2.big
    · rw [e]; exact dt_empty s2.heap I2.big
  have h3 : s3.heap = s2.heap.push { cls := .type "dict", data := .dict #[] } := by rw [← hs3]
  have sz : ∀ b ∈ fp, b < s2.heap.objs.size := fun b hb => by
    obtain ⟨o, e, _⟩ := T.obj _ _ st2 b hb
    exact Heap.lt_size e
  have f3 : ∀ b ∈ fp, FpOk X pins (upd H2 D o0) b ∧ b < s3.heap.objs.size := fun b hb => by
    have hlt := sz b hb
    refine ⟨⟨?_, (f2 b hb).2⟩, by rw [h3, Heap.size_push]; exact Nat.lt_succ_of_lt hlt⟩
    rw [upd_ne (by rw [← hD]; exact Nat.ne_of_lt hlt)]
    exact (f2 b hb).1
  have st3 : tn 0 s3.heap := T.keep _ _ _ st2 fun b _ o e => by rw [h3]; exact Heap.get?_push_of_some _ e
  have I4 := block_start I3 ok hN f3
  have pg := hg s3 (upd H2 D o0) s3.heap.objs.size (cellsFrom (s3.heap.objs.size + 1) scope.names (cloFrom X.env.cells scope.names [])) fp
  have pt := ht s3 (upd H2 D o0) s3.heap.objs.size (cellsFrom (s3.heap.objs.size + 1) scope.names (cloFrom X.env.cells scope.names [])) fp
  have pk := hk s3 (upd H2 D o0) s3.heap.objs.size (cellsFrom (s3.heap.objs.size + 1) scope.names (cloFrom X.env.cells scope.names [])) fp
  have pe := he s3 (upd H2 D o0) s3.heap.objs.size (cellsFrom (s3.heap.objs.size + 1) scope.names (cloFrom X.env.cells scope.names [])) fp
  show codeAny _ _ (.compStart (.DictComp kx vx [⟨tg, iter, ifs, 0⟩] scope pos) 0 (.ref it) (.ref D) (compEnvC scope (cellsFrom (s3.heap.objs.size + 1) scope.names (cloFrom X.env.cells scope.names [])) s3.heap.objs.size X.env)) (compPost (model X.prog X.w) X.A X.xe use Qf (.ref D) s3.heap.objs.size) { s3 with heap := pushCells (s3.heap.push { cls := .type "dict", data := .dict #[] }) scope.names }
  have nfp : ∀ b ∈ fp, (upd H2 D o0) b = none := fun b hb => (f3 b hb).1.1
  generalize hce : compEnvC scope (cellsFrom (s3.heap.objs.size + 1) scope.names (cloFrom X.env.cells scope.names [])) s3.heap.objs.size X.env = ce at I4 pg pt pk pe ⊢
  have cL : ce.locals = s3.heap.objs.size := by subst hce; rfl
  generalize hH3 : upd H2 D o0 = H3 at I3 I4 pg pt pk pe w0 nfp f3
  generalize hs4 : ({ s3 with heap := pushCells (s3.heap.push { cls := .type "dict", data := .dict #[] }) scope.names } : Shared) = s4 at I4 ⊢
  have st4 : tn 0 s4.heap := T.keep _ _ _ st3 fun b _ o e => by rw [← hs4]; exact pushCells_keeps _ _ _ _ (Heap.get?_push_of_some _ e)
  have stat : ∀ {σ' : L2.St} {H' : Hp} {s' : Shared}, Inv (X.blk s3 H3 scope ce fp) [] σ' H' s' → (∀ b ∈ fp, H' b = none) → ∀ b ∈ fp, FpOk (X.blk s3 H3 scope ce fp) [] H' b := fun {σ' H' s'} I' hn b hb =>
    ⟨hn b hb, (I'.ok.exf b hb).1, I'.ok.exfs b hb, .inl hb, fun x c e => (I'.ok.exf b hb).2 x c e, fun p hp => absurd (show p ∈ ([] : List (Addr × Obj)) ++ [] from hp) (by simp)⟩
  have loop : codeAny (model X.prog X.w) X.A (.compLoop (.DictComp kx vx [⟨tg, iter, ifs, 0⟩] scope pos) 0 (.ref it) (.ref D) ce) (compPost (model X.prog X.w) X.A X.xe use Qf (.ref D) s3.heap.objs.size) s4 := by
    refine compLoop_anyD (fun n s' => ∃ i H', Inv (X.blk s3 H3 scope ce fp) [] (wipe σ (own.map (·.2))) H' s' ∧ tn i s'.heap ∧ (∀ b ∈ fp, H' b = none) ∧ W i n H') ?_ m0 ⟨0, H3, I4, st4, nfp, w0⟩
    rintro n s5 ⟨i, H5, I5, st5, n5, w5⟩
    rcases turn i n H5 w5 with ⟨stop, qq⟩ | ⟨go, Nx, hNx, step⟩
    · have td := T.done (X.blk s3 H3 scope ce fp) rfl rfl rfl hc i [] s5 _ H5 (fun _ _ => False) I5 (stat I5 n5) st5 stop
      refine thnF td fun r s6 ⟨hr, I6⟩ => ?_
      subst hr
      -- back in the def's context
      have I7 : Inv X pins σ H5 s6 := I3.call' (ch := fp) I6.os I6.base I6.hok I6.bare fun b hb => ⟨(f3 b hb).1.2.2.2.1, (f3 b hb).1.2.1, (f3 b hb).1.2.2.2.2.1, (f3 b hb).1.2.2.2.2.2⟩
      have nC : H5 s3.heap.objs.size = none := by
        have z : H5 ce.locals = none := I6.free
        rw [cL] at z
        exact z
      obtain ⟨m, hn, _⟩ := I6.loc
      have hn : s6.heap.Ns ce.locals m := hn
      rw [cL] at hn
      exact hRR D s3.heap.objs.size s6 m H5 I7 qq hn (I3.fpOk (Nat.le_refl _) nC)
    · have ti := T.item (X.blk s3 H3 scope ce fp) rfl rfl rfl hc i [] s5 _ H5 (fun _ _ => False) I5 (stat I5 n5) st5 go
      refine thnF ti fun r s6 ⟨u, hr, h6⟩ => ?_
      subst hr
      refine thnF h6 fun _ s7 ⟨x, H7, I7, r7, y7, st7, n7⟩ => ?_
      have I7' := I7.pinned (stat I7 n7) (T.obj _ _ st7)
      refine thnF (pg.run _ s7 _ H7 x u _ I7' r7 (step x H7 y7)) fun _ s8 ⟨σ8, H8, I8, hw8, q8⟩ => ?_
      refine thnF (pt.run _ s8 σ8 H8 _ I8 q8) fun b s9 ⟨H9, I9, q9⟩ => ?_
      -- the turn's end
      have fin : ∀ {s' : Shared} {H' : Hp}, Inv (X.blk s3 H3 scope ce fp) ([] ++ pinsAt fp s7.heap) σ8 H' s' → Nx H' → ∃ m, m < n ∧ ∃ i H', Inv (X.blk s3 H3 scope ce fp) [] (wipe σ (own.map (·.2))) H' s' ∧ tn i s'.heap ∧ (∀ b ∈ fp, H' b = none) ∧ W i m H' := fun {s' H'} I' nx => by
        obtain ⟨m', hm, w'⟩ := hNx H' nx
        have pin' : ∀ b ∈ fp, ∀ o, s7.heap.get? b = some o → s'.heap.get? b = some o ∧ H' b = none := fun b hb o e =>
          let z := I'.pin (b, o) (List.mem_append_right _ (List.mem_append_right _ (mem_pinsAt hb e)))
          ⟨z.1, z.2.1⟩
        have hl : (wipe σ (own.map (·.2))).length = σ8.length := by rw [← hw8, wipe_length]
        refine ⟨m', hm, i + 1, H', (I'.unpinned (pins := [])).weak hl (fun j v e => ?_), T.keep _ _ _ st7 fun b hb o e => (pin' b hb o e).1, fun b hb => ?_, w'⟩
        · rw [← hw8] at e
          exact (wipe_some e).1
        · obtain ⟨o, e, _⟩ := T.obj _ _ st7 b hb
          exact (pin' b hb o e).2
      cases b with
      | false =>
        simp only [Bool.false_eq_true, if_false] at q9 ⊢
        exact fin I9 q9
      | true =>
        simp only [if_true] at q9 ⊢
        refine thnF (pk.run _ s9 σ8 H9 _ I9 q9) fun z s10 ⟨yk, H10, I10, r10, q10⟩ => ?_
        refine thnF (pe.run _ s10 σ8 H10 _ I10 q10) fun z2 s11 ⟨yv, H11, I11, r11, H12, hP, nx⟩ => ?_
        exact d_dictSetG (X := X.blk s3 H3 scope ce fp) hu I11 hP r10 r11 fun s12 I12 => fin I12 nx
  exact codeAny_compStart_dict loop (T.self X.A 0 _ _ _ st4 loop)
/-- as a value -/
theorem pe_dcG (o0 : HO) (hu : X.A.units < cLine) (ho : o0 = .dK [] ∨ o0 = .dT []) {kx vx tg iter : Expr} {ifs : List Expr} {scope : Scope} {own : List (Str × Nat)} {pos : Pos} {wi : TI} {g : TG} {tt : TT} {tk tv : TE} (hc : X.calm = true) (hN : X.N.Nodup) (hi : PI X tg iter wi) (ok : BlkOk X.N X.env.scope scope own)
    (hg : ∀ (s : Shared) (H : Hp) (C : Addr) (cl : List (Str × Addr)) (fp : List Addr), PG (X.blk s H scope (compEnvC scope cl C X.env) fp) tg g) (ht : ∀ (s : Shared) (H : Hp) (C : Addr) (cl : List (Str × Addr)) (fp : List Addr), PTs (X.blk s H scope (compEnvC scope cl C X.env) fp) ifs tt)
    (hk : ∀ (s : Shared) (H : Hp) (C : Addr) (cl : List (Str × Addr)) (fp : List Addr), PE (X.blk s H scope (compEnvC scope cl C X.env) fp) kx tk)
    (he : ∀ (s : Shared) (H : Hp) (C : Addr) (cl : List (Str × Addr)) (fp : List Addr), PE (X.blk s H scope (compEnvC scope cl C X.env) fp) vx tv) (hs : ∀ x, foldedSetIterable iter X.env x = pure x := by intro _; rfl) :
    PE X (.DictComp kx vx [⟨tg, iter, ifs, 0⟩] scope pos) (tDcG o0 wi g tt tk tv (own.map (·.2))) := by
  refine ⟨fun pins s σ H Q I h => ?_⟩
  rw [arm_eval_DictComp]
  refine dcG_core o0 hu ho hc hN I hi ok hg ht hk he hs h fun D C s' m H' I' q hn f => ⟨m, hn, fun h'' sb => ?_⟩
  obtain ⟨f0, f1, f2, f3, f4, f5⟩ := f
  exact ⟨.ref D, H', I'.turned (t' := s'.toks) (fun b o hb e => (sb.2 b hb).trans e) f0 f1 f3 f4 f5, rfl, q⟩
end
end Hq

/-! P6: readings of dicts step by step; dicts as data -/
namespace Hq
open PySem PySem.Spec PyProof.Rows L2
theorem u1_of {k : Nat} {A : Around} (r : Room k A) : A.units + 1 < cLine := by have := r.un; omega
theorem u66_of {k : Nat} {A : Around} (r : Room k A) : A.units + 66 < cLine := by have := r.un; omega
theorem u0_of {k : Nat} {A : Around} (r : Room k A) : A.units < cLine := r.units0
theorem iteNN {a b : Prop} (h : b) : if (!decide (V.non = V.non)) = true then a else b := by rw [if_neg (by simp)]; exact h
theorem iteYN {a b : Prop} (h : a) : if decide (V.non = V.non) = true then a else b := by rw [if_pos (by simp)]; exact h
/-! ### a[i], a list or a tuple -/
def rIxB (K : PySem.W.Frag) : R2 := fun x y H Q => rIxL K x y H Q ∨ rIxT K x y H Q
theorem kIxB {X : Cx} {K : PySem.W.Frag} (h : X.K = K := by rfl) : IxR X (rIxB K) := by
  cases h
  intro value slice pins s σ H x y v u Q I rx ry h
  rcases h with h | h
  · exact ix_list value slice pins s σ H x y v u Q I rx ry h
  · exact ix_tup value slice pins s σ H x y v u Q I rx ry h
theorem st_ixB {K : PySem.W.Frag} {H : Hp} {p : Addr} {xs : List V} {n : Int} {v : V} {Q : VK} (h : SqL K H p xs ∨ SqT K H p xs) (e : atI xs n = some v) (q : Q v H) : rIxB K (.ref p) (.int n) H Q := by
  rcases h with h | h
  · exact .inl ⟨p, xs, n, v, rfl, rfl, h, e, q⟩
  · exact .inr ⟨p, xs, n, v, rfl, rfl, h, e, q⟩
/-! ### the dict comprehension -/
section
variable {wi : TI} {g : TG} {tt : TT} {tk tv : TE} {vs : List Nat} {σ : L2.St} {H : Hp} {Q : VK} {o0 : HO}
theorem st_dc (q : wi σ H fun J H1 => ∀ D, H1 D = none → ∃ W : Nat → Nat → Hp → Prop, (∃ m, W 0 m (upd H1 D o0)) ∧ ∀ i m H, W i m H →
  (J.stop i H ∧ Q (.ref D) H) ∨ (J.go i H ∧ ∃ Nx : Hp → Prop, (∀ H', Nx H' → ∃ m', m' < m ∧ W (i + 1) m' H') ∧ ∀ x H', J.yld i H x H' → g x (wipe σ vs) H' fun σ2 H2 => wipe σ2 vs = wipe σ vs ∧ tt σ2 H2 fun b H3 =>
    if b = true then tk σ2 H3 fun y H4 => tv σ2 H4 fun z H5 => ∃ H6, DPut H5 D y z H6 ∧ Nx H6 else Nx H3)) : tDcG o0 wi g tt tk tv vs σ H Q := q
theorem dc_it {J : It} {n : Nat} {G : Hp → Prop} {Y : Nat → Hp → V → Hp → Prop} (w : Walk J n G Y) {H1 : Hp} {D : Addr} {Qd : Hp → Prop} (Pv : Nat → Hp → Prop) (h0 : Pv 0 (upd H1 D o0)) (hG : ∀ i H, i ≤ n → Pv i H → G H)
    (hs : ∀ i x H H', i < n → Pv i H → Y i H x H' → g x (wipe σ vs) H' fun σ2 H2 => wipe σ2 vs = wipe σ vs ∧ tt σ2 H2 fun b H3 =>
      if b = true then tk σ2 H3 fun y H4 => tv σ2 H4 fun z H5 => ∃ H6, DPut H5 D y z H6 ∧ Pv (i + 1) H6 else Pv (i + 1) H3) (hd : ∀ H, Pv n H → Qd H) :
    ∃ W : Nat → Nat → Hp → Prop, (∃ m, W 0 m (upd H1 D o0)) ∧ ∀ i m H, W i m H →
      (J.stop i H ∧ Qd H) ∨ (J.go i H ∧ ∃ Nx : Hp → Prop, (∀ H', Nx H' → ∃ m', m' < m ∧ W (i + 1) m' H') ∧ ∀ x H', J.yld i H x H' → g x (wipe σ vs) H' fun σ2 H2 => wipe σ2 vs = wipe σ vs ∧ tt σ2 H2 fun b H3 =>
        if b = true then tk σ2 H3 fun y H4 => tv σ2 H4 fun z H5 => ∃ H6, DPut H5 D y z H6 ∧ Nx H6 else Nx H3) := by
  refine ⟨fun i m H => m = n - i ∧ i ≤ n ∧ Pv i H, ⟨n, by simp, Nat.zero_le _, h0⟩, ?_⟩
  rintro i m H ⟨rfl, hi, p⟩
  have q := hG i H hi p
  by_cases hlt : i < n
  · exact .inr ⟨w.goes i H hlt q, Pv (i + 1), fun H' p' => ⟨n - (i + 1), by omega, rfl, hlt, p'⟩, fun x H' y => hs i x H H' hlt p (w.yields i H x H' hlt q y)⟩
  · have e : i = n := by omega
    subst e
    exact .inl ⟨w.stops H q, hd H p⟩
end
/-! ### d[k], k in d, d[k] = v -/
section
variable {td ty tv : TE} {σ : L2.St} {H : Hp} {Q : VK} {D : Ends} {a b : Addr} {kvs : List (List Key × V)} {k : List Key} {v : V} {R : Hp → Prop}
theorem st_dgetS (q : td σ H fun x H1 => ty σ H1 fun y H2 => ∃ a v, x = .ref a ∧ DGet H2 a y (some v) ∧ Q v H2) : tDGet td ty σ H Q := q
theorem st_dinS (q : ty σ H fun y H1 => td σ H1 fun x H2 => ∃ a o, x = .ref a ∧ DGet H2 a y o ∧ Q (.bl o.isSome) H2) : tDIn ty td σ H Q := q
theorem st_dninS (q : ty σ H fun y H1 => td σ H1 fun x H2 => ∃ a o, x = .ref a ∧ DGet H2 a y o ∧ Q (.bl (!o.isSome)) H2) : tDNotIn ty td σ H Q := q
theorem st_dputS (q : tv σ H fun v H1 => td σ H1 fun x H2 => ty σ H2 fun y H3 => ∃ a H4, x = .ref a ∧ DPut H3 a y v H4 ∧ D.nx σ H4) : sDPut td ty tv D σ H := q
theorem st_newT (q : ∀ p, H p = none → Q (.ref p) (upd H p (.dT []))) : tDNewT σ H Q := q
theorem st_newK (q : ∀ p, H p = none → Q (.ref p) (upd H p (.dK []))) : tDNewK σ H Q := q
theorem st_getT (e : H a = some (.dT kvs)) (eb : H b = some (.tup (k.map kV))) (l : valV kvs k = some v) (q : Q v H) : ∃ a' v', V.ref a = .ref a' ∧ DGet H a' (.ref b) (some v') ∧ Q v' H := ⟨a, v, rfl, l ▸ DGet.t e eb, q⟩
theorem st_inT (e : H a = some (.dT kvs)) (eb : H b = some (.tup (k.map kV))) (q : Q (.bl (valV kvs k).isSome) H) : ∃ a' o, V.ref a = .ref a' ∧ DGet H a' (.ref b) o ∧ Q (.bl o.isSome) H := ⟨a, _, rfl, DGet.t e eb, q⟩
theorem st_ninT (e : H a = some (.dT kvs)) (eb : H b = some (.tup (k.map kV))) (q : Q (.bl (!(valV kvs k).isSome)) H) : ∃ a' o, V.ref a = .ref a' ∧ DGet H a' (.ref b) o ∧ Q (.bl (!o.isSome)) H := ⟨a, _, rfl, DGet.t e eb, q⟩
theorem st_putT (e : H a = some (.dT kvs)) (eb : H b = some (.tup (k.map kV))) (l : kvs.length < sizeLine) (q : R (upd H a (.dT (putK kvs k v)))) : ∃ a' H4, V.ref a = .ref a' ∧ DPut H a' (.ref b) v H4 ∧ R H4 := ⟨a, _, rfl, DPut.t e eb l, q⟩
theorem st_cputT (e : H a = some (.dT kvs)) (eb : H b = some (.tup (k.map kV))) (l : kvs.length < sizeLine) (q : R (upd H a (.dT (putK kvs k v)))) : ∃ H4, DPut H a (.ref b) v H4 ∧ R H4 := ⟨_, DPut.t e eb l, q⟩
end
/-! ### a dict as data -/
abbrev Dd := List (List Key × PyData)
def lookD (ms : Dd) (k : List Key) : Option PyData := (ms.find? fun m => decide (m.1 = k)).map (·.2)
def putD (ms : Dd) (k : List Key) (d : PyData) : Dd :=
  if (ms.any fun m => decide (m.1 = k)) = true then ms.map (fun m => if m.1 = k then (m.1, d) else m) else ms ++ [(k, d)]
def KD (H : Hp) : List (List Key × V) → Dd → Prop := Paired fun p m => p.1 = m.1 ∧ TD H p.2 m.2
theorem KD.mono {H H' : Hp} {kvs : List (List Key × V)} {ms : Dd} (r : KD H kvs ms) (t : Tp H H') : KD H' kvs ms := Paired.mapP r fun _ _ h => ⟨h.1, TD.mono t _ _ h.2⟩
theorem KD.length {H : Hp} {kvs : List (List Key × V)} {ms : Dd} (r : KD H kvs ms) : kvs.length = ms.length := Paired.length r
theorem KD.any {H : Hp} {kvs : List (List Key × V)} {ms : Dd} (r : KD H kvs ms) (k : List Key) : (kvs.any fun kv => decide (kv.1 = k)) = (ms.any fun m => decide (m.1 = k)) := by
  unfold KD at r
  induction r with
  | nil => rfl
  | cons h t ih => rw [List.any_cons, List.any_cons, ih, h.1]
theorem KD.put {H : Hp} {kvs : List (List Key × V)} {ms : Dd} (r : KD H kvs ms) (k : List Key) {v : V} {d : PyData} (t : TD H v d) : KD H (putK kvs k v) (putD ms k d) := by
  unfold putK putD
  rw [r.any k]
  by_cases q : (ms.any fun m => decide (m.1 = k)) = true
  · rw [if_pos q, if_pos q]
    clear q
    unfold KD at r ⊢
    induction r with
    | nil => exact .nil
    | @cons p m ps qs h t' ih =>
      rw [List.map_cons, List.map_cons]
      refine .cons ?_ ih
      by_cases e : p.1 = k
      · rw [if_pos e, if_pos (h.1.symm.trans e)]; exact ⟨h.1, t⟩
      · rw [if_neg e, if_neg (fun z => e (h.1.trans z))]; exact h
  · rw [if_neg q, if_neg q]
    exact Paired.snoc r ⟨rfl, t⟩
theorem KD.look {H : Hp} {kvs : List (List Key × V)} {ms : Dd} (r : KD H kvs ms) (k : List Key) : (lookD ms k = none ∧ valV kvs k = none) ∨ ∃ v d, lookD ms k = some d ∧ valV kvs k = some v ∧ TD H v d := by
  unfold KD at r
  induction r with
  | nil => exact .inl ⟨rfl, rfl⟩
  | @cons p m ps qs h t ih =>
    obtain ⟨h1, h2⟩ := h
    by_cases e : p.1 = k
    · refine .inr ⟨p.2, m.2, ?_, valV_pos e, h2⟩
      simp [lookD, List.find?_cons, h1.symm.trans e]
    · have e' : ¬ m.1 = k := fun z => e (h1.trans z)
      have b : lookD (m :: qs) k = lookD qs k := by simp [lookD, List.find?_cons, e']
      rw [valV_neg e, b]
      exact ih
theorem lookD_mem {ms : Dd} {k : List Key} {d : PyData} (h : lookD ms k = some d) : (k, d) ∈ ms := by
  unfold lookD at h
  obtain ⟨m, hm, rfl⟩ := Option.map_eq_some_iff.mp h
  have e := List.find?_some hm
  have e : m.1 = k := of_decide_eq_true e
  rw [← e]
  exact List.mem_of_find?_eq_some hm
theorem lookD_of {ms : Dd} (nd : (ms.map (·.1)).Nodup) {m : List Key × PyData} (hm : m ∈ ms) : lookD ms m.1 = some m.2 := by
  induction ms with
  | nil => exact nomatch hm
  | cons x ms ih =>
    rw [List.map_cons, List.nodup_cons] at nd
    unfold lookD
    rw [List.find?_cons]
    rcases List.mem_cons.mp hm with e | hm
    · subst e; simp
    · have n : ¬ x.1 = m.1 := fun e => nd.1 (by rw [e]; exact List.mem_map.mpr ⟨m, hm, rfl⟩)
      simp only [n, decide_false]
      exact ih nd.2 hm
theorem keys_put {ms : Dd} {k : List Key} {d : PyData} (nd : (ms.map (·.1)).Nodup) : ((putD ms k d).map (·.1)).Nodup := by
  unfold putD
  by_cases q : (ms.any fun m => decide (m.1 = k)) = true
  · rw [if_pos q, List.map_map]
    have : (fun m : List Key × PyData => (if m.1 = k then (m.1, d) else m).1) = fun m => m.1 := by
      funext m
      by_cases e : m.1 = k
      · rw [if_pos e]
      · rw [if_neg e]
    show (ms.map (fun m => (if m.1 = k then (m.1, d) else m).1)).Nodup
    rw [this]
    exact nd
  · rw [if_neg q, List.map_append, List.nodup_append]
    refine ⟨nd, by simp, ?_⟩
    intro x hx y hy e
    simp only [List.map_cons, List.map_nil, List.mem_singleton] at hy
    obtain ⟨m, hm, rfl⟩ := List.mem_map.mp hx
    exact q (List.any_eq_true.mpr ⟨m, hm, by simp [e, hy]⟩)
theorem all_put {F : PyData → Prop} {ms : Dd} {k : List Key} {d : PyData} (h : ∀ m ∈ ms, F m.2) (hd : F d) : ∀ m ∈ putD ms k d, F m.2 := by
  unfold putD
  by_cases q : (ms.any fun m => decide (m.1 = k)) = true
  · rw [if_pos q]
    intro m hm
    obtain ⟨x, hx, rfl⟩ := List.mem_map.mp hm
    by_cases e : x.1 = k
    · rw [if_pos e]; exact hd
    · rw [if_neg e]; exact h x hx
  · rw [if_neg q]
    intro m hm
    rcases List.mem_append.mp hm with hm | hm
    · exact h m hm
    · rw [List.mem_singleton.mp hm]; exact hd
theorem len_put {ms : Dd} {k : List Key} {d : PyData} : (putD ms k d).length ≤ ms.length + 1 := by
  unfold putD
  by_cases q : (ms.any fun m => decide (m.1 = k)) = true
  · rw [if_pos q, List.length_map]; omega
  · rw [if_neg q, List.length_append]; simp
/-- a dict with tuple keys at a -/
structure TabAt (H : Hp) (a : Addr) (ms : Dd) : Prop where
  ok : ∃ kvs, H a = some (.dT kvs) ∧ KD H kvs ms
structure GoodD (ms : Dd) : Prop where
  nd : (ms.map (·.1)).Nodup
  sh : ∀ m ∈ ms, SeqAt.shaped m.2 = true
theorem GoodD.put {ms : Dd} {k : List Key} {d : PyData} (g : GoodD ms) (h : SeqAt.shaped d = true) : GoodD (putD ms k d) := ⟨keys_put g.nd, all_put (F := fun d => SeqAt.shaped d = true) g.sh h⟩
theorem GoodD.nil : GoodD [] := ⟨List.nodup_nil, fun _ h => nomatch h⟩
theorem sameT_of {K : PySem.W.Frag} {H : Hp} {a b : Addr} {ms ls : Dd} (ta : TabAt H a ms) (tb : TabAt H b ls) (hl : ms.length = ls.length) (h : ∀ m ∈ ms, lookD ls m.1 = some m.2 ∧ SeqAt.shaped m.2 = true) : SameT K H (.ref a) (.ref b) := by
  obtain ⟨kvs, ha, ra⟩ := ta.ok
  obtain ⟨lvs, hb, rb⟩ := tb.ok
  refine ⟨a, b, kvs, lvs, rfl, rfl, ha, hb, by rw [ra.length, rb.length]; exact hl, ?_⟩
  clear ha hb hl ta tb
  unfold KD at ra
  induction ra with
  | nil => exact fun _ hp => nomatch hp
  | @cons p m ps qs hp t ih =>
    intro x hx
    rcases List.mem_cons.mp hx with e | hx
    · subst e
      obtain ⟨l, s⟩ := h m (by simp)
      rcases KD.look (show KD H lvs ls from rb) m.1 with ⟨n, _⟩ | ⟨v, d, e1, e2, e3⟩
      · rw [n] at l; exact nomatch l
      · rw [e1] at l
        cases l
        exact ⟨v, m.2, by rw [hp.1]; exact e2, TD.dp _ _ hp.2, TD.dp _ _ e3, s⟩
    · exact ih (fun m hm => h m (List.mem_cons_of_mem _ hm)) x hx
theorem sameT_eq {K : PySem.W.Frag} {H : Hp} {a b : Addr} {ms : Dd} (ta : TabAt H a ms) (tb : TabAt H b ms) (g : GoodD ms) : SameT K H (.ref a) (.ref b) :=
  sameT_of ta tb rfl fun m hm => ⟨lookD_of g.nd hm, g.sh m hm⟩
theorem TabAt.keep {H H' : Hp} {a : Addr} {ms : Dd} {fs : List Addr} (t : TabAt H a ms) (f : Fr fs H H') (h : a ∉ fs) : TabAt H' a ms := by
  obtain ⟨kvs, e, r⟩ := t.ok
  exact ⟨kvs, f.keep _ _ h e, r.mono f.tup⟩
/-! ### keys as data -/
def keyOf : PyData → Key
  | .int i => .inl i
  | .str x => .inr x
  | _ => .inl 0
def keysOf : PyData → List Key
  | .tuple ds => ds.map keyOf
  | _ => []
end Hq

namespace K40
open PySem PySem.Spec PyProof.Rows L2 Hq
local macro_rules | `(tactic| walk_at "st1") => `(tactic| first
  | with_reducible refine st_seq ?_ | with_reducible refine st_ret ?_ | with_reducible refine st_ifS ?_ | with_reducible refine st_asg ?_ | with_reducible refine st_drop ?_
  | ((with_reducible refine' st_var ?hv ?_); (case hv => rfl)) | with_reducible refine st_c ?_ | with_reducible refine st_op ?_ | with_reducible refine st_un ?_
  | with_reducible refine st_I0 ?_ | with_reducible refine st_U ?_ | ((with_reducible refine' st_I ?hc ?_); (case hc => walk_at "side"))
  | ((with_reducible refine' st_eq ?hs ?_); (case hs => rfl)) | ((with_reducible refine' st_ne ?hs ?_); (case hs => rfl))
  | with_reducible refine st_test ?_ | with_reducible refine st_B ?_ | with_reducible refine st_bl ?_ | with_reducible refine st_isN ?_ | with_reducible refine st_notN ?_
  | with_reducible refine st_chain ?_ | with_reducible refine st_and ?_ | with_reducible refine st_or ?_ | with_reducible refine st_not ?_
  | with_reducible refine st_andV ?_ | with_reducible refine st_orV ?_ | with_reducible refine st_notV ?_ | with_reducible refine st_if ?_
  | with_reducible refine st_CB ?_ | with_reducible refine st_cons ?_ | with_reducible refine st_nil ?_ | with_reducible refine st_fld ?_
  | ((with_reducible refine st_tup ?_)) | ((with_reducible refine st_lst ?_))
  | with_reducible refine st_call ?_ | with_reducible refine st_meth ?_ | with_reducible refine st_make ?_
  | with_reducible refine st_sl ?_ | with_reducible refine st_noPart ?_ | with_reducible refine st_part ?_ | with_reducible refine st_int ?_
  | ((with_reducible refine' st_ixL ?hq ?he ?_); (case hq => walk_at "sqL"); (case he => walk_at "at"))
  | ((with_reducible refine' st_ixT ?hq ?he ?_); (case hq => walk_at "sqT"); (case he => walk_at "at"))
  | with_reducible refine st_bm ?_ | with_reducible refine st_app ?_
  | ((with_reducible refine' st_append ?hq ?hl ?_); (case hq => walk_at "hp"); (case hl => walk_at "line"))
  | ((with_reducible refine' st_len (n := 0) ?hq ?_); (case hq => first | exact Or.inl (by walk_at "sqL") | exact Or.inr (by walk_at "sqT")))
  | ((with_reducible refine' st_listOf ?hq ?_); (case hq => first | exact Or.inl (by walk_at "sqL") | exact Or.inr (by walk_at "sqT")))
  | ((with_reducible refine st_name ?_); (try dsimp only [List.set_cons_zero, List.set_cons_succ])) | with_reducible refine st_par ?_
  | with_reducible refine st_gcons ?_ | with_reducible refine st_gnil ?_ | with_reducible refine st_gsub ?_ | with_reducible refine st_sFld ?_
  | ((with_reducible refine' st_gtup ?hq ?hl ?_); (case hq => walk_at "sqT"); (case hl => rfl))
  | ((with_reducible refine' st_setL ?hq ?hl ?_); (case hq => walk_at "hp"); (case hl => first | rfl | exact ix0 | exact ixN_nat (by assumption)); (try simp only [Int.reduceToNat, List.set_cons_zero, List.set_cons_succ]))
  | with_reducible refine st_intI ?_ | with_reducible refine st_abs ?_
  | ((with_reducible refine' st_popAt ?hq ?hk ?hy ?_); (case hq => walk_at "hp"); (case hk => exact seq0); (case hy => rfl))
  | ((with_reducible refine' and_left ?ht ?_); (case ht => walk_at "ty"))
  | with_reducible refine st_lc ?_ | with_reducible refine st_for ?_ | with_reducible refine st_iL ?_ | with_reducible refine st_iT ?_ | with_reducible refine st_iR1 ?_ | with_reducible refine st_iR2 ?_ | with_reducible refine st_iZ ?_
  | ((with_reducible refine' st_refL ?hq ?_); (case hq => walk_at "sqL")) | ((with_reducible refine' st_refT ?hq ?_); (case hq => walk_at "sqT"))
  | ((with_reducible refine' st_rng1 ?hq ?_); (case hq => walk_at "side")) | ((with_reducible refine' st_rng2 ?hq ?_); (case hq => walk_at "side"))
  | ((with_reducible refine' st_zip ?hq ?hr ?_); (case hq => walk_at "sqb"); (case hr => walk_at "sqb"))
  | ((with_reducible refine' st_size ?hw ?_); (case hw => walk_at "line"))
  | ((with_reducible refine' st_sum ?hq ?_); (case hq => walk_at "sqL"))
  | with_reducible refine st_two ?_ | with_reducible refine st_yes ?_ | ((with_reducible refine' st_wipe ?hw ?_); (case hw => rfl))
  | ((with_reducible refine' st_slL ?hq ?_); (case hq => walk_at "sqL"))
  | ((with_reducible refine' st_cat ?hq ?hr ?hl ?_); (case hq => walk_at "hp"); (case hr => walk_at "hp"); (case hl => walk_at "line"))
  | ((with_reducible refine' st_isi ?hk ?he ?_); (case hk => walk_at "kd"); (case he => walk_at "kit"))
  | ((with_reducible refine' st_ins ?hq ?hc ?hn ?hl ?_); (case hq => walk_at "hp"); (case hc => with_reducible assumption); (case hn => with_reducible assumption); (case hl => walk_at "flen"); walk_at "puts")
  | ((with_reducible refine' st_att ?hq ?hc ?hn ?hl ?_); (case hq => walk_at "hp"); (case hc => with_reducible assumption); (case hn => with_reducible assumption); (case hl => walk_at "lk"))
  | ((with_reducible refine' st_mt ?hq ?hl ?_); (case hq => walk_at "hp"); (case hl => walk_at "lk"))
  | ((with_reducible refine' st_extend ?hq ?hr ?hl ?_); (case hq => walk_at "hp"); (case hr => walk_at "hp"); (case hl => walk_at "line"))
  | with_reducible refine st_next ?_ | with_reducible refine st_retN ?_ | (with_reducible refine iteNT ?_) | (with_reducible refine iteNF ?_) | (with_reducible refine iteT ?_) | (with_reducible refine iteF ?_))
local macro_rules | `(tactic| walk_at "side") => `(tactic| first | omega | decide | assumption | exact ⟨by omega, by omega⟩ | exact Or.inr ⟨by omega, by omega⟩ | exact Or.inl ⟨by omega, by omega⟩ | (simp only [List.length_map, List.length_cons, List.length_nil, List.length_append] at *; omega))
local macro_rules | `(tactic| walk_at "hp") => `(tactic| first | assumption | exact upd_same | refine upd_old (by assumption) (by walk_at "hp") | (rw [upd_ne (by first | assumption | exact Ne.symm (by assumption))]; walk_at "hp"))
local macro_rules | `(tactic| walk_at "sqL") => `(tactic| first | assumption | exact SqL.of (by walk_at "hp"))
local macro_rules | `(tactic| walk_at "sqT") => `(tactic| first | assumption | exact SqT.of (by walk_at "hp"))
local macro_rules | `(tactic| walk_at "sqb") => `(tactic| (unfold SqB; first | ((with_reducible change SqL _ _ _ _); walk_at "sqL") | ((with_reducible change SqT _ _ _ _); walk_at "sqT")))
local macro_rules | `(tactic| walk_at "line") => `(tactic| first | assumption | decide | (apply line_of; walk_at "side") | (apply line_lt; walk_at "side"))
local macro_rules | `(tactic| walk_at "ty") => `(tactic| ((with_reducible refine' ty_lst ?hq); (case hq => walk_at "hp")))
local macro_rules | `(tactic| walk_at "at") => `(tactic| with_reducible first | assumption | exact at0 | exact at1 | exact at2 | exact at3 | exact at4 | exact at5 | exact at6 | exact at7 | exact at8)
local macro_rules | `(tactic| walk_at "st") => `(tactic| (repeat walk_at "st1"))
local macro_rules | `(tactic| walk_at "lk") => `(tactic| first | with_reducible assumption | rfl)
local macro_rules | `(tactic| walk_at "kd") => `(tactic| first | exact .base (.int _) | exact .base .non | exact .base (.bl _) | exact .base (.str _) | exact .base (.tup (by walk_at "hp")) | exact .base (.lst (by walk_at "hp")) | exact .base (.dK (by walk_at "hp")) | exact .base (.dT (by walk_at "hp")))
local macro_rules | `(tactic| walk_at "kit") => `(tactic| with_reducible first
  | exact kit_NoneType_bool
  | exact kit_NoneType_int
  | exact kit_NoneType_str
  | exact kit_NoneType_tuple
  | exact kit_NoneType_list
  | exact kit_NoneType_dict
  | exact kit_bool_bool
  | exact kit_bool_int
  | exact kit_bool_str
  | exact kit_bool_tuple
  | exact kit_bool_list
  | exact kit_bool_dict
  | exact kit_int_bool
  | exact kit_int_int
  | exact kit_int_str
  | exact kit_int_tuple
  | exact kit_int_list
  | exact kit_int_dict
  | exact kit_str_bool
  | exact kit_str_int
  | exact kit_str_str
  | exact kit_str_tuple
  | exact kit_str_list
  | exact kit_str_dict
  | exact kit_tuple_bool
  | exact kit_tuple_int
  | exact kit_tuple_str
  | exact kit_tuple_tuple
  | exact kit_tuple_list
  | exact kit_tuple_dict
  | exact kit_list_bool
  | exact kit_list_int
  | exact kit_list_str
  | exact kit_list_tuple
  | exact kit_list_list
  | exact kit_list_dict
  | exact kit_dict_bool
  | exact kit_dict_int
  | exact kit_dict_str
  | exact kit_dict_tuple
  | exact kit_dict_list
  | exact kit_dict_dict)
local macro_rules | `(tactic| walk_at "flen") => `(tactic| decide)
local macro_rules | `(tactic| walk_at "puts") => `(tactic| skip)

def top (i : Nat) : Stmt := PySem.Challenge.pw_oneplainrun_k40_whole_what_stores_find.main.body.getD i (.Pass ⟨0, 0, 0, 0⟩)
/-- where the classes stand -/
structure Ads where
  Disk : Addr
  Store : Addr
  Exchange : Addr
structure Txt (K : PySem.W.Frag) (mg : Str → Option Value) (Z : Ads) : Prop where
  g_Exchange : GlV mg "Exchange" (.ref Z.Exchange)
  g_LOST : GlV mg "LOST" (.int 0)
  g_WHOLE : GlV mg "WHOLE" (.int 2)
  g_SEAL : GlV mg "SEAL" (.str "seal")
  cl : Cls K Z.Disk
  aL : NoAttr K Z.Disk "lying"
  aP : NoAttr K Z.Disk "pending"
  aS : NoAttr K Z.Disk "spoils"
  clS : Cls K Z.Store
  aD : NoAttr K Z.Store "disk"
  n_len : mg "len" = none
  n_int : mg "int" = none
  n_bool : mg "bool" = none
  n_str : mg "str" = none
  n_tuple : mg "tuple" = none
  n_list : mg "list" = none
  n_isinstance : mg "isinstance" = none
  n_all : mg "all" = none
  n_abs : mg "abs" = none
  n_sum : mg "sum" = none
  n_range : mg "range" = none
  n_zip : mg "zip" = none
section
variable {Z : Ads} {P : Program} {w : World} {K : PySem.W.Frag} {mg : Str → Option Value} {base : Heap}
/-! ### kinds of values -/
def spIsInteger (K : PySem.W.Frag) : Sp := fun vs H Q _ => ∃ (i : Int), vs = [.int i] ∧ Q (.bl true) H
abbrev s_is_integer : Stmt := top 5
theorem sc_is_integer : FnScope ["thing"] ["thing"] (defScope s_is_integer) := ⟨rfl, rfl, rfl, by decide +kernel, rfl, by decide +kernel, by decide +kernel⟩
theorem ok_is_integer {f : Addr} {fd : FuncData} (F : Fun K "is_integer" "is_integer" s_is_integer f fd) (T : Txt K mg Z) : FnOk P w K mg base (L2.CX P w) 1 f fd ["thing"] (spIsInteger K) := by
  refine okN F sc_is_integer (fun vs H Q E h => ?_) (fun cdv A outer s H vs Q E hr h => ?_)
  · obtain ⟨i, rfl, _⟩ := h
    rfl
  · obtain ⟨i, rfl, k⟩ := h
    refine ⟨_, [some _], rfl, (pss_one (ps_ret (pe_and (pe_callB (kIsi (K := K)) (by rfl) T.n_isinstance (by decide +kernel) (pa_cons (pv 0) (pa_cons (pe_ty "int" (by rfl) T.n_int (by decide +kernel)) pa_nil))) (pe_one (pe_not (pe_callB (kIsi (K := K)) (by rfl) T.n_isinstance (by decide +kernel) (pa_cons (pv 0) (pa_cons (pe_ty "bool" (by rfl) T.n_bool (by decide +kernel)) pa_nil)))))))), ?_⟩
    walk_at "st"
    exact k
/-- what the law draws from: its own list at p, the great ones at g, the small ones at s -/
structure Pot (H : Hp) (p g s : Addr) : Prop where
  ok : ∃ (gs ss : List Int) (t c : Int), H p = some (.lst [.ref g, .ref s, .int t, .int c]) ∧ H g = some (.lst (gs.map V.int)) ∧ H s = some (.lst (ss.map V.int)) ∧ 0 < ss.length
  pg : p ≠ g
  ps : p ≠ s
  gs : g ≠ s
theorem Pot.keep {H H' : Hp} {p g s : Addr} {ms : List Addr} (h : Pot H p g s) (f : Fr ms H H') (hp : p ∉ ms := by simp) (hg : g ∉ ms := by simp) (hs : s ∉ ms := by simp) : Pot H' p g s := by
  obtain ⟨⟨gs, ss, t, c, h1, h2, h3, h4⟩, a, b, d⟩ := h
  exact ⟨⟨gs, ss, t, c, f.keep _ _ hp h1, f.keep _ _ hg h2, f.keep _ _ hs h3, h4⟩, a, b, d⟩
theorem Pot.ne {H : Hp} {p g s D : Addr} (h : Pot H p g s) (hn : H D = none) : D ≠ p ∧ D ≠ g ∧ D ≠ s := by
  obtain ⟨⟨gs, ss, t, c, h1, h2, h3, h4⟩, _, _, _⟩ := h
  exact ⟨(ne_of_none h1 hn).symm, (ne_of_none h2 hn).symm, (ne_of_none h3 hn).symm⟩
theorem Pot.up {H : Hp} {p g s D : Addr} {o : HO} (h : Pot H p g s) (hn : H D = none) : Pot (upd H D o) p g s := h.keep (ms := []) (Fr.up hn)
theorem Pot.wr {H : Hp} {p g s D : Addr} {o : HO} {xs : List V} (h : Pot H p g s) (hD : H D = some (.lst xs)) (n : D ≠ p ∧ D ≠ g ∧ D ≠ s) : Pot (upd H D o) p g s :=
  h.keep (ms := [D]) ((Fr.refl H).wl hD (.inl (by simp))) (by simpa using n.1.symm) (by simpa using n.2.1.symm) (by simpa using n.2.2.symm)
def spDraw : Sp := fun vs H Q _ => ∃ (p g s : Addr) (many : Int), vs = [.ref p, .int many] ∧ Pot H p g s ∧ 0 < many ∧ many < 1000000 ∧ ∀ H' n, 0 ≤ n → n < many → Pot H' p g s → Fr [p, g] H H' → Q (.int n) H'
abbrev s_law_draw : Stmt := top 73
theorem sc_law_draw : FnScope ["pot", "many", "turn", "number", "place", "seed"] ["pot", "many"] (defScope s_law_draw) := ⟨rfl, rfl, rfl, by decide +kernel, rfl, by decide +kernel, by decide +kernel⟩
theorem cut1 (x : V) (xs : List V) : (x :: xs).eraseIdx 0 = xs := rfl
theorem ok_law_draw {f : Addr} {fd : FuncData} (F : Fun K "_law_draw" "_law_draw" s_law_draw f fd) (T : Txt K mg Z) : FnOk P w K mg base (L2.CX P w) 1 f fd ["pot", "many"] spDraw := by
  refine okN F sc_law_draw (fun vs H Q E h => ?_) (fun cdv A outer s0 H vs Q E hr h => ?_)
  · obtain ⟨p, g, s, many, rfl, _⟩ := h
    rfl
  · obtain ⟨p, g, s, many, rfl, ⟨⟨gs, ss, t, c, hp, hg, hs, hss⟩, pg, ps, gs'⟩, m0, m1, k⟩ := h
    refine ⟨_, [some _, some _, none, none, none, none], rfl, (pss_cons (ps_set (i := 2) sc_law_draw.nd rfl (by first | exact Or.inl rfl | exact Or.inr rfl) (pe_ix (kIxL (K := K)) (pv 0) pe_int (fun _ _ => rfl)))
      (pss_cons (ps_asg (pe_op op_add (pv 2) pe_int) (pg_sub (pv 0) pe_int set_list))
      (pss_cons (ps_if (pt_cmpR op_gt (pe_callB (kLen (K := K)) (by rfl) T.n_len (by decide +kernel) (pa_cons (pe_ix (kIxL (K := K)) (pv 0) pe_int (fun _ _ => rfl)) pa_nil)) pe_int (by first | exact nomark _ | rfl)) (pss_cons (ps_set (i := 3) sc_law_draw.nd rfl (by first | exact Or.inl rfl | exact Or.inr rfl) (pe_ix (kIxL (K := K)) (pe_ix (kIxL (K := K)) (pv 0) pe_int (fun _ _ => rfl)) pe_int (fun _ _ => rfl)))
      (pss_cons (ps_asg (pe_op op_fdiv (pv 3) (pv 1)) (pg_sub (pe_ix (kIxL (K := K)) (pv 0) pe_int (fun _ _ => rfl)) pe_int set_list))
      (pss_cons (ps_if (pt_cmpR op_lt (pv 3) (pv 1) (by first | exact nomark _ | rfl)) (pss_one (ps_expr (kBm (K := K) PySem.F.plainAttrs_list PySem.F.slot_list_pop PySem.F.type_list_pop mt_popAt (pe_ix (kIxL (K := K)) (pv 0) pe_int (fun _ _ => rfl)) (pa_cons pe_int pa_nil)))) pss_nil)
      (pss_one (ps_ret (pe_op op_mod (pe_callTy kInt (by rfl) T.n_int (by decide +kernel) (pa_cons (pv 3) pa_nil)) (pv 1))))))) pss_nil)
      (pss_cons (ps_set (i := 4) sc_law_draw.nd rfl (by first | exact Or.inl rfl | exact Or.inr rfl) (pe_op op_mod (pe_callTy kInt (by rfl) T.n_int (by decide +kernel) (pa_cons (pv 2) pa_nil)) (pe_callB (kLen (K := K)) (by rfl) T.n_len (by decide +kernel) (pa_cons (pe_ix (kIxL (K := K)) (pv 0) pe_int (fun _ _ => rfl)) pa_nil))))
      (pss_cons (ps_set (i := 5) sc_law_draw.nd rfl (by first | exact Or.inl rfl | exact Or.inr rfl) (pe_op op_add (pe_op op_add (pe_op op_mul (pe_ix (kIxL (K := K)) (pe_ix (kIxL (K := K)) (pv 0) pe_int (fun _ _ => rfl)) (pv 4) (fun _ _ => rfl)) pe_int) (pe_op op_mul pe_int (pv 2))) (pe_op op_mul (pe_ix (kIxL (K := K)) (pv 0) pe_int (fun _ _ => rfl)) pe_int)))
      (pss_cons (ps_set (i := 3) sc_law_draw.nd rfl (by first | exact Or.inl rfl | exact Or.inr rfl) (pe_op op_mod (pe_callTy kInt (by rfl) T.n_int (by decide +kernel) (pa_cons (pe_op op_add (pe_op op_mul (pv 5) pe_int) pe_int) pa_nil)) pe_int))
      (pss_cons (ps_set (i := 3) sc_law_draw.nd rfl (by first | exact Or.inl rfl | exact Or.inr rfl) (pe_op op_mod (pe_callTy kInt (by rfl) T.n_int (by decide +kernel) (pa_cons (pe_op op_mul (pv 3) (pe_op op_add (pe_op op_fdiv (pv 3) pe_int) pe_int)) pa_nil)) pe_int))
      (pss_cons (ps_set (i := 3) sc_law_draw.nd rfl (by first | exact Or.inl rfl | exact Or.inr rfl) (pe_op op_mod (pe_callTy kInt (by rfl) T.n_int (by decide +kernel) (pa_cons (pe_op op_add (pe_op op_mul (pv 3) (pe_op op_add (pe_op op_fdiv (pv 3) pe_int) pe_int)) (pv 2)) pa_nil)) pe_int))
      (pss_one (ps_ret (pe_op op_mod (pe_callTy kInt (by rfl) T.n_int (by decide +kernel) (pa_cons (pe_op op_fdiv (pv 3) pe_int) pa_nil)) (pv 1)))))))))))), ?_⟩
    walk_at "st"
    have f1 : Fr [p, g] H (upd H p (.lst [.ref g, .ref s, .int (t + 1), .int c])) := (Fr.refl H).wl hp (.inl (by simp))
    refine iteD (fun h0 => ?_) (fun h0 => ?_)
    · obtain ⟨n0, gs, rfl⟩ : ∃ n r, gs = n :: r := by
        cases gs with
        | nil => exact absurd h0 (by simp)
        | cons n r => exact ⟨n, r, rfl⟩
      rw [List.map_cons] at hg
      walk_at "st"
      have hm : ∀ n : Int, 0 ≤ n % many ∧ n % many < many := fun n => ⟨Int.emod_nonneg _ (by omega), Int.emod_lt_of_pos _ m0⟩
      refine iteD (fun h1 => ?_) (fun h1 => ?_)
      · walk_at "st"
        refine k _ _ (hm _).1 (hm _).2 ⟨⟨gs, ss, t + 1, c, ?_, ?_, ?_, hss⟩, pg, ps, gs'⟩ ?_
        · walk_at "hp"
        · walk_at "hp"
        · walk_at "hp"
        · exact (f1.wl (p := g) (by walk_at "hp") (.inl (by simp))).wl (p := g) (by walk_at "hp") (.inl (by simp))
      · walk_at "st"
        refine k _ _ (hm _).1 (hm _).2 ⟨⟨n0 / many :: gs, ss, t + 1, c, ?_, ?_, ?_, hss⟩, pg, ps, gs'⟩ ?_
        · walk_at "hp"
        · walk_at "hp"
        · walk_at "hp"
        · exact f1.wl (p := g) (by walk_at "hp") (.inl (by simp))
    · have hm : ∀ n : Int, 0 ≤ n % many ∧ n % many < many := fun n => ⟨Int.emod_nonneg _ (by omega), Int.emod_lt_of_pos _ m0⟩
      obtain ⟨j, hj, ej, hat⟩ := at_mod (xs := ss.map V.int) t (by simpa using hss)
      have hat : atI (ss.map V.int) (t % ((ss.map V.int).length : Int)) = some (.int (ss.getD j 0)) := by
        rw [hat]
        rw [List.length_map] at hj
        simp [hj]
      walk_at "st"
      exact k _ _ (hm _).1 (hm _).2 ⟨⟨gs, ss, t + 1, c, upd_same, (by walk_at "hp"), (by walk_at "hp"), hss⟩, pg, ps, gs'⟩ f1
def spPot (K : PySem.W.Frag) : Sp := fun vs H Q _ => ∃ (a : Addr) (ns : List Int), vs = [.ref a] ∧ SqL K H a (ns.map V.int) ∧ ns.length ≤ 63 ∧ ∀ H' p g s, Pot H' p g s → Fr [] H H' → H p = none → H g = none → H s = none → Q (.ref p) H'
abbrev s_law_pot : Stmt := top 72
theorem sc_law_pot : FnScope ["script", "cells", "greats", "smalls", "item"] ["script"] (defScope s_law_pot) := ⟨rfl, rfl, rfl, by decide +kernel, rfl, by decide +kernel, by decide +kernel⟩
theorem ok_law_pot {f : Addr} {fd : FuncData} (F : Fun K "_law_pot" "_law_pot" s_law_pot f fd) (T : Txt K mg Z) : FnOk P w K mg base (L2.CX P w) 1 f fd ["script"] (spPot K) := by
  refine okN F sc_law_pot (fun vs H Q E h => ?_) (fun cdv A outer s0 H vs Q E hr h => ?_)
  · obtain ⟨a, ns, rfl, _⟩ := h
    rfl
  · obtain ⟨a, ns, rfl, hS, hlen, k⟩ := h
    refine ⟨_, [some _, none, none, none, none], rfl, (pss_cons (ps_setLc (i := 1) (own := [("item", 4)]) (g := (gName 4)) (tt := tYes) rfl sc_law_pot.nd rfl rfl (sw_true rfl rfl rfl (by decide +kernel)) (kPiL (K := K) (pe_slice (kSlL (K := K)) (pv 0) po_none (po_some pe_int))) (blkOk_by (N := ["script", "cells", "greats", "smalls", "item"]) (sc := defScope s_law_pot) (by decide +kernel)) (fun _ _ _ _ _ => (pg_name (i := 4) sc_law_pot.nd rfl (by first | exact Or.inl rfl | exact Or.inr rfl))) (fun _ _ _ _ _ => pts_nil) (fun _ _ _ _ _ => (pe_callTy kInt (by rfl) T.n_int (by decide +kernel) (pa_cons (pv 4) pa_nil))))
      (pss_cons (ps_setLc (i := 2) (own := [("item", 4)]) (g := (gName 4)) (tt := _) rfl sc_law_pot.nd rfl rfl (sw_true rfl rfl rfl (by decide +kernel)) (kPiL (K := K) (pv 1)) (blkOk_by (N := ["script", "cells", "greats", "smalls", "item"]) (sc := defScope s_law_pot) (by decide +kernel)) (fun _ _ _ _ _ => (pg_name (i := 4) sc_law_pot.nd rfl (by first | exact Or.inl rfl | exact Or.inr rfl))) (fun _ _ _ _ _ => (pts_one (pt_cmpR op_ge (pe_callB kAbs (by rfl) T.n_abs (by decide +kernel) (pa_cons (pv 4) pa_nil)) (pe_op op_pow pe_int pe_int) (by first | exact nomark _ | rfl)))) (fun _ _ _ _ _ => (pe_callB kAbs (by rfl) T.n_abs (by decide +kernel) (pa_cons (pv 4) pa_nil))))
      (pss_cons (ps_set (i := 3) sc_law_pot.nd rfl (by first | exact Or.inl rfl | exact Or.inr rfl) (pe_op op_cat (pe_lc (own := [("item", 4)]) (g := (gName 4)) (tt := _) rfl sc_law_pot.nd (kPiL (K := K) (pv 1)) (blkOk_by (N := ["script", "cells", "greats", "smalls", "item"]) (sc := defScope s_law_pot) (by decide +kernel)) (fun _ _ _ _ _ => (pg_name (i := 4) sc_law_pot.nd rfl (by first | exact Or.inl rfl | exact Or.inr rfl))) (fun _ _ _ _ _ => (pts_one (pt_cmpR op_lt (pe_callB kAbs (by rfl) T.n_abs (by decide +kernel) (pa_cons (pv 4) pa_nil)) (pe_op op_pow pe_int pe_int) (by first | exact nomark _ | rfl)))) (fun _ _ _ _ _ => (pe_op op_mod (pe_callTy kInt (by rfl) T.n_int (by decide +kernel) (pa_cons (pv 4) pa_nil)) pe_int))) (pe_lst (pa_cons (pe_op op_add (pe_callB (kLen (K := K)) (by rfl) T.n_len (by decide +kernel) (pa_cons (pv 1) pa_nil)) pe_int) pa_nil))))
      (pss_one (ps_ret (pe_lst (pa_cons (pv 2) (pa_cons (pv 3) (pa_cons pe_int (pa_cons (pe_op op_mod (pe_callTy kInt (by rfl) T.n_int (by decide +kernel) (pa_cons (pe_callB (kSum (K := K)) (by rfl) T.n_sum (by decide +kernel) (pa_cons (pv 3) pa_nil)) pa_nil)) pe_int) pa_nil)))))))))), ?_⟩
    walk_at "st"
    intro p1 hp1
    walk_at "st"
    intro D1 hD1
    have ecut : cutV (ns.map V.int) none (some 63) = ns.map V.int := by
      have e := cut_take (ns.map V.int) 63
      rw [List.take_of_length_le (by simpa using hlen)] at e
      exact e
    rw [ecut] at hD1 ⊢
    refine lc_ints some (walk_list (xs := ns.map V.int)) (fun o => SqL.of (by walk_at "hp")) (line_lt (by omega)) (fun n acc hn hacc Nx hN => ?_) ?_
    · walk_at "st"
      exact ⟨acc, upd_same, hacc, by rw [upd_upd]; exact hN⟩
    rw [List.filterMap_some]
    walk_at "st"
    intro D2 hD2
    refine lc_ints (fun n => if (10 : Int) ^ (18 : Int).toNat ≤ (if n < 0 then -n else n) then some (if n < 0 then -n else n) else none) (walk_list (xs := ns.map V.int)) (fun o => SqL.of (by walk_at "hp")) (line_lt (by omega)) (fun n acc hn hacc Nx hN => ?_) ?_
    · walk_at "st"
      refine iteD (fun h => ?_) (fun h => ?_)
      · walk_at "st"
        rw [if_pos h] at hN
        exact ⟨acc, upd_same, hacc, by rw [upd_upd]; exact hN⟩
      · rw [if_neg h] at hN
        simpa using hN
    generalize List.filterMap _ ns = gs
    walk_at "st"
    intro D3 hD3
    refine lc_ints (fun n => if (if n < 0 then -n else n) < (10 : Int) ^ (18 : Int).toNat then some (n % 1000000007) else none) (walk_list (xs := ns.map V.int)) (fun o => SqL.of (by walk_at "hp")) (line_lt (by omega)) (fun n acc hn hacc Nx hN => ?_) ?_
    · walk_at "st"
      refine iteD (fun h => ?_) (fun h => ?_)
      · walk_at "st"
        rw [if_pos h] at hN
        exact ⟨acc, upd_same, hacc, by rw [upd_upd]; exact hN⟩
      · rw [if_neg h] at hN
        simpa using hN
    have hl3 := List.length_filterMap_le (fun n : Int => if (if n < 0 then -n else n) < (10 : Int) ^ (18 : Int).toNat then some (n % 1000000007) else none) ns
    generalize List.filterMap _ ns = ss at hl3 ⊢
    walk_at "st"
    intro p4 hp4
    walk_at "st"
    intro p5 hp5
    have ess : ss.map V.int ++ [V.int (((ns.map V.int).length : Int) + 1)] = (ss ++ [((ns.map V.int).length : Int) + 1]).map V.int := by rw [List.map_append]; rfl
    rw [ess]
    generalize ess2 : ss ++ [((ns.map V.int).length : Int) + 1] = ss2
    walk_at "st"
    intro p6 hp6
    walk_at "st"
    have F1 : Fr [] H _ := (Fr.refl H).new (o := .lst (ns.map V.int)) hp1
    have F2 := F1.new (o := .lst (ns.map V.int)) hD1
    have F3 := F2.new (o := .lst (gs.map V.int)) hD2
    have F4 := F3.new (o := .lst (ss.map V.int)) hD3
    have F5 := F4.new (o := .lst [V.int (((ns.map V.int).length : Int) + 1)]) hp4
    have F6 := F5.new (o := .lst (ss2.map V.int)) hp5
    have F7 := F6.new (o := .lst [V.ref D2, V.ref p5, V.int 0, V.int (ss2.sum % 999983)]) hp6
    refine k _ p6 D2 p5 ⟨⟨gs, ss2, 0, _, upd_same, (by walk_at "hp"), (by walk_at "hp"), ?_⟩, ?_, ?_, ?_⟩ F7 (F6.free hp6) (F2.free hD2) (F5.free hp5)
    · rw [← ess2]
      simp
    · exact (ne_of_none (b := p6) (show _ = some (HO.lst (gs.map V.int)) by walk_at "hp") hp6).symm
    · exact (ne_of_none (b := p6) (show _ = some (HO.lst (ss2.map V.int)) by walk_at "hp") hp6).symm
    · exact ne_of_none (b := p5) (show _ = some (HO.lst (gs.map V.int)) by walk_at "hp") hp5
end

end K40

namespace K40
open PySem PySem.Spec PyProof.Rows L2 Hq
local macro_rules | `(tactic| walk_at "st1") => `(tactic| first
  | with_reducible refine st_seq ?_ | with_reducible refine st_ret ?_ | with_reducible refine st_ifS ?_ | with_reducible refine st_asg ?_ | with_reducible refine st_drop ?_
  | ((with_reducible refine' st_var ?hv ?_); (case hv => rfl)) | with_reducible refine st_c ?_ | with_reducible refine st_op ?_ | with_reducible refine st_un ?_
  | with_reducible refine st_I0 ?_ | with_reducible refine st_U ?_ | ((with_reducible refine' st_I ?hc ?_); (case hc => walk_at "side"))
  | ((with_reducible refine' st_eq ?hs ?_); (case hs => rfl)) | ((with_reducible refine' st_ne ?hs ?_); (case hs => rfl))
  | with_reducible refine st_test ?_ | with_reducible refine st_B ?_ | with_reducible refine st_bl ?_ | with_reducible refine st_isN ?_ | with_reducible refine st_notN ?_
  | with_reducible refine st_chain ?_ | with_reducible refine st_and ?_ | with_reducible refine st_or ?_ | with_reducible refine st_not ?_
  | with_reducible refine st_andV ?_ | with_reducible refine st_orV ?_ | with_reducible refine st_notV ?_ | with_reducible refine st_if ?_
  | with_reducible refine st_CB ?_ | with_reducible refine st_cons ?_ | with_reducible refine st_nil ?_ | with_reducible refine st_fld ?_
  | ((with_reducible refine st_tup ?_)) | ((with_reducible refine st_lst ?_))
  | with_reducible refine st_call ?_ | with_reducible refine st_meth ?_ | with_reducible refine st_make ?_
  | with_reducible refine st_sl ?_ | with_reducible refine st_noPart ?_ | with_reducible refine st_part ?_ | with_reducible refine st_int ?_
  | ((with_reducible refine' st_ixL ?hq ?he ?_); (case hq => walk_at "sqL"); (case he => walk_at "at"))
  | ((with_reducible refine' st_ixT ?hq ?he ?_); (case hq => walk_at "sqT"); (case he => walk_at "at"))
  | with_reducible refine st_bm ?_ | with_reducible refine st_app ?_
  | ((with_reducible refine' st_append ?hq ?hl ?_); (case hq => walk_at "hp"); (case hl => walk_at "line"))
  | ((with_reducible refine' st_len (n := 0) ?hq ?_); (case hq => first | exact Or.inl (by walk_at "sqL") | exact Or.inr (by walk_at "sqT")))
  | ((with_reducible refine' st_listOf ?hq ?_); (case hq => first | exact Or.inl (by walk_at "sqL") | exact Or.inr (by walk_at "sqT")))
  | ((with_reducible refine st_name ?_); (try dsimp only [List.set_cons_zero, List.set_cons_succ])) | with_reducible refine st_par ?_
  | with_reducible refine st_gcons ?_ | with_reducible refine st_gnil ?_ | with_reducible refine st_gsub ?_ | with_reducible refine st_sFld ?_
  | ((with_reducible refine' st_gtup ?hq ?hl ?_); (case hq => walk_at "sqT"); (case hl => rfl))
  | ((with_reducible refine' st_setL ?hq ?hl ?_); (case hq => walk_at "hp"); (case hl => first | rfl | exact ix0 | exact ixN_nat (by assumption)); (try simp only [Int.reduceToNat, List.set_cons_zero, List.set_cons_succ]))
  | with_reducible refine st_intI ?_ | with_reducible refine st_abs ?_
  | ((with_reducible refine' st_popAt ?hq ?hk ?hy ?_); (case hq => walk_at "hp"); (case hk => exact seq0); (case hy => rfl))
  | ((with_reducible refine' and_left ?ht ?_); (case ht => walk_at "ty"))
  | with_reducible refine st_lc ?_ | with_reducible refine st_for ?_ | with_reducible refine st_iL ?_ | with_reducible refine st_iT ?_ | with_reducible refine st_iR1 ?_ | with_reducible refine st_iR2 ?_ | with_reducible refine st_iZ ?_
  | ((with_reducible refine' st_refL ?hq ?_); (case hq => walk_at "sqL")) | ((with_reducible refine' st_refT ?hq ?_); (case hq => walk_at "sqT"))
  | ((with_reducible refine' st_rng1 ?hq ?_); (case hq => walk_at "side")) | ((with_reducible refine' st_rng2 ?hq ?_); (case hq => walk_at "side"))
  | ((with_reducible refine' st_zip ?hq ?hr ?_); (case hq => walk_at "sqb"); (case hr => walk_at "sqb"))
  | ((with_reducible refine' st_size ?hw ?_); (case hw => walk_at "line"))
  | ((with_reducible refine' st_sum ?hq ?_); (case hq => walk_at "sqL"))
  | with_reducible refine st_two ?_ | with_reducible refine st_yes ?_ | ((with_reducible refine' st_wipe ?hw ?_); (case hw => rfl))
  | ((with_reducible refine' st_slL ?hq ?_); (case hq => walk_at "sqL"))
  | ((with_reducible refine' st_cat ?hq ?hr ?hl ?_); (case hq => walk_at "hp"); (case hr => walk_at "hp"); (case hl => walk_at "line"))
  | ((with_reducible refine' st_isi ?hk ?he ?_); (case hk => walk_at "kd"); (case he => walk_at "kit"))
  | ((with_reducible refine' st_ins ?hq ?hc ?hn ?hl ?_); (case hq => walk_at "hp"); (case hc => with_reducible assumption); (case hn => with_reducible assumption); (case hl => walk_at "flen"); walk_at "puts")
  | ((with_reducible refine' st_att ?hq ?hc ?hn ?hl ?_); (case hq => walk_at "hp"); (case hc => with_reducible assumption); (case hn => with_reducible assumption); (case hl => walk_at "lk"))
  | ((with_reducible refine' st_mt ?hq ?hl ?_); (case hq => walk_at "hp"); (case hl => walk_at "lk"))
  | ((with_reducible refine' st_extend ?hq ?hr ?hl ?_); (case hq => walk_at "hp"); (case hr => walk_at "hp"); (case hl => walk_at "line"))
  | with_reducible refine st_next ?_ | with_reducible refine st_retN ?_ | (with_reducible refine iteNT ?_) | (with_reducible refine iteNF ?_) | (with_reducible refine iteT ?_) | (with_reducible refine iteF ?_))
local macro_rules | `(tactic| walk_at "side") => `(tactic| first | omega | decide | assumption | exact ⟨by omega, by omega⟩ | exact Or.inr ⟨by omega, by omega⟩ | exact Or.inl ⟨by omega, by omega⟩ | (simp only [List.length_map, List.length_cons, List.length_nil, List.length_append] at *; omega))
local macro_rules | `(tactic| walk_at "hp") => `(tactic| first | assumption | exact upd_same | refine upd_old (by assumption) (by walk_at "hp") | (rw [upd_ne (by first | assumption | exact Ne.symm (by assumption))]; walk_at "hp"))
local macro_rules | `(tactic| walk_at "sqL") => `(tactic| first | assumption | exact SqL.of (by walk_at "hp"))
local macro_rules | `(tactic| walk_at "sqT") => `(tactic| first | assumption | exact SqT.of (by walk_at "hp"))
local macro_rules | `(tactic| walk_at "sqb") => `(tactic| (unfold SqB; first | ((with_reducible change SqL _ _ _ _); walk_at "sqL") | ((with_reducible change SqT _ _ _ _); walk_at "sqT")))
local macro_rules | `(tactic| walk_at "line") => `(tactic| first | assumption | decide | (apply line_of; walk_at "side") | (apply line_lt; walk_at "side"))
local macro_rules | `(tactic| walk_at "ty") => `(tactic| ((with_reducible refine' ty_lst ?hq); (case hq => walk_at "hp")))
local macro_rules | `(tactic| walk_at "at") => `(tactic| with_reducible first | assumption | exact at0 | exact at1 | exact at2 | exact at3 | exact at4 | exact at5 | exact at6 | exact at7 | exact at8)
local macro_rules | `(tactic| walk_at "st") => `(tactic| (repeat walk_at "st1"))
local macro_rules | `(tactic| walk_at "lk") => `(tactic| first | with_reducible assumption | rfl)
local macro_rules | `(tactic| walk_at "kd") => `(tactic| first | exact .base (.int _) | exact .base .non | exact .base (.bl _) | exact .base (.str _) | exact .base (.tup (by walk_at "hp")) | exact .base (.lst (by walk_at "hp")) | exact .base (.dK (by walk_at "hp")) | exact .base (.dT (by walk_at "hp")))
local macro_rules | `(tactic| walk_at "kit") => `(tactic| with_reducible first
  | exact kit_NoneType_bool
  | exact kit_NoneType_int
  | exact kit_NoneType_str
  | exact kit_NoneType_tuple
  | exact kit_NoneType_list
  | exact kit_NoneType_dict
  | exact kit_bool_bool
  | exact kit_bool_int
  | exact kit_bool_str
  | exact kit_bool_tuple
  | exact kit_bool_list
  | exact kit_bool_dict
  | exact kit_int_bool
  | exact kit_int_int
  | exact kit_int_str
  | exact kit_int_tuple
  | exact kit_int_list
  | exact kit_int_dict
  | exact kit_str_bool
  | exact kit_str_int
  | exact kit_str_str
  | exact kit_str_tuple
  | exact kit_str_list
  | exact kit_str_dict
  | exact kit_tuple_bool
  | exact kit_tuple_int
  | exact kit_tuple_str
  | exact kit_tuple_tuple
  | exact kit_tuple_list
  | exact kit_tuple_dict
  | exact kit_list_bool
  | exact kit_list_int
  | exact kit_list_str
  | exact kit_list_tuple
  | exact kit_list_list
  | exact kit_list_dict
  | exact kit_dict_bool
  | exact kit_dict_int
  | exact kit_dict_str
  | exact kit_dict_tuple
  | exact kit_dict_list
  | exact kit_dict_dict)
local macro_rules | `(tactic| walk_at "flen") => `(tactic| decide)
local macro_rules | `(tactic| walk_at "puts") => `(tactic| skip)

local macro_rules | `(tactic| walk_at "st1") => `(tactic| first
  | with_reducible refine st_dc ?_ | with_reducible refine st_dgetS ?_ | with_reducible refine st_dinS ?_ | with_reducible refine st_dninS ?_ | with_reducible refine st_dputS ?_ | with_reducible refine st_newT ?_ | with_reducible refine iteNN ?_ | with_reducible refine iteYN ?_
  | ((with_reducible refine' st_getT ?hq ?hk ?hv ?_); (case hq => walk_at "hp"); (case hk => walk_at "key"); (case hv => with_reducible assumption))
  | ((with_reducible refine' st_inT ?hq ?hk ?_); (case hq => walk_at "hp"); (case hk => walk_at "key"))
  | ((with_reducible refine' st_ninT ?hq ?hk ?_); (case hq => walk_at "hp"); (case hk => walk_at "key"))
  | ((with_reducible refine' st_putT ?hq ?hk ?hl ?_); (case hq => walk_at "hp"); (case hk => walk_at "key"); (case hl => walk_at "line"))
  | ((with_reducible refine' st_cputT ?hq ?hk ?hl ?_); (case hq => walk_at "hp"); (case hk => walk_at "key"); (case hl => walk_at "line"))
  | ((with_reducible refine' st_ixB ?hq ?he ?_); (case hq => first | assumption | exact Or.inl (by walk_at "sqL") | exact Or.inr (by walk_at "sqT")); (case he => walk_at "at")))
local macro_rules | `(tactic| walk_at "key") => `(tactic| with_reducible assumption)

section
variable {Z : Ads} {P : Program} {w : World} {K : PySem.W.Frag} {mg : Str → Option Value} {base : Heap}
def spAny : Sp := fun vs H Q _ => ∃ (p g s q : Addr) (xs : List V), vs = [.ref p, .ref q] ∧ Pot H p g s ∧ (H q = some (.tup xs) ∨ (H q = some (.lst xs) ∧ q ≠ p ∧ q ≠ g)) ∧ 0 < xs.length ∧ xs.length < 1000 ∧ ∀ H' x, x ∈ xs → Pot H' p g s → Fr [p, g] H H' → Q x H'
abbrev s_law_any : Stmt := top 74
theorem sc_law_any : FnScope ["pot", "items"] ["pot", "items"] (defScope s_law_any) := ⟨rfl, rfl, rfl, by decide +kernel, rfl, by decide +kernel, by decide +kernel⟩
theorem ok_law_any {f : Addr} {fd : FuncData} (F : Fun K "_law_any" "_law_any" s_law_any f fd) (T : Txt K mg Z) (D_law_draw : Dn P w K mg base "_law_draw" 1 ["pot", "many"] spDraw) : FnOk P w K mg base (L2.CX P w) 2 f fd ["pot", "items"] spAny := by
  refine okN F sc_law_any (fun vs H Q E h => ?_) (fun cdv A outer s0 H vs Q E hr h => ?_)
  · obtain ⟨p, g, s, q, xs, rfl, _⟩ := h
    rfl
  · obtain ⟨p, g, s, q, xs, rfl, hP, hq, h0, h1, k⟩ := h
    refine ⟨_, [some _, some _], rfl, (pss_one (ps_ret (pe_ix (kIxB (K := K)) (pv 1) (pe_d D_law_draw E0 (hr.mono (by first | decide | omega)) (by rfl) passL (pa_cons (pv 0) (pa_cons (pe_callB (kLen (K := K)) (by rfl) T.n_len (by decide +kernel) (pa_cons (pv 1) pa_nil)) pa_nil))) (fun _ _ => rfl)))), ?_⟩
    have hB : SqL K H q xs ∨ SqT K H q xs := by
      rcases hq with e | ⟨e, _, _⟩
      · exact .inr (SqT.of e)
      · exact .inl (SqL.of e)
    walk_at "st"
    refine st_len (n := 0) hB ?_
    walk_at "st"
    refine ⟨p, g, s, _, rfl, hP, by omega, by omega, fun H1 n n0 n1 hP1 fr => ?_⟩
    have hB1 : SqL K H1 q xs ∨ SqT K H1 q xs := by
      rcases hq with e | ⟨e, n1, n2⟩
      · exact .inr (SqT.of (fr.tup _ _ e))
      · exact .inl (SqL.of (fr.keep _ _ (by simpa using ⟨n1, n2⟩) e))
    obtain ⟨v, hv, hat⟩ := at_in n0 n1
    walk_at "st"
    exact k _ _ hv hP1 fr
/-! ### data -/
mutual
def wid : PyData → Bool
  | .tuple xs => decide (xs.length ≤ 1000) && widAll xs
  | _ => true
def widAll : List PyData → Bool
  | [] => true
  | x :: xs => wid x && widAll xs
end
structure Nice (n : Nat) (d : PyData) : Prop where
  lay : d.canLay0 = true
  dep : d.depth ≤ n
  wide : wid d = true
def KPart (d : PyData) : Prop := (∃ x, d = .str x ∧ PySem.PyData.strOk x = true) ∨ ∃ n, 0 ≤ n ∧ d = .int n
def UPart (d : PyData) : Prop := KPart d ∧ d ≠ .str "seal"
def UKey (d : PyData) : Prop := ∃ ds, d = .tuple ds ∧ 0 < ds.length ∧ ds.length ≤ 3 ∧ ∀ e ∈ ds, UPart e
def KeyD (d : PyData) : Prop := ∃ ds, d = .tuple ds ∧ 0 < ds.length ∧ ds.length ≤ 3 ∧ ∀ e ∈ ds, KPart e
def keyVals : List V := [.str "a", .str "item", .str "x y", .str "", .int 0, .int 1, .int 2, .int (10 ^ (12 : Int).toNat)]
theorem UKey.key {d : PyData} (h : UKey d) : KeyD d := by
  obtain ⟨ds, a, b, c, k⟩ := h
  exact ⟨ds, a, b, c, fun e he => (k e he).1⟩
theorem str_ne {x : Str} (h : ¬ x = "seal") : PyData.str x ≠ .str "seal" := fun e => h (by injection e)
theorem keyVal_td (H : Hp) {v : V} (h : v ∈ keyVals) : ∃ d, TD H v d ∧ UPart d := by
  simp only [keyVals, List.mem_cons, List.not_mem_nil, or_false] at h
  rcases h with rfl | rfl | rfl | rfl | rfl | rfl | rfl | rfl
  · exact ⟨_, .str _, .inl ⟨_, rfl, by decide +kernel⟩, str_ne (by decide +kernel)⟩
  · exact ⟨_, .str _, .inl ⟨_, rfl, by decide +kernel⟩, str_ne (by decide +kernel)⟩
  · exact ⟨_, .str _, .inl ⟨_, rfl, by decide +kernel⟩, str_ne (by decide +kernel)⟩
  · exact ⟨_, .str _, .inl ⟨_, rfl, by decide +kernel⟩, str_ne (by decide +kernel)⟩
  · exact ⟨_, .int _, .inr ⟨_, by decide, rfl⟩, fun z => nomatch z⟩
  · exact ⟨_, .int _, .inr ⟨_, by decide, rfl⟩, fun z => nomatch z⟩
  · exact ⟨_, .int _, .inr ⟨_, by decide, rfl⟩, fun z => nomatch z⟩
  · exact ⟨_, .int _, .inr ⟨_, by decide, rfl⟩, fun z => nomatch z⟩
theorem keyVals_td (H : Hp) : ∀ xs : List V, (∀ x ∈ xs, x ∈ keyVals) → ∃ ds, TDs H xs ds ∧ ∀ e ∈ ds, UPart e
  | [], _ => ⟨[], .nil, fun _ h => nomatch h⟩
  | x :: xs, h => by
    obtain ⟨d, a, b⟩ := keyVal_td H (h x (by simp))
    obtain ⟨ds, a2, b2⟩ := keyVals_td H xs fun y hy => h y (by simp [hy])
    refine ⟨d :: ds, .cons a a2, fun e he => ?_⟩
    rcases List.mem_cons.mp he with rfl | he
    · exact b
    · exact b2 e he
def spKey : Sp := fun vs H Q _ => ∃ (p g s : Addr), vs = [.ref p] ∧ Pot H p g s ∧ ∀ H' v d, TD H' v d → UKey d → Pot H' p g s → Fr [p, g] H H' → Q v H'
abbrev s_law_key : Stmt := top 76
theorem sc_law_key : FnScope ["pot", "parts", "turn"] ["pot"] (defScope s_law_key) := ⟨rfl, rfl, rfl, by decide +kernel, rfl, by decide +kernel, by decide +kernel⟩
theorem ok_law_key {f : Addr} {fd : FuncData} (F : Fun K "_law_key" "_law_key" s_law_key f fd) (T : Txt K mg Z) (D_law_draw : Dn P w K mg base "_law_draw" 1 ["pot", "many"] spDraw) (D_law_any : Dn P w K mg base "_law_any" 2 ["pot", "items"] spAny) : FnOk P w K mg base (L2.CX P w) 3 f fd ["pot"] spKey := by
  refine okN F sc_law_key (fun vs H Q E h => ?_) (fun cdv A outer s0 H vs Q E hr h => ?_)
  · obtain ⟨p, g, s, rfl, _⟩ := h
    rfl
  · obtain ⟨p, g, s, rfl, hP, k⟩ := h
    refine ⟨_, [some _, none, none], rfl, (pss_cons (ps_setLc (i := 1) (own := [("turn", 2)]) (g := (gName 2)) (tt := tYes) rfl sc_law_key.nd rfl rfl (sw_true rfl rfl rfl (by decide +kernel)) (pi_range1 (by rfl) T.n_range (pa_cons (pe_op op_add pe_int (pe_d D_law_draw E0 (hr.mono (by first | decide | omega)) (by rfl) passL (pa_cons (pv 0) (pa_cons pe_int pa_nil)))) pa_nil)) (blkOk_by (N := ["pot", "parts", "turn"]) (sc := defScope s_law_key) (by decide +kernel)) (fun _ _ _ _ _ => (pg_name (i := 2) sc_law_key.nd rfl (by first | exact Or.inl rfl | exact Or.inr rfl))) (fun _ _ _ _ _ => pts_nil) (fun _ _ _ _ _ => (pe_d D_law_any E0 (hr.mono (by first | decide | omega)) (by rfl) passL (pa_cons (pv 0) (pa_cons (pe_tup (pa_cons pe_str (pa_cons pe_str (pa_cons pe_str (pa_cons pe_str (pa_cons pe_int (pa_cons pe_int (pa_cons pe_int (pa_cons (pe_op op_pow pe_int pe_int) pa_nil))))))))) pa_nil)))))
      (pss_one (ps_ret (pe_callTy (kTupOf (K := K)) (by rfl) T.n_tuple (by decide +kernel) (pa_cons (pv 1) pa_nil))))), ?_⟩
    walk_at "st"
    refine ⟨p, g, s, _, rfl, hP, by omega, by omega, fun H1 n n0 n1 hP1 fr => ?_⟩
    walk_at "st"
    intro D hD
    have nD := hP1.ne hD
    have D0 : H D = none := fr.back (by simpa using ⟨nD.1, nD.2.1⟩) hD
    refine lc_it walk_range (fun i H' => ∃ acc, H' D = some (.lst acc) ∧ Fr [p, g] H H' ∧ Pot H' p g s ∧ acc.length = i ∧ ∀ x ∈ acc, x ∈ keyVals) ⟨[], upd_same, fr.new hD, hP1.up hD, rfl, fun _ h => nomatch h⟩ (fun _ _ _ _ => trivial) ?_ ?_
    · rintro i x H2 H3 hi ⟨acc, h1, h2, h3, h4, h5⟩ ⟨rfl, rfl⟩
      walk_at "st"
      intro q hq
      walk_at "st"
      refine ⟨p, g, s, q, keyVals, rfl, h3.up hq, .inl upd_same, by decide, by decide, fun H4 x hx hP4 f4 => ?_⟩
      have e4 : H4 D = some (.lst acc) := f4.keep D _ (by simpa using ⟨nD.1, nD.2.1⟩) (upd_old hq h1)
      refine ⟨acc, e4, line_lt (by omega), acc ++ [x], upd_same, ((h2.new hq).trans f4).wl e4 (.inr D0), hP4.wr e4 nD, by simp [h4], fun y hy => ?_⟩
      rcases List.mem_append.mp hy with hy | hy
      · exact h5 y hy
      · rw [List.mem_singleton.mp hy]; exact hx
    · rintro H2 ⟨acc, h1, h2, h3, h4, h5⟩
      walk_at "st"
      refine st_tupOf (SqL.of h1) fun q hq => ?_
      walk_at "st"
      obtain ⟨ds, a, b⟩ := keyVals_td (upd H2 q (.tup acc)) acc h5
      refine k _ _ _ (.tup upd_same a) ⟨ds, rfl, ?_, ?_, b⟩ (h3.up hq) (h2.new hq)
      · rw [← a.length]; omega
      · rw [← a.length]; omega
theorem nice_all {n : Nat} : ∀ ds : List PyData, (∀ d ∈ ds, Nice n d) → PyData.canLayAll0 ds = true ∧ PyData.depthAll ds ≤ n ∧ widAll ds = true
  | [], _ => ⟨rfl, Nat.zero_le _, rfl⟩
  | d :: ds, h => by
    obtain ⟨a, b, c⟩ := h d (by simp)
    obtain ⟨a2, b2, c2⟩ := nice_all ds fun e he => h e (by simp [he])
    simp only [PyData.canLayAll0, PyData.depthAll, widAll, a, a2, c, c2, Bool.and_self, true_and, and_true]
    omega
theorem nice_tup {n : Nat} {ds : List PyData} (h : ∀ d ∈ ds, Nice n d) (hl : ds.length ≤ 1000) : Nice (n + 1) (.tuple ds) := by
  obtain ⟨a, b, c⟩ := nice_all ds h
  refine ⟨?_, ?_, ?_⟩
  · simpa only [PyData.canLay0] using a
  · simp only [PyData.depth]
    omega
  · simp only [wid, c, decide_eq_true hl, Bool.and_self]
theorem nice_mem {n : Nat} : ∀ {ds : List PyData} {d : PyData}, PyData.canLayAll0 ds = true → PyData.depthAll ds ≤ n → widAll ds = true → d ∈ ds → Nice n d
  | e :: ds, d, h1, h2, h3, hm => by
    simp only [PyData.canLayAll0, Bool.and_eq_true] at h1
    simp only [PyData.depthAll] at h2
    simp only [widAll, Bool.and_eq_true] at h3
    rcases List.mem_cons.mp hm with rfl | hm
    · exact ⟨h1.1, by omega, h3.1⟩
    · exact nice_mem h1.2 (by omega) h3.2 hm
theorem Nice.mono {n m : Nat} {d : PyData} (h : Nice n d) (l : n ≤ m) : Nice m d := ⟨h.1, Nat.le_trans h.2 l, h.3⟩
theorem Nice.sub {n : Nat} {ds : List PyData} {d : PyData} (h : Nice n (.tuple ds)) (hm : d ∈ ds) : 0 < n ∧ Nice (n - 1) d ∧ ds.length ≤ 1000 := by
  obtain ⟨h1, h2, h3⟩ := h
  simp only [PyData.canLay0] at h1
  simp only [PyData.depth] at h2
  simp only [wid, Bool.and_eq_true, decide_eq_true_eq] at h3
  exact ⟨by omega, nice_mem h1 (by omega) h3.2 hm, h3.1⟩
theorem Nice.len {n : Nat} {ds : List PyData} (h : Nice n (.tuple ds)) : ds.length ≤ 1000 := by
  have h3 := h.3
  simp only [wid, Bool.and_eq_true, decide_eq_true_eq] at h3
  exact h3.1
def thingVals : List V := [.int 0, .int (-7), .str "word", .non, .bl true, .int (10 ^ (20 : Int).toNat)]
def otherVals : List V := [.str "", .str "two\nlines", .bl false]
theorem thing_td (H : Hp) {v : V} (h : v ∈ thingVals ++ otherVals) : ∃ d, TD H v d ∧ Nice 0 d := by
  simp only [thingVals, otherVals, List.cons_append, List.nil_append, List.mem_cons, List.not_mem_nil, or_false] at h
  rcases h with rfl | rfl | rfl | rfl | rfl | rfl | rfl | rfl | rfl
  · exact ⟨_, .int _, rfl, Nat.zero_le _, rfl⟩
  · exact ⟨_, .int _, rfl, Nat.zero_le _, rfl⟩
  · exact ⟨_, .str _, by decide +kernel, Nat.zero_le _, rfl⟩
  · exact ⟨_, .non, rfl, Nat.zero_le _, rfl⟩
  · exact ⟨_, .bl _, rfl, Nat.zero_le _, rfl⟩
  · exact ⟨_, .int _, rfl, Nat.zero_le _, rfl⟩
  · exact ⟨_, .str _, by decide +kernel, Nat.zero_le _, rfl⟩
  · exact ⟨_, .str _, by decide +kernel, Nat.zero_le _, rfl⟩
  · exact ⟨_, .bl _, rfl, Nat.zero_le _, rfl⟩
def spThing (n : Nat) : Sp := fun vs H Q _ => ∃ (p g s : Addr), vs = [.ref p, .int n] ∧ Pot H p g s ∧ ∀ H' v d, TD H' v d → Nice n d → Pot H' p g s → Fr [p, g] H H' → Q v H'
abbrev s_law_thing : Stmt := top 77
theorem sc_law_thing : FnScope ["pot", "deep", "kind", "turn"] ["pot", "deep"] (defScope s_law_thing) := ⟨rfl, rfl, rfl, by decide +kernel, rfl, by decide +kernel, by decide +kernel⟩
theorem step_law_thing {f : Addr} {fd : FuncData} (F : Fun K "_law_thing" "_law_thing" s_law_thing f fd) (T : Txt K mg Z) (D_law_draw : Dn P w K mg base "_law_draw" 1 ["pot", "many"] spDraw) (D_law_any : Dn P w K mg base "_law_any" 2 ["pot", "items"] spAny)
    (n : Nat) (D_law_thing : Dn P w K mg base "_law_thing" (2 + n) ["pot", "deep"] (fun vs H Q E => ∃ m, m < n ∧ spThing m vs H Q E)) : FnOk P w K mg base (L2.CX P w) (2 + n + 1) f fd ["pot", "deep"] (spThing n) := by
  refine okN F sc_law_thing (fun vs H Q E h => ?_) (fun cdv A outer s0 H vs Q E hr h => ?_)
  · obtain ⟨p, g, s, rfl, _⟩ := h
    rfl
  · obtain ⟨p, g, s, rfl, hP, k⟩ := h
    refine ⟨_, [some _, some _, none, none], rfl, (pss_cons (ps_set (i := 2) sc_law_thing.nd rfl (by first | exact Or.inl rfl | exact Or.inr rfl) (pe_d D_law_draw E0 (hr.mono (by first | decide | omega)) (by rfl) passL (pa_cons (pv 0) (pa_cons pe_int pa_nil))))
      (pss_cons (ps_if (PW.pt (pw_and (pt_cmpR op_gt (pv 2) pe_int (by first | exact nomark _ | rfl)) (pw_and1 (pt_cmpR op_gt (pv 1) pe_int (by first | exact nomark _ | rfl))))) (pss_one (ps_ret (pe_callTy (kTupOf (K := K)) (by rfl) T.n_tuple (by decide +kernel) (pa_cons (pe_lc (own := [("turn", 3)]) (g := (gName 3)) (tt := tYes) rfl sc_law_thing.nd (pi_range1 (by rfl) T.n_range (pa_cons (pe_d D_law_draw E0 (hr.mono (by first | decide | omega)) (by rfl) passL (pa_cons (pv 0) (pa_cons pe_int pa_nil))) pa_nil)) (blkOk_by (N := ["pot", "deep", "kind", "turn"]) (sc := defScope s_law_thing) (by decide +kernel)) (fun _ _ _ _ _ => (pg_name (i := 3) sc_law_thing.nd rfl (by first | exact Or.inl rfl | exact Or.inr rfl))) (fun _ _ _ _ _ => pts_nil) (fun _ _ _ _ _ => (pe_d D_law_thing E0 (hr.mono (by first | decide | omega)) (by rfl) passL (pa_cons (pv 0) (pa_cons (pe_op op_sub (pv 1) pe_int) pa_nil))))) pa_nil)))) pss_nil)
      (pss_one (ps_ret (pe_ifExp (pt_cmpR op_lt (pv 2) pe_int (by first | exact nomark _ | rfl)) (pe_ix (kIxT (K := K)) (pe_tup (pa_cons pe_int (pa_cons (pe_un un_neg pe_int) (pa_cons pe_str (pa_cons pe_non (pa_cons pe_bl (pa_cons (pe_op op_pow pe_int pe_int) pa_nil))))))) (pv 2) (fun _ _ => rfl)) (pe_d D_law_any E0 (hr.mono (by first | decide | omega)) (by rfl) passL (pa_cons (pv 0) (pa_cons (pe_tup (pa_cons pe_str (pa_cons pe_str (pa_cons pe_bl pa_nil)))) pa_nil)))))))), ?_⟩
    walk_at "st"
    refine ⟨p, g, s, _, rfl, hP, by omega, by omega, fun H1 kind k0 k1 hP1 f1 => ?_⟩
    walk_at "st"
    refine iteD (fun h5 => ?_) (fun h5 => ?_)
    · walk_at "st"
      refine iteD (fun hd => ?_) (fun hd => ?_)
      · walk_at "st"
        refine ⟨p, g, s, _, rfl, hP1, by omega, by omega, fun H2 many m0 m1 hP2 f2 => ?_⟩
        walk_at "st"
        intro D hD
        have f12 := f1.trans f2
        have nD := hP2.ne hD
        have D0 : H D = none := f12.back (by simpa using ⟨nD.1, nD.2.1⟩) hD
        obtain ⟨m, rfl⟩ : ∃ m, n = m + 1 := ⟨n - 1, by omega⟩
        refine lc_it walk_range (fun i H' => ∃ acc ds, H' D = some (.lst acc) ∧ Fr [p, g] H H' ∧ Pot H' p g s ∧ acc.length = i ∧ TDs H' acc ds ∧ ∀ d ∈ ds, Nice m d) ⟨[], [], upd_same, f12.new hD, hP2.up hD, rfl, .nil, fun _ h => nomatch h⟩ (fun _ _ _ _ => trivial) ?_ ?_
        · rintro i x H3 H4 hi ⟨acc, ds, h1, h2, h3, h4, hT, hN⟩ ⟨rfl, rfl⟩
          walk_at "st"
          refine ⟨m, Nat.lt_succ_self m, p, g, s, ?_, h3, fun H5 v d hv hd2 hP5 f5 => ?_⟩
          · have e : (((m + 1 : Nat) : Int) - 1) = (m : Int) := by omega
            rw [e]
            rfl
          have e5 : H5 D = some (.lst acc) := f5.keep D _ (by simpa using ⟨nD.1, nD.2.1⟩) h1
          have f6 : Fr [D] H5 (upd H5 D (.lst (acc ++ [v]))) := (Fr.refl H5).wl e5 (.inl (by simp))
          refine ⟨acc, e5, line_lt (by omega), acc ++ [v], ds ++ [d], upd_same, (h2.trans f5).wl e5 (.inr D0), hP5.wr e5 nD, by simp [h4], ?_, fun y hy => ?_⟩
          · exact TDs.mono f6.tup _ _ (TDs.snoc (TDs.mono f5.tup _ _ hT) hv)
          · rcases List.mem_append.mp hy with hy | hy
            · exact hN y hy
            · rw [List.mem_singleton.mp hy]; exact hd2
        · rintro H3 ⟨acc, ds, h1, h2, h3, h4, hT, hN⟩
          walk_at "st"
          refine st_tupOf (SqL.of h1) fun q hq => ?_
          exact k _ _ _ (.tup upd_same (TDs.mono (Fr.up (ms := []) hq).tup _ _ hT)) (nice_tup hN (by rw [← hT.length]; omega)) (h3.up hq) (h2.new hq)
      · walk_at "st"
        refine iteD (fun h6 => ?_) (fun h6 => ?_)
        · walk_at "st"
          intro q hq
          obtain ⟨v, hv, hat⟩ := at_in (xs := [V.int 0, V.int (-7), V.str "word", V.non, V.bl true, V.int (10 ^ (20 : Int).toNat)]) k0 (by show kind < 6; exact h6)
          walk_at "st"
          obtain ⟨d, a, b⟩ := thing_td _ (List.mem_append_left _ hv)
          exact k _ v d a (b.mono (Nat.zero_le _)) (hP1.up hq) (f1.new hq)
        · walk_at "st"
          intro q hq
          walk_at "st"
          refine ⟨p, g, s, q, otherVals, rfl, hP1.up hq, .inl upd_same, by decide, by decide, fun H2 v hv hP2 f2 => ?_⟩
          obtain ⟨d, a, b⟩ := thing_td H2 (List.mem_append_right _ hv)
          exact k _ v d a (b.mono (Nat.zero_le _)) hP2 ((f1.new hq).trans f2)
    · walk_at "st"
      refine iteD (fun h6 => ?_) (fun h6 => ?_)
      · walk_at "st"
        intro q hq
        obtain ⟨v, hv, hat⟩ := at_in (xs := [V.int 0, V.int (-7), V.str "word", V.non, V.bl true, V.int (10 ^ (20 : Int).toNat)]) k0 (by show kind < 6; exact h6)
        walk_at "st"
        obtain ⟨d, a, b⟩ := thing_td _ (List.mem_append_left _ hv)
        exact k _ v d a (b.mono (Nat.zero_le _)) (hP1.up hq) (f1.new hq)
      · walk_at "st"
        intro q hq
        walk_at "st"
        refine ⟨p, g, s, q, otherVals, rfl, hP1.up hq, .inl upd_same, by decide, by decide, fun H2 v hv hP2 f2 => ?_⟩
        obtain ⟨d, a, b⟩ := thing_td H2 (List.mem_append_right _ hv)
        exact k _ v d a (b.mono (Nat.zero_le _)) hP2 ((f1.new hq).trans f2)
end

end K40

namespace K40
open PySem PySem.Spec PyProof.Rows L2 Hq
local macro_rules | `(tactic| walk_at "st1") => `(tactic| first
  | with_reducible refine st_seq ?_ | with_reducible refine st_ret ?_ | with_reducible refine st_ifS ?_ | with_reducible refine st_asg ?_ | with_reducible refine st_drop ?_
  | ((with_reducible refine' st_var ?hv ?_); (case hv => rfl)) | with_reducible refine st_c ?_ | with_reducible refine st_op ?_ | with_reducible refine st_un ?_
  | with_reducible refine st_I0 ?_ | with_reducible refine st_U ?_ | ((with_reducible refine' st_I ?hc ?_); (case hc => walk_at "side"))
  | ((with_reducible refine' st_eq ?hs ?_); (case hs => rfl)) | ((with_reducible refine' st_ne ?hs ?_); (case hs => rfl))
  | with_reducible refine st_test ?_ | with_reducible refine st_B ?_ | with_reducible refine st_bl ?_ | with_reducible refine st_isN ?_ | with_reducible refine st_notN ?_
  | with_reducible refine st_chain ?_ | with_reducible refine st_and ?_ | with_reducible refine st_or ?_ | with_reducible refine st_not ?_
  | with_reducible refine st_andV ?_ | with_reducible refine st_orV ?_ | with_reducible refine st_notV ?_ | with_reducible refine st_if ?_
  | with_reducible refine st_CB ?_ | with_reducible refine st_cons ?_ | with_reducible refine st_nil ?_ | with_reducible refine st_fld ?_
  | ((with_reducible refine st_tup ?_)) | ((with_reducible refine st_lst ?_))
  | with_reducible refine st_call ?_ | with_reducible refine st_meth ?_ | with_reducible refine st_make ?_
  | with_reducible refine st_sl ?_ | with_reducible refine st_noPart ?_ | with_reducible refine st_part ?_ | with_reducible refine st_int ?_
  | ((with_reducible refine' st_ixL ?hq ?he ?_); (case hq => walk_at "sqL"); (case he => walk_at "at"))
  | ((with_reducible refine' st_ixT ?hq ?he ?_); (case hq => walk_at "sqT"); (case he => walk_at "at"))
  | with_reducible refine st_bm ?_ | with_reducible refine st_app ?_
  | ((with_reducible refine' st_append ?hq ?hl ?_); (case hq => walk_at "hp"); (case hl => walk_at "line"))
  | ((with_reducible refine' st_len (n := 0) ?hq ?_); (case hq => first | exact Or.inl (by walk_at "sqL") | exact Or.inr (by walk_at "sqT")))
  | ((with_reducible refine' st_listOf ?hq ?_); (case hq => first | exact Or.inl (by walk_at "sqL") | exact Or.inr (by walk_at "sqT")))
  | ((with_reducible refine st_name ?_); (try dsimp only [List.set_cons_zero, List.set_cons_succ])) | with_reducible refine st_par ?_
  | with_reducible refine st_gcons ?_ | with_reducible refine st_gnil ?_ | with_reducible refine st_gsub ?_ | with_reducible refine st_sFld ?_
  | ((with_reducible refine' st_gtup ?hq ?hl ?_); (case hq => walk_at "sqT"); (case hl => rfl))
  | ((with_reducible refine' st_setL ?hq ?hl ?_); (case hq => walk_at "hp"); (case hl => first | rfl | exact ix0 | exact ixN_nat (by assumption)); (try simp only [Int.reduceToNat, List.set_cons_zero, List.set_cons_succ]))
  | with_reducible refine st_intI ?_ | with_reducible refine st_abs ?_
  | ((with_reducible refine' st_popAt ?hq ?hk ?hy ?_); (case hq => walk_at "hp"); (case hk => exact seq0); (case hy => rfl))
  | ((with_reducible refine' and_left ?ht ?_); (case ht => walk_at "ty"))
  | with_reducible refine st_lc ?_ | with_reducible refine st_for ?_ | with_reducible refine st_iL ?_ | with_reducible refine st_iT ?_ | with_reducible refine st_iR1 ?_ | with_reducible refine st_iR2 ?_ | with_reducible refine st_iZ ?_
  | ((with_reducible refine' st_refL ?hq ?_); (case hq => walk_at "sqL")) | ((with_reducible refine' st_refT ?hq ?_); (case hq => walk_at "sqT"))
  | ((with_reducible refine' st_rng1 ?hq ?_); (case hq => walk_at "side")) | ((with_reducible refine' st_rng2 ?hq ?_); (case hq => walk_at "side"))
  | ((with_reducible refine' st_zip ?hq ?hr ?_); (case hq => walk_at "sqb"); (case hr => walk_at "sqb"))
  | ((with_reducible refine' st_size ?hw ?_); (case hw => walk_at "line"))
  | ((with_reducible refine' st_sum ?hq ?_); (case hq => walk_at "sqL"))
  | with_reducible refine st_two ?_ | with_reducible refine st_yes ?_ | ((with_reducible refine' st_wipe ?hw ?_); (case hw => rfl))
  | ((with_reducible refine' st_slL ?hq ?_); (case hq => walk_at "sqL"))
  | ((with_reducible refine' st_cat ?hq ?hr ?hl ?_); (case hq => walk_at "hp"); (case hr => walk_at "hp"); (case hl => walk_at "line"))
  | ((with_reducible refine' st_isi ?hk ?he ?_); (case hk => walk_at "kd"); (case he => walk_at "kit"))
  | ((with_reducible refine' st_ins ?hq ?hc ?hn ?hl ?_); (case hq => walk_at "hp"); (case hc => with_reducible assumption); (case hn => with_reducible assumption); (case hl => walk_at "flen"); walk_at "puts")
  | ((with_reducible refine' st_att ?hq ?hc ?hn ?hl ?_); (case hq => walk_at "hp"); (case hc => with_reducible assumption); (case hn => with_reducible assumption); (case hl => walk_at "lk"))
  | ((with_reducible refine' st_mt ?hq ?hl ?_); (case hq => walk_at "hp"); (case hl => walk_at "lk"))
  | ((with_reducible refine' st_extend ?hq ?hr ?hl ?_); (case hq => walk_at "hp"); (case hr => walk_at "hp"); (case hl => walk_at "line"))
  | with_reducible refine st_next ?_ | with_reducible refine st_retN ?_ | (with_reducible refine iteNT ?_) | (with_reducible refine iteNF ?_) | (with_reducible refine iteT ?_) | (with_reducible refine iteF ?_))
local macro_rules | `(tactic| walk_at "side") => `(tactic| first | omega | decide | assumption | exact ⟨by omega, by omega⟩ | exact Or.inr ⟨by omega, by omega⟩ | exact Or.inl ⟨by omega, by omega⟩ | (simp only [List.length_map, List.length_cons, List.length_nil, List.length_append] at *; omega))
local macro_rules | `(tactic| walk_at "hp") => `(tactic| first | assumption | exact upd_same | refine upd_old (by assumption) (by walk_at "hp") | (rw [upd_ne (by first | assumption | exact Ne.symm (by assumption))]; walk_at "hp"))
local macro_rules | `(tactic| walk_at "sqL") => `(tactic| first | assumption | exact SqL.of (by walk_at "hp"))
local macro_rules | `(tactic| walk_at "sqT") => `(tactic| first | assumption | exact SqT.of (by walk_at "hp"))
local macro_rules | `(tactic| walk_at "sqb") => `(tactic| (unfold SqB; first | ((with_reducible change SqL _ _ _ _); walk_at "sqL") | ((with_reducible change SqT _ _ _ _); walk_at "sqT")))
local macro_rules | `(tactic| walk_at "line") => `(tactic| first | assumption | decide | (apply line_of; walk_at "side") | (apply line_lt; walk_at "side"))
local macro_rules | `(tactic| walk_at "ty") => `(tactic| ((with_reducible refine' ty_lst ?hq); (case hq => walk_at "hp")))
local macro_rules | `(tactic| walk_at "at") => `(tactic| with_reducible first | assumption | exact at0 | exact at1 | exact at2 | exact at3 | exact at4 | exact at5 | exact at6 | exact at7 | exact at8)
local macro_rules | `(tactic| walk_at "st") => `(tactic| (repeat walk_at "st1"))
local macro_rules | `(tactic| walk_at "lk") => `(tactic| first | with_reducible assumption | rfl)
local macro_rules | `(tactic| walk_at "kd") => `(tactic| first | exact .base (.int _) | exact .base .non | exact .base (.bl _) | exact .base (.str _) | exact .base (.tup (by walk_at "hp")) | exact .base (.lst (by walk_at "hp")) | exact .base (.dK (by walk_at "hp")) | exact .base (.dT (by walk_at "hp")))
local macro_rules | `(tactic| walk_at "kit") => `(tactic| with_reducible first
  | exact kit_NoneType_bool
  | exact kit_NoneType_int
  | exact kit_NoneType_str
  | exact kit_NoneType_tuple
  | exact kit_NoneType_list
  | exact kit_NoneType_dict
  | exact kit_bool_bool
  | exact kit_bool_int
  | exact kit_bool_str
  | exact kit_bool_tuple
  | exact kit_bool_list
  | exact kit_bool_dict
  | exact kit_int_bool
  | exact kit_int_int
  | exact kit_int_str
  | exact kit_int_tuple
  | exact kit_int_list
  | exact kit_int_dict
  | exact kit_str_bool
  | exact kit_str_int
  | exact kit_str_str
  | exact kit_str_tuple
  | exact kit_str_list
  | exact kit_str_dict
  | exact kit_tuple_bool
  | exact kit_tuple_int
  | exact kit_tuple_str
  | exact kit_tuple_tuple
  | exact kit_tuple_list
  | exact kit_tuple_dict
  | exact kit_list_bool
  | exact kit_list_int
  | exact kit_list_str
  | exact kit_list_tuple
  | exact kit_list_list
  | exact kit_list_dict
  | exact kit_dict_bool
  | exact kit_dict_int
  | exact kit_dict_str
  | exact kit_dict_tuple
  | exact kit_dict_list
  | exact kit_dict_dict)
local macro_rules | `(tactic| walk_at "flen") => `(tactic| decide)
local macro_rules | `(tactic| walk_at "puts") => `(tactic| skip)

local macro_rules | `(tactic| walk_at "st1") => `(tactic| first
  | with_reducible refine st_dc ?_ | with_reducible refine st_dgetS ?_ | with_reducible refine st_dinS ?_ | with_reducible refine st_dninS ?_ | with_reducible refine st_dputS ?_ | with_reducible refine st_newT ?_ | with_reducible refine iteNN ?_ | with_reducible refine iteYN ?_
  | ((with_reducible refine' st_getT ?hq ?hk ?hv ?_); (case hq => walk_at "hp"); (case hk => walk_at "key"); (case hv => with_reducible assumption))
  | ((with_reducible refine' st_inT ?hq ?hk ?_); (case hq => walk_at "hp"); (case hk => walk_at "key"))
  | ((with_reducible refine' st_ninT ?hq ?hk ?_); (case hq => walk_at "hp"); (case hk => walk_at "key"))
  | ((with_reducible refine' st_putT ?hq ?hk ?hl ?_); (case hq => walk_at "hp"); (case hk => walk_at "key"); (case hl => walk_at "line"))
  | ((with_reducible refine' st_cputT ?hq ?hk ?hl ?_); (case hq => walk_at "hp"); (case hk => walk_at "key"); (case hl => walk_at "line"))
  | ((with_reducible refine' st_ixB ?hq ?he ?_); (case hq => first | assumption | exact Or.inl (by walk_at "sqL") | exact Or.inr (by walk_at "sqT")); (case he => walk_at "at")))
local macro_rules | `(tactic| walk_at "key") => `(tactic| with_reducible assumption)

section
variable {Z : Ads} {P : Program} {w : World} {K : PySem.W.Frag} {mg : Str → Option Value} {base : Heap}
/-! ### the program's small judges -/
def spTuple : Sp := fun vs H Q _ => ∃ (a : Addr) (xs : List V) (l m : Int), vs = [.ref a, .int l, .int m] ∧ H a = some (.tup xs) ∧ xs.length ≤ 100000 ∧ Q (.bl (decide (l ≤ (xs.length : Int)) && decide ((xs.length : Int) ≤ m))) H
abbrev s_is_tuple : Stmt := top 10
theorem sc_is_tuple : FnScope ["thing", "least", "most"] ["thing", "least", "most"] (defScope s_is_tuple) := ⟨rfl, rfl, rfl, by decide +kernel, rfl, by decide +kernel, by decide +kernel⟩
theorem ok_is_tuple {f : Addr} {fd : FuncData} (F : Fun K "is_tuple" "is_tuple" s_is_tuple f fd) (T : Txt K mg Z) : FnOk P w K mg base (L2.CX P w) 1 f fd ["thing", "least", "most"] spTuple := by
  refine okN F sc_is_tuple (fun vs H Q E h => ?_) (fun cdv A outer s0 H vs Q E hr h => ?_)
  · obtain ⟨a, xs, l, m, rfl, _⟩ := h
    rfl
  · obtain ⟨a, xs, l, m, rfl, ha, hl, k⟩ := h
    refine ⟨_, [some _, some _, some _], rfl, (pss_one (ps_ret (pe_and (pe_callB (kIsi (K := K)) (by rfl) T.n_isinstance (by decide +kernel) (pa_cons (pv 0) (pa_cons (pe_ty "tuple" (by rfl) T.n_tuple (by decide +kernel)) pa_nil))) (pe_one (pe_chain op_le op_le (pv 1) (pe_callB (kLen (K := K)) (by rfl) T.n_len (by decide +kernel) (pa_cons (pv 0) pa_nil)) (pv 2)))))), ?_⟩
    walk_at "st"
    refine iteD (fun h => ?_) (fun h => ?_)
    · walk_at "st"
      rw [decide_eq_true h, Bool.true_and] at k
      exact k
    · rw [decide_eq_false h, Bool.false_and] at k
      exact k
def spBetween : Sp := fun vs H Q _ => ∃ (i l m : Int), vs = [.int i, .int l, .int m] ∧ Q (.bl (decide (l ≤ i) && decide (i ≤ m))) H
abbrev s_is_between : Stmt := top 6
theorem sc_is_between : FnScope ["thing", "least", "most"] ["thing", "least", "most"] (defScope s_is_between) := ⟨rfl, rfl, rfl, by decide +kernel, rfl, by decide +kernel, by decide +kernel⟩
theorem ok_is_between {f : Addr} {fd : FuncData} (F : Fun K "is_between" "is_between" s_is_between f fd) (T : Txt K mg Z) (D_is_integer : Dn P w K mg base "is_integer" 1 ["thing"] (spIsInteger K)) : FnOk P w K mg base (L2.CX P w) 2 f fd ["thing", "least", "most"] spBetween := by
  refine okN F sc_is_between (fun vs H Q E h => ?_) (fun cdv A outer s0 H vs Q E hr h => ?_)
  · obtain ⟨i, l, m, rfl, _⟩ := h
    rfl
  · obtain ⟨i, l, m, rfl, k⟩ := h
    refine ⟨_, [some _, some _, some _], rfl, (pss_one (ps_ret (pe_and (pe_d D_is_integer E0 (hr.mono (by first | decide | omega)) (by rfl) passL (pa_cons (pv 0) pa_nil)) (pe_one (pe_chain op_le op_le (pv 1) (pv 0) (pv 2)))))), ?_⟩
    walk_at "st"
    refine ⟨i, rfl, ?_⟩
    walk_at "st"
    refine iteD (fun h => ?_) (fun h => ?_)
    · walk_at "st"
      rw [decide_eq_true h, Bool.true_and] at k
      exact k
    · rw [decide_eq_false h, Bool.false_and] at k
      exact k
def spNumber : Sp := fun vs H Q _ => ∃ (i : Int), vs = [.int i] ∧ Q (.bl (decide (0 ≤ i))) H
abbrev s_is_number : Stmt := top 7
theorem sc_is_number : FnScope ["thing"] ["thing"] (defScope s_is_number) := ⟨rfl, rfl, rfl, by decide +kernel, rfl, by decide +kernel, by decide +kernel⟩
theorem ok_is_number {f : Addr} {fd : FuncData} (F : Fun K "is_number" "is_number" s_is_number f fd) (T : Txt K mg Z) (D_is_integer : Dn P w K mg base "is_integer" 1 ["thing"] (spIsInteger K)) : FnOk P w K mg base (L2.CX P w) 2 f fd ["thing"] spNumber := by
  refine okN F sc_is_number (fun vs H Q E h => ?_) (fun cdv A outer s0 H vs Q E hr h => ?_)
  · obtain ⟨i, rfl, _⟩ := h
    rfl
  · obtain ⟨i, rfl, k⟩ := h
    refine ⟨_, [some _], rfl, (pss_one (ps_ret (pe_and (pe_d D_is_integer E0 (hr.mono (by first | decide | omega)) (by rfl) passL (pa_cons (pv 0) pa_nil)) (pe_one (pe_cmpR op_ge (pv 0) pe_int (by first | exact nomark _ | rfl)))))), ?_⟩
    walk_at "st"
    refine ⟨i, rfl, ?_⟩
    walk_at "st"
    exact k
def spIsKey : Sp := fun vs H Q _ => ∃ (v : V) (d : PyData), vs = [v] ∧ TD H v d ∧ KeyD d ∧ ∀ H', Fr [] H H' → Q (.bl true) H'
abbrev s_is_key : Stmt := top 65
theorem sc_is_key : FnScope ["thing", "part"] ["thing"] (defScope s_is_key) := ⟨rfl, rfl, rfl, by decide +kernel, rfl, by decide +kernel, by decide +kernel⟩
theorem ok_is_key {f : Addr} {fd : FuncData} (F : Fun K "is_key" "is_key" s_is_key f fd) (T : Txt K mg Z) (D_is_number : Dn P w K mg base "is_number" 2 ["thing"] spNumber) : FnOk P w K mg base (L2.CX P w) 3 f fd ["thing"] spIsKey := by
  refine okN F sc_is_key (fun vs H Q E h => ?_) (fun cdv A outer s0 H vs Q E hr h => ?_)
  · obtain ⟨v, d, rfl, _⟩ := h
    rfl
  · obtain ⟨v, d, rfl, hv, ⟨ds, rfl, h0, h3, hk⟩, k⟩ := h
    cases hv with
    | @tup a xs _ ha hT =>
    have hl := hT.length
    refine ⟨_, [some _, none], rfl, (pss_cons (ps_if (PW.pt (pw_or (pt_not (pt_val (pe_callB (kIsi (K := K)) (by rfl) T.n_isinstance (by decide +kernel) (pa_cons (pv 0) (pa_cons (pe_ty "tuple" (by rfl) T.n_tuple (by decide +kernel)) pa_nil))))) (pw_or1 (pt_cmpR op_eq (pe_callB (kLen (K := K)) (by rfl) T.n_len (by decide +kernel) (pa_cons (pv 0) pa_nil)) pe_int (by first | exact nomark _ | rfl))))) (pss_one (ps_ret pe_bl)) pss_nil)
      (pss_one (ps_ret (pe_callB (kAll (K := K)) (by rfl) T.n_all (by decide +kernel) (pa_cons (pe_lc (own := [("part", 1)]) (g := (gName 1)) (tt := tYes) rfl sc_is_key.nd (kPiT (K := K) (pv 0)) (blkOk_by (N := ["thing", "part"]) (sc := defScope s_is_key) (by decide +kernel)) (fun _ _ _ _ _ => (pg_name (i := 1) sc_is_key.nd rfl (by first | exact Or.inl rfl | exact Or.inr rfl))) (fun _ _ _ _ _ => pts_nil) (fun _ _ _ _ _ => (pe_or (pe_callB (kIsi (K := K)) (by rfl) T.n_isinstance (by decide +kernel) (pa_cons (pv 1) (pa_cons (pe_ty "str" (by rfl) T.n_str (by decide +kernel)) pa_nil))) (pe_one (pe_d D_is_number E0 (hr.mono (by first | decide | omega)) (by rfl) passL (pa_cons (pv 1) pa_nil)))))) pa_nil))))), ?_⟩
    walk_at "st"
    have hx : (xs.length : Int) ≠ 0 := by omega
    refine iteD (fun h => absurd h (by simpa using hx)) (fun h => ?_)
    walk_at "st"
    intro D hD
    refine lc_it (walk_tup (xs := xs)) (fun i H' => Fr [] H H' ∧ H' D = some (.lst ((List.replicate i true).map V.bl))) ⟨Fr.up hD, upd_same⟩ (fun i H' _ h => SqT.of (h.1.tup _ _ ha)) ?_ ?_
    · rintro i x H1 H2 hi ⟨f1, e1⟩ ⟨rfl, hx⟩
      obtain ⟨d, hd, td⟩ := TDs.at_ (TDs.mono f1.tup _ _ hT) hx
      have fin : ∀ H3, H3 = H2 → ∃ acc, H3 D = some (.lst acc) ∧ acc.length < sizeLine ∧ Fr [] H (upd H3 D (.lst (acc ++ [V.bl true]))) ∧ (upd H3 D (.lst (acc ++ [V.bl true]))) D = some (.lst ((List.replicate (i + 1) true).map V.bl)) := fun H3 e => by
        rw [e]
        refine ⟨_, e1, line_lt (by simp; omega), f1.wl e1 (.inr hD), ?_⟩
        rw [upd_same, List.replicate_succ', List.map_append]
        rfl
      rcases hk d (List.mem_of_getElem? hd) with ⟨z, rfl, _⟩ | ⟨n, hn, rfl⟩
      · cases td
        walk_at "st"
        exact fin _ rfl
      · cases td
        walk_at "st"
        refine ⟨n, rfl, ?_⟩
        rw [decide_eq_true hn]
        exact fin _ rfl
    · rintro H1 ⟨f1, e1⟩
      walk_at "st"
      refine st_all (SqL.of e1) ?_
      rw [show (List.replicate xs.length true).all id = true by simp]
      exact k _ f1
def spKept (n : Nat) : Sp := fun vs H Q _ => ∃ (v : V) (d : PyData), vs = [v] ∧ TD H v d ∧ Nice n d ∧ ∀ H', Fr [] H H' → Q (.bl true) H'
theorem isi3 {H : Hp} {x : V} {tp CE : Addr} {Q : VK} {t : String} (h : H tp = some (.tup [.ty "int", .ty "str", .ref CE])) (hk : TyX K H x (.type t)) (ht : t = "int" ∨ t = "bool" ∨ t = "str") (q : Q (.bl true) H) : rIsiT K [x, .ref tp] H Q := by
  refine ⟨x, tp, _, .type t, [.type "int", .type "str", .ref CE], true, rfl, h, .cons (.ty _) (.cons (.ty _) (.cons (.own _) .nil)), hk, ?_, q⟩
  rcases ht with rfl | rfl | rfl
  · exact kitAny_cons (b := true) (kit_ty kit_int_int) (fun h => nomatch h) fun _ => rfl
  · exact kitAny_cons (b := true) (kit_ty kit_bool_int) (fun h => nomatch h) fun _ => rfl
  · exact kitAny_cons (b := false) (kit_ty kit_str_int) (fun _ => kitAny_cons (b := true) (kit_ty kit_str_str) (fun h => nomatch h) fun _ => rfl) (fun h => nomatch h)
abbrev s_is_kept : Stmt := top 66
theorem sc_is_kept : FnScope ["thing", "part"] ["thing"] (defScope s_is_kept) := ⟨rfl, rfl, rfl, by decide +kernel, rfl, by decide +kernel, by decide +kernel⟩
theorem step_is_kept {f : Addr} {fd : FuncData} (F : Fun K "is_kept" "is_kept" s_is_kept f fd) (T : Txt K mg Z) (n : Nat)
    (D_is_kept : Dn P w K mg base "is_kept" (0 + n) ["thing"] (fun vs H Q E => ∃ m, m < n ∧ spKept m vs H Q E)) : FnOk P w K mg base (L2.CX P w) (0 + n + 1) f fd ["thing"] (spKept n) := by
  refine okN F sc_is_kept (fun vs H Q E h => ?_) (fun cdv A outer s0 H vs Q E hr h => ?_)
  · obtain ⟨v, d, rfl, _⟩ := h
    rfl
  · obtain ⟨v, d, rfl, hv, hN, k⟩ := h
    refine ⟨_, [some _, none], rfl, (pss_cons (ps_if (pt_val (pe_callB (kIsi (K := K)) (by rfl) T.n_isinstance (by decide +kernel) (pa_cons (pv 0) (pa_cons (pe_ty "tuple" (by rfl) T.n_tuple (by decide +kernel)) pa_nil)))) (pss_one (ps_ret (pe_callB (kAll (K := K)) (by rfl) T.n_all (by decide +kernel) (pa_cons (pe_lc (own := [("part", 1)]) (g := (gName 1)) (tt := tYes) rfl sc_is_kept.nd (kPiT (K := K) (pv 0)) (blkOk_by (N := ["thing", "part"]) (sc := defScope s_is_kept) (by decide +kernel)) (fun _ _ _ _ _ => (pg_name (i := 1) sc_is_kept.nd rfl (by first | exact Or.inl rfl | exact Or.inr rfl))) (fun _ _ _ _ _ => pts_nil) (fun _ _ _ _ _ => (pe_d D_is_kept E0 (hr.mono (by first | decide | omega)) (by rfl) passL (pa_cons (pv 1) pa_nil)))) pa_nil)))) pss_nil)
      (pss_one (ps_ret (pe_or (pe_cmp (pc_isN (pv 0))) (pe_one (pe_callB (kIsiT (K := K)) (by rfl) T.n_isinstance (by decide +kernel) (pa_cons (pv 0) (pa_cons (pe_tup (pa_cons (pe_ty "int" (by rfl) T.n_int (by decide +kernel)) (pa_cons (pe_ty "str" (by rfl) T.n_str (by decide +kernel)) (pa_cons (pe_gl (by rfl) T.g_Exchange) pa_nil)))) pa_nil)))))))), ?_⟩
    cases hv with
    | non =>
      walk_at "st"
      exact k _ (Fr.refl H)
    | bl b =>
      walk_at "st"
      rw [if_neg (by simp)]
      walk_at "st"
      intro t ht
      walk_at "st"
      exact isi3 upd_same (t := "bool") (by walk_at "kd") (by simp) (k _ (Fr.up ht))
    | int i =>
      walk_at "st"
      rw [if_neg (by simp)]
      walk_at "st"
      intro t ht
      walk_at "st"
      exact isi3 upd_same (t := "int") (by walk_at "kd") (by simp) (k _ (Fr.up ht))
    | str x =>
      walk_at "st"
      rw [if_neg (by simp)]
      walk_at "st"
      intro t ht
      walk_at "st"
      exact isi3 upd_same (t := "str") (by walk_at "kd") (by simp) (k _ (Fr.up ht))
    | @tup a xs ds ha hT =>
      walk_at "st"
      intro D hD
      have hsz := hN.len
      have hl := hT.length
      refine lc_it (walk_tup (xs := xs)) (fun i H' => Fr [] H H' ∧ H' D = some (.lst ((List.replicate i true).map V.bl))) ⟨Fr.up hD, upd_same⟩ (fun i H' _ h => SqT.of (h.1.tup _ _ ha)) ?_ ?_
      · rintro i x H1 H2 hi ⟨f1, e1⟩ ⟨rfl, hx⟩
        obtain ⟨d, hd, td⟩ := TDs.at_ (TDs.mono f1.tup _ _ hT) hx
        walk_at "st"
        obtain ⟨n0, hNd, _⟩ := hN.sub (List.mem_of_getElem? hd)
        refine ⟨n - 1, by omega, x, d, rfl, td, hNd, fun H3 f3 => ?_⟩
        have e3 := f3.keep _ _ List.not_mem_nil e1
        refine ⟨_, e3, ?_, (f1.trans f3).wl e3 (.inr hD), ?_⟩
        · rw [List.length_map, List.length_replicate]
          exact line_lt (by omega)
        · rw [upd_same, List.replicate_succ', List.map_append]
          rfl
      · rintro H1 ⟨f1, e1⟩
        walk_at "st"
        refine st_all (SqL.of e1) ?_
        rw [show (List.replicate xs.length true).all id = true by simp]
        exact k _ f1
end

end K40

namespace K40
open PySem PySem.Spec PyProof.Rows L2 Hq
local macro_rules | `(tactic| walk_at "st1") => `(tactic| first
  | with_reducible refine st_seq ?_ | with_reducible refine st_ret ?_ | with_reducible refine st_ifS ?_ | with_reducible refine st_asg ?_ | with_reducible refine st_drop ?_
  | ((with_reducible refine' st_var ?hv ?_); (case hv => rfl)) | with_reducible refine st_c ?_ | with_reducible refine st_op ?_ | with_reducible refine st_un ?_
  | with_reducible refine st_I0 ?_ | with_reducible refine st_U ?_ | ((with_reducible refine' st_I ?hc ?_); (case hc => walk_at "side"))
  | ((with_reducible refine' st_eq ?hs ?_); (case hs => rfl)) | ((with_reducible refine' st_ne ?hs ?_); (case hs => rfl))
  | with_reducible refine st_test ?_ | with_reducible refine st_B ?_ | with_reducible refine st_bl ?_ | with_reducible refine st_isN ?_ | with_reducible refine st_notN ?_
  | with_reducible refine st_chain ?_ | with_reducible refine st_and ?_ | with_reducible refine st_or ?_ | with_reducible refine st_not ?_
  | with_reducible refine st_andV ?_ | with_reducible refine st_orV ?_ | with_reducible refine st_notV ?_ | with_reducible refine st_if ?_
  | with_reducible refine st_CB ?_ | with_reducible refine st_cons ?_ | with_reducible refine st_nil ?_ | with_reducible refine st_fld ?_
  | ((with_reducible refine st_tup ?_)) | ((with_reducible refine st_lst ?_))
  | with_reducible refine st_call ?_ | with_reducible refine st_meth ?_ | with_reducible refine st_make ?_
  | with_reducible refine st_sl ?_ | with_reducible refine st_noPart ?_ | with_reducible refine st_part ?_ | with_reducible refine st_int ?_
  | ((with_reducible refine' st_ixL ?hq ?he ?_); (case hq => walk_at "sqL"); (case he => walk_at "at"))
  | ((with_reducible refine' st_ixT ?hq ?he ?_); (case hq => walk_at "sqT"); (case he => walk_at "at"))
  | with_reducible refine st_bm ?_ | with_reducible refine st_app ?_
  | ((with_reducible refine' st_append ?hq ?hl ?_); (case hq => walk_at "hp"); (case hl => walk_at "line"))
  | ((with_reducible refine' st_len (n := 0) ?hq ?_); (case hq => first | exact Or.inl (by walk_at "sqL") | exact Or.inr (by walk_at "sqT")))
  | ((with_reducible refine' st_listOf ?hq ?_); (case hq => first | exact Or.inl (by walk_at "sqL") | exact Or.inr (by walk_at "sqT")))
  | ((with_reducible refine st_name ?_); (try dsimp only [List.set_cons_zero, List.set_cons_succ])) | with_reducible refine st_par ?_
  | with_reducible refine st_gcons ?_ | with_reducible refine st_gnil ?_ | with_reducible refine st_gsub ?_ | with_reducible refine st_sFld ?_
  | ((with_reducible refine' st_gtup ?hq ?hl ?_); (case hq => walk_at "sqT"); (case hl => rfl))
  | ((with_reducible refine' st_setL ?hq ?hl ?_); (case hq => walk_at "hp"); (case hl => first | rfl | exact ix0 | exact ixN_nat (by assumption)); (try simp only [Int.reduceToNat, List.set_cons_zero, List.set_cons_succ]))
  | with_reducible refine st_intI ?_ | with_reducible refine st_abs ?_
  | ((with_reducible refine' st_popAt ?hq ?hk ?hy ?_); (case hq => walk_at "hp"); (case hk => exact seq0); (case hy => rfl))
  | ((with_reducible refine' and_left ?ht ?_); (case ht => walk_at "ty"))
  | with_reducible refine st_lc ?_ | with_reducible refine st_for ?_ | with_reducible refine st_iL ?_ | with_reducible refine st_iT ?_ | with_reducible refine st_iR1 ?_ | with_reducible refine st_iR2 ?_ | with_reducible refine st_iZ ?_
  | ((with_reducible refine' st_refL ?hq ?_); (case hq => walk_at "sqL")) | ((with_reducible refine' st_refT ?hq ?_); (case hq => walk_at "sqT"))
  | ((with_reducible refine' st_rng1 ?hq ?_); (case hq => walk_at "side")) | ((with_reducible refine' st_rng2 ?hq ?_); (case hq => walk_at "side"))
  | ((with_reducible refine' st_zip ?hq ?hr ?_); (case hq => walk_at "sqb"); (case hr => walk_at "sqb"))
  | ((with_reducible refine' st_size ?hw ?_); (case hw => walk_at "line"))
  | ((with_reducible refine' st_sum ?hq ?_); (case hq => walk_at "sqL"))
  | with_reducible refine st_two ?_ | with_reducible refine st_yes ?_ | ((with_reducible refine' st_wipe ?hw ?_); (case hw => rfl))
  | ((with_reducible refine' st_slL ?hq ?_); (case hq => walk_at "sqL"))
  | ((with_reducible refine' st_cat ?hq ?hr ?hl ?_); (case hq => walk_at "hp"); (case hr => walk_at "hp"); (case hl => walk_at "line"))
  | ((with_reducible refine' st_isi ?hk ?he ?_); (case hk => walk_at "kd"); (case he => walk_at "kit"))
  | ((with_reducible refine' st_ins ?hq ?hc ?hn ?hl ?_); (case hq => walk_at "hp"); (case hc => with_reducible assumption); (case hn => with_reducible assumption); (case hl => walk_at "flen"); walk_at "puts")
  | ((with_reducible refine' st_att ?hq ?hc ?hn ?hl ?_); (case hq => walk_at "hp"); (case hc => with_reducible assumption); (case hn => with_reducible assumption); (case hl => walk_at "lk"))
  | ((with_reducible refine' st_mt ?hq ?hl ?_); (case hq => walk_at "hp"); (case hl => walk_at "lk"))
  | ((with_reducible refine' st_extend ?hq ?hr ?hl ?_); (case hq => walk_at "hp"); (case hr => walk_at "hp"); (case hl => walk_at "line"))
  | with_reducible refine st_next ?_ | with_reducible refine st_retN ?_ | (with_reducible refine iteNT ?_) | (with_reducible refine iteNF ?_) | (with_reducible refine iteT ?_) | (with_reducible refine iteF ?_))
local macro_rules | `(tactic| walk_at "side") => `(tactic| first | omega | decide | assumption | exact ⟨by omega, by omega⟩ | exact Or.inr ⟨by omega, by omega⟩ | exact Or.inl ⟨by omega, by omega⟩ | (simp only [List.length_map, List.length_cons, List.length_nil, List.length_append] at *; omega))
local macro_rules | `(tactic| walk_at "hp") => `(tactic| first | assumption | exact upd_same | refine upd_old (by assumption) (by walk_at "hp") | (rw [upd_ne (by first | assumption | exact Ne.symm (by assumption))]; walk_at "hp"))
local macro_rules | `(tactic| walk_at "sqL") => `(tactic| first | assumption | exact SqL.of (by walk_at "hp"))
local macro_rules | `(tactic| walk_at "sqT") => `(tactic| first | assumption | exact SqT.of (by walk_at "hp"))
local macro_rules | `(tactic| walk_at "sqb") => `(tactic| (unfold SqB; first | ((with_reducible change SqL _ _ _ _); walk_at "sqL") | ((with_reducible change SqT _ _ _ _); walk_at "sqT")))
local macro_rules | `(tactic| walk_at "line") => `(tactic| first | assumption | decide | (apply line_of; walk_at "side") | (apply line_lt; walk_at "side"))
local macro_rules | `(tactic| walk_at "ty") => `(tactic| ((with_reducible refine' ty_lst ?hq); (case hq => walk_at "hp")))
local macro_rules | `(tactic| walk_at "at") => `(tactic| with_reducible first | assumption | exact at0 | exact at1 | exact at2 | exact at3 | exact at4 | exact at5 | exact at6 | exact at7 | exact at8)
local macro_rules | `(tactic| walk_at "st") => `(tactic| (repeat walk_at "st1"))
local macro_rules | `(tactic| walk_at "lk") => `(tactic| first | with_reducible assumption | rfl)
local macro_rules | `(tactic| walk_at "kd") => `(tactic| first | exact .base (.int _) | exact .base .non | exact .base (.bl _) | exact .base (.str _) | exact .base (.tup (by walk_at "hp")) | exact .base (.lst (by walk_at "hp")) | exact .base (.dK (by walk_at "hp")) | exact .base (.dT (by walk_at "hp")))
local macro_rules | `(tactic| walk_at "kit") => `(tactic| with_reducible first
  | exact kit_NoneType_bool
  | exact kit_NoneType_int
  | exact kit_NoneType_str
  | exact kit_NoneType_tuple
  | exact kit_NoneType_list
  | exact kit_NoneType_dict
  | exact kit_bool_bool
  | exact kit_bool_int
  | exact kit_bool_str
  | exact kit_bool_tuple
  | exact kit_bool_list
  | exact kit_bool_dict
  | exact kit_int_bool
  | exact kit_int_int
  | exact kit_int_str
  | exact kit_int_tuple
  | exact kit_int_list
  | exact kit_int_dict
  | exact kit_str_bool
  | exact kit_str_int
  | exact kit_str_str
  | exact kit_str_tuple
  | exact kit_str_list
  | exact kit_str_dict
  | exact kit_tuple_bool
  | exact kit_tuple_int
  | exact kit_tuple_str
  | exact kit_tuple_tuple
  | exact kit_tuple_list
  | exact kit_tuple_dict
  | exact kit_list_bool
  | exact kit_list_int
  | exact kit_list_str
  | exact kit_list_tuple
  | exact kit_list_list
  | exact kit_list_dict
  | exact kit_dict_bool
  | exact kit_dict_int
  | exact kit_dict_str
  | exact kit_dict_tuple
  | exact kit_dict_list
  | exact kit_dict_dict)
local macro_rules | `(tactic| walk_at "flen") => `(tactic| decide)
local macro_rules | `(tactic| walk_at "puts") => `(tactic| skip)

theorem Disk_ne_lying_pending : ¬ (("lying" : Str) = "pending") := by decide +kernel
theorem Disk_ne_lying_spoils : ¬ (("lying" : Str) = "spoils") := by decide +kernel
theorem Disk_ne_pending_lying : ¬ (("pending" : Str) = "lying") := by decide +kernel
theorem Disk_ne_pending_spoils : ¬ (("pending" : Str) = "spoils") := by decide +kernel
theorem Disk_ne_spoils_lying : ¬ (("spoils" : Str) = "lying") := by decide +kernel
theorem Disk_ne_spoils_pending : ¬ (("spoils" : Str) = "pending") := by decide +kernel
def DiskF0 : List (Str × V) := []
def DiskF1 (v0 : V) : List (Str × V) := [("lying", v0)]
def DiskF2 (v0 v1 : V) : List (Str × V) := [("lying", v0), ("pending", v1)]
def DiskF (v0 v1 v2 : V) : List (Str × V) := [("lying", v0), ("pending", v1), ("spoils", v2)]
theorem DiskF0_len : (DiskF0 ).length < 1000 := by unfold DiskF0; show 0 < 1000; decide
theorem DiskF0_put {v0 : V} : putF "lying" v0 (DiskF0 ) = DiskF1 v0 := by unfold DiskF0 DiskF1; rw [put_nil]
theorem DiskF1_len {v0 : V} : (DiskF1 v0).length < 1000 := by unfold DiskF1; show 1 < 1000; decide
theorem DiskF1_put {v0 v1 : V} : putF "pending" v1 (DiskF1 v0) = DiskF2 v0 v1 := by unfold DiskF1 DiskF2; rw [put_cons, if_neg Disk_ne_lying_pending, put_nil]
theorem DiskF2_len {v0 v1 : V} : (DiskF2 v0 v1).length < 1000 := by unfold DiskF2; show 2 < 1000; decide
theorem DiskF2_put {v0 v1 v2 : V} : putF "spoils" v2 (DiskF2 v0 v1) = DiskF v0 v1 v2 := by unfold DiskF2 DiskF; rw [put_cons, if_neg Disk_ne_lying_spoils, put_cons, if_neg Disk_ne_pending_spoils, put_nil]
theorem DiskF_len {v0 v1 v2 : V} : (DiskF v0 v1 v2).length < 1000 := by unfold DiskF; show 3 < 1000; decide
theorem DiskF_get_lying {v0 v1 v2 : V} : List.lookup ("lying" : Str) (DiskF v0 v1 v2) = some v0 := by unfold DiskF; rw [look_cons, if_pos rfl]
theorem DiskF_put_lying {v0 v1 v2 w : V} : putF "lying" w (DiskF v0 v1 v2) = DiskF w v1 v2 := by unfold DiskF; rw [put_cons, if_pos rfl]
theorem DiskF_get_pending {v0 v1 v2 : V} : List.lookup ("pending" : Str) (DiskF v0 v1 v2) = some v1 := by unfold DiskF; rw [look_cons, if_neg Disk_ne_pending_lying, look_cons, if_pos rfl]
theorem DiskF_put_pending {v0 v1 v2 w : V} : putF "pending" w (DiskF v0 v1 v2) = DiskF v0 w v2 := by unfold DiskF; rw [put_cons, if_neg Disk_ne_lying_pending, put_cons, if_pos rfl]
theorem DiskF_get_spoils {v0 v1 v2 : V} : List.lookup ("spoils" : Str) (DiskF v0 v1 v2) = some v2 := by unfold DiskF; rw [look_cons, if_neg Disk_ne_spoils_lying, look_cons, if_neg Disk_ne_spoils_pending, look_cons, if_pos rfl]
theorem DiskF_put_spoils {v0 v1 v2 w : V} : putF "spoils" w (DiskF v0 v1 v2) = DiskF v0 v1 w := by unfold DiskF; rw [put_cons, if_neg Disk_ne_lying_spoils, put_cons, if_neg Disk_ne_pending_spoils, put_cons, if_pos rfl]
theorem DiskF_no {v0 v1 v2 : V} {m : Str} (h0 : ¬ m = "lying") (h1 : ¬ m = "pending") (h2 : ¬ m = "spoils") : List.lookup m (DiskF v0 v1 v2) = none := by unfold DiskF; rw [look_cons, if_neg h0, look_cons, if_neg h1, look_cons, if_neg h2]; rfl
local macro_rules | `(tactic| walk_at "lk") => `(tactic| with_reducible first | assumption | exact DiskF_get_lying | exact DiskF_get_pending | exact DiskF_get_spoils | exact DiskF_no (by decide +kernel) (by decide +kernel) (by decide +kernel))
local macro_rules | `(tactic| walk_at "puts") => `(tactic| try simp only [DiskF_put_lying, DiskF_put_pending, DiskF_put_spoils, DiskF0_put, DiskF1_put, DiskF2_put])
local macro_rules | `(tactic| walk_at "flen") => `(tactic| first | with_reducible assumption | with_reducible (first | exact DiskF_len | exact DiskF0_len | exact DiskF1_len | exact DiskF2_len) | decide)
section
variable {Z : Ads} {P : Program} {w : World} {K : PySem.W.Frag} {mg : Str → Option Value} {base : Heap}
/-! ### a disk -/
/-- a disk's list at l, what waits at q -/
structure DiskAt (C : Addr) (n : Int) (H : Hp) (d l q : Addr) (ls ps : List PyData) : Prop where
  ok : ∃ dx, H d = some (.ins C dx (DiskF (.ref l) (.ref q) (.int n)))
  lie : ∃ xs, H l = some (.lst xs) ∧ TDs H xs ls
  pen : ∃ xs, H q = some (.lst xs) ∧ TDs H xs ps
  lq : l ≠ q
def spInit (C : Addr) : Sp := fun vs H Q _ => ∃ (d dx : Addr), vs = [.ref d] ∧ H d = some (.ins C dx DiskF0) ∧ ∀ H' l q, H l = none → H q = none → DiskAt C 0 H' d l q [] [] → Fr [d] H H' → Q .non H'
abbrev s_Disk___init__ : Stmt := inClass (top 67) 0
theorem sc_Disk___init__ : FnScope ["self"] ["self"] (defScope s_Disk___init__) := ⟨rfl, rfl, rfl, by decide +kernel, rfl, by decide +kernel, by decide +kernel⟩
theorem ok_Disk_init {f : Addr} {fd : FuncData} (F : Fun K "__init__" "Disk.__init__" s_Disk___init__ f fd) (T : Txt K mg Z) : FnOk P w K mg base (L2.CX P w) 1 f fd ["self"] (spInit Z.Disk) := by
  have cl := T.cl
  have aL := T.aL
  have aP := T.aP
  have aS := T.aS
  refine okN F sc_Disk___init__ (fun vs H Q E h => ?_) (fun cdv A outer s0 H vs Q E hr h => ?_)
  · obtain ⟨d, dx, rfl, _⟩ := h
    rfl
  · obtain ⟨d, dx, rfl, hd, k⟩ := h
    refine ⟨_, [some _], rfl, (pss_cons (kSFld (K := K) (pv 0) (pe_lst pa_nil) rfl)
      (pss_cons (kSFld (K := K) (pv 0) (pe_lst pa_nil) rfl)
      (pss_one (kSFld (K := K) (pv 0) pe_int rfl)))), ?_⟩
    walk_at "st"
    intro l hl
    have dl : d ≠ l := ne_of_none hd hl
    walk_at "st"
    intro q hq
    have nd : q ≠ d := fresh_ne hq
    have hq2 := fresh_of (fresh_of hq)
    have nl : q ≠ l := fresh_ne (fresh_of hq)
    walk_at "st"
    refine k _ l q hl hq2 ⟨⟨dx, upd_same⟩, ⟨[], (by walk_at "hp"), .nil⟩, ⟨[], (by walk_at "hp"), .nil⟩, nl.symm⟩ ?_
    exact (((((Fr.refl H).new hl).wi (by walk_at "hp") (.inl (by simp))).new hq).wi (by walk_at "hp") (.inl (by simp))).wi upd_same (.inl (by simp))
/-- a key and a thing wait -/
def spWrite (C : Addr) : Sp := fun vs H Q _ => ∃ (n : Int) (d l q : Addr) (ls ps : List PyData) (k v : V) (kd vd : PyData), vs = [.ref d, k, v] ∧ DiskAt C n H d l q ls ps ∧ ps.length ≤ 1000 ∧ TD H k kd ∧ KeyD kd ∧ TD H v vd ∧ Nice 10 vd ∧
  ∀ H', DiskAt C n H' d l q ls (ps ++ [.tuple [kd, vd]]) → Fr [q] H H' → Q .non H'
abbrev s_Disk_write : Stmt := inClass (top 67) 1
theorem sc_Disk_write : FnScope ["self", "key", "thing"] ["self", "key", "thing"] (defScope s_Disk_write) := ⟨rfl, rfl, rfl, by decide +kernel, rfl, by decide +kernel, by decide +kernel⟩
theorem ok_Disk_write {f : Addr} {fd : FuncData} (F : Fun K "write" "Disk.write" s_Disk_write f fd) (T : Txt K mg Z) (D_is_key : Dn P w K mg base "is_key" 3 ["thing"] spIsKey) (D_is_kept : Dn P w K mg base "is_kept" 11 ["thing"] (spKept 10)) :
    FnOk P w K mg base (L2.CX P w) 12 f fd ["self", "key", "thing"] (spWrite Z.Disk) := by
  have cl := T.cl
  have aL := T.aL
  have aP := T.aP
  have aS := T.aS
  refine okN F sc_Disk_write (fun vs H Q E h => ?_) (fun cdv A outer s0 H vs Q E hr h => ?_)
  · obtain ⟨n, d, l, q, ls, ps, k, v, kd, vd, rfl, _⟩ := h
    rfl
  · obtain ⟨n, d, l, q, ls, ps, kk, v, kd, vd, rfl, ⟨⟨dx, hd⟩, ⟨xs, hl, tl⟩, ⟨ys, hq, tq⟩, lq⟩, hps, tk, hk, tv, hv, k⟩ := h
    refine ⟨_, [some _, some _, some _], rfl, (pss_cons (ps_if (pt_not (pt_val (pe_d D_is_key E0 (hr.mono (by first | decide | omega)) (by rfl) passL (pa_cons (pv 1) pa_nil)))) (pss_one ps_never) pss_nil)
      (pss_cons (ps_if (pt_not (pt_val (pe_d D_is_kept E0 (hr.mono (by first | decide | omega)) (by rfl) passL (pa_cons (pv 2) pa_nil)))) (pss_one ps_never) pss_nil)
      (pss_one (ps_expr (kApp (K := K) (kFld (K := K) (pv 0) rfl) (pe_tup (pa_cons (pv 1) (pa_cons (pv 2) pa_nil)))))))), ?_⟩
    walk_at "st"
    refine ⟨kk, kd, rfl, tk, hk, fun H1 f1 => ?_⟩
    walk_at "st"
    refine ⟨v, vd, rfl, TD.mono f1.tup _ _ tv, hv, fun H2 f2 => ?_⟩
    have f12 := f1.trans f2
    have hd2 := f12.same _ _ hd
    have hl2 := f12.same _ _ hl
    have hq2 := f12.same _ _ hq
    have hny := tq.length
    walk_at "st"
    intro t ht
    walk_at "st"
    have g1 : Fr [q] H _ := (f12.mono (ns := [q]) (by simp)).new (o := .tup [kk, v]) ht
    have g2 := g1.wl (p := q) (o' := .lst (ys ++ [.ref t])) (by walk_at "hp") (.inl (by simp))
    have dq : d ≠ q := ne_of hd hq (by intro z; cases z)
    refine k _ ⟨⟨dx, by walk_at "hp"⟩, ⟨xs, by walk_at "hp", TDs.mono g2.tup _ _ tl⟩, ⟨ys ++ [.ref t], upd_same, TDs.snoc (TDs.mono g2.tup _ _ tq) (.tup ?_ (.cons (TD.mono g2.tup _ _ tk) (.cons (TD.mono g2.tup _ _ tv) .nil)))⟩, lq⟩ g2
    rw [upd_ne]
    · exact upd_same
    · exact ne_of (H := upd H2 t (.tup [kk, v])) upd_same (by walk_at "hp" : upd H2 t (.tup [kk, v]) q = some (.lst ys)) (by intro z; cases z)
def trip : PyData → PyData
  | .tuple [k, v] => .tuple [k, v, .bool true]
  | d => d
def IsPr (d : PyData) : Prop := ∃ k v, d = .tuple [k, v] ∧ KeyD k ∧ Nice 10 v
def spSync (C : Addr) : Sp := fun vs H Q _ => ∃ (n : Int) (d l q : Addr) (ls ps : List PyData), vs = [.ref d] ∧ DiskAt C n H d l q ls ps ∧ ps.length ≤ 1000 ∧ ls.length ≤ 1000 ∧ (∀ e ∈ ps, IsPr e) ∧
  ∀ H' q', H q' = none → DiskAt C n H' d l q' (ls ++ ps.map trip) [] → Fr [d, l] H H' → Q .non H'
abbrev s_Disk_sync : Stmt := inClass (top 67) 2
theorem sc_Disk_sync : FnScope ["self", "key", "thing"] ["self"] (defScope s_Disk_sync) := ⟨rfl, rfl, rfl, by decide +kernel, rfl, by decide +kernel, by decide +kernel⟩
theorem ok_Disk_sync {f : Addr} {fd : FuncData} (F : Fun K "sync" "Disk.sync" s_Disk_sync f fd) (T : Txt K mg Z) : FnOk P w K mg base (L2.CX P w) 1 f fd ["self"] (spSync Z.Disk) := by
  have cl := T.cl
  have aL := T.aL
  have aP := T.aP
  have aS := T.aS
  refine okN F sc_Disk_sync (fun vs H Q E h => ?_) (fun cdv A outer s0 H vs Q E hr h => ?_)
  · obtain ⟨n, d, l, q, ls, ps, rfl, _⟩ := h
    rfl
  · obtain ⟨n, d, l, q, ls, ps, rfl, ⟨⟨dx, hd⟩, ⟨xs, hl, tl⟩, ⟨ys, hq, tq⟩, lq⟩, hps, hls, hpr, k⟩ := h
    have hny := tq.length
    have hnx := tl.length
    refine ⟨_, [some _, none, none], rfl, (pss_cons (ps_expr (kBm (K := K) PySem.F.plainAttrs_list PySem.F.slot_list_extend PySem.F.type_list_extend mt_extend (kFld (K := K) (pv 0) rfl) (pa_cons (pe_lc (own := [("key", 1), ("thing", 2)]) (g := (gTup K 2 (gCons (gName 1) (gCons (gName 2) gNil)))) (tt := tYes) rfl sc_Disk_sync.nd (kPiL (K := K) (kFld (K := K) (pv 0) rfl)) (blkOk_by (N := ["self", "key", "thing"]) (sc := defScope s_Disk_sync) (by decide +kernel)) (fun _ _ _ _ _ => (kTupT (K := K) (n := 2) (pgs_cons (pg_name (i := 1) sc_Disk_sync.nd rfl (by first | exact Or.inl rfl | exact Or.inr rfl)) (pgs_cons (pg_name (i := 2) sc_Disk_sync.nd rfl (by first | exact Or.inl rfl | exact Or.inr rfl)) pgs_nil)))) (fun _ _ _ _ _ => pts_nil) (fun _ _ _ _ _ => (pe_tup (pa_cons (pv 1) (pa_cons (pv 2) (pa_cons pe_bl pa_nil)))))) pa_nil)))
      (pss_one (kSFld (K := K) (pv 0) (pe_lst pa_nil) rfl))), ?_⟩
    walk_at "st"
    intro D hD
    refine lc_it (walk_list (xs := ys)) (fun i H' => Fr [] H H' ∧ ∃ acc, H' D = some (.lst acc) ∧ acc.length = i ∧ TDs H' acc ((ps.take i).map trip)) ⟨Fr.up hD, [], upd_same, rfl, .nil⟩ (fun i H' _ h => SqL.of (h.1.same _ _ hq)) ?_ ?_
    · rintro i x H1 H2 hi ⟨f1, acc, e1, ea, ta⟩ ⟨rfl, hx⟩
      obtain ⟨e, he, te⟩ := TDs.at_ (TDs.mono f1.tup _ _ tq) hx
      obtain ⟨kd, vd, rfl, _, _⟩ := hpr e (List.mem_of_getElem? he)
      cases te with
      | @tup a zs _ ha hT =>
      cases hT with
      | @cons z1 _ _ _ t1 hT =>
      cases hT with
      | @cons z2 _ _ _ t2 hT =>
      cases hT
      walk_at "st"
      intro t ht
      have e2 := upd_old (o' := HO.tup [z1, z2, V.bl true]) ht e1
      have f2 := f1.new (o := .tup [z1, z2, V.bl true]) ht
      have f3 := f2.wl (o' := .lst (acc ++ [.ref t])) e2 (.inr hD)
      have gT : Tp H2 (upd (upd H2 t (.tup [z1, z2, V.bl true])) D (.lst (acc ++ [.ref t]))) := ((Fr.up (ms := [D]) ht).wl e2 (.inl (by simp))).tup
      refine ⟨acc, e2, line_lt (by omega), f3, acc ++ [.ref t], upd_same, by simp [ea], ?_⟩
      rw [take_snoc he, List.map_append]
      refine TDs.snoc (TDs.mono gT _ _ ta) (.tup ?_ (.cons (TD.mono gT _ _ t1) (.cons (TD.mono gT _ _ t2) (.cons (.bl _) .nil))))
      rw [upd_ne (ne_of (H := upd H2 t (.tup [z1, z2, V.bl true])) upd_same e2 (by intro z; cases z))]
      exact upd_same
    · rintro H1 ⟨f1, acc, e1, ea, ta⟩
      have hd1 := f1.same _ _ hd
      have hl1 := f1.same _ _ hl
      have dl : d ≠ l := ne_of hd hl (by intro z; cases z)
      have Dd : D ≠ d := (ne_of_none hd hD).symm
      have Dl : D ≠ l := (ne_of_none hl hD).symm
      walk_at "st"
      intro q' hq'
      walk_at "st"
      have n1 : q' ≠ l := fresh_ne hq'
      have h1q := fresh_of hq'
      have n2 : q' ≠ d := (ne_of_none hd1 h1q).symm
      have g1 : Fr [d, l] H _ := ((((f1.mono (ns := [d, l]) (by simp)).wl (o' := .lst (xs ++ acc)) hl1 (.inl (by simp))).new (o := .lst []) hq').wi (o' := .ins Z.Disk dx (DiskF (.ref l) (.ref q') (.int n))) (by walk_at "hp") (.inl (by simp)))
      have g2 : Tp H1 _ := (((Fr.refl (ms := [d, l]) H1).wl (o' := .lst (xs ++ acc)) hl1 (.inl (by simp))).new (o := .lst []) hq').wi (o' := .ins Z.Disk dx (DiskF (.ref l) (.ref q') (.int n))) (by walk_at "hp") (.inl (by simp)) |>.tup
      refine k _ q' (f1.free h1q) ⟨⟨dx, upd_same⟩, ⟨xs ++ acc, ?_, ?_⟩, ⟨[], ?_, .nil⟩, n1.symm⟩ g1
      · walk_at "hp"
      · refine TDs.app (TDs.mono g1.tup _ _ tl) ?_
        rw [List.take_of_length_le (by omega)] at ta
        exact TDs.mono g2 _ _ ta
      · walk_at "hp"
end

end K40

namespace K40
open PySem PySem.Spec PyProof.Rows L2 Hq
local macro_rules | `(tactic| walk_at "st1") => `(tactic| first
  | with_reducible refine st_seq ?_ | with_reducible refine st_ret ?_ | with_reducible refine st_ifS ?_ | with_reducible refine st_asg ?_ | with_reducible refine st_drop ?_
  | ((with_reducible refine' st_var ?hv ?_); (case hv => rfl)) | with_reducible refine st_c ?_ | with_reducible refine st_op ?_ | with_reducible refine st_un ?_
  | with_reducible refine st_I0 ?_ | with_reducible refine st_U ?_ | ((with_reducible refine' st_I ?hc ?_); (case hc => walk_at "side"))
  | ((with_reducible refine' st_eq ?hs ?_); (case hs => rfl)) | ((with_reducible refine' st_ne ?hs ?_); (case hs => rfl))
  | with_reducible refine st_test ?_ | with_reducible refine st_B ?_ | with_reducible refine st_bl ?_ | with_reducible refine st_isN ?_ | with_reducible refine st_notN ?_
  | with_reducible refine st_chain ?_ | with_reducible refine st_and ?_ | with_reducible refine st_or ?_ | with_reducible refine st_not ?_
  | with_reducible refine st_andV ?_ | with_reducible refine st_orV ?_ | with_reducible refine st_notV ?_ | with_reducible refine st_if ?_
  | with_reducible refine st_CB ?_ | with_reducible refine st_cons ?_ | with_reducible refine st_nil ?_ | with_reducible refine st_fld ?_
  | ((with_reducible refine st_tup ?_)) | ((with_reducible refine st_lst ?_))
  | with_reducible refine st_call ?_ | with_reducible refine st_meth ?_ | with_reducible refine st_make ?_
  | with_reducible refine st_sl ?_ | with_reducible refine st_noPart ?_ | with_reducible refine st_part ?_ | with_reducible refine st_int ?_
  | ((with_reducible refine' st_ixL ?hq ?he ?_); (case hq => walk_at "sqL"); (case he => walk_at "at"))
  | ((with_reducible refine' st_ixT ?hq ?he ?_); (case hq => walk_at "sqT"); (case he => walk_at "at"))
  | with_reducible refine st_bm ?_ | with_reducible refine st_app ?_
  | ((with_reducible refine' st_append ?hq ?hl ?_); (case hq => walk_at "hp"); (case hl => walk_at "line"))
  | ((with_reducible refine' st_len (n := 0) ?hq ?_); (case hq => first | exact Or.inl (by walk_at "sqL") | exact Or.inr (by walk_at "sqT")))
  | ((with_reducible refine' st_listOf ?hq ?_); (case hq => first | exact Or.inl (by walk_at "sqL") | exact Or.inr (by walk_at "sqT")))
  | ((with_reducible refine st_name ?_); (try dsimp only [List.set_cons_zero, List.set_cons_succ])) | with_reducible refine st_par ?_
  | with_reducible refine st_gcons ?_ | with_reducible refine st_gnil ?_ | with_reducible refine st_gsub ?_ | with_reducible refine st_sFld ?_
  | ((with_reducible refine' st_gtup ?hq ?hl ?_); (case hq => walk_at "sqT"); (case hl => rfl))
  | ((with_reducible refine' st_setL ?hq ?hl ?_); (case hq => walk_at "hp"); (case hl => first | rfl | exact ix0 | exact ixN_nat (by assumption)); (try simp only [Int.reduceToNat, List.set_cons_zero, List.set_cons_succ]))
  | with_reducible refine st_intI ?_ | with_reducible refine st_abs ?_
  | ((with_reducible refine' st_popAt ?hq ?hk ?hy ?_); (case hq => walk_at "hp"); (case hk => exact seq0); (case hy => rfl))
  | ((with_reducible refine' and_left ?ht ?_); (case ht => walk_at "ty"))
  | with_reducible refine st_lc ?_ | with_reducible refine st_for ?_ | with_reducible refine st_iL ?_ | with_reducible refine st_iT ?_ | with_reducible refine st_iR1 ?_ | with_reducible refine st_iR2 ?_ | with_reducible refine st_iZ ?_
  | ((with_reducible refine' st_refL ?hq ?_); (case hq => walk_at "sqL")) | ((with_reducible refine' st_refT ?hq ?_); (case hq => walk_at "sqT"))
  | ((with_reducible refine' st_rng1 ?hq ?_); (case hq => walk_at "side")) | ((with_reducible refine' st_rng2 ?hq ?_); (case hq => walk_at "side"))
  | ((with_reducible refine' st_zip ?hq ?hr ?_); (case hq => walk_at "sqb"); (case hr => walk_at "sqb"))
  | ((with_reducible refine' st_size ?hw ?_); (case hw => walk_at "line"))
  | ((with_reducible refine' st_sum ?hq ?_); (case hq => walk_at "sqL"))
  | with_reducible refine st_two ?_ | with_reducible refine st_yes ?_ | ((with_reducible refine' st_wipe ?hw ?_); (case hw => rfl))
  | ((with_reducible refine' st_slL ?hq ?_); (case hq => walk_at "sqL"))
  | ((with_reducible refine' st_cat ?hq ?hr ?hl ?_); (case hq => walk_at "hp"); (case hr => walk_at "hp"); (case hl => walk_at "line"))
  | ((with_reducible refine' st_isi ?hk ?he ?_); (case hk => walk_at "kd"); (case he => walk_at "kit"))
  | ((with_reducible refine' st_ins ?hq ?hc ?hn ?hl ?_); (case hq => walk_at "hp"); (case hc => with_reducible assumption); (case hn => with_reducible assumption); (case hl => walk_at "flen"); walk_at "puts")
  | ((with_reducible refine' st_att ?hq ?hc ?hn ?hl ?_); (case hq => walk_at "hp"); (case hc => with_reducible assumption); (case hn => with_reducible assumption); (case hl => walk_at "lk"))
  | ((with_reducible refine' st_mt ?hq ?hl ?_); (case hq => walk_at "hp"); (case hl => walk_at "lk"))
  | ((with_reducible refine' st_extend ?hq ?hr ?hl ?_); (case hq => walk_at "hp"); (case hr => walk_at "hp"); (case hl => walk_at "line"))
  | with_reducible refine st_next ?_ | with_reducible refine st_retN ?_ | (with_reducible refine iteNT ?_) | (with_reducible refine iteNF ?_) | (with_reducible refine iteT ?_) | (with_reducible refine iteF ?_))
local macro_rules | `(tactic| walk_at "side") => `(tactic| first | omega | decide | assumption | exact ⟨by omega, by omega⟩ | exact Or.inr ⟨by omega, by omega⟩ | exact Or.inl ⟨by omega, by omega⟩ | (simp only [List.length_map, List.length_cons, List.length_nil, List.length_append] at *; omega))
local macro_rules | `(tactic| walk_at "hp") => `(tactic| first | assumption | exact upd_same | refine upd_old (by assumption) (by walk_at "hp") | (rw [upd_ne (by first | assumption | exact Ne.symm (by assumption))]; walk_at "hp"))
local macro_rules | `(tactic| walk_at "sqL") => `(tactic| first | assumption | exact SqL.of (by walk_at "hp"))
local macro_rules | `(tactic| walk_at "sqT") => `(tactic| first | assumption | exact SqT.of (by walk_at "hp"))
local macro_rules | `(tactic| walk_at "sqb") => `(tactic| (unfold SqB; first | ((with_reducible change SqL _ _ _ _); walk_at "sqL") | ((with_reducible change SqT _ _ _ _); walk_at "sqT")))
local macro_rules | `(tactic| walk_at "line") => `(tactic| first | assumption | decide | (apply line_of; walk_at "side") | (apply line_lt; walk_at "side"))
local macro_rules | `(tactic| walk_at "ty") => `(tactic| ((with_reducible refine' ty_lst ?hq); (case hq => walk_at "hp")))
local macro_rules | `(tactic| walk_at "at") => `(tactic| with_reducible first | assumption | exact at0 | exact at1 | exact at2 | exact at3 | exact at4 | exact at5 | exact at6 | exact at7 | exact at8)
local macro_rules | `(tactic| walk_at "st") => `(tactic| (repeat walk_at "st1"))
local macro_rules | `(tactic| walk_at "lk") => `(tactic| first | with_reducible assumption | rfl)
local macro_rules | `(tactic| walk_at "kd") => `(tactic| first | exact .base (.int _) | exact .base .non | exact .base (.bl _) | exact .base (.str _) | exact .base (.tup (by walk_at "hp")) | exact .base (.lst (by walk_at "hp")) | exact .base (.dK (by walk_at "hp")) | exact .base (.dT (by walk_at "hp")))
local macro_rules | `(tactic| walk_at "kit") => `(tactic| with_reducible first
  | exact kit_NoneType_bool
  | exact kit_NoneType_int
  | exact kit_NoneType_str
  | exact kit_NoneType_tuple
  | exact kit_NoneType_list
  | exact kit_NoneType_dict
  | exact kit_bool_bool
  | exact kit_bool_int
  | exact kit_bool_str
  | exact kit_bool_tuple
  | exact kit_bool_list
  | exact kit_bool_dict
  | exact kit_int_bool
  | exact kit_int_int
  | exact kit_int_str
  | exact kit_int_tuple
  | exact kit_int_list
  | exact kit_int_dict
  | exact kit_str_bool
  | exact kit_str_int
  | exact kit_str_str
  | exact kit_str_tuple
  | exact kit_str_list
  | exact kit_str_dict
  | exact kit_tuple_bool
  | exact kit_tuple_int
  | exact kit_tuple_str
  | exact kit_tuple_tuple
  | exact kit_tuple_list
  | exact kit_tuple_dict
  | exact kit_list_bool
  | exact kit_list_int
  | exact kit_list_str
  | exact kit_list_tuple
  | exact kit_list_list
  | exact kit_list_dict
  | exact kit_dict_bool
  | exact kit_dict_int
  | exact kit_dict_str
  | exact kit_dict_tuple
  | exact kit_dict_list
  | exact kit_dict_dict)
local macro_rules | `(tactic| walk_at "flen") => `(tactic| decide)
local macro_rules | `(tactic| walk_at "puts") => `(tactic| skip)

local macro_rules | `(tactic| walk_at "st1") => `(tactic| first
  | with_reducible refine st_dc ?_ | with_reducible refine st_dgetS ?_ | with_reducible refine st_dinS ?_ | with_reducible refine st_dninS ?_ | with_reducible refine st_dputS ?_ | with_reducible refine st_newT ?_ | with_reducible refine iteNN ?_ | with_reducible refine iteYN ?_
  | ((with_reducible refine' st_getT ?hq ?hk ?hv ?_); (case hq => walk_at "hp"); (case hk => walk_at "key"); (case hv => with_reducible assumption))
  | ((with_reducible refine' st_inT ?hq ?hk ?_); (case hq => walk_at "hp"); (case hk => walk_at "key"))
  | ((with_reducible refine' st_ninT ?hq ?hk ?_); (case hq => walk_at "hp"); (case hk => walk_at "key"))
  | ((with_reducible refine' st_putT ?hq ?hk ?hl ?_); (case hq => walk_at "hp"); (case hk => walk_at "key"); (case hl => walk_at "line"))
  | ((with_reducible refine' st_cputT ?hq ?hk ?hl ?_); (case hq => walk_at "hp"); (case hk => walk_at "key"); (case hl => walk_at "line"))
  | ((with_reducible refine' st_ixB ?hq ?he ?_); (case hq => first | assumption | exact Or.inl (by walk_at "sqL") | exact Or.inr (by walk_at "sqT")); (case he => walk_at "at")))
local macro_rules | `(tactic| walk_at "key") => `(tactic| with_reducible assumption)

def StoreF0 : List (Str × V) := []
def StoreF (v0 : V) : List (Str × V) := [("disk", v0)]
theorem StoreF0_len : (StoreF0 ).length < 1000 := by unfold StoreF0; show 0 < 1000; decide
theorem StoreF0_put {v0 : V} : putF "disk" v0 (StoreF0 ) = StoreF v0 := by unfold StoreF0 StoreF; rw [put_nil]
theorem StoreF_len {v0 : V} : (StoreF v0).length < 1000 := by unfold StoreF; show 1 < 1000; decide
theorem StoreF_get_disk {v0 : V} : List.lookup ("disk" : Str) (StoreF v0) = some v0 := by unfold StoreF; rw [look_cons, if_pos rfl]
theorem StoreF_put_disk {v0 w : V} : putF "disk" w (StoreF v0) = StoreF w := by unfold StoreF; rw [put_cons, if_pos rfl]
theorem StoreF_no {v0 : V} {m : Str} (h0 : ¬ m = "disk") : List.lookup m (StoreF v0) = none := by unfold StoreF; rw [look_cons, if_neg h0]; rfl
local macro_rules | `(tactic| walk_at "lk") => `(tactic| with_reducible first | assumption | exact DiskF_get_lying | exact DiskF_get_pending | exact DiskF_get_spoils | exact StoreF_get_disk | exact DiskF_no (by decide +kernel) (by decide +kernel) (by decide +kernel) | exact StoreF_no (by decide +kernel))
local macro_rules | `(tactic| walk_at "puts") => `(tactic| try simp only [DiskF_put_lying, DiskF_put_pending, DiskF_put_spoils, StoreF_put_disk, DiskF0_put, DiskF1_put, DiskF2_put, StoreF0_put])
local macro_rules | `(tactic| walk_at "flen") => `(tactic| first | with_reducible assumption | with_reducible (first | exact DiskF_len | exact StoreF_len | exact DiskF0_len | exact DiskF1_len | exact DiskF2_len | exact StoreF0_len) | decide)
section
variable {Z : Ads} {P : Program} {w : World} {K : PySem.W.Frag} {mg : Str → Option Value} {base : Heap}
def fell (p : PyData) (h : Int) : List PyData := match p with
  | .tuple [k, v] => if h = 0 then [] else if h = 2 then [.tuple [k, v, .bool true]] else [.tuple [k, .none, .bool false]]
  | _ => []
def fallen (ps : List PyData) (hs : List Int) : List PyData := (ps.zip hs).flatMap fun x => fell x.1 x.2
theorem fallen_cons (p : PyData) (ps : List PyData) (h : Int) (hs : List Int) : fallen (p :: ps) (h :: hs) = fell p h ++ fallen ps hs := by simp [fallen]
theorem fallen_snoc : ∀ {i : Nat} {ps : List PyData} {hs : List Int} {p : PyData} {h : Int}, ps[i]? = some p → hs[i]? = some h → fallen (ps.take (i + 1)) (hs.take (i + 1)) = fallen (ps.take i) (hs.take i) ++ fell p h
  | _, [], _, _, _, hp, _ => by simp at hp
  | _, _, [], _, _, _, hh => by simp at hh
  | 0, p' :: ps, h' :: hs, p, h, hp, hh => by
    simp only [List.getElem?_cons_zero, Option.some.injEq] at hp hh
    subst hp hh
    simp [fallen]
  | i + 1, p' :: ps, h' :: hs, p, h, hp, hh => by
    simp only [List.getElem?_cons_succ] at hp hh
    rw [List.take_succ_cons, List.take_succ_cons, fallen_cons, fallen_snoc hp hh, List.take_succ_cons, List.take_succ_cons, fallen_cons, List.append_assoc]
theorem fallen_len {ps : List PyData} {hs : List Int} : (fallen ps hs).length ≤ ps.length := by
  unfold fallen
  induction ps generalizing hs with
  | nil => simp
  | cons p ps ih =>
    cases hs with
    | nil => simp
    | cons h hs =>
      simp only [List.zip_cons_cons, List.flatMap_cons, List.length_append, List.length_cons]
      have := ih (hs := hs)
      have : (fell p h).length ≤ 1 := by
        unfold fell
        split
        · split
          · simp
          · split <;> simp
        · simp
      omega
def spFall (C : Addr) : Sp := fun vs H Q _ => ∃ (n : Int) (d l q r : Addr) (ls ps : List PyData) (hs : List Int), vs = [.ref d, .ref r] ∧ DiskAt C n H d l q ls ps ∧ H r = some (.tup (hs.map V.int)) ∧ hs.length = ps.length ∧ (∀ h ∈ hs, 0 ≤ h ∧ h ≤ 2) ∧ ps.length ≤ 1000 ∧ ls.length ≤ 1000 ∧ (∀ e ∈ ps, IsPr e) ∧
  ∀ H' q', H q' = none → DiskAt C n H' d l q' (ls ++ fallen ps hs) [] → Fr [d, l] H H' → Q .non H'
abbrev s_Disk_fall : Stmt := inClass (top 67) 3
theorem sc_Disk_fall : FnScope ["self", "reached", "one", "word"] ["self", "reached"] (defScope s_Disk_fall) := ⟨rfl, rfl, rfl, by decide +kernel, rfl, by decide +kernel, by decide +kernel⟩
theorem ok_Disk_fall {f : Addr} {fd : FuncData} (F : Fun K "fall" "Disk.fall" s_Disk_fall f fd) (T : Txt K mg Z) (D_is_tuple : Dn P w K mg base "is_tuple" 1 ["thing", "least", "most"] spTuple) (D_is_between : Dn P w K mg base "is_between" 2 ["thing", "least", "most"] spBetween) :
    FnOk P w K mg base (L2.CX P w) 3 f fd ["self", "reached"] (spFall Z.Disk) := by
  have cl := T.cl
  have aL := T.aL
  have aP := T.aP
  have aS := T.aS
  refine okN F sc_Disk_fall (fun vs H Q E h => ?_) (fun cdv A outer s0 H vs Q E hr h => ?_)
  · obtain ⟨n, d, l, q, r, ls, ps, hs, rfl, _⟩ := h
    rfl
  · obtain ⟨n, d, l, q, r, ls, ps, hs, rfl, ⟨⟨dx, hd⟩, ⟨xs, hl, tl⟩, ⟨ys, hq, tq⟩, lq⟩, hR, hlen, hbd, hps, hls, hpr, k⟩ := h
    have hny := tq.length
    have hnx := tl.length
    refine ⟨_, [some _, some _, none, none], rfl, (pss_cons (ps_if (pt_not (pt_val (pe_d D_is_tuple E0 (hr.mono (by first | decide | omega)) (by rfl) passL (pa_cons (pv 1) (pa_cons (pe_callB (kLen (K := K)) (by rfl) T.n_len (by decide +kernel) (pa_cons (kFld (K := K) (pv 0) rfl) pa_nil)) (pa_cons (pe_callB (kLen (K := K)) (by rfl) T.n_len (by decide +kernel) (pa_cons (kFld (K := K) (pv 0) rfl) pa_nil)) pa_nil)))))) (pss_one ps_never) pss_nil)
      (pss_cons (ps_if (pt_not (pt_val (pe_callB (kAll (K := K)) (by rfl) T.n_all (by decide +kernel) (pa_cons (pe_lc (own := [("one", 2)]) (g := (gName 2)) (tt := tYes) rfl sc_Disk_fall.nd (kPiT (K := K) (pv 1)) (blkOk_by (N := ["self", "reached", "one", "word"]) (sc := defScope s_Disk_fall) (by decide +kernel)) (fun _ _ _ _ _ => (pg_name (i := 2) sc_Disk_fall.nd rfl (by first | exact Or.inl rfl | exact Or.inr rfl))) (fun _ _ _ _ _ => pts_nil) (fun _ _ _ _ _ => (pe_d D_is_between E0 (hr.mono (by first | decide | omega)) (by rfl) passL (pa_cons (pv 2) (pa_cons (pe_gl (by rfl) T.g_LOST) (pa_cons (pe_gl (by rfl) T.g_WHOLE) pa_nil)))))) pa_nil)))) (pss_one ps_never) pss_nil)
      (pss_cons (ps_for PassesOwn.never rfl (kZip true false (K := K) (by rfl) T.n_zip (pa_cons (pv 1) (pa_cons (kFld (K := K) (pv 0) rfl) pa_nil))) (kTupT (K := K) (n := 2) (pgs_cons (pg_name (i := 2) sc_Disk_fall.nd rfl (by first | exact Or.inl rfl | exact Or.inr rfl)) (pgs_cons (pg_name (i := 3) sc_Disk_fall.nd rfl (by first | exact Or.inl rfl | exact Or.inr rfl)) pgs_nil)))
      (pss_one (ps_if (pt_cmpR op_ne (pv 2) (pe_gl (by rfl) T.g_LOST) (by first | exact nomark _ | rfl)) (pss_one (ps_expr (kApp (K := K) (kFld (K := K) (pv 0) rfl) (pe_tup (pa_cons (pe_ix (kIxT (K := K)) (pv 3) pe_int (fun _ _ => rfl)) (pa_cons (pe_ifExp (pt_cmpR op_eq (pv 2) (pe_gl (by rfl) T.g_WHOLE) (by first | exact nomark _ | rfl)) (pe_ix (kIxT (K := K)) (pv 3) pe_int (fun _ _ => rfl)) pe_non) (pa_cons (pe_cmpR op_eq (pv 2) (pe_gl (by rfl) T.g_WHOLE) (by first | exact nomark _ | rfl)) pa_nil))))))) pss_nil)))
      (pss_one (kSFld (K := K) (pv 0) (pe_lst pa_nil) rfl))))), ?_⟩
    walk_at "st"
    refine ⟨r, _, _, _, rfl, hR, by rw [List.length_map]; omega, ?_⟩
    have e1 : (decide (((ys.length : Nat) : Int) ≤ (((hs.map V.int).length : Nat) : Int)) && decide ((((hs.map V.int).length : Nat) : Int) ≤ ((ys.length : Nat) : Int))) = true := by
      rw [List.length_map, hlen, hny]; simp
    rw [e1]
    walk_at "st"
    intro D hD
    refine lc_it (walk_tup (xs := hs.map V.int)) (fun i H' => Fr [] H H' ∧ H' D = some (.lst ((List.replicate i true).map V.bl))) ⟨Fr.up hD, upd_same⟩ (fun i H' _ h => SqT.of (h.1.tup _ _ hR)) ?_ ?_
    · rintro i x H1 H2 hi ⟨f1, e1⟩ ⟨rfl, hx⟩
      rw [List.getElem?_map] at hx
      obtain ⟨h, hh, rfl⟩ := Option.map_eq_some_iff.mp hx
      obtain ⟨b0, b2⟩ := hbd h (List.mem_of_getElem? hh)
      rw [List.length_map] at hi
      walk_at "st"
      refine ⟨h, 0, 2, rfl, ?_⟩
      rw [decide_eq_true b0, decide_eq_true b2]
      refine ⟨_, e1, line_lt (by simp; omega), f1.wl e1 (.inr hD), ?_⟩
      rw [upd_same, List.replicate_succ', List.map_append]
      rfl
    · rintro H1 ⟨f1, e1⟩
      walk_at "st"
      refine st_all (SqL.of e1) ?_
      rw [show (List.replicate (hs.map V.int).length true).all id = true by simp]
      have hd1 := f1.same _ _ hd
      have hl1 := f1.same _ _ hl
      have hq1 := f1.same _ _ hq
      have hR1 := f1.same _ _ hR
      walk_at "st"
      refine for_it (walkZ (b := true) (c := false) (xs := hs.map V.int) (ys := ys) (n := ps.length) (by rw [List.length_map]; omega))
        (fun i σ H' => ∃ acc o1 o2, σ = [some (.ref d), some (.ref r), o1, o2] ∧ Fr [l] H H' ∧ H' l = some (.lst (xs ++ acc)) ∧ acc.length ≤ i ∧ TDs H' acc (fallen (ps.take i) (hs.take i)))
        ⟨[], none, none, rfl, f1.mono (by simp), by rw [List.append_nil]; exact hl1, Nat.le_refl _, .nil⟩ (fun i σ H' _ ⟨acc, o1, o2, _, g, _⟩ => ⟨SqT.of (g.tup _ _ hR), SqL.of (g.keep _ _ (by simpa using lq.symm) hq)⟩) ?_ ?_
      · rintro i x σ H2 H3 hi ⟨acc, o1, o2, rfl, g, e2, ea, ta⟩ ⟨t, v1, v2, rfl, ht, rfl, hx, hy⟩
        have hx : (hs.map V.int)[i]? = some v1 := hx
        have hy : ys[i]? = some v2 := hy
        rw [List.getElem?_map] at hx
        obtain ⟨h, hh, rfl⟩ := Option.map_eq_some_iff.mp hx
        have g1 := g.new (o := .tup [V.int h, v2]) ht
        obtain ⟨e, he, te⟩ := TDs.at_ (TDs.mono g1.tup _ _ tq) hy
        obtain ⟨kd, vd, rfl, _, _⟩ := hpr e (List.mem_of_getElem? he)
        cases te with
        | @tup a zs _ ha hT =>
        cases hT with
        | @cons z1 _ _ _ t1 hT =>
        cases hT with
        | @cons z2 _ _ _ t2 hT =>
        cases hT
        have e3 := upd_old (o' := HO.tup [V.int h, .ref a]) ht e2
        have hd3 := g1.keep _ _ (by simpa using (ne_of hd hl (by intro z; cases z) : d ≠ l)) hd
        have hT0 : Tp H2 (upd H2 t (.tup [V.int h, .ref a])) := (Fr.up (ms := []) ht).tup
        have fin : ∀ (H4 : Hp) (u : Addr) (z : List V) (zd : List PyData), upd H2 t (.tup [V.int h, .ref a]) u = none → H4 = upd (upd (upd H2 t (.tup [V.int h, .ref a])) u (.tup z)) l (.lst ((xs ++ acc) ++ [.ref u])) → TDs (upd H2 t (.tup [V.int h, .ref a])) z zd → fell (.tuple [kd, vd]) h = [.tuple zd] →
            ∃ acc' o1' o2', [some (V.ref d), some (V.ref r), some (V.int h), some (V.ref a)] = [some (.ref d), some (.ref r), o1', o2'] ∧ Fr [l] H H4 ∧ H4 l = some (.lst (xs ++ acc')) ∧ acc'.length ≤ i + 1 ∧ TDs H4 acc' (fallen (ps.take (i + 1)) (hs.take (i + 1))) := by
          intro H4 u z zd hu eH tz ef
          have e5 := upd_old (o' := HO.tup z) hu e3
          have gT : Tp (upd H2 t (.tup [V.int h, .ref a])) H4 := by
            rw [eH]
            exact ((Fr.up (ms := [l]) hu).wl e5 (.inl (by simp))).tup
          refine ⟨acc ++ [.ref u], _, _, rfl, ?_, ?_, by simp; omega, ?_⟩
          · rw [eH]
            exact (g1.new hu).wl e5 (.inl (by simp))
          · rw [eH, upd_same, List.append_assoc]
          · rw [fallen_snoc he hh, ef]
            refine TDs.snoc (TDs.mono (hT0.trans gT) _ _ ta) (.tup ?_ (TDs.mono gT _ _ tz))
            rw [eH, upd_ne (ne_of (H := upd (upd H2 t (.tup [V.int h, .ref a])) u (.tup z)) upd_same e5 (by intro z; cases z))]
            exact upd_same
        have hlim : (xs ++ acc).length ≤ 100000 := by rw [List.length_append]; omega
        walk_at "st"
        refine iteDN (fun h0 => ?_) (fun h0 => ?_)
        · cases h0
          refine ⟨acc, _, _, rfl, g1, e3, by omega, ?_⟩
          rw [fallen_snoc he hh]
          simp only [fell, if_pos, List.append_nil]
          exact TDs.mono hT0 _ _ ta
        · have n0 : h ≠ 0 := fun z => h0 (by rw [z])
          walk_at "st"
          refine iteD (fun h2 => ?_) (fun h2 => ?_)
          · have h2' : h = 2 := V.int.inj h2
            walk_at "st"
            rw [decide_eq_true h2]
            walk_at "st"
            intro u hu
            walk_at "st"
            exact fin _ u _ _ hu rfl (.cons t1 (.cons t2 (.cons (.bl true) .nil))) (by simp only [fell, if_neg n0, if_pos h2'])
          · have h2' : ¬ h = 2 := fun z => h2 (by rw [z])
            walk_at "st"
            rw [decide_eq_false h2]
            walk_at "st"
            intro u hu
            walk_at "st"
            exact fin _ u _ _ hu rfl (.cons t1 (.cons .non (.cons (.bl false) .nil))) (by simp only [fell, if_neg n0, if_neg h2'])
      · rintro σ H2 ⟨acc, o1, o2, rfl, g, e2, ea, ta⟩
        have dl : d ≠ l := ne_of hd hl (by intro z; cases z)
        have hd2 := g.keep _ _ (by simpa using dl) hd
        walk_at "st"
        intro q' hq'
        walk_at "st"
        have n1 : q' ≠ l := (ne_of_none e2 hq').symm
        have n2 : q' ≠ d := (ne_of_none hd2 hq').symm
        have gd := (g.mono (ns := [d, l]) (by simp)).new (o := .lst []) hq'
        have g1 := gd.wi (o' := .ins Z.Disk dx (DiskF (.ref l) (.ref q') (.int n))) (upd_old hq' hd2) (.inl (by simp))
        have g2 : Tp H2 _ := ((Fr.up (ms := [d, l]) (o := .lst []) hq').wi (o' := .ins Z.Disk dx (DiskF (.ref l) (.ref q') (.int n))) (upd_old hq' hd2) (.inl (by simp))).tup
        have t2 : hs.take ps.length = hs := List.take_of_length_le (by omega)
        rw [List.take_length, t2] at ta
        exact k _ q' (g.back (by simpa using n1) hq') ⟨⟨dx, upd_same⟩, ⟨xs ++ acc, by walk_at "hp", TDs.app (TDs.mono g1.tup _ _ tl) (TDs.mono g2 _ _ ta)⟩, ⟨[], by walk_at "hp", .nil⟩, n1.symm⟩ g1
def spWaiting (C : Addr) : Sp := fun vs H Q _ => ∃ (n : Int) (d l q : Addr) (ls ps : List PyData), vs = [.ref d] ∧ DiskAt C n H d l q ls ps ∧ Q (.int ps.length) H
abbrev s_Disk_waiting : Stmt := inClass (top 67) 5
theorem sc_Disk_waiting : FnScope ["self"] ["self"] (defScope s_Disk_waiting) := ⟨rfl, rfl, rfl, by decide +kernel, rfl, by decide +kernel, by decide +kernel⟩
theorem ok_Disk_waiting {f : Addr} {fd : FuncData} (F : Fun K "waiting" "Disk.waiting" s_Disk_waiting f fd) (T : Txt K mg Z) : FnOk P w K mg base (L2.CX P w) 1 f fd ["self"] (spWaiting Z.Disk) := by
  have cl := T.cl
  have aP := T.aP
  refine okN F sc_Disk_waiting (fun vs H Q E h => ?_) (fun cdv A outer s0 H vs Q E hr h => ?_)
  · obtain ⟨n, d, l, q, ls, ps, rfl, _⟩ := h
    rfl
  · obtain ⟨n, d, l, q, ls, ps, rfl, ⟨⟨dx, hd⟩, _, ⟨ys, hq, tq⟩, _⟩, k⟩ := h
    refine ⟨_, [some _], rfl, (pss_one (ps_ret (pe_callB (kLen (K := K)) (by rfl) T.n_len (by decide +kernel) (pa_cons (kFld (K := K) (pv 0) rfl) pa_nil)))), ?_⟩
    walk_at "st"
    rw [tq.length]
    exact k
end

section
variable {Z : Ads} {P : Program} {w : World} {K : PySem.W.Frag} {mg : Str → Option Value} {base : Heap}
/-! ### what is whole on a disk -/
def whole : PyData → List PyData
  | .tuple [k, v, .bool true] => [.tuple [k, v]]
  | _ => []
def wholes (ls ps : List PyData) : List PyData := ls.flatMap whole ++ ps
def IsTr (d : PyData) : Prop := ∃ k v b, d = .tuple [k, v, .bool b] ∧ KeyD k ∧ Nice 10 v
theorem whole_pr {e z : PyData} (h : IsTr e) (hz : z ∈ whole e) : IsPr z := by
  obtain ⟨k, v, b, rfl, hk, hv⟩ := h
  cases b with
  | false => exact nomatch hz
  | true =>
    rw [List.mem_singleton.mp hz]
    exact ⟨k, v, rfl, hk, hv⟩
theorem wholes_pr {ls ps : List PyData} (hl : ∀ e ∈ ls, IsTr e) (hp : ∀ e ∈ ps, IsPr e) : ∀ e ∈ wholes ls ps, IsPr e := by
  intro e he
  rcases List.mem_append.mp he with he | he
  · obtain ⟨x, hx, hm⟩ := List.mem_flatMap.mp he
    exact whole_pr (hl x hx) hm
  · exact hp e he
theorem whole_len (e : PyData) : (whole e).length ≤ 1 := by
  unfold whole
  split <;> simp
theorem wholes_len (ls ps : List PyData) : (wholes ls ps).length ≤ ls.length + ps.length := by
  unfold wholes
  rw [List.length_append]
  have : (ls.flatMap whole).length ≤ ls.length := by
    induction ls with
    | nil => simp
    | cons x ls ih =>
      rw [List.flatMap_cons, List.length_append, List.length_cons]
      have := whole_len x
      omega
  omega
theorem flat_snoc {ls : List PyData} {i : Nat} {e : PyData} (h : ls[i]? = some e) : (ls.take (i + 1)).flatMap whole = (ls.take i).flatMap whole ++ whole e := by
  rw [take_snoc h, List.flatMap_append]
  simp
def spWholes (C : Addr) : Sp := fun vs H Q _ => ∃ (n : Int) (d l q : Addr) (ls ps : List PyData), vs = [.ref d] ∧ DiskAt C n H d l q ls ps ∧ ls.length + ps.length ≤ 5000 ∧ (∀ e ∈ ls, IsTr e) ∧
  ∀ H' p xs, H p = none → H' p = some (.lst xs) → TDs H' xs (wholes ls ps) → Fr [] H H' → Q (.ref p) H'
abbrev s_Disk_wholes : Stmt := inClass (top 67) 8
theorem sc_Disk_wholes : FnScope ["self", "key", "thing", "is_whole"] ["self"] (defScope s_Disk_wholes) := ⟨rfl, rfl, rfl, by decide +kernel, rfl, by decide +kernel, by decide +kernel⟩
theorem ok_Disk_wholes {f : Addr} {fd : FuncData} (F : Fun K "wholes" "Disk.wholes" s_Disk_wholes f fd) (T : Txt K mg Z) : FnOk P w K mg base (L2.CX P w) 1 f fd ["self"] (spWholes Z.Disk) := by
  have cl := T.cl
  have aL := T.aL
  have aP := T.aP
  refine okN F sc_Disk_wholes (fun vs H Q E h => ?_) (fun cdv A outer s0 H vs Q E hr h => ?_)
  · obtain ⟨n, d, l, q, ls, ps, rfl, _⟩ := h
    rfl
  · obtain ⟨n, d, l, q, ls, ps, rfl, ⟨⟨dx, hd⟩, ⟨xs, hl, tl⟩, ⟨ys, hq, tq⟩, lq⟩, hsz, htr, k⟩ := h
    have hnx := tl.length
    have hny := tq.length
    refine ⟨_, [some _, none, none, none], rfl, (pss_one (ps_ret (pe_op op_cat (pe_lc (own := [("key", 1), ("thing", 2), ("is_whole", 3)]) (g := (gTup K 3 (gCons (gName 1) (gCons (gName 2) (gCons (gName 3) gNil))))) (tt := _) rfl sc_Disk_wholes.nd (kPiL (K := K) (kFld (K := K) (pv 0) rfl)) (blkOk_by (N := ["self", "key", "thing", "is_whole"]) (sc := defScope s_Disk_wholes) (by decide +kernel)) (fun _ _ _ _ _ => (kTupT (K := K) (n := 3) (pgs_cons (pg_name (i := 1) sc_Disk_wholes.nd rfl (by first | exact Or.inl rfl | exact Or.inr rfl)) (pgs_cons (pg_name (i := 2) sc_Disk_wholes.nd rfl (by first | exact Or.inl rfl | exact Or.inr rfl)) (pgs_cons (pg_name (i := 3) sc_Disk_wholes.nd rfl (by first | exact Or.inl rfl | exact Or.inr rfl)) pgs_nil))))) (fun _ _ _ _ _ => (pts_one (pt_val (pv 3)))) (fun _ _ _ _ _ => (pe_tup (pa_cons (pv 1) (pa_cons (pv 2) pa_nil))))) (kFld (K := K) (pv 0) rfl)))), ?_⟩
    walk_at "st"
    intro D hD
    refine lc_it (walk_list (xs := xs)) (fun i H' => Fr [] H H' ∧ ∃ acc, H' D = some (.lst acc) ∧ acc.length ≤ i ∧ TDs H' acc ((ls.take i).flatMap whole)) ⟨Fr.up hD, [], upd_same, Nat.le_refl _, .nil⟩ (fun i H' _ h => SqL.of (h.1.same _ _ hl)) ?_ ?_
    · rintro i x H1 H2 hi ⟨f1, acc, e1, ea, ta⟩ ⟨rfl, hx⟩
      obtain ⟨e, he, te⟩ := TDs.at_ (TDs.mono f1.tup _ _ tl) hx
      obtain ⟨kd, vd, b, rfl, _, _⟩ := htr e (List.mem_of_getElem? he)
      cases te with
      | @tup a zs _ ha hT =>
      cases hT with
      | @cons z1 _ _ _ t1 hT =>
      cases hT with
      | @cons z2 _ _ _ t2 hT =>
      cases hT with
      | @cons z3 _ _ _ t3 hT =>
      cases hT
      cases t3
      walk_at "st"
      cases b with
      | true =>
        walk_at "st"
        intro t ht
        have e2 := upd_old (o' := HO.tup [z1, z2]) ht e1
        have f2 := f1.new (o := .tup [z1, z2]) ht
        have f3 := f2.wl (o' := .lst (acc ++ [.ref t])) e2 (.inr hD)
        have gT : Tp H2 (upd (upd H2 t (.tup [z1, z2])) D (.lst (acc ++ [.ref t]))) := ((Fr.up (ms := [D]) ht).wl e2 (.inl (by simp))).tup
        refine ⟨acc, e2, line_lt (by omega), f3, acc ++ [.ref t], upd_same, by rw [List.length_append]; simp; omega, ?_⟩
        rw [flat_snoc he]
        refine TDs.snoc (TDs.mono gT _ _ ta) (.tup ?_ (.cons (TD.mono gT _ _ t1) (.cons (TD.mono gT _ _ t2) .nil)))
        rw [upd_ne (ne_of (H := upd H2 t (.tup [z1, z2])) upd_same e2 (by intro z; cases z))]
        exact upd_same
      | false =>
        walk_at "st"
        refine ⟨f1, acc, e1, by omega, ?_⟩
        rw [flat_snoc he]
        show TDs _ _ (_ ++ [])
        rw [List.append_nil]
        exact ta
    · rintro H1 ⟨f1, acc, e1, ea, ta⟩
      have hd1 := f1.same _ _ hd
      have hq1 := f1.same _ _ hq
      walk_at "st"
      intro p hp
      rw [List.take_of_length_le (by omega)] at ta
      have f2 := f1.new (o := .lst (acc ++ ys)) hp
      exact k _ p _ (f1.free hp) upd_same (TDs.app (TDs.mono (Fr.up (ms := []) hp).tup _ _ ta) (TDs.mono f2.tup _ _ tq)) f2
/-! ### a store -/
structure StoreAt (C : Addr) (H : Hp) (s d : Addr) : Prop where
  ok : ∃ dx, H s = some (.ins C dx (StoreF (.ref d)))
def spSInit (C : Addr) : Sp := fun vs H Q _ => ∃ (s dx d : Addr), vs = [.ref s, .ref d] ∧ H s = some (.ins C dx StoreF0) ∧ ∀ H', StoreAt C H' s d → Fr [s] H H' → Q .non H'
abbrev s_Store___init__ : Stmt := inClass (top 70) 0
theorem sc_Store___init__ : FnScope ["self", "disk"] ["self", "disk"] (defScope s_Store___init__) := ⟨rfl, rfl, rfl, by decide +kernel, rfl, by decide +kernel, by decide +kernel⟩
theorem ok_Store_init {f : Addr} {fd : FuncData} (F : Fun K "__init__" "Store.__init__" s_Store___init__ f fd) (T : Txt K mg Z) : FnOk P w K mg base (L2.CX P w) 1 f fd ["self", "disk"] (spSInit Z.Store) := by
  have clS := T.clS
  have aD := T.aD
  refine okN F sc_Store___init__ (fun vs H Q E h => ?_) (fun cdv A outer s0 H vs Q E hr h => ?_)
  · obtain ⟨s, dx, d, rfl, _⟩ := h
    rfl
  · obtain ⟨s, dx, d, rfl, hs, k⟩ := h
    refine ⟨_, [some _, some _], rfl, (pss_one (kSFld (K := K) (pv 0) (pv 1) rfl)), ?_⟩
    walk_at "st"
    exact k _ ⟨dx, upd_same⟩ ((Fr.refl H).wi hs (.inl (by simp)))
def spCheck (C D : Addr) : Sp := fun vs H Q _ => ∃ (s d l q : Addr) (ls ps : List PyData), vs = [.ref s] ∧ StoreAt C H s d ∧ DiskAt D 0 H d l q ls ps ∧ Q .non H
abbrev s_Store_check : Stmt := inClass (top 70) 1
theorem sc_Store_check : FnScope ["self", "words", "seals", "at"] ["self"] (defScope s_Store_check) := ⟨rfl, rfl, rfl, by decide +kernel, rfl, by decide +kernel, by decide +kernel⟩
theorem ok_Store_check {f : Addr} {fd : FuncData} (F : Fun K "check" "Store.check" s_Store_check f fd) (T : Txt K mg Z) (M_Disk_wholes : Mn P w K mg base Z.Disk "wholes" 1 ["self"] (spWholes Z.Disk)) : FnOk P w K mg base (L2.CX P w) 2 f fd ["self"] (spCheck Z.Store Z.Disk) := by
  have cl := T.cl
  have aS := T.aS
  have clS := T.clS
  have aD := T.aD
  refine okN F sc_Store_check (fun vs H Q E h => ?_) (fun cdv A outer s0 H vs Q E hr h => ?_)
  · obtain ⟨s, d, l, q, ls, ps, rfl, _⟩ := h
    rfl
  · obtain ⟨s, d, l, q, ls, ps, rfl, ⟨dx, hs⟩, ⟨⟨dx2, hd⟩, _, _, _⟩, k⟩ := h
    have hu64 := hr.units
    refine ⟨_, [some _, none, none, none], rfl, (pss_cons (ps_if (pt_cmpR op_eq (kFld (K := K) (kFld (K := K) (pv 0) rfl) rfl) pe_int (by first | exact nomark _ | rfl)) (pss_one ps_retN) pss_nil)
      (pss_cons (ps_set (i := 1) sc_Store_check.nd rfl (by first | exact Or.inl rfl | exact Or.inr rfl) (pe_m0 M_Disk_wholes E0 (hr.mono (by first | decide | omega)) (kFld (K := K) (pv 0) rfl) passL _))
      (pss_cons (ps_setLc (i := 2) (own := [("at", 3)]) (g := (gName 3)) (tt := _) rfl sc_Store_check.nd rfl rfl (sw_true rfl rfl rfl (by decide +kernel)) (pi_range1 (by rfl) T.n_range (pa_cons (pe_callB (kLen (K := K)) (by rfl) T.n_len (by decide +kernel) (pa_cons (pv 1) pa_nil)) pa_nil)) (blkOk_by (N := ["self", "words", "seals", "at"]) (sc := defScope s_Store_check) (by decide +kernel)) (fun _ _ _ _ _ => (pg_name (i := 3) sc_Store_check.nd rfl (by first | exact Or.inl rfl | exact Or.inr rfl))) (fun _ _ _ _ _ => (pts_one (pt_cmpR (kEqD hu64 (K := K)) (pe_ix (kIxT (K := K)) (pe_ix (kIxL (K := K)) (pv 1) (pv 3) (fun _ _ => rfl)) pe_int (fun _ _ => rfl)) (pe_tup (pa_cons (pe_gl (by rfl) T.g_SEAL) pa_nil)) (by first | exact nomark _ | rfl)))) (fun _ _ _ _ _ => (pv 3)))
      (pss_one (ps_if (PW.pt (pw_and (pt_cmpR op_gt (pe_callB (kLen (K := K)) (by rfl) T.n_len (by decide +kernel) (pa_cons (pv 2) pa_nil)) pe_int (by first | exact nomark _ | rfl)) (pw_and1 (pt_cmpR (kNeD hu64 (K := K)) (pe_ix (kIxT (K := K)) (pe_ix (kIxL (K := K)) (pv 1) (pe_ix (kIxL (K := K)) (pv 2) (pe_un un_neg pe_int) (fun _ _ => rfl)) (fun _ _ => rfl)) pe_int (fun _ _ => rfl)) (pe_ix (kIxL (K := K)) (pv 2) (pe_un un_neg pe_int) (fun _ _ => rfl)) (by first | exact nomark _ | rfl))))) (pss_one ps_never) pss_nil))))), ?_⟩
    walk_at "st"
    refine iteD (fun _ => ?_) (fun h => absurd rfl h)
    walk_at "st"
    exact k
/-! ### keys as values -/
def isSeal : PyData → Bool
  | .tuple (.str x :: _) => decide (x = "seal")
  | _ => false
theorem kparts_v {H : Hp} : ∀ (ds : List PyData) (vs : List V), TDs H vs ds → (∀ e ∈ ds, KPart e) → vs = (ds.map keyOf).map kV
  | [], _, h, _ => by cases h; rfl
  | d :: ds, _, h, k => by
    cases h with
    | cons a b =>
      rw [List.map_cons, List.map_cons, ← kparts_v ds _ b fun e he => k e (List.mem_cons_of_mem _ he)]
      rcases k d (by simp) with ⟨x, rfl, _⟩ | ⟨i, _, rfl⟩
      · cases a; rfl
      · cases a; rfl
theorem key_td {H : Hp} {v : V} {d : PyData} (t : TD H v d) (hk : KeyD d) : ∃ (b : Addr) (z : V) (zs : List V), v = .ref b ∧ H b = some (.tup (z :: zs)) ∧ (keysOf d).map kV = z :: zs ∧
    ((∃ x, z = .str x ∧ isSeal d = decide (x = "seal")) ∨ ∃ i, z = .int i ∧ isSeal d = false) := by
  obtain ⟨ds, rfl, h0, h3, hk⟩ := hk
  cases t with
  | @tup a xs _ ha hT =>
    have e := kparts_v ds xs hT hk
    cases ds with
    | nil => exact absurd h0 (by simp)
    | cons d ds =>
      cases hT with
      | @cons z zs _ _ t1 t2 =>
        refine ⟨a, z, zs, rfl, ha, e.symm, ?_⟩
        rcases hk d (by simp) with ⟨x, rfl, _⟩ | ⟨i, _, rfl⟩
        · cases t1
          exact .inl ⟨x, rfl, rfl⟩
        · cases t1
          exact .inr ⟨i, rfl, rfl⟩
theorem UKey.seal {d : PyData} (h : UKey d) : isSeal d = false := by
  obtain ⟨ds, rfl, h0, h3, hk⟩ := h
  cases ds with
  | nil => exact absurd h0 (by simp)
  | cons d ds =>
    obtain ⟨a, b⟩ := hk d (by simp)
    rcases a with ⟨x, rfl, _⟩ | ⟨i, _, rfl⟩
    · show decide (x = "seal") = false
      exact decide_eq_false fun e => b (by rw [e])
    · rfl
def spKeep (C D : Addr) : Sp := fun vs H Q _ => ∃ (s d l q : Addr) (ls ps : List PyData) (k v : V) (kd vd : PyData), vs = [.ref s, k, v] ∧ StoreAt C H s d ∧ DiskAt D 0 H d l q ls ps ∧ ps.length ≤ 1000 ∧ TD H k kd ∧ KeyD kd ∧ isSeal kd = false ∧ TD H v vd ∧ Nice 10 vd ∧
  ∀ H', DiskAt D 0 H' d l q ls (ps ++ [.tuple [kd, vd]]) → Fr [q] H H' → Q .non H'
abbrev s_Store_keep : Stmt := inClass (top 70) 2
theorem sc_Store_keep : FnScope ["self", "key", "thing"] ["self", "key", "thing"] (defScope s_Store_keep) := ⟨rfl, rfl, rfl, by decide +kernel, rfl, by decide +kernel, by decide +kernel⟩
theorem DiskAt.keep {C : Addr} {n : Int} {H H' : Hp} {d l q : Addr} {ls ps : List PyData} {ms : List Addr} (D : DiskAt C n H d l q ls ps) (f : Fr ms H H') (nd : d ∉ ms) (nl : l ∉ ms) (nq : q ∉ ms) : DiskAt C n H' d l q ls ps := by
  obtain ⟨⟨dx, hd⟩, ⟨xs, hl, tl⟩, ⟨ys, hq, tq⟩, lq⟩ := D
  exact ⟨⟨dx, f.keep _ _ nd hd⟩, ⟨xs, f.keep _ _ nl hl, TDs.mono f.tup _ _ tl⟩, ⟨ys, f.keep _ _ nq hq, TDs.mono f.tup _ _ tq⟩, lq⟩
theorem StoreAt.keep {C : Addr} {H H' : Hp} {s d : Addr} {ms : List Addr} (S : StoreAt C H s d) (f : Fr ms H H') (n : s ∉ ms) : StoreAt C H' s d := by
  obtain ⟨dx, h⟩ := S
  exact ⟨dx, f.keep _ _ n h⟩
theorem ok_Store_keep {f : Addr} {fd : FuncData} (F : Fun K "keep" "Store.keep" s_Store_keep f fd) (T : Txt K mg Z) (D_is_key : Dn P w K mg base "is_key" 3 ["thing"] spIsKey) (D_is_kept : Dn P w K mg base "is_kept" 11 ["thing"] (spKept 10))
    (M_Store_check : Mn P w K mg base Z.Store "check" 2 ["self"] (spCheck Z.Store Z.Disk)) (M_Disk_write : Mn P w K mg base Z.Disk "write" 12 ["self", "key", "thing"] (spWrite Z.Disk)) :
    FnOk P w K mg base (L2.CX P w) 13 f fd ["self", "key", "thing"] (spKeep Z.Store Z.Disk) := by
  have cl := T.cl
  have clS := T.clS
  have aD := T.aD
  refine okN F sc_Store_keep (fun vs H Q E h => ?_) (fun cdv A outer s0 H vs Q E hr h => ?_)
  · obtain ⟨s, d, l, q, ls, ps, kk, v, kd, vd, rfl, _⟩ := h
    rfl
  · obtain ⟨s, d, l, q, ls, ps, kk, v, kd, vd, rfl, S, D, hps, tk, hk, hseal, tv, hv, k⟩ := h
    refine ⟨_, [some _, some _, some _], rfl, (pss_cons (ps_if (PW.pt (pw_or (pt_not (pt_val (pe_d D_is_key E0 (hr.mono (by first | decide | omega)) (by rfl) passL (pa_cons (pv 1) pa_nil)))) (pw_or1 (pt_cmpR op_eq (pe_ix (kIxT (K := K)) (pv 1) pe_int (fun _ _ => rfl)) (pe_gl (by rfl) T.g_SEAL) (by first | exact nomark _ | rfl))))) (pss_one ps_never) pss_nil)
      (pss_cons (ps_if (pt_not (pt_val (pe_d D_is_kept E0 (hr.mono (by first | decide | omega)) (by rfl) passL (pa_cons (pv 2) pa_nil)))) (pss_one ps_never) pss_nil)
      (pss_cons (ps_expr (pe_m0 M_Store_check E0 (hr.mono (by first | decide | omega)) (pv 0) passL _))
      (pss_one (ps_expr (pe_m M_Disk_write E0 (hr.mono (by first | decide | omega)) (kFld (K := K) (pv 0) rfl) passL (pa_cons (pv 1) (pa_cons (pv 2) pa_nil)) _)))))), ?_⟩
    walk_at "st"
    refine ⟨kk, kd, rfl, tk, hk, fun H1 f1 => ?_⟩
    obtain ⟨b, z, zs, rfl, hb, _, hz⟩ := key_td (TD.mono f1.tup _ _ tk) hk
    have S1 := S.keep f1 List.not_mem_nil
    have D1 := D.keep f1 List.not_mem_nil List.not_mem_nil List.not_mem_nil
    obtain ⟨sx, hs⟩ := S1
    obtain ⟨dx, hd⟩ := D1.ok
    walk_at "st"
    rcases hz with ⟨x, rfl, hx⟩ | ⟨i, rfl, hx⟩
    all_goals
      walk_at "st"
      refine iteD (fun h => ?_) (fun h => ?_)
    · rw [hseal] at hx
      have e : x = "seal" := V.str.inj h
      rw [decide_eq_true e] at hx
      exact nomatch hx
    rotate_left
    · exact nomatch h
    all_goals
      walk_at "st"
      refine ⟨v, vd, rfl, TD.mono f1.tup _ _ tv, hv, fun H2 f2 => ?_⟩
      have f12 := f1.trans f2
      have hs2 := f2.same _ _ hs
      have hd2 := f2.same _ _ hd
      have D2 := D.keep f12 List.not_mem_nil List.not_mem_nil List.not_mem_nil
      walk_at "st"
      refine ⟨s, d, l, q, ls, ps, rfl, ⟨sx, hs2⟩, D2, ?_⟩
      walk_at "st"
      refine ⟨0, d, l, q, ls, ps, _, _, kd, vd, rfl, D2, hps, TD.mono f12.tup _ _ tk, hk, TD.mono f12.tup _ _ tv, hv, fun H3 D3 f3 => ?_⟩
      walk_at "st"
      exact k _ D3 ((f12.mono (by simp)).trans f3)
def sealD (j : Int) : PyData := .tuple [.tuple [.str "seal"], .int j]
theorem sealKey : KeyD (.tuple [.str "seal"]) := ⟨_, rfl, by decide, by decide, fun e he => by rw [List.mem_singleton.mp he]; exact .inl ⟨_, rfl, by decide +kernel⟩⟩
theorem nice_int (n : Nat) (j : Int) : Nice n (.int j) := ⟨rfl, Nat.zero_le _, rfl⟩
theorem sealPr (j : Int) : IsPr (sealD j) := ⟨_, _, rfl, sealKey, nice_int 10 j⟩
def spSeal (C D : Addr) : Sp := fun vs H Q _ => ∃ (s d l q : Addr) (ls ps : List PyData), vs = [.ref s] ∧ StoreAt C H s d ∧ DiskAt D 0 H d l q ls ps ∧ ps.length ≤ 900 ∧ ls.length ≤ 1000 ∧ (∀ e ∈ ls, IsTr e) ∧ (∀ e ∈ ps, IsPr e) ∧
  ∀ H' q' j, H q' = none → DiskAt D 0 H' d l q' (ls ++ (ps ++ [sealD j]).map trip) [] → Fr [d, l, q] H H' → Q .non H'
abbrev s_Store_seal : Stmt := inClass (top 70) 3
theorem sc_Store_seal : FnScope ["self"] ["self"] (defScope s_Store_seal) := ⟨rfl, rfl, rfl, by decide +kernel, rfl, by decide +kernel, by decide +kernel⟩
theorem ok_Store_seal {f : Addr} {fd : FuncData} (F : Fun K "seal" "Store.seal" s_Store_seal f fd) (T : Txt K mg Z)
    (M_Store_check : Mn P w K mg base Z.Store "check" 2 ["self"] (spCheck Z.Store Z.Disk)) (M_Disk_write : Mn P w K mg base Z.Disk "write" 12 ["self", "key", "thing"] (spWrite Z.Disk))
    (M_Disk_wholes : Mn P w K mg base Z.Disk "wholes" 1 ["self"] (spWholes Z.Disk)) (M_Disk_sync : Mn P w K mg base Z.Disk "sync" 1 ["self"] (spSync Z.Disk)) :
    FnOk P w K mg base (L2.CX P w) 13 f fd ["self"] (spSeal Z.Store Z.Disk) := by
  have cl := T.cl
  have clS := T.clS
  have aD := T.aD
  refine okN F sc_Store_seal (fun vs H Q E h => ?_) (fun cdv A outer s0 H vs Q E hr h => ?_)
  · obtain ⟨s, d, l, q, ls, ps, rfl, _⟩ := h
    rfl
  · obtain ⟨s, d, l, q, ls, ps, rfl, S, D, hps, hls, htr, hpr, k⟩ := h
    obtain ⟨sx, hs⟩ := id S
    obtain ⟨dx, hd⟩ := D.ok
    obtain ⟨xq, hq, _⟩ := D.pen
    have sq : s ≠ q := ne_of hs hq (by intro z; cases z)
    refine ⟨_, [some _], rfl, (pss_cons (ps_expr (pe_m0 M_Store_check E0 (hr.mono (by first | decide | omega)) (pv 0) passL _))
      (pss_cons (ps_expr (pe_m M_Disk_write E0 (hr.mono (by first | decide | omega)) (kFld (K := K) (pv 0) rfl) passL (pa_cons (pe_tup (pa_cons (pe_gl (by rfl) T.g_SEAL) pa_nil)) (pa_cons (pe_callB (kLen (K := K)) (by rfl) T.n_len (by decide +kernel) (pa_cons (pe_m0 M_Disk_wholes E0 (hr.mono (by first | decide | omega)) (kFld (K := K) (pv 0) rfl) passL _) pa_nil)) pa_nil)) _))
      (pss_one (ps_expr (pe_m0 M_Disk_sync E0 (hr.mono (by first | decide | omega)) (kFld (K := K) (pv 0) rfl) passL _))))), ?_⟩
    walk_at "st"
    refine ⟨s, d, l, q, ls, ps, rfl, S, D, ?_⟩
    walk_at "st"
    intro t ht
    have f1 : Fr [] H (upd H t (.tup [.str "seal"])) := Fr.up ht
    have D1 := D.keep f1 List.not_mem_nil List.not_mem_nil List.not_mem_nil
    have hs1 := f1.same _ _ hs
    have hd1 := f1.same _ _ hd
    walk_at "st"
    refine ⟨0, d, l, q, ls, ps, rfl, D1, by omega, htr, fun H2 p xs hp0 hp t2 f2 => ?_⟩
    have f12 := f1.trans f2
    have D2 := D1.keep f2 List.not_mem_nil List.not_mem_nil List.not_mem_nil
    have hs2 := f2.same _ _ hs1
    obtain ⟨dx2, hd2⟩ := D2.ok
    have ht2 : H2 t = some (.tup [.str "seal"]) := f2.same _ _ upd_same
    walk_at "st"
    refine ⟨0, d, l, q, ls, ps, _, _, .tuple [.str "seal"], .int _, rfl, D2, by omega, .tup ht2 (.cons (.str _) .nil), sealKey, .int _, nice_int _ _, fun H3 D3 f3 => ?_⟩
    have f13 := (f12.mono (ns := [q]) (by simp)).trans f3
    have hs3 := f13.keep _ _ (by simpa using sq) hs
    obtain ⟨dx3, hd3⟩ := D3.ok
    walk_at "st"
    refine ⟨0, d, l, q, ls, ps ++ [sealD (xs.length : Int)], rfl, D3, by rw [List.length_append]; simp; omega, hls, fun e he => ?_, fun H4 q' hq' D4 f4 => ?_⟩
    · rcases List.mem_append.mp he with he | he
      · exact hpr e he
      · rw [List.mem_singleton.mp he]; exact sealPr _
    · walk_at "st"
      refine k _ q' _ ?_ D4 ((f13.mono (by simp)).trans (f4.mono (by simp)))
      have qn : q' ≠ q := by
        obtain ⟨_, hq3, _⟩ := D3.pen
        exact (ne_of_none hq3 hq').symm
      exact f13.back (by simpa using qn) hq'
/-! ### what is found -/
def putE (m : Dd) : PyData → Dd
  | .tuple [k, v] => if isSeal k = true then m else putD m (keysOf k) v
  | _ => m
def tab (es : List PyData) : Dd := es.foldl putE []
theorem tab_snoc {es : List PyData} {i : Nat} {e : PyData} (h : es[i]? = some e) : tab (es.take (i + 1)) = putE (tab (es.take i)) e := by
  unfold tab
  rw [take_snoc h, List.foldl_append]
  rfl
theorem putE_len (m : Dd) (e : PyData) : (putE m e).length ≤ m.length + 1 := by
  unfold putE
  split
  · split
    · omega
    · exact len_put
  · omega
def spFound (C D : Addr) : Sp := fun vs H Q _ => ∃ (s d l q : Addr) (ls ps : List PyData), vs = [.ref s] ∧ StoreAt C H s d ∧ DiskAt D 0 H d l q ls ps ∧ ls.length + ps.length ≤ 5000 ∧ (∀ e ∈ ls, IsTr e) ∧ (∀ e ∈ ps, IsPr e) ∧
  ∀ H' p, H p = none → TabAt H' p (tab (wholes ls ps)) → Fr [] H H' → Q (.ref p) H'
abbrev s_Store_found : Stmt := inClass (top 70) 4
theorem sc_Store_found : FnScope ["self", "key", "thing"] ["self"] (defScope s_Store_found) := ⟨rfl, rfl, rfl, by decide +kernel, rfl, by decide +kernel, by decide +kernel⟩
theorem ok_Store_found {f : Addr} {fd : FuncData} (F : Fun K "found" "Store.found" s_Store_found f fd) (T : Txt K mg Z)
    (M_Store_check : Mn P w K mg base Z.Store "check" 2 ["self"] (spCheck Z.Store Z.Disk)) (M_Disk_wholes : Mn P w K mg base Z.Disk "wholes" 1 ["self"] (spWholes Z.Disk)) :
    FnOk P w K mg base (L2.CX P w) 3 f fd ["self"] (spFound Z.Store Z.Disk) := by
  have cl := T.cl
  have clS := T.clS
  have aD := T.aD
  refine okN F sc_Store_found (fun vs H Q E h => ?_) (fun cdv A outer s0 H vs Q E hr h => ?_)
  · obtain ⟨s, d, l, q, ls, ps, rfl, _⟩ := h
    rfl
  · obtain ⟨s, d, l, q, ls, ps, rfl, S, D, hsz, htr, hpr, k⟩ := h
    obtain ⟨sx, hs⟩ := id S
    obtain ⟨dx, hd⟩ := D.ok
    have hu0 := u0_of hr
    refine ⟨_, [some _, none, none], rfl, (pss_cons (ps_expr (pe_m0 M_Store_check E0 (hr.mono (by first | decide | omega)) (pv 0) passL _))
      (pss_one (ps_ret (pe_dcG (own := [("key", 1), ("thing", 2)]) (g := (gTup K 2 (gCons (gName 1) (gCons (gName 2) gNil)))) (tt := _) (.dT []) hu0 (Or.inr rfl) rfl sc_Store_found.nd (kPiL (K := K) (pe_m0 M_Disk_wholes E0 (hr.mono (by first | decide | omega)) (kFld (K := K) (pv 0) rfl) passL _)) (blkOk_by (N := ["self", "key", "thing"]) (sc := defScope s_Store_found) (by decide +kernel)) (fun _ _ _ _ _ => (kTupT (K := K) (n := 2) (pgs_cons (pg_name (i := 1) sc_Store_found.nd rfl (by first | exact Or.inl rfl | exact Or.inr rfl)) (pgs_cons (pg_name (i := 2) sc_Store_found.nd rfl (by first | exact Or.inl rfl | exact Or.inr rfl)) pgs_nil)))) (fun _ _ _ _ _ => (pts_one (pt_cmpR op_ne (pe_ix (kIxT (K := K)) (pv 1) pe_int (fun _ _ => rfl)) (pe_gl (by rfl) T.g_SEAL) (by first | exact nomark _ | rfl)))) (fun _ _ _ _ _ => (pv 1)) (fun _ _ _ _ _ => (pv 2)))))), ?_⟩
    walk_at "st"
    refine ⟨s, d, l, q, ls, ps, rfl, S, D, ?_⟩
    walk_at "st"
    refine ⟨0, d, l, q, ls, ps, rfl, D, hsz, htr, fun H1 p xs hp0 hp tp f1 => ?_⟩
    have hlen := tp.length
    have hwl := wholes_len ls ps
    have hpw := wholes_pr htr hpr
    walk_at "st"
    intro u hu
    refine dc_it (walk_list (xs := xs)) (fun i H' => Fr [] H1 H' ∧ ∃ kvs, H' u = some (.dT kvs) ∧ kvs.length ≤ i ∧ KD H' kvs (tab ((wholes ls ps).take i))) ⟨Fr.up hu, [], upd_same, Nat.le_refl _, .nil⟩ (fun i H' _ h => SqL.of (h.1.same _ _ hp)) ?_ ?_
    · rintro i x H2 H3 hi ⟨f2, kvs, e2, ek, tk⟩ ⟨rfl, hx⟩
      obtain ⟨e, he, te⟩ := TDs.at_ (TDs.mono f2.tup _ _ tp) hx
      obtain ⟨kd, vd, rfl, hkd, hvd⟩ := hpw e (List.mem_of_getElem? he)
      cases te with
      | @tup a zs _ ha hT =>
      cases hT with
      | @cons z1 _ _ _ t1 hT =>
      cases hT with
      | @cons z2 _ _ _ t2 hT =>
      cases hT
      obtain ⟨b, z, zs, rfl, hb, ekey, hz⟩ := key_td t1 hkd
      have hbk := hb
      rw [← ekey] at hbk
      have put : isSeal kd = false → kvs.length < sizeLine ∧ Fr [] H1 (upd H3 u (.dT (putK kvs (keysOf kd) z2))) ∧ ∃ kvs', upd H3 u (.dT (putK kvs (keysOf kd) z2)) u = some (.dT kvs') ∧ kvs'.length ≤ i + 1 ∧ KD (upd H3 u (.dT (putK kvs (keysOf kd) z2))) kvs' (tab ((wholes ls ps).take (i + 1))) := fun hs => by
        have f3 : Fr [u] H3 (upd H3 u (.dT (putK kvs (keysOf kd) z2))) := (Fr.refl H3).wr e2 trivial (.inl (by simp))
        refine ⟨line_lt (by omega), f2.wr e2 trivial (.inr hu), _, upd_same, ?_, ?_⟩
        · have := length_putK kvs (keysOf kd) z2
          omega
        · rw [tab_snoc he]
          show KD _ _ (if isSeal kd = true then _ else _)
          rw [hs, if_neg Bool.false_ne_true]
          exact (KD.put tk _ t2).mono f3.tup
      walk_at "st"
      rcases hz with ⟨x, rfl, hx⟩ | ⟨i', rfl, hx⟩
      · walk_at "st"
        refine iteDN (fun h => ?_) (fun h => ?_)
        · have e : x = "seal" := V.str.inj h
          rw [decide_eq_true e] at hx
          refine ⟨f2, kvs, e2, by omega, ?_⟩
          rw [tab_snoc he]
          show KD _ _ (if isSeal kd = true then _ else _)
          rw [hx, if_pos rfl]
          exact tk
        · have e : ¬ x = "seal" := fun z => h (by rw [z])
          rw [decide_eq_false e] at hx
          walk_at "st"
          exact (put hx).2
      · walk_at "st"
        refine iteDN (fun h => nomatch h) (fun h => ?_)
        walk_at "st"
        exact (put hx).2
    · rintro H2 ⟨f2, kvs, e2, ek, tk⟩
      rw [List.take_of_length_le (by omega)] at tk
      exact k _ u (f1.free hu) ⟨kvs, e2, tk⟩ (f1.trans f2)
end

end K40

namespace K40
open PySem PySem.Spec PyProof.Rows L2 Hq
local macro_rules | `(tactic| walk_at "st1") => `(tactic| first
  | with_reducible refine st_seq ?_ | with_reducible refine st_ret ?_ | with_reducible refine st_ifS ?_ | with_reducible refine st_asg ?_ | with_reducible refine st_drop ?_
  | ((with_reducible refine' st_var ?hv ?_); (case hv => rfl)) | with_reducible refine st_c ?_ | with_reducible refine st_op ?_ | with_reducible refine st_un ?_
  | with_reducible refine st_I0 ?_ | with_reducible refine st_U ?_ | ((with_reducible refine' st_I ?hc ?_); (case hc => walk_at "side"))
  | ((with_reducible refine' st_eq ?hs ?_); (case hs => rfl)) | ((with_reducible refine' st_ne ?hs ?_); (case hs => rfl))
  | with_reducible refine st_test ?_ | with_reducible refine st_B ?_ | with_reducible refine st_bl ?_ | with_reducible refine st_isN ?_ | with_reducible refine st_notN ?_
  | with_reducible refine st_chain ?_ | with_reducible refine st_and ?_ | with_reducible refine st_or ?_ | with_reducible refine st_not ?_
  | with_reducible refine st_andV ?_ | with_reducible refine st_orV ?_ | with_reducible refine st_notV ?_ | with_reducible refine st_if ?_
  | with_reducible refine st_CB ?_ | with_reducible refine st_cons ?_ | with_reducible refine st_nil ?_ | with_reducible refine st_fld ?_
  | ((with_reducible refine st_tup ?_)) | ((with_reducible refine st_lst ?_))
  | with_reducible refine st_call ?_ | with_reducible refine st_meth ?_ | with_reducible refine st_make ?_
  | with_reducible refine st_sl ?_ | with_reducible refine st_noPart ?_ | with_reducible refine st_part ?_ | with_reducible refine st_int ?_
  | ((with_reducible refine' st_ixL ?hq ?he ?_); (case hq => walk_at "sqL"); (case he => walk_at "at"))
  | ((with_reducible refine' st_ixT ?hq ?he ?_); (case hq => walk_at "sqT"); (case he => walk_at "at"))
  | with_reducible refine st_bm ?_ | with_reducible refine st_app ?_
  | ((with_reducible refine' st_append ?hq ?hl ?_); (case hq => walk_at "hp"); (case hl => walk_at "line"))
  | ((with_reducible refine' st_len (n := 0) ?hq ?_); (case hq => first | exact Or.inl (by walk_at "sqL") | exact Or.inr (by walk_at "sqT")))
  | ((with_reducible refine' st_listOf ?hq ?_); (case hq => first | exact Or.inl (by walk_at "sqL") | exact Or.inr (by walk_at "sqT")))
  | ((with_reducible refine st_name ?_); (try dsimp only [List.set_cons_zero, List.set_cons_succ])) | with_reducible refine st_par ?_
  | with_reducible refine st_gcons ?_ | with_reducible refine st_gnil ?_ | with_reducible refine st_gsub ?_ | with_reducible refine st_sFld ?_
  | ((with_reducible refine' st_gtup ?hq ?hl ?_); (case hq => walk_at "sqT"); (case hl => rfl))
  | ((with_reducible refine' st_setL ?hq ?hl ?_); (case hq => walk_at "hp"); (case hl => first | rfl | exact ix0 | exact ixN_nat (by assumption)); (try simp only [Int.reduceToNat, List.set_cons_zero, List.set_cons_succ]))
  | with_reducible refine st_intI ?_ | with_reducible refine st_abs ?_
  | ((with_reducible refine' st_popAt ?hq ?hk ?hy ?_); (case hq => walk_at "hp"); (case hk => exact seq0); (case hy => rfl))
  | ((with_reducible refine' and_left ?ht ?_); (case ht => walk_at "ty"))
  | with_reducible refine st_lc ?_ | with_reducible refine st_for ?_ | with_reducible refine st_iL ?_ | with_reducible refine st_iT ?_ | with_reducible refine st_iR1 ?_ | with_reducible refine st_iR2 ?_ | with_reducible refine st_iZ ?_
  | ((with_reducible refine' st_refL ?hq ?_); (case hq => walk_at "sqL")) | ((with_reducible refine' st_refT ?hq ?_); (case hq => walk_at "sqT"))
  | ((with_reducible refine' st_rng1 ?hq ?_); (case hq => walk_at "side")) | ((with_reducible refine' st_rng2 ?hq ?_); (case hq => walk_at "side"))
  | ((with_reducible refine' st_zip ?hq ?hr ?_); (case hq => walk_at "sqb"); (case hr => walk_at "sqb"))
  | ((with_reducible refine' st_size ?hw ?_); (case hw => walk_at "line"))
  | ((with_reducible refine' st_sum ?hq ?_); (case hq => walk_at "sqL"))
  | with_reducible refine st_two ?_ | with_reducible refine st_yes ?_ | ((with_reducible refine' st_wipe ?hw ?_); (case hw => rfl))
  | ((with_reducible refine' st_slL ?hq ?_); (case hq => walk_at "sqL"))
  | ((with_reducible refine' st_cat ?hq ?hr ?hl ?_); (case hq => walk_at "hp"); (case hr => walk_at "hp"); (case hl => walk_at "line"))
  | ((with_reducible refine' st_isi ?hk ?he ?_); (case hk => walk_at "kd"); (case he => walk_at "kit"))
  | ((with_reducible refine' st_ins ?hq ?hc ?hn ?hl ?_); (case hq => walk_at "hp"); (case hc => with_reducible assumption); (case hn => with_reducible assumption); (case hl => walk_at "flen"); walk_at "puts")
  | ((with_reducible refine' st_att ?hq ?hc ?hn ?hl ?_); (case hq => walk_at "hp"); (case hc => with_reducible assumption); (case hn => with_reducible assumption); (case hl => walk_at "lk"))
  | ((with_reducible refine' st_mt ?hq ?hl ?_); (case hq => walk_at "hp"); (case hl => walk_at "lk"))
  | ((with_reducible refine' st_extend ?hq ?hr ?hl ?_); (case hq => walk_at "hp"); (case hr => walk_at "hp"); (case hl => walk_at "line"))
  | with_reducible refine st_next ?_ | with_reducible refine st_retN ?_ | (with_reducible refine iteNT ?_) | (with_reducible refine iteNF ?_) | (with_reducible refine iteT ?_) | (with_reducible refine iteF ?_))
local macro_rules | `(tactic| walk_at "side") => `(tactic| first | omega | decide | assumption | exact ⟨by omega, by omega⟩ | exact Or.inr ⟨by omega, by omega⟩ | exact Or.inl ⟨by omega, by omega⟩ | (simp only [List.length_map, List.length_cons, List.length_nil, List.length_append] at *; omega))
local macro_rules | `(tactic| walk_at "hp") => `(tactic| first | assumption | exact upd_same | refine upd_old (by assumption) (by walk_at "hp") | (rw [upd_ne (by first | assumption | exact Ne.symm (by assumption))]; walk_at "hp"))
local macro_rules | `(tactic| walk_at "sqL") => `(tactic| first | assumption | exact SqL.of (by walk_at "hp"))
local macro_rules | `(tactic| walk_at "sqT") => `(tactic| first | assumption | exact SqT.of (by walk_at "hp"))
local macro_rules | `(tactic| walk_at "sqb") => `(tactic| (unfold SqB; first | ((with_reducible change SqL _ _ _ _); walk_at "sqL") | ((with_reducible change SqT _ _ _ _); walk_at "sqT")))
local macro_rules | `(tactic| walk_at "line") => `(tactic| first | assumption | decide | (apply line_of; walk_at "side") | (apply line_lt; walk_at "side"))
local macro_rules | `(tactic| walk_at "ty") => `(tactic| ((with_reducible refine' ty_lst ?hq); (case hq => walk_at "hp")))
local macro_rules | `(tactic| walk_at "at") => `(tactic| with_reducible first | assumption | exact at0 | exact at1 | exact at2 | exact at3 | exact at4 | exact at5 | exact at6 | exact at7 | exact at8)
local macro_rules | `(tactic| walk_at "st") => `(tactic| (repeat walk_at "st1"))
local macro_rules | `(tactic| walk_at "lk") => `(tactic| first | with_reducible assumption | rfl)
local macro_rules | `(tactic| walk_at "kd") => `(tactic| first | exact .base (.int _) | exact .base .non | exact .base (.bl _) | exact .base (.str _) | exact .base (.tup (by walk_at "hp")) | exact .base (.lst (by walk_at "hp")) | exact .base (.dK (by walk_at "hp")) | exact .base (.dT (by walk_at "hp")))
local macro_rules | `(tactic| walk_at "kit") => `(tactic| with_reducible first
  | exact kit_NoneType_bool
  | exact kit_NoneType_int
  | exact kit_NoneType_str
  | exact kit_NoneType_tuple
  | exact kit_NoneType_list
  | exact kit_NoneType_dict
  | exact kit_bool_bool
  | exact kit_bool_int
  | exact kit_bool_str
  | exact kit_bool_tuple
  | exact kit_bool_list
  | exact kit_bool_dict
  | exact kit_int_bool
  | exact kit_int_int
  | exact kit_int_str
  | exact kit_int_tuple
  | exact kit_int_list
  | exact kit_int_dict
  | exact kit_str_bool
  | exact kit_str_int
  | exact kit_str_str
  | exact kit_str_tuple
  | exact kit_str_list
  | exact kit_str_dict
  | exact kit_tuple_bool
  | exact kit_tuple_int
  | exact kit_tuple_str
  | exact kit_tuple_tuple
  | exact kit_tuple_list
  | exact kit_tuple_dict
  | exact kit_list_bool
  | exact kit_list_int
  | exact kit_list_str
  | exact kit_list_tuple
  | exact kit_list_list
  | exact kit_list_dict
  | exact kit_dict_bool
  | exact kit_dict_int
  | exact kit_dict_str
  | exact kit_dict_tuple
  | exact kit_dict_list
  | exact kit_dict_dict)
local macro_rules | `(tactic| walk_at "flen") => `(tactic| decide)
local macro_rules | `(tactic| walk_at "puts") => `(tactic| skip)

local macro_rules | `(tactic| walk_at "st1") => `(tactic| first
  | with_reducible refine st_dc ?_ | with_reducible refine st_dgetS ?_ | with_reducible refine st_dinS ?_ | with_reducible refine st_dninS ?_ | with_reducible refine st_dputS ?_ | with_reducible refine st_newT ?_ | with_reducible refine iteNN ?_ | with_reducible refine iteYN ?_
  | ((with_reducible refine' st_getT ?hq ?hk ?hv ?_); (case hq => walk_at "hp"); (case hk => walk_at "key"); (case hv => with_reducible assumption))
  | ((with_reducible refine' st_inT ?hq ?hk ?_); (case hq => walk_at "hp"); (case hk => walk_at "key"))
  | ((with_reducible refine' st_ninT ?hq ?hk ?_); (case hq => walk_at "hp"); (case hk => walk_at "key"))
  | ((with_reducible refine' st_putT ?hq ?hk ?hl ?_); (case hq => walk_at "hp"); (case hk => walk_at "key"); (case hl => walk_at "line"))
  | ((with_reducible refine' st_cputT ?hq ?hk ?hl ?_); (case hq => walk_at "hp"); (case hk => walk_at "key"); (case hl => walk_at "line"))
  | ((with_reducible refine' st_ixB ?hq ?he ?_); (case hq => first | assumption | exact Or.inl (by walk_at "sqL") | exact Or.inr (by walk_at "sqT")); (case he => walk_at "at")))
local macro_rules | `(tactic| walk_at "key") => `(tactic| with_reducible assumption)

local macro_rules | `(tactic| walk_at "lk") => `(tactic| with_reducible first | assumption | exact DiskF_get_lying | exact DiskF_get_pending | exact DiskF_get_spoils | exact StoreF_get_disk | exact DiskF_no (by decide +kernel) (by decide +kernel) (by decide +kernel) | exact StoreF_no (by decide +kernel))
local macro_rules | `(tactic| walk_at "puts") => `(tactic| try simp only [DiskF_put_lying, DiskF_put_pending, DiskF_put_spoils, StoreF_put_disk, DiskF0_put, DiskF1_put, DiskF2_put, StoreF0_put])
local macro_rules | `(tactic| walk_at "flen") => `(tactic| first | with_reducible assumption | with_reducible (first | exact DiskF_len | exact StoreF_len | exact DiskF0_len | exact DiskF1_len | exact DiskF2_len | exact StoreF0_len) | decide)
section
variable {Z : Ads} {P : Program} {w : World} {K : PySem.W.Frag} {mg : Str → Option Value} {base : Heap}
theorem made {H H2 : Hp} {C x dx : Addr} (hx : H x = none) (hdx : H dx = none) (n : dx ≠ x) (f : Fr [x] (upd (upd H dx (.own x)) x (.ins C dx [])) H2) : Fr [] H H2 := by
  have f1 : Fr [] H _ := ((Fr.refl H).new (o := .own x) hdx).new (o := .ins C dx []) (by rw [upd_ne n.symm]; exact hx)
  exact ((f1.mono (ns := [] ++ [x]) (by simp)).trans (f.mono (by simp))).cut (fun b hb => by rw [List.mem_singleton.mp hb]; exact hx)
/-! ### rows of the law -/
def IsRow (d : PyData) : Prop := ∃ k v h, d = .tuple [k, v, .int h] ∧ KeyD k ∧ isSeal k = false ∧ Nice 10 v
def liv : PyData → List PyData
  | .tuple [k, v, .int h] => if 1 < h then [.tuple [k, v]] else []
  | _ => []
def live (rs : List PyData) : List PyData := rs.flatMap liv
theorem nice_shaped {v : PyData} (h : Nice 10 v) : SeqAt.shaped v = true := by
  unfold SeqAt.shaped
  rw [h.lay, decide_eq_true (show v.depth ≤ 64 from Nat.le_trans h.dep (by decide))]
  rfl
theorem good_put {m : Dd} {e : PyData} (g : GoodD m) (h : IsPr e) : GoodD (putE m e) := by
  obtain ⟨k, v, rfl, _, hv⟩ := h
  show GoodD (if isSeal k = true then m else _)
  by_cases z : isSeal k = true
  · rw [if_pos z]; exact g
  · rw [if_neg z]; exact g.put (nice_shaped hv)
theorem good_fold : ∀ {es : List PyData} {m : Dd}, (∀ e ∈ es, IsPr e) → GoodD m → GoodD (es.foldl putE m)
  | [], _, _, g => g
  | e :: es, m, h, g => good_fold (es := es) (fun x hx => h x (List.mem_cons_of_mem _ hx)) (good_put g (h e (by simp)))
theorem good_tab {es : List PyData} (h : ∀ e ∈ es, IsPr e) : GoodD (tab es) := good_fold h GoodD.nil
theorem live_snoc {rs : List PyData} {i : Nat} {e : PyData} (h : rs[i]? = some e) : live (rs.take (i + 1)) = live (rs.take i) ++ liv e := by
  unfold live
  rw [take_snoc h, List.flatMap_append]
  simp
theorem tab_app (xs ys : List PyData) : tab (xs ++ ys) = ys.foldl putE (tab xs) := List.foldl_append
def spLFound : Sp := fun vs H Q _ => ∃ (r : Addr) (xs : List V) (rs : List PyData), vs = [.ref r] ∧ H r = some (.lst xs) ∧ TDs H xs rs ∧ rs.length ≤ 5000 ∧ (∀ e ∈ rs, IsRow e) ∧ ∀ H' p, H p = none → TabAt H' p (tab (live rs)) → Fr [] H H' → Q (.ref p) H'
abbrev s_law_found : Stmt := top 79
theorem sc_law_found : FnScope ["rows", "found", "key", "thing", "how"] ["rows"] (defScope s_law_found) := ⟨rfl, rfl, rfl, by decide +kernel, rfl, by decide +kernel, by decide +kernel⟩
theorem ok_law_found {f : Addr} {fd : FuncData} (F : Fun K "_law_found" "_law_found" s_law_found f fd) (T : Txt K mg Z) : FnOk P w K mg base (L2.CX P w) 1 f fd ["rows"] spLFound := by
  refine okN F sc_law_found (fun vs H Q E h => ?_) (fun cdv A outer s0 H vs Q E hr h => ?_)
  · obtain ⟨r, xs, rs, rfl, _⟩ := h
    rfl
  · obtain ⟨r, xs, rs, rfl, hx, tx, hsz, hrow, k⟩ := h
    have hlen := tx.length
    have hu := u1_of hr
    refine ⟨_, [some _, none, none, none, none], rfl, (pss_cons (ps_set (i := 1) sc_law_found.nd rfl (by first | exact Or.inl rfl | exact Or.inr rfl) pe_dnewT)
      (pss_cons (ps_for PassesOwn.never rfl (kPiL (K := K) (pv 0)) (kTupT (K := K) (n := 3) (pgs_cons (pg_name (i := 2) sc_law_found.nd rfl (by first | exact Or.inl rfl | exact Or.inr rfl)) (pgs_cons (pg_name (i := 3) sc_law_found.nd rfl (by first | exact Or.inl rfl | exact Or.inr rfl)) (pgs_cons (pg_name (i := 4) sc_law_found.nd rfl (by first | exact Or.inl rfl | exact Or.inr rfl)) pgs_nil))))
      (pss_one (ps_if (pt_cmpR op_gt (pv 4) pe_int (by first | exact nomark _ | rfl)) (pss_one (ps_dput hu (pv 1) (pv 2) (pv 3) rfl)) pss_nil)))
      (pss_one (ps_ret (pv 1))))), ?_⟩
    walk_at "st"
    intro D hD
    walk_at "st"
    refine for_it (walk_list (xs := xs)) (fun i σ H' => ∃ kvs o1 o2 o3, σ = [some (.ref r), some (.ref D), o1, o2, o3] ∧ Fr [] H H' ∧ H' D = some (.dT kvs) ∧ kvs.length ≤ i ∧ KD H' kvs (tab (live (rs.take i))))
      ⟨[], none, none, none, rfl, Fr.up hD, upd_same, Nat.le_refl _, .nil⟩ (fun i σ H' _ ⟨_, _, _, _, _, f, _⟩ => SqL.of (f.same _ _ hx)) ?_ ?_
    · rintro i x σ H1 H2 hi ⟨kvs, o1, o2, o3, rfl, f1, e1, ek, tk⟩ ⟨rfl, hxi⟩
      obtain ⟨e, he, te⟩ := TDs.at_ (TDs.mono f1.tup _ _ tx) hxi
      obtain ⟨kd, vd, h, rfl, hkd, hseal, hvd⟩ := hrow e (List.mem_of_getElem? he)
      cases te with
      | @tup a zs _ ha hT =>
      cases hT with
      | @cons z1 _ _ _ t1 hT =>
      cases hT with
      | @cons z2 _ _ _ t2 hT =>
      cases hT with
      | @cons z3 _ _ _ t3 hT =>
      cases hT
      cases t3
      obtain ⟨b, z, zs, rfl, hb, ekey, _⟩ := key_td t1 hkd
      rw [← ekey] at hb
      walk_at "st"
      refine iteD (fun h1 => ?_) (fun h1 => ?_)
      · walk_at "st"
        have f3 : Fr [D] H2 (upd H2 D (.dT (putK kvs (keysOf kd) z2))) := (Fr.refl H2).wr e1 trivial (.inl (by simp))
        refine ⟨_, _, _, _, rfl, f1.wr e1 trivial (.inr hD), upd_same, ?_, ?_⟩
        · have := length_putK kvs (keysOf kd) z2
          omega
        · rw [live_snoc he, show liv (.tuple [kd, vd, .int h]) = [.tuple [kd, vd]] from if_pos h1, tab_app]
          show KD _ _ (if isSeal kd = true then _ else _)
          rw [hseal, if_neg Bool.false_ne_true]
          exact (KD.put tk _ t2).mono f3.tup
      · walk_at "st"
        refine ⟨kvs, _, _, _, rfl, f1, e1, by omega, ?_⟩
        rw [live_snoc he, show liv (.tuple [kd, vd, .int h]) = [] from if_neg h1, List.append_nil]
        exact tk
    · rintro σ H1 ⟨kvs, o1, o2, o3, rfl, f1, e1, ek, tk⟩
      walk_at "st"
      rw [List.take_of_length_le (by omega)] at tk
      exact k _ D hD ⟨kvs, e1, tk⟩ f1
end

/-! ### what the rows tell and what is on the disk -/
def nos : PyData → Bool
  | .tuple [k, _] => !isSeal k
  | _ => true
theorem fold_nos : ∀ (es : List PyData) (m : Dd), es.foldl putE m = (es.filter nos).foldl putE m
  | [], _ => rfl
  | e :: es, m => by
    rw [List.foldl_cons, List.filter_cons]
    by_cases h : nos e = true
    · rw [if_pos h, List.foldl_cons]
      exact fold_nos es _
    · rw [if_neg h]
      have : putE m e = m := by
        unfold putE
        split
        · rename_i k v
          have : isSeal k = true := by
            have : ¬ (!isSeal k) = true := h
            cases hk : isSeal k with
            | true => rfl
            | false => rw [hk] at this; exact absurd rfl this
          rw [if_pos this]
        · rfl
      rw [this]
      exact fold_nos es _
theorem tab_nos (es : List PyData) : tab es = tab (es.filter nos) := fold_nos es []
def wait : PyData → PyData
  | .tuple [k, v] => .tuple [k, v, .int 3]
  | d => d
def UPr (d : PyData) : Prop := ∃ k v, d = .tuple [k, v] ∧ KeyD k ∧ isSeal k = false ∧ Nice 10 v
theorem UPr.pr {d : PyData} (h : UPr d) : IsPr d := by
  obtain ⟨k, v, rfl, a, _, b⟩ := h
  exact ⟨k, v, rfl, a, b⟩
theorem UPr.nos {d : PyData} (h : UPr d) : nos d = true := by
  obtain ⟨k, v, rfl, a, e, b⟩ := h
  show (!isSeal k) = true
  rw [e]; rfl
/-- a row that is settled -/
def Set3 (d : PyData) : Prop := ∃ k v h, d = .tuple [k, v, .int h] ∧ KeyD k ∧ isSeal k = false ∧ Nice 10 v ∧ h ≠ 3
theorem Set3.row {d : PyData} (h : Set3 d) : IsRow d := by
  obtain ⟨k, v, h, e, a, b, c, _⟩ := h
  exact ⟨k, v, h, e, a, b, c⟩
structure Rel (ls ps rs : List PyData) : Prop where
  tr : ∀ e ∈ ls, IsTr e
  up : ∀ e ∈ ps, UPr e
  ok : ∃ R1, rs = R1 ++ ps.map wait ∧ (∀ e ∈ R1, Set3 e) ∧ live R1 = (ls.flatMap whole).filter nos
theorem Rel.pr {ls ps rs : List PyData} (h : Rel ls ps rs) : ∀ e ∈ ps, IsPr e := fun e he => (h.up e he).pr
theorem wait_row {e : PyData} (h : UPr e) : IsRow (wait e) := by
  obtain ⟨k, v, rfl, a, b, c⟩ := h
  exact ⟨k, v, 3, rfl, a, b, c⟩
theorem Rel.rows {ls ps rs : List PyData} (h : Rel ls ps rs) : ∀ e ∈ rs, IsRow e := by
  obtain ⟨R1, rfl, h1, _⟩ := h.ok
  intro e he
  rcases List.mem_append.mp he with he | he
  · exact (h1 e he).row
  · obtain ⟨x, hx, rfl⟩ := List.mem_map.mp he
    exact wait_row (h.up x hx)
theorem live_wait : ∀ {ps : List PyData}, (∀ e ∈ ps, UPr e) → live (ps.map wait) = ps
  | [], _ => rfl
  | e :: ps, h => by
    obtain ⟨k, v, rfl, _⟩ := h e (by simp)
    show liv (wait _) ++ live (ps.map wait) = _
    rw [live_wait fun x hx => h x (List.mem_cons_of_mem _ hx)]
    rfl
theorem nos_all : ∀ {ps : List PyData}, (∀ e ∈ ps, UPr e) → ps.filter nos = ps := fun h => List.filter_eq_self.mpr fun e he => (h e he).nos
theorem Rel.tab {ls ps rs : List PyData} (h : Rel ls ps rs) : tab (wholes ls ps) = tab (live rs) := by
  obtain ⟨R1, rfl, h1, h2⟩ := h.ok
  rw [tab_nos]
  unfold wholes
  rw [List.filter_append, nos_all h.up, ← h2]
  show _ = K40.tab (List.flatMap liv (R1 ++ ps.map wait))
  rw [List.flatMap_append]
  show _ = K40.tab (live R1 ++ live (ps.map wait))
  rw [live_wait h.up]
theorem Rel.nil : Rel [] [] [] := ⟨(fun _ h => nomatch h), (fun _ h => nomatch h), [], rfl, (fun _ h => nomatch h), rfl⟩
theorem Rel.put {ls ps rs : List PyData} {k v : PyData} (h : Rel ls ps rs) (hk : KeyD k) (hs : isSeal k = false) (hv : Nice 10 v) : Rel ls (ps ++ [.tuple [k, v]]) (rs ++ [.tuple [k, v, .int 3]]) := by
  obtain ⟨R1, rfl, h1, h2⟩ := h.ok
  refine ⟨h.tr, fun e he => ?_, R1, ?_, h1, h2⟩
  · rcases List.mem_append.mp he with he | he
    · exact h.up e he
    · rw [List.mem_singleton.mp he]; exact ⟨k, v, rfl, hk, hs, hv⟩
  · rw [List.map_append, List.append_assoc]; rfl
theorem trip_tr {e : PyData} (h : IsPr e) : IsTr (trip e) := by
  obtain ⟨k, v, rfl, a, b⟩ := h
  exact ⟨k, v, true, rfl, a, b⟩
theorem whole_trip {e : PyData} (h : IsPr e) : whole (trip e) = [e] := by
  obtain ⟨k, v, rfl, a, b⟩ := h
  rfl
theorem flat_trip : ∀ {ps : List PyData}, (∀ e ∈ ps, IsPr e) → (ps.map trip).flatMap whole = ps
  | [], _ => rfl
  | e :: ps, h => by
    rw [List.map_cons, List.flatMap_cons, whole_trip (h e (by simp)), flat_trip fun x hx => h x (List.mem_cons_of_mem _ hx)]
    rfl
/-- a seal: what waits is whole -/
def seal2 : PyData → PyData
  | .tuple [k, v, .int h] => .tuple [k, v, .int (if h = 3 then 2 else h)]
  | d => d
theorem seal2_set {e : PyData} (h : Set3 e) : seal2 e = e := by
  obtain ⟨k, v, h, rfl, _, _, _, n⟩ := h
  show PyData.tuple [k, v, .int (if h = 3 then 2 else h)] = _
  rw [if_neg n]
theorem map_id_of {f : PyData → PyData} : ∀ {xs : List PyData}, (∀ e ∈ xs, f e = e) → xs.map f = xs
  | [], _ => rfl
  | x :: xs, h => by rw [List.map_cons, h x (by simp), map_id_of fun e he => h e (List.mem_cons_of_mem _ he)]
theorem live_seal : ∀ {ps : List PyData}, (∀ e ∈ ps, UPr e) → live ((ps.map wait).map seal2) = ps
  | [], _ => rfl
  | e :: ps, h => by
    obtain ⟨k, v, rfl, _⟩ := h e (by simp)
    show liv (seal2 (wait _)) ++ live ((ps.map wait).map seal2) = _
    rw [live_seal fun x hx => h x (List.mem_cons_of_mem _ hx)]
    rfl
theorem Rel.sealed {ls ps rs : List PyData} (h : Rel ls ps rs) (j : Int) : Rel (ls ++ (ps ++ [sealD j]).map trip) [] (rs.map seal2) := by
  obtain ⟨R1, rfl, h1, h2⟩ := h.ok
  have hp : ∀ e ∈ ps ++ [sealD j], IsPr e := fun e he => by
    rcases List.mem_append.mp he with he | he
    · exact h.pr e he
    · rw [List.mem_singleton.mp he]; exact sealPr j
  refine ⟨fun e he => ?_, (fun _ h => nomatch h), R1 ++ (ps.map wait).map seal2, ?_, fun e he => ?_, ?_⟩
  · rcases List.mem_append.mp he with he | he
    · exact h.tr e he
    · obtain ⟨x, hx, rfl⟩ := List.mem_map.mp he
      exact trip_tr (hp x hx)
  · rw [List.map_append, map_id_of fun e he => seal2_set (h1 e he), List.map_nil, List.append_nil]
  · rcases List.mem_append.mp he with he | he
    · exact h1 e he
    · obtain ⟨x, hx, rfl⟩ := List.mem_map.mp he
      obtain ⟨y, hy, rfl⟩ := List.mem_map.mp hx
      obtain ⟨k, v, rfl, a, b, c⟩ := h.up y hy
      exact ⟨k, v, 2, rfl, a, b, c, by decide⟩
  · rw [List.flatMap_append, flat_trip hp, List.filter_append, ← h2, List.filter_append, nos_all h.up]
    show List.flatMap liv (R1 ++ _) = _
    rw [List.flatMap_append]
    show live R1 ++ live ((ps.map wait).map seal2) = _
    rw [live_seal h.up]
    have : List.filter nos [sealD j] = [] := by
      have e : nos (sealD j) = false := by
        show (!decide (("seal" : Str) = "seal")) = false
        rw [decide_eq_true rfl]; rfl
      rw [List.filter_cons_of_neg (by rw [e]; exact Bool.false_ne_true)]
      rfl
    rw [this, List.append_nil]
/-- a fall: the digits go to what waits -/
def settle : List PyData → List Int → List PyData
  | .tuple [k, v, .int h] :: rs, hs => if h = 3 then .tuple [k, v, .int (hs.headD 0)] :: settle rs hs.tail else .tuple [k, v, .int h] :: settle rs hs
  | r :: rs, hs => r :: settle rs hs
  | [], _ => []
def need : List PyData → Nat
  | .tuple [_, _, .int h] :: rs => if h = 3 then need rs + 1 else need rs
  | _ :: rs => need rs
  | [] => 0
theorem settle_set : ∀ {R1 : List PyData} {rs : List PyData} {hs : List Int}, (∀ e ∈ R1, Set3 e) → settle (R1 ++ rs) hs = R1 ++ settle rs hs ∧ need (R1 ++ rs) = need rs
  | [], _, _, _ => ⟨rfl, rfl⟩
  | e :: R1, rs, hs, h => by
    obtain ⟨k, v, j, rfl, _, _, _, n⟩ := h e (by simp)
    obtain ⟨a, b⟩ := settle_set (R1 := R1) (rs := rs) (hs := hs) fun x hx => h x (List.mem_cons_of_mem _ hx)
    refine ⟨?_, ?_⟩
    · rw [List.cons_append]
      show (if j = 3 then _ else _) = _
      rw [if_neg n, a]
      rfl
    · rw [List.cons_append]
      show (if j = 3 then _ else _) = _
      rw [if_neg n, b]
theorem settle_wait : ∀ {ps : List PyData} {hs : List Int}, (∀ e ∈ ps, UPr e) → hs.length = ps.length → (∀ h ∈ hs, 0 ≤ h ∧ h ≤ 2) →
    need (ps.map wait) = ps.length ∧ (∀ e ∈ settle (ps.map wait) hs, Set3 e) ∧ live (settle (ps.map wait) hs) = (fallen ps hs).flatMap whole ∧ (fallen ps hs).flatMap whole = ((fallen ps hs).flatMap whole).filter nos ∧ ∀ e ∈ fallen ps hs, IsTr e
  | [], [], _, _, _ => ⟨rfl, (fun _ h => nomatch h), rfl, rfl, (fun _ h => nomatch h)⟩
  | [], _ :: _, _, h, _ => nomatch h
  | _ :: _, [], _, h, _ => nomatch h
  | e :: ps, j :: hs, h, hl, hb => by
    obtain ⟨a, b, c, d, t⟩ := settle_wait (ps := ps) (hs := hs) (fun x hx => h x (List.mem_cons_of_mem _ hx)) (by simpa using hl) fun x hx => hb x (List.mem_cons_of_mem _ hx)
    obtain ⟨b0, b2⟩ := hb j (by simp)
    obtain ⟨k, v, rfl, hk, hs', hv⟩ := h e (by simp)
    have e1 : settle ((PyData.tuple [k, v] :: ps).map wait) (j :: hs) = .tuple [k, v, .int j] :: settle (ps.map wait) hs := by
      show (if (3 : Int) = 3 then _ else _) = _
      rw [if_pos rfl]
      rfl
    have e2 : (fallen (PyData.tuple [k, v] :: ps) (j :: hs)).flatMap whole = (fell (PyData.tuple [k, v]) j).flatMap whole ++ (fallen ps hs).flatMap whole := by
      rw [fallen_cons, List.flatMap_append]
    have e3 : fell (PyData.tuple [k, v]) j = if j = 0 then [] else if j = 2 then [.tuple [k, v, .bool true]] else [.tuple [k, .none, .bool false]] := rfl
    have e4 : (fell (PyData.tuple [k, v]) j).flatMap whole = liv (.tuple [k, v, .int j]) := by
      rw [e3]
      show _ = if 1 < j then _ else _
      by_cases j0 : j = 0
      · rw [if_pos j0, if_neg (by omega)]; rfl
      · rw [if_neg j0]
        by_cases j2 : j = 2
        · rw [if_pos j2, if_pos (by omega)]; rfl
        · rw [if_neg j2, if_neg (by omega)]; rfl
    have e5 : (liv (.tuple [k, v, .int j])).filter nos = liv (.tuple [k, v, .int j]) := by
      refine List.filter_eq_self.mpr fun x hx => ?_
      replace hx : x ∈ (if 1 < j then [PyData.tuple [k, v]] else []) := hx
      by_cases j1 : 1 < j
      · rw [if_pos j1] at hx
        rw [List.mem_singleton.mp hx]
        show (!isSeal k) = true
        rw [hs']; rfl
      · rw [if_neg j1] at hx; exact nomatch hx
    refine ⟨?_, fun x hx => ?_, ?_, ?_, fun x hx => ?_⟩
    · show (if (3 : Int) = 3 then _ else _) = _
      rw [if_pos rfl, a]; rfl
    · rw [e1] at hx
      rcases List.mem_cons.mp hx with rfl | hx
      · exact ⟨k, v, j, rfl, hk, hs', hv, by omega⟩
      · exact b x hx
    · rw [e1, e2, e4]
      show liv _ ++ live _ = _
      rw [c]
    · rw [e2, e4, List.filter_append, e5, ← d]
    · rw [fallen_cons] at hx
      rcases List.mem_append.mp hx with hx | hx
      · rw [e3] at hx
        by_cases j0 : j = 0
        · rw [if_pos j0] at hx; exact nomatch hx
        · rw [if_neg j0] at hx
          by_cases j2 : j = 2
          · rw [if_pos j2] at hx
            rw [List.mem_singleton.mp hx]
            exact ⟨k, v, true, rfl, hk, hv⟩
          · rw [if_neg j2] at hx
            rw [List.mem_singleton.mp hx]
            exact ⟨k, .none, false, rfl, hk, ⟨rfl, Nat.zero_le _, rfl⟩⟩
      · exact t x hx
theorem Rel.need {ls ps rs : List PyData} (h : Rel ls ps rs) : K40.need rs = ps.length := by
  obtain ⟨R1, rfl, h1, h2⟩ := h.ok
  rw [(settle_set (hs := List.replicate ps.length 0) h1).2]
  exact (settle_wait (hs := List.replicate ps.length 0) h.up (by simp) (fun x hx => by rw [List.eq_of_mem_replicate hx]; decide)).1
theorem Rel.fall {ls ps rs : List PyData} {hs : List Int} (h : Rel ls ps rs) (hl : hs.length = ps.length) (hb : ∀ h ∈ hs, 0 ≤ h ∧ h ≤ 2) : Rel (ls ++ fallen ps hs) [] (settle rs hs) := by
  obtain ⟨R1, rfl, h1, h2⟩ := h.ok
  obtain ⟨a, b, c, d, t⟩ := settle_wait h.up hl hb
  rw [(settle_set h1).1]
  refine ⟨fun e he => ?_, (fun _ h => nomatch h), R1 ++ settle (ps.map wait) hs, by rw [List.map_nil, List.append_nil], fun e he => ?_, ?_⟩
  · rcases List.mem_append.mp he with he | he
    · exact h.tr e he
    · exact t e he
  · rcases List.mem_append.mp he with he | he
    · exact h1 e he
    · exact b e he
  · rw [List.flatMap_append, List.filter_append, ← h2, ← d, ← c]
    show List.flatMap liv _ = _
    rw [List.flatMap_append]
    rfl
end K40

namespace K40
open PySem PySem.Spec PyProof.Rows L2 Hq
local macro_rules | `(tactic| walk_at "st1") => `(tactic| first
  | with_reducible refine st_seq ?_ | with_reducible refine st_ret ?_ | with_reducible refine st_ifS ?_ | with_reducible refine st_asg ?_ | with_reducible refine st_drop ?_
  | ((with_reducible refine' st_var ?hv ?_); (case hv => rfl)) | with_reducible refine st_c ?_ | with_reducible refine st_op ?_ | with_reducible refine st_un ?_
  | with_reducible refine st_I0 ?_ | with_reducible refine st_U ?_ | ((with_reducible refine' st_I ?hc ?_); (case hc => walk_at "side"))
  | ((with_reducible refine' st_eq ?hs ?_); (case hs => rfl)) | ((with_reducible refine' st_ne ?hs ?_); (case hs => rfl))
  | with_reducible refine st_test ?_ | with_reducible refine st_B ?_ | with_reducible refine st_bl ?_ | with_reducible refine st_isN ?_ | with_reducible refine st_notN ?_
  | with_reducible refine st_chain ?_ | with_reducible refine st_and ?_ | with_reducible refine st_or ?_ | with_reducible refine st_not ?_
  | with_reducible refine st_andV ?_ | with_reducible refine st_orV ?_ | with_reducible refine st_notV ?_ | with_reducible refine st_if ?_
  | with_reducible refine st_CB ?_ | with_reducible refine st_cons ?_ | with_reducible refine st_nil ?_ | with_reducible refine st_fld ?_
  | ((with_reducible refine st_tup ?_)) | ((with_reducible refine st_lst ?_))
  | with_reducible refine st_call ?_ | with_reducible refine st_meth ?_ | with_reducible refine st_make ?_
  | with_reducible refine st_sl ?_ | with_reducible refine st_noPart ?_ | with_reducible refine st_part ?_ | with_reducible refine st_int ?_
  | ((with_reducible refine' st_ixL ?hq ?he ?_); (case hq => walk_at "sqL"); (case he => walk_at "at"))
  | ((with_reducible refine' st_ixT ?hq ?he ?_); (case hq => walk_at "sqT"); (case he => walk_at "at"))
  | with_reducible refine st_bm ?_ | with_reducible refine st_app ?_
  | ((with_reducible refine' st_append ?hq ?hl ?_); (case hq => walk_at "hp"); (case hl => walk_at "line"))
  | ((with_reducible refine' st_len (n := 0) ?hq ?_); (case hq => first | exact Or.inl (by walk_at "sqL") | exact Or.inr (by walk_at "sqT")))
  | ((with_reducible refine' st_listOf ?hq ?_); (case hq => first | exact Or.inl (by walk_at "sqL") | exact Or.inr (by walk_at "sqT")))
  | ((with_reducible refine st_name ?_); (try dsimp only [List.set_cons_zero, List.set_cons_succ])) | with_reducible refine st_par ?_
  | with_reducible refine st_gcons ?_ | with_reducible refine st_gnil ?_ | with_reducible refine st_gsub ?_ | with_reducible refine st_sFld ?_
  | ((with_reducible refine' st_gtup ?hq ?hl ?_); (case hq => walk_at "sqT"); (case hl => rfl))
  | ((with_reducible refine' st_setL ?hq ?hl ?_); (case hq => walk_at "hp"); (case hl => first | rfl | exact ix0 | exact ixN_nat (by assumption)); (try simp only [Int.reduceToNat, List.set_cons_zero, List.set_cons_succ]))
  | with_reducible refine st_intI ?_ | with_reducible refine st_abs ?_
  | ((with_reducible refine' st_popAt ?hq ?hk ?hy ?_); (case hq => walk_at "hp"); (case hk => exact seq0); (case hy => rfl))
  | ((with_reducible refine' and_left ?ht ?_); (case ht => walk_at "ty"))
  | with_reducible refine st_lc ?_ | with_reducible refine st_for ?_ | with_reducible refine st_iL ?_ | with_reducible refine st_iT ?_ | with_reducible refine st_iR1 ?_ | with_reducible refine st_iR2 ?_ | with_reducible refine st_iZ ?_
  | ((with_reducible refine' st_refL ?hq ?_); (case hq => walk_at "sqL")) | ((with_reducible refine' st_refT ?hq ?_); (case hq => walk_at "sqT"))
  | ((with_reducible refine' st_rng1 ?hq ?_); (case hq => walk_at "side")) | ((with_reducible refine' st_rng2 ?hq ?_); (case hq => walk_at "side"))
  | ((with_reducible refine' st_zip ?hq ?hr ?_); (case hq => walk_at "sqb"); (case hr => walk_at "sqb"))
  | ((with_reducible refine' st_size ?hw ?_); (case hw => walk_at "line"))
  | ((with_reducible refine' st_sum ?hq ?_); (case hq => walk_at "sqL"))
  | with_reducible refine st_two ?_ | with_reducible refine st_yes ?_ | ((with_reducible refine' st_wipe ?hw ?_); (case hw => rfl))
  | ((with_reducible refine' st_slL ?hq ?_); (case hq => walk_at "sqL"))
  | ((with_reducible refine' st_cat ?hq ?hr ?hl ?_); (case hq => walk_at "hp"); (case hr => walk_at "hp"); (case hl => walk_at "line"))
  | ((with_reducible refine' st_isi ?hk ?he ?_); (case hk => walk_at "kd"); (case he => walk_at "kit"))
  | ((with_reducible refine' st_ins ?hq ?hc ?hn ?hl ?_); (case hq => walk_at "hp"); (case hc => with_reducible assumption); (case hn => with_reducible assumption); (case hl => walk_at "flen"); walk_at "puts")
  | ((with_reducible refine' st_att ?hq ?hc ?hn ?hl ?_); (case hq => walk_at "hp"); (case hc => with_reducible assumption); (case hn => with_reducible assumption); (case hl => walk_at "lk"))
  | ((with_reducible refine' st_mt ?hq ?hl ?_); (case hq => walk_at "hp"); (case hl => walk_at "lk"))
  | ((with_reducible refine' st_extend ?hq ?hr ?hl ?_); (case hq => walk_at "hp"); (case hr => walk_at "hp"); (case hl => walk_at "line"))
  | with_reducible refine st_next ?_ | with_reducible refine st_retN ?_ | (with_reducible refine iteNT ?_) | (with_reducible refine iteNF ?_) | (with_reducible refine iteT ?_) | (with_reducible refine iteF ?_))
local macro_rules | `(tactic| walk_at "side") => `(tactic| first | omega | decide | assumption | exact ⟨by omega, by omega⟩ | exact Or.inr ⟨by omega, by omega⟩ | exact Or.inl ⟨by omega, by omega⟩ | (simp only [List.length_map, List.length_cons, List.length_nil, List.length_append] at *; omega))
local macro_rules | `(tactic| walk_at "hp") => `(tactic| first | assumption | exact upd_same | refine upd_old (by assumption) (by walk_at "hp") | (rw [upd_ne (by first | assumption | exact Ne.symm (by assumption))]; walk_at "hp"))
local macro_rules | `(tactic| walk_at "sqL") => `(tactic| first | assumption | exact SqL.of (by walk_at "hp"))
local macro_rules | `(tactic| walk_at "sqT") => `(tactic| first | assumption | exact SqT.of (by walk_at "hp"))
local macro_rules | `(tactic| walk_at "sqb") => `(tactic| (unfold SqB; first | ((with_reducible change SqL _ _ _ _); walk_at "sqL") | ((with_reducible change SqT _ _ _ _); walk_at "sqT")))
local macro_rules | `(tactic| walk_at "line") => `(tactic| first | assumption | decide | (apply line_of; walk_at "side") | (apply line_lt; walk_at "side"))
local macro_rules | `(tactic| walk_at "ty") => `(tactic| ((with_reducible refine' ty_lst ?hq); (case hq => walk_at "hp")))
local macro_rules | `(tactic| walk_at "at") => `(tactic| with_reducible first | assumption | exact at0 | exact at1 | exact at2 | exact at3 | exact at4 | exact at5 | exact at6 | exact at7 | exact at8)
local macro_rules | `(tactic| walk_at "st") => `(tactic| (repeat walk_at "st1"))
local macro_rules | `(tactic| walk_at "lk") => `(tactic| first | with_reducible assumption | rfl)
local macro_rules | `(tactic| walk_at "kd") => `(tactic| first | exact .base (.int _) | exact .base .non | exact .base (.bl _) | exact .base (.str _) | exact .base (.tup (by walk_at "hp")) | exact .base (.lst (by walk_at "hp")) | exact .base (.dK (by walk_at "hp")) | exact .base (.dT (by walk_at "hp")))
local macro_rules | `(tactic| walk_at "kit") => `(tactic| with_reducible first
  | exact kit_NoneType_bool
  | exact kit_NoneType_int
  | exact kit_NoneType_str
  | exact kit_NoneType_tuple
  | exact kit_NoneType_list
  | exact kit_NoneType_dict
  | exact kit_bool_bool
  | exact kit_bool_int
  | exact kit_bool_str
  | exact kit_bool_tuple
  | exact kit_bool_list
  | exact kit_bool_dict
  | exact kit_int_bool
  | exact kit_int_int
  | exact kit_int_str
  | exact kit_int_tuple
  | exact kit_int_list
  | exact kit_int_dict
  | exact kit_str_bool
  | exact kit_str_int
  | exact kit_str_str
  | exact kit_str_tuple
  | exact kit_str_list
  | exact kit_str_dict
  | exact kit_tuple_bool
  | exact kit_tuple_int
  | exact kit_tuple_str
  | exact kit_tuple_tuple
  | exact kit_tuple_list
  | exact kit_tuple_dict
  | exact kit_list_bool
  | exact kit_list_int
  | exact kit_list_str
  | exact kit_list_tuple
  | exact kit_list_list
  | exact kit_list_dict
  | exact kit_dict_bool
  | exact kit_dict_int
  | exact kit_dict_str
  | exact kit_dict_tuple
  | exact kit_dict_list
  | exact kit_dict_dict)
local macro_rules | `(tactic| walk_at "flen") => `(tactic| decide)
local macro_rules | `(tactic| walk_at "puts") => `(tactic| skip)

local macro_rules | `(tactic| walk_at "st1") => `(tactic| first
  | with_reducible refine st_dc ?_ | with_reducible refine st_dgetS ?_ | with_reducible refine st_dinS ?_ | with_reducible refine st_dninS ?_ | with_reducible refine st_dputS ?_ | with_reducible refine st_newT ?_ | with_reducible refine iteNN ?_ | with_reducible refine iteYN ?_
  | ((with_reducible refine' st_getT ?hq ?hk ?hv ?_); (case hq => walk_at "hp"); (case hk => walk_at "key"); (case hv => with_reducible assumption))
  | ((with_reducible refine' st_inT ?hq ?hk ?_); (case hq => walk_at "hp"); (case hk => walk_at "key"))
  | ((with_reducible refine' st_ninT ?hq ?hk ?_); (case hq => walk_at "hp"); (case hk => walk_at "key"))
  | ((with_reducible refine' st_putT ?hq ?hk ?hl ?_); (case hq => walk_at "hp"); (case hk => walk_at "key"); (case hl => walk_at "line"))
  | ((with_reducible refine' st_cputT ?hq ?hk ?hl ?_); (case hq => walk_at "hp"); (case hk => walk_at "key"); (case hl => walk_at "line"))
  | ((with_reducible refine' st_ixB ?hq ?he ?_); (case hq => first | assumption | exact Or.inl (by walk_at "sqL") | exact Or.inr (by walk_at "sqT")); (case he => walk_at "at")))
local macro_rules | `(tactic| walk_at "key") => `(tactic| with_reducible assumption)

local macro_rules | `(tactic| walk_at "lk") => `(tactic| with_reducible first | assumption | exact DiskF_get_lying | exact DiskF_get_pending | exact DiskF_get_spoils | exact StoreF_get_disk | exact DiskF_no (by decide +kernel) (by decide +kernel) (by decide +kernel) | exact StoreF_no (by decide +kernel))
local macro_rules | `(tactic| walk_at "puts") => `(tactic| try simp only [DiskF_put_lying, DiskF_put_pending, DiskF_put_spoils, StoreF_put_disk, DiskF0_put, DiskF1_put, DiskF2_put, StoreF0_put])
local macro_rules | `(tactic| walk_at "flen") => `(tactic| first | with_reducible assumption | with_reducible (first | exact DiskF_len | exact StoreF_len | exact DiskF0_len | exact DiskF1_len | exact DiskF2_len | exact StoreF0_len) | decide)
section
variable {Z : Ads} {P : Program} {w : World} {K : PySem.W.Frag} {mg : Str → Option Value} {base : Heap}
/-! ### all that the law holds -/
structure Al (Z : Ads) (H : Hp) (p g m d l q s r kk : Addr) (ls ps rs kds : List PyData) : Prop where
  pot : Pot H p g m
  disk : DiskAt Z.Disk 0 H d l q ls ps
  store : StoreAt Z.Store H s d
  row : ∃ xs, H r = some (.lst xs) ∧ TDs H xs rs
  keys : ∃ xs, H kk = some (.lst xs) ∧ TDs H xs kds ∧ xs.length = 5
  tp : ∀ x ∈ [p, g, m], x ≠ d ∧ x ≠ l ∧ x ≠ q ∧ x ≠ s ∧ x ≠ r ∧ x ≠ kk
  nr : r ≠ d ∧ r ≠ l ∧ r ≠ q ∧ r ≠ s ∧ r ≠ kk
  nk : kk ≠ d ∧ kk ≠ l ∧ kk ≠ q ∧ kk ≠ s
  ns : s ≠ d ∧ s ≠ l ∧ s ≠ q
section
variable {H H' : Hp} {p g m d l q s r kk : Addr} {ls ps rs kds : List PyData}
theorem Al.live (A : Al Z H p g m d l q s r kk ls ps rs kds) : ∀ x ∈ [p, g, m, d, l, q, s, r, kk], ∃ o, H x = some o := by
  obtain ⟨⟨⟨gs, ss, t, c, h1, h2, h3, _⟩, _, _, _⟩, ⟨⟨dx, hd⟩, ⟨xl, hl, _⟩, ⟨xq, hq, _⟩, _⟩, ⟨sx, hs⟩, ⟨xr, hr, _⟩, ⟨xk, hk, _⟩, _, _, _, _⟩ := A
  intro x hx
  simp only [List.mem_cons, List.not_mem_nil, or_false] at hx
  rcases hx with rfl | rfl | rfl | rfl | rfl | rfl | rfl | rfl | rfl
  · exact ⟨_, h1⟩
  · exact ⟨_, h2⟩
  · exact ⟨_, h3⟩
  · exact ⟨_, hd⟩
  · exact ⟨_, hl⟩
  · exact ⟨_, hq⟩
  · exact ⟨_, hs⟩
  · exact ⟨_, hr⟩
  · exact ⟨_, hk⟩
theorem Al.apart (A : Al Z H p g m d l q s r kk ls ps rs kds) {y : Addr} (hy : H y = none) : ∀ x ∈ [p, g, m, d, l, q, s, r, kk], x ≠ y := fun x hx => by
  obtain ⟨o, ho⟩ := A.live x hx
  exact ne_of_none ho hy
/-- a part of what is written stays out of the rest -/
theorem Al.keep (A : Al Z H p g m d l q s r kk ls ps rs kds) (f : Fr [] H H') : Al Z H' p g m d l q s r kk ls ps rs kds := by
  obtain ⟨xr, hr, tr⟩ := A.row
  obtain ⟨xk, hk, tk, lk⟩ := A.keys
  exact ⟨A.pot.keep f, A.disk.keep f List.not_mem_nil List.not_mem_nil List.not_mem_nil, A.store.keep f List.not_mem_nil, ⟨xr, f.same _ _ hr, TDs.mono f.tup _ _ tr⟩, ⟨xk, f.same _ _ hk, TDs.mono f.tup _ _ tk, lk⟩, A.tp, A.nr, A.nk, A.ns⟩
theorem Al.drawn (A : Al Z H p g m d l q s r kk ls ps rs kds) (f : Fr [p, g] H H') (hP : Pot H' p g m) : Al Z H' p g m d l q s r kk ls ps rs kds := by
  obtain ⟨xr, hr, tr⟩ := A.row
  obtain ⟨xk, hk, tk, lk⟩ := A.keys
  obtain ⟨p1, p2, p3, p4, p5, p6⟩ := A.tp p (by simp)
  obtain ⟨g1, g2, g3, g4, g5, g6⟩ := A.tp g (by simp)
  exact ⟨hP, A.disk.keep f (by simpa using ⟨p1.symm, g1.symm⟩) (by simpa using ⟨p2.symm, g2.symm⟩) (by simpa using ⟨p3.symm, g3.symm⟩), A.store.keep f (by simpa using ⟨p4.symm, g4.symm⟩),
    ⟨xr, f.keep _ _ (by simpa using ⟨p5.symm, g5.symm⟩) hr, TDs.mono f.tup _ _ tr⟩, ⟨xk, f.keep _ _ (by simpa using ⟨p6.symm, g6.symm⟩) hk, TDs.mono f.tup _ _ tk, lk⟩, A.tp, A.nr, A.nk, A.ns⟩
/-- the disk's own lists are written; what waits may be a new list -/
theorem Al.disked {q' : Addr} {ls' ps' : List PyData} (A : Al Z H p g m d l q s r kk ls ps rs kds) (f : Fr [d, l, q] H H') (hq : q' = q ∨ H q' = none) (D : DiskAt Z.Disk 0 H' d l q' ls' ps') : Al Z H' p g m d l q' s r kk ls' ps' rs kds := by
  have ap : ∀ x ∈ [p, g, m, r, kk, s], x ≠ q' := fun x hx => by
    rcases hq with rfl | hq
    · simp only [List.mem_cons, List.not_mem_nil, or_false] at hx
      rcases hx with rfl | rfl | rfl | rfl | rfl | rfl
      · exact (A.tp _ (by simp)).2.2.1
      · exact (A.tp _ (by simp)).2.2.1
      · exact (A.tp _ (by simp)).2.2.1
      · exact A.nr.2.2.1
      · exact A.nk.2.2.1
      · exact A.ns.2.2
    · refine A.apart hq x ?_
      simp only [List.mem_cons, List.not_mem_nil, or_false] at hx ⊢
      rcases hx with rfl | rfl | rfl | rfl | rfl | rfl <;> simp
  obtain ⟨xr, hr, tr⟩ := A.row
  obtain ⟨xk, hk, tk, lk⟩ := A.keys
  have tp := A.tp
  have out : ∀ x ∈ [p, g, m], x ∉ [d, l, q] := fun x hx => by
    obtain ⟨a, b, c, _⟩ := tp x hx
    simpa using ⟨a, b, c⟩
  refine ⟨A.pot.keep f (out p (by simp)) (out g (by simp)) (out m (by simp)), D, A.store.keep f (by simpa using A.ns), ⟨xr, f.keep _ _ (by simpa using ⟨A.nr.1, A.nr.2.1, A.nr.2.2.1⟩) hr, TDs.mono f.tup _ _ tr⟩,
    ⟨xk, f.keep _ _ (by simpa using ⟨A.nk.1, A.nk.2.1, A.nk.2.2.1⟩) hk, TDs.mono f.tup _ _ tk, lk⟩, fun x hx => ?_, ⟨A.nr.1, A.nr.2.1, ap r (by simp), A.nr.2.2.2⟩, ⟨A.nk.1, A.nk.2.1, ap kk (by simp), A.nk.2.2.2⟩, ⟨A.ns.1, A.ns.2.1, ap s (by simp)⟩⟩
  obtain ⟨a, b, c, e⟩ := tp x hx
  refine ⟨a, b, ap x ?_, e⟩
  simp only [List.mem_cons, List.not_mem_nil, or_false] at hx ⊢
  rcases hx with rfl | rfl | rfl <;> simp
theorem Al.stored {s' : Addr} (A : Al Z H p g m d l q s r kk ls ps rs kds) (f : Fr [] H H') (hs : H s' = none) (S : StoreAt Z.Store H' s' d) : Al Z H' p g m d l q s' r kk ls ps rs kds := by
  have ap := A.apart hs
  have B := A.keep f
  refine ⟨B.pot, B.disk, S, B.row, B.keys, fun x hx => ?_, ⟨B.nr.1, B.nr.2.1, B.nr.2.2.1, ap r (by simp), B.nr.2.2.2.2⟩, ⟨B.nk.1, B.nk.2.1, B.nk.2.2.1, ap kk (by simp)⟩, ⟨(ap d (by simp)).symm, (ap l (by simp)).symm, (ap q (by simp)).symm⟩⟩
  obtain ⟨a, b, c, e, h⟩ := B.tp x hx
  refine ⟨a, b, c, ap x ?_, h⟩
  simp only [List.mem_cons, List.not_mem_nil, or_false] at hx ⊢
  rcases hx with rfl | rfl | rfl <;> simp
theorem Al.rowed {rs' : List PyData} {xs : List V} (A : Al Z H p g m d l q s r kk ls ps rs kds) (f : Fr [r] H H') (hr : H' r = some (.lst xs)) (tr : TDs H' xs rs') : Al Z H' p g m d l q s r kk ls ps rs' kds := by
  obtain ⟨xk, hk, tk, lk⟩ := A.keys
  have tp := A.tp
  have out : ∀ x ∈ [p, g, m], x ∉ [r] := fun x hx => by
    obtain ⟨_, _, _, _, e, _⟩ := tp x hx
    simpa using e
  exact ⟨A.pot.keep f (out p (by simp)) (out g (by simp)) (out m (by simp)), A.disk.keep f (by simpa using A.nr.1.symm) (by simpa using A.nr.2.1.symm) (by simpa using A.nr.2.2.1.symm), A.store.keep f (by simpa using A.nr.2.2.2.1.symm), ⟨xs, hr, tr⟩,
    ⟨xk, f.keep _ _ (by simpa using A.nr.2.2.2.2.symm) hk, TDs.mono f.tup _ _ tk, lk⟩, A.tp, A.nr, A.nk, A.ns⟩
theorem Al.rowNew {rs' : List PyData} {r' : Addr} {xs : List V} (A : Al Z H p g m d l q s r kk ls ps rs kds) (f : Fr [] H H') (h0 : H r' = none) (hr : H' r' = some (.lst xs)) (tr : TDs H' xs rs') : Al Z H' p g m d l q s r' kk ls ps rs' kds := by
  have ap := A.apart h0
  have B := A.keep f
  refine ⟨B.pot, B.disk, B.store, ⟨xs, hr, tr⟩, B.keys, fun x hx => ?_, ⟨(ap d (by simp)).symm, (ap l (by simp)).symm, (ap q (by simp)).symm, (ap s (by simp)).symm, (ap kk (by simp)).symm⟩, B.nk, B.ns⟩
  obtain ⟨a, b, c, e, h, h'⟩ := B.tp x hx
  refine ⟨a, b, c, e, ap x ?_, h'⟩
  simp only [List.mem_cons, List.not_mem_nil, or_false] at hx ⊢
  rcases hx with rfl | rfl | rfl <;> simp
end
theorem need_cons {k v : PyData} {h : Int} {rs : List PyData} : need (.tuple [k, v, .int h] :: rs) = if h = 3 then need rs + 1 else need rs := rfl
theorem settle_cons {k v : PyData} {h : Int} {rs : List PyData} {hs : List Int} : settle (.tuple [k, v, .int h] :: rs) hs = if h = 3 then .tuple [k, v, .int (hs.headD 0)] :: settle rs hs.tail else .tuple [k, v, .int h] :: settle rs hs := rfl
theorem fell_le (ps : List PyData) (hs : List Int) : (fallen ps hs).length ≤ ps.length := fallen_len
def spLaw (K : PySem.W.Frag) : Sp := fun vs H Q _ => ∃ (a : Addr) (ns : List Int), vs = [.ref a] ∧ SqL K H a (ns.map V.int) ∧ ns.length ≤ 63 ∧ ∀ H', Q (.bl true) H'
abbrev s_law : Stmt := top 80
theorem sc_law : FnScope ["script", "pot", "disk", "store", "rows", "keys", "turn", "kind", "key", "thing", "hows", "told", "how", "word"] ["script"] (defScope s_law) := ⟨rfl, rfl, rfl, by decide +kernel, rfl, by decide +kernel, by decide +kernel⟩
theorem ok_law {f : Addr} {fd : FuncData} (F : Fun K "law" "law" s_law f fd) (T : Txt K mg Z) (D_law_pot : Dn P w K mg base "_law_pot" 1 ["script"] (spPot K)) (D_law_draw : Dn P w K mg base "_law_draw" 1 ["pot", "many"] spDraw) (D_law_any : Dn P w K mg base "_law_any" 2 ["pot", "items"] spAny)
    (D_law_key : Dn P w K mg base "_law_key" 3 ["pot"] spKey) (D_law_thing : Dn P w K mg base "_law_thing" 6 ["pot", "deep"] (spThing 3)) (D_law_found : Dn P w K mg base "_law_found" 1 ["rows"] spLFound)
    (C_Disk : Cn P w K mg base "Disk" Z.Disk 1 ["self"] (spInit Z.Disk)) (C_Store : Cn P w K mg base "Store" Z.Store 1 ["self", "disk"] (spSInit Z.Store)) (M_Disk_waiting : Mn P w K mg base Z.Disk "waiting" 1 ["self"] (spWaiting Z.Disk)) (M_Disk_fall : Mn P w K mg base Z.Disk "fall" 3 ["self", "reached"] (spFall Z.Disk))
    (M_Store_keep : Mn P w K mg base Z.Store "keep" 13 ["self", "key", "thing"] (spKeep Z.Store Z.Disk)) (M_Store_seal : Mn P w K mg base Z.Store "seal" 13 ["self"] (spSeal Z.Store Z.Disk)) (M_Store_found : Mn P w K mg base Z.Store "found" 3 ["self"] (spFound Z.Store Z.Disk)) :
    FnOk P w K mg base (L2.CX P w) 14 f fd ["script"] (spLaw K) := by
  have cl := T.cl
  have clS := T.clS
  have aD := T.aD
  refine okN F sc_law (fun vs H Q E h => ?_) (fun cdv A outer s0 H vs Q E hr h => ?_)
  · obtain ⟨a, ns, rfl, _⟩ := h
    rfl
  · obtain ⟨a, ns, rfl, hS, hlen, k⟩ := h
    have hu66 := u66_of hr
    have hu := u1_of hr
    refine ⟨_, [some _, none, none, none, none, none, none, none, none, none, none, none, none, none], rfl, (pss_cons (ps_set (i := 1) sc_law.nd rfl (by first | exact Or.inl rfl | exact Or.inr rfl) (pe_d D_law_pot E0 (hr.mono (by first | decide | omega)) (by rfl) passL (pa_cons (pv 0) pa_nil)))
      (pss_cons (ps_set (i := 2) sc_law.nd rfl (by first | exact Or.inl rfl | exact Or.inr rfl) (pe_c0 C_Disk E0 (hr.mono (by first | decide | omega)) (by rfl) passL))
      (pss_cons (ps_par (i := 3) (j := 4) rfl sc_law.nd rfl rfl (by decide) rfl rfl (pa_cons (pe_c C_Store E0 (hr.mono (by first | decide | omega)) (by rfl) passL (pa_cons (pv 2) pa_nil)) (pa_cons (pe_lst pa_nil) pa_nil)) rfl)
      (pss_cons (ps_set (i := 5) sc_law.nd rfl (by first | exact Or.inl rfl | exact Or.inr rfl) (pe_op op_cat (pe_lc (own := [("turn", 6)]) (g := (gName 6)) (tt := tYes) rfl sc_law.nd (pi_range1 (by rfl) T.n_range (pa_cons pe_int pa_nil)) (blkOk_by (N := ["script", "pot", "disk", "store", "rows", "keys", "turn", "kind", "key", "thing", "hows", "told", "how", "word"]) (sc := defScope s_law) (by decide +kernel)) (fun _ _ _ _ _ => (pg_name (i := 6) sc_law.nd rfl (by first | exact Or.inl rfl | exact Or.inr rfl))) (fun _ _ _ _ _ => pts_nil) (fun _ _ _ _ _ => (pe_d D_law_key E0 (hr.mono (by first | decide | omega)) (by rfl) passL (pa_cons (pv 1) pa_nil)))) (pe_lst (pa_cons (pe_tup (pa_cons pe_str (pa_cons pe_int pa_nil))) pa_nil))))
      (pss_cons (ps_for PassesOwn.never rfl (pi_range1 (by rfl) T.n_range (pa_cons (pe_op op_add pe_int (pe_d D_law_draw E0 (hr.mono (by first | decide | omega)) (by rfl) passL (pa_cons (pv 1) (pa_cons pe_int pa_nil)))) pa_nil)) (pg_name (i := 6) sc_law.nd rfl (by first | exact Or.inl rfl | exact Or.inr rfl))
      (pss_cons (ps_set (i := 7) sc_law.nd rfl (by first | exact Or.inl rfl | exact Or.inr rfl) (pe_d D_law_draw E0 (hr.mono (by first | decide | omega)) (by rfl) passL (pa_cons (pv 1) (pa_cons pe_int pa_nil))))
      (C8.pss_cut (ps_if (pt_cmpR op_lt (pv 7) pe_int (by first | exact nomark _ | rfl)) (pss_cons (ps_par (i := 8) (j := 9) rfl sc_law.nd rfl rfl (by decide) rfl rfl (pa_cons (pe_d D_law_any E0 (hr.mono (by first | decide | omega)) (by rfl) passL (pa_cons (pv 1) (pa_cons (pv 5) pa_nil))) (pa_cons (pe_d D_law_thing E0 (hr.mono (by first | decide | omega)) (by rfl) passL (pa_cons (pv 1) (pa_cons pe_int pa_nil))) pa_nil)) rfl)
      (pss_cons (ps_if (pt_cmp (pc_notN (pe_m M_Store_keep E0 (hr.mono (by first | decide | omega)) (pv 3) passL (pa_cons (pv 8) (pa_cons (pv 9) pa_nil)) _))) (pss_one (ps_ret pe_bl)) pss_nil)
      (pss_one (ps_expr (kApp (K := K) (pv 4) (pe_tup (pa_cons (pv 8) (pa_cons (pv 9) (pa_cons pe_int pa_nil))))))))) (pss_one (ps_if (pt_cmpR op_eq (pv 7) pe_int (by first | exact nomark _ | rfl)) (pss_cons (ps_if (PW.pt (pw_or (pt_cmp (pc_notN (pe_m0 M_Store_seal E0 (hr.mono (by first | decide | omega)) (pv 3) passL _))) (pw_or1 (pt_cmpR op_ne (pe_m0 M_Disk_waiting E0 (hr.mono (by first | decide | omega)) (pv 2) passL _) pe_int (by first | exact nomark _ | rfl))))) (pss_one (ps_ret pe_bl)) pss_nil)
      (pss_one (ps_setLc (i := 4) (own := [("key", 8), ("thing", 9), ("how", 12)]) (g := (gTup K 3 (gCons (gName 8) (gCons (gName 9) (gCons (gName 12) gNil))))) (tt := tYes) rfl sc_law.nd rfl rfl (sw_true rfl rfl rfl (by decide +kernel)) (kPiL (K := K) (pv 4)) (blkOk_by (N := ["script", "pot", "disk", "store", "rows", "keys", "turn", "kind", "key", "thing", "hows", "told", "how", "word"]) (sc := defScope s_law) (by decide +kernel)) (fun _ _ _ _ _ => (kTupT (K := K) (n := 3) (pgs_cons (pg_name (i := 8) sc_law.nd rfl (by first | exact Or.inl rfl | exact Or.inr rfl)) (pgs_cons (pg_name (i := 9) sc_law.nd rfl (by first | exact Or.inl rfl | exact Or.inr rfl)) (pgs_cons (pg_name (i := 12) sc_law.nd rfl (by first | exact Or.inl rfl | exact Or.inr rfl)) pgs_nil))))) (fun _ _ _ _ _ => pts_nil) (fun _ _ _ _ _ => (pe_tup (pa_cons (pv 8) (pa_cons (pv 9) (pa_cons (pe_ifExp (pt_cmpR op_eq (pv 12) pe_int (by first | exact nomark _ | rfl)) pe_int (pv 12)) pa_nil)))))))) (pss_one (ps_if (pt_cmpR op_eq (pv 7) pe_int (by first | exact nomark _ | rfl)) (pss_one (ps_set (i := 3) sc_law.nd rfl (by first | exact Or.inl rfl | exact Or.inr rfl) (pe_c C_Store E0 (hr.mono (by first | decide | omega)) (by rfl) passL (pa_cons (pv 2) pa_nil)))) (pss_cons (ps_set (i := 10) sc_law.nd rfl (by first | exact Or.inl rfl | exact Or.inr rfl) (pe_lc (own := [("word", 13)]) (g := (gName 13)) (tt := tYes) rfl sc_law.nd (pi_range1 (by rfl) T.n_range (pa_cons (pe_m0 M_Disk_waiting E0 (hr.mono (by first | decide | omega)) (pv 2) passL _) pa_nil)) (blkOk_by (N := ["script", "pot", "disk", "store", "rows", "keys", "turn", "kind", "key", "thing", "hows", "told", "how", "word"]) (sc := defScope s_law) (by decide +kernel)) (fun _ _ _ _ _ => (pg_name (i := 13) sc_law.nd rfl (by first | exact Or.inl rfl | exact Or.inr rfl))) (fun _ _ _ _ _ => pts_nil) (fun _ _ _ _ _ => (pe_d D_law_draw E0 (hr.mono (by first | decide | omega)) (by rfl) passL (pa_cons (pv 1) (pa_cons pe_int pa_nil))))))
      (pss_cons (ps_expr (pe_m M_Disk_fall E0 (hr.mono (by first | decide | omega)) (pv 2) passL (pa_cons (pe_callTy (kTupOf (K := K)) (by rfl) T.n_tuple (by decide +kernel) (pa_cons (pv 10) pa_nil)) pa_nil) _))
      (pss_cons (ps_set (i := 10) sc_law.nd rfl (by first | exact Or.inl rfl | exact Or.inr rfl) (pe_callTy (kListOf (K := K)) (by rfl) T.n_list (by decide +kernel) (pa_cons (pv 10) pa_nil)))
      (pss_cons (ps_setLc (i := 4) (own := [("key", 8), ("thing", 9), ("how", 12)]) (g := (gTup K 3 (gCons (gName 8) (gCons (gName 9) (gCons (gName 12) gNil))))) (tt := tYes) rfl sc_law.nd rfl rfl (sw_true rfl rfl rfl (by decide +kernel)) (kPiL (K := K) (pv 4)) (blkOk_by (N := ["script", "pot", "disk", "store", "rows", "keys", "turn", "kind", "key", "thing", "hows", "told", "how", "word"]) (sc := defScope s_law) (by decide +kernel)) (fun _ _ _ _ _ => (kTupT (K := K) (n := 3) (pgs_cons (pg_name (i := 8) sc_law.nd rfl (by first | exact Or.inl rfl | exact Or.inr rfl)) (pgs_cons (pg_name (i := 9) sc_law.nd rfl (by first | exact Or.inl rfl | exact Or.inr rfl)) (pgs_cons (pg_name (i := 12) sc_law.nd rfl (by first | exact Or.inl rfl | exact Or.inr rfl)) pgs_nil))))) (fun _ _ _ _ _ => pts_nil) (fun _ _ _ _ _ => (pe_tup (pa_cons (pv 8) (pa_cons (pv 9) (pa_cons (pe_ifExp (pt_cmpR op_eq (pv 12) pe_int (by first | exact nomark _ | rfl)) (kBm (K := K) PySem.F.plainAttrs_list PySem.F.slot_list_pop PySem.F.type_list_pop mt_popAt (pv 10) (pa_cons pe_int pa_nil)) (pv 12)) pa_nil))))))
      (pss_one (ps_set (i := 3) sc_law.nd rfl (by first | exact Or.inl rfl | exact Or.inr rfl) (pe_c C_Store E0 (hr.mono (by first | decide | omega)) (by rfl) passL (pa_cons (pv 2) pa_nil)))))))))))))
      (pss_cons (ps_set (i := 11) sc_law.nd rfl (by first | exact Or.inl rfl | exact Or.inr rfl) (pe_m0 M_Store_found E0 (hr.mono (by first | decide | omega)) (pv 3) passL _))
      (pss_cons (ps_if (PW.pt (pw_or (pt_cmpR (kNeT hu66 (K := K)) (pv 11) (pe_d D_law_found E0 (hr.mono (by first | decide | omega)) (by rfl) passL (pa_cons (pv 4) pa_nil)) (by first | exact nomark _ | rfl)) (pw_or1 (pt_cmpR (kNeT hu66 (K := K)) (pe_m0 M_Store_found E0 (hr.mono (by first | decide | omega)) (pe_c C_Store E0 (hr.mono (by first | decide | omega)) (by rfl) passL (pa_cons (pv 2) pa_nil)) passL _) (pv 11) (by first | exact nomark _ | rfl))))) (pss_one (ps_ret pe_bl)) pss_nil)
      (pss_cons (ps_dput hu (pv 11) (pe_tup (pa_cons pe_str pa_nil)) pe_int rfl)
      (pss_one (ps_if (pt_cmpR (kNeT hu66 (K := K)) (pe_m0 M_Store_found E0 (hr.mono (by first | decide | omega)) (pv 3) passL _) (pe_d D_law_found E0 (hr.mono (by first | decide | omega)) (by rfl) passL (pa_cons (pv 4) pa_nil)) (by first | exact nomark _ | rfl)) (pss_one (ps_ret pe_bl)) pss_nil))))))))
      (pss_one (ps_ret pe_bl))))))), ?_⟩
    clear hu hu66
    walk_at "st"
    refine ⟨a, ns, rfl, hS, hlen, fun H1 p g m hP1 f1 p0 g0 m0 => ?_⟩
    walk_at "st"
    intro d dx hd0 hdx0 dxd
    refine ⟨d, dx, rfl, upd_same, fun H2 l q hl0 hq0 D2 f2 => ⟨rfl, ?_⟩⟩
    have F2 := made hd0 hdx0 dxd f2
    have hP2 := hP1.keep F2
    have l0 : H1 l = none := fresh_of (fresh_of hl0)
    have q0 : H1 q = none := fresh_of (fresh_of hq0)
    walk_at "st"
    intro s sx hs0 hsx0 sxs
    refine ⟨s, sx, d, rfl, upd_same, fun H3 S3 f3 => ⟨rfl, ?_⟩⟩
    have F3 := made hs0 hsx0 sxs f3
    have hP3 := hP2.keep F3
    have D3 := D2.keep F3 List.not_mem_nil List.not_mem_nil List.not_mem_nil
    walk_at "st"
    intro r hr0
    have hP4 := hP3.up (o := .lst []) hr0
    walk_at "st"
    intro D hD
    have G4 : Fr [] H3 (upd H3 r (.lst [])) := Fr.up hr0
    have nD := hP4.ne hD
    refine lc_it walk_range (fun i H' => ∃ acc kds, H' D = some (.lst acc) ∧ Fr [p, g] (upd H3 r (.lst [])) H' ∧ Pot H' p g m ∧ acc.length = i ∧ TDs H' acc kds ∧ ∀ e ∈ kds, UKey e) ⟨[], [], upd_same, (Fr.refl _).new hD, hP4.up hD, rfl, .nil, (fun _ h => nomatch h)⟩ (fun _ _ _ _ => trivial) ?_ ?_
    · rintro i x H5 H6 hi ⟨acc, kds, e5, f5, hP5, la, ta, hk⟩ ⟨rfl, rfl⟩
      walk_at "st"
      refine ⟨p, g, m, rfl, hP5, fun H7 v kd tv hkd hP7 f7 => ?_⟩
      have e7 : H7 D = some (.lst acc) := f7.keep _ _ (by simpa using ⟨nD.1, nD.2.1⟩) e5
      have f8 : Fr [D] H7 (upd H7 D (.lst (acc ++ [v]))) := (Fr.refl H7).wl e7 (.inl (by simp))
      refine ⟨acc, e7, line_lt (by omega), acc ++ [v], kds ++ [kd], upd_same, (f5.trans f7).wl e7 (.inr hD), hP7.wr e7 nD, by simp [la], ?_, fun y hy => ?_⟩
      · exact TDs.mono f8.tup _ _ (TDs.snoc (TDs.mono f7.tup _ _ ta) tv)
      · rcases List.mem_append.mp hy with hy | hy
        · exact hk y hy
        · rw [List.mem_singleton.mp hy]; exact hkd
    · rintro H5 ⟨acc, kds, e5, f5, hP5, la, ta, hk⟩
      walk_at "st"
      intro t ht
      walk_at "st"
      intro t2 ht2
      walk_at "st"
      intro kk hkk
      walk_at "st"
      obtain ⟨dx3, hd3⟩ := D3.ok
      obtain ⟨xl3, hl3, _⟩ := D3.lie
      obtain ⟨xq3, hq3, _⟩ := D3.pen
      obtain ⟨sx3, hs3⟩ := S3.ok
      obtain ⟨dx2, hd2⟩ := D2.ok
      obtain ⟨xl2, hl2, _⟩ := D2.lie
      obtain ⟨xq2, hq2, _⟩ := D2.pen
      have nd := hP1.ne hd0
      have nl := hP1.ne l0
      have nq := hP1.ne q0
      have ns := hP2.ne hs0
      have nr := hP3.ne hr0
      have kk5 : H5 kk = none := fresh_of (fresh_of hkk)
      have nk := hP5.ne kk5
      have r5 := f5.keep _ _ (by simpa using ⟨nr.1, nr.2.1⟩) (upd_same (H := H3) (a := r) (o := .lst []))
      have d5 := f5.keep d _ (by simpa using ⟨nd.1, nd.2.1⟩) (G4.same _ _ hd3)
      have l5 := f5.keep l _ (by simpa using ⟨nl.1, nl.2.1⟩) (G4.same _ _ hl3)
      have q5 := f5.keep q _ (by simpa using ⟨nq.1, nq.2.1⟩) (G4.same _ _ hq3)
      have s5 := f5.keep s _ (by simpa using ⟨ns.1, ns.2.1⟩) (G4.same _ _ hs3)
      have g6 : Fr [] H5 (upd (upd (upd H5 t (HO.tup [V.str "item", V.int 0])) t2 (HO.lst [V.ref t])) kk (HO.lst (acc ++ [V.ref t]))) := (((Fr.up ht).new ht2).new hkk)
      have f6 := f5.trans (g6.mono (by simp))
      have A6 : Al Z (upd (upd (upd H5 t (HO.tup [V.str "item", V.int 0])) t2 (HO.lst [V.ref t])) kk (HO.lst (acc ++ [V.ref t]))) p g m d l q s r kk [] [] [] (kds ++ [.tuple [.str "item", .int 0]]) := by
        refine ⟨hP5.keep g6, (D3.keep G4 List.not_mem_nil List.not_mem_nil List.not_mem_nil).keep f6 (by simpa using ⟨nd.1, nd.2.1⟩) (by simpa using ⟨nl.1, nl.2.1⟩) (by simpa using ⟨nq.1, nq.2.1⟩), (S3.keep G4 List.not_mem_nil).keep f6 (by simpa using ⟨ns.1, ns.2.1⟩),
          ⟨[], g6.same _ _ r5, .nil⟩, ⟨_, upd_same, TDs.snoc (TDs.mono g6.tup _ _ ta) (.tup (by walk_at "hp") (.cons (.str _) (.cons (.int _) .nil))), by simp [la]⟩, fun x hx => ?_, ⟨(ne_of_none hd3 hr0).symm, (ne_of_none hl3 hr0).symm, (ne_of_none hq3 hr0).symm, (ne_of_none hs3 hr0).symm, ne_of_none r5 kk5⟩,
          ⟨(ne_of_none d5 kk5).symm, (ne_of_none l5 kk5).symm, (ne_of_none q5 kk5).symm, (ne_of_none s5 kk5).symm⟩, ⟨(ne_of_none hd2 hs0).symm, (ne_of_none hl2 hs0).symm, (ne_of_none hq2 hs0).symm⟩⟩
        simp only [List.mem_cons, List.not_mem_nil, or_false] at hx
        rcases hx with rfl | rfl | rfl
        · exact ⟨nd.1.symm, nl.1.symm, nq.1.symm, ns.1.symm, nr.1.symm, nk.1.symm⟩
        · exact ⟨nd.2.1.symm, nl.2.1.symm, nq.2.1.symm, ns.2.1.symm, nr.2.1.symm, nk.2.1.symm⟩
        · exact ⟨nd.2.2.symm, nl.2.2.symm, nq.2.2.symm, ns.2.2.symm, nr.2.2.symm, nk.2.2.symm⟩
      have hk6 : ∀ e ∈ kds ++ [.tuple [.str "item", .int 0]], UKey e := fun e he => by
        rcases List.mem_append.mp he with he | he
        · exact hk e he
        · rw [List.mem_singleton.mp he]
          refine ⟨_, rfl, by decide, by decide, fun x hx => ?_⟩
          simp only [List.mem_cons, List.not_mem_nil, or_false] at hx
          rcases hx with rfl | rfl
          · exact ⟨.inl ⟨_, rfl, by decide +kernel⟩, str_ne (by decide +kernel)⟩
          · exact ⟨.inr ⟨_, by decide, rfl⟩, fun z => nomatch z⟩
      generalize (upd (upd (upd H5 t (HO.tup [V.str "item", V.int 0])) t2 (HO.lst [V.ref t])) kk (HO.lst (acc ++ [V.ref t]))) = H6 at A6 ⊢
      generalize kds ++ [.tuple [.str "item", .int 0]] = kds6 at A6 hk6
      clear nd nl nq ns nr nk kk5 r5 d5 l5 q5 s5 g6 f6 hd3 hl3 hq3 hs3 hd2 hl2 hq2 hkk ht2 ht ta hk la hP5 f5 e5 hD nD G4 hP4 hr0 D3 hP3 F3 S3 f3 sxs hsx0 hs0 l0 q0 hP2 F2 D2 f2 hq0 hl0 dxd hdx0 hd0 f1 p0 g0 m0 hP1 hS
      refine ⟨p, g, m, _, rfl, A6.pot, by omega, by omega, fun H7 n n0 n1 hP7 f7 => ?_⟩
      have A7 := A6.drawn f7 hP7
      walk_at "st"
      refine for_it walk_range (fun i σ H' => ∃ q s r ls ps rs o1 o2 o3 o4 o5 o6 o7 o8, σ = [some (.ref a), some (.ref p), some (.ref d), some (.ref s), some (.ref r), some (.ref kk), o1, o2, o3, o4, o5, o6, o7, o8] ∧ Al Z H' p g m d l q s r kk ls ps rs kds6 ∧ Rel ls ps rs ∧ ls.length + ps.length ≤ i ∧ rs.length ≤ i)
        ⟨q, s, r, [], [], [], none, none, none, none, none, none, none, none, rfl, A7, Rel.nil, Nat.le_refl _, Nat.le_refl _⟩ (fun _ _ _ _ _ => trivial) ?_ ?_
      · rintro i x σ H8 H9 hi ⟨q, s, r, ls, ps, rs, o1, o2, o3, o4, o5, o6, o7, o8, rfl, A, R, hsz, hrs⟩ ⟨rfl, rfl⟩
        have hi40 : i < 40 := by omega
        walk_at "st"
        refine ⟨p, g, m, _, rfl, A.pot, by omega, by omega, fun H10 kind k0 k1 hP10 f10 => ?_⟩
        have A10 := A.drawn f10 hP10
        walk_at "st"
        refine ⟨fun σ' H' => ∃ q s r ls ps rs o1 o2 o3 o4 o5 o6 o7 o8, σ' = [some (.ref a), some (.ref p), some (.ref d), some (.ref s), some (.ref r), some (.ref kk), o1, o2, o3, o4, o5, o6, o7, o8] ∧ Al Z H' p g m d l q s r kk ls ps rs kds6 ∧ Rel ls ps rs ∧ ls.length + ps.length ≤ i + 1 ∧ rs.length ≤ i + 1, ?_, ?_⟩
        · walk_at "st"
          refine iteD (fun h4 => ?_) (fun h4 => ?_)
          · walk_at "st"
            obtain ⟨xk, hkx, tk, lk⟩ := A10.keys
            have tpp := A10.tp p (by simp)
            have tpg := A10.tp g (by simp)
            refine ⟨p, g, m, kk, xk, rfl, A10.pot, .inr ⟨hkx, tpp.2.2.2.2.2.symm, tpg.2.2.2.2.2.symm⟩, by omega, by omega, fun H11 kv hkv hP11 f11 => ?_⟩
            have A11 := A10.drawn f11 hP11
            obtain ⟨j, hj⟩ := List.mem_iff_getElem?.mp hkv
            obtain ⟨kd, hkd, tkd⟩ := TDs.at_ (TDs.mono f11.tup _ _ tk) hj
            have uk := hk6 kd (List.mem_of_getElem? hkd)
            walk_at "st"
            refine ⟨p, g, m, rfl, A11.pot, fun H12 v vd tv hv hP12 f12 => ?_⟩
            have A12 := A11.drawn f12 hP12
            have tk12 := TD.mono f12.tup _ _ tkd
            obtain ⟨sx12, hs12⟩ := A12.store.ok
            walk_at "st"
            refine ⟨s, d, l, q, ls, ps, kv, v, kd, vd, rfl, A12.store, A12.disk, by omega, tk12, uk.key, uk.seal, tv, hv.mono (by decide), fun H13 D13 f13 => ?_⟩
            have A13 := A12.disked (f13.mono (by simp)) (.inl rfl) D13
            obtain ⟨xr, hr13, tr⟩ := A13.row
            have lr := tr.length
            walk_at "st"
            intro t ht
            walk_at "st"
            have g13 : Fr [r] H13 _ := (Fr.up (o := .tup [kv, v, V.int 3]) ht).wl (p := r) (o' := .lst (xr ++ [V.ref t])) (by walk_at "hp") (.inl (by simp))
            have trn : t ≠ r := (ne_of_none hr13 ht).symm
            refine ⟨q, s, r, ls, ps ++ [.tuple [kd, vd]], rs ++ [.tuple [kd, vd, .int 3]], _, _, _, _, _, _, _, _, rfl, A13.rowed g13 upd_same (TDs.snoc (TDs.mono g13.tup _ _ tr) (.tup (by rw [upd_ne trn]; exact upd_same) (.cons (TD.mono (f13.tup.trans g13.tup) _ _ tk12) (.cons (TD.mono (f13.tup.trans g13.tup) _ _ tv) (.cons (.int 3) .nil))))), R.put uk.key uk.seal (hv.mono (by decide)), ?_, ?_⟩
            · rw [List.length_append]; simp; omega
            · rw [List.length_append]; simp; omega
          · walk_at "st"
            refine iteD (fun h5 => ?_) (fun h5 => ?_)
            · obtain ⟨sx10, hs10⟩ := A10.store.ok
              walk_at "st"
              refine ⟨s, d, l, q, ls, ps, rfl, A10.store, A10.disk, by omega, by omega, R.tr, R.pr, fun H11 q2 j hq2 D11 f11 => ?_⟩
              have A11 := A10.disked f11 (.inr hq2) D11
              obtain ⟨dx11, hd11⟩ := A11.disk.ok
              walk_at "st"
              refine ⟨0, d, l, q2, _, [], rfl, A11.disk, ?_⟩
              obtain ⟨xr, hr11, tr⟩ := A11.row
              have lr := tr.length
              walk_at "st"
              refine iteDN (fun h6 => ?_) (fun h6 => absurd rfl h6)
              walk_at "st"
              intro D hD
              refine lc_it (walk_list (xs := xr)) (fun i H' => Fr [] H11 H' ∧ ∃ acc, H' D = some (.lst acc) ∧ acc.length = i ∧ TDs H' acc ((rs.take i).map seal2)) ⟨Fr.up hD, [], upd_same, rfl, .nil⟩ (fun i H' _ h => SqL.of (h.1.same _ _ hr11)) ?_ ?_
              · rintro i x H12 H13 hi' ⟨f12, acc, e12, ea, ta⟩ ⟨rfl, hx⟩
                obtain ⟨e, he, te⟩ := TDs.at_ (TDs.mono f12.tup _ _ tr) hx
                obtain ⟨kd, vd, h, rfl, _, _, _⟩ := R.rows e (List.mem_of_getElem? he)
                cases te with
                | @tup b zs _ hb hT =>
                cases hT with
                | @cons z1 _ _ _ t1 hT =>
                cases hT with
                | @cons z2 _ _ _ t2 hT =>
                cases hT with
                | @cons z3 _ _ _ t3 hT =>
                cases hT
                cases t3
                walk_at "st"
                have fin : ∀ w : Int, seal2 (.tuple [kd, vd, .int h]) = .tuple [kd, vd, .int w] → ∀ u, H13 u = none → ∃ acc', upd H13 u (.tup [z1, z2, V.int w]) D = some (.lst acc') ∧ acc'.length < sizeLine ∧ Fr [] H11 (upd (upd H13 u (.tup [z1, z2, V.int w])) D (.lst (acc' ++ [V.ref u]))) ∧
                    ∃ acc'', upd (upd H13 u (.tup [z1, z2, V.int w])) D (.lst (acc' ++ [V.ref u])) D = some (.lst acc'') ∧ acc''.length = i + 1 ∧ TDs (upd (upd H13 u (.tup [z1, z2, V.int w])) D (.lst (acc' ++ [V.ref u]))) acc'' ((rs.take (i + 1)).map seal2) := fun w ew u hu => by
                  have e2 := upd_old (o' := HO.tup [z1, z2, V.int w]) hu e12
                  have f2 := f12.new (o := .tup [z1, z2, V.int w]) hu
                  have gT : Tp H13 (upd (upd H13 u (.tup [z1, z2, V.int w])) D (.lst (acc ++ [.ref u]))) := ((Fr.up (ms := [D]) hu).wl e2 (.inl (by simp))).tup
                  refine ⟨acc, e2, line_lt (by omega), f2.wl e2 (.inr hD), acc ++ [.ref u], upd_same, by simp [ea], ?_⟩
                  rw [take_snoc he, List.map_append]
                  show TDs _ _ (_ ++ [seal2 _])
                  rw [ew]
                  refine TDs.snoc (TDs.mono gT _ _ ta) (.tup ?_ (.cons (TD.mono gT _ _ t1) (.cons (TD.mono gT _ _ t2) (.cons (.int _) .nil))))
                  rw [upd_ne (ne_of (H := upd H13 u (.tup [z1, z2, V.int w])) upd_same e2 (by intro z; cases z))]
                  exact upd_same
                refine iteD (fun h3 => ?_) (fun h3 => ?_)
                · have h3' : h = 3 := V.int.inj h3
                  walk_at "st"
                  intro u hu
                  exact fin 2 (by show PyData.tuple [kd, vd, .int (if h = 3 then 2 else h)] = _; rw [if_pos h3']) u hu
                · have h3' : ¬ h = 3 := fun z => h3 (by rw [z])
                  walk_at "st"
                  intro u hu
                  exact fin h (by show PyData.tuple [kd, vd, .int (if h = 3 then 2 else h)] = _; rw [if_neg h3']) u hu
              · rintro H12 ⟨f12, acc, e12, ea, ta⟩
                rw [List.take_of_length_le (by omega)] at ta
                walk_at "st"
                have A12 := A11.rowNew f12 hD e12 ta
                refine ⟨q2, s, D, _, _, _, _, _, _, _, _, _, _, _, rfl, A12, R.sealed j, ?_, ?_⟩
                · simp only [List.length_append, List.length_map, List.length_cons, List.length_nil]; omega
                · rw [List.length_map]; omega
            · walk_at "st"
              refine iteD (fun h6 => ?_) (fun h6 => ?_)
              · walk_at "st"
                intro s2 sx2 hs20 hsx20 sxs2
                refine ⟨s2, sx2, d, rfl, upd_same, fun H11 S11 f11 => ⟨rfl, ?_⟩⟩
                have F11 := made hs20 hsx20 sxs2 f11
                walk_at "st"
                exact ⟨q, s2, r, ls, ps, rs, _, _, _, _, _, _, _, _, rfl, A10.stored F11 hs20 S11, R, by omega, by omega⟩
              · walk_at "st"
                obtain ⟨dx10, hd10⟩ := A10.disk.ok
                obtain ⟨xq10, hq10, tq10⟩ := A10.disk.pen
                walk_at "st"
                refine ⟨0, d, l, q, ls, ps, rfl, A10.disk, ?_⟩
                walk_at "st"
                intro D hD
                have nD := A10.pot.ne hD
                have apD := A10.apart hD
                refine lc_it walk_range (fun i H' => ∃ hs : List Int, H' D = some (.lst (hs.map V.int)) ∧ Fr [p, g] H10 H' ∧ Pot H' p g m ∧ hs.length = i ∧ ∀ h ∈ hs, 0 ≤ h ∧ h ≤ 2) ⟨[], upd_same, Fr.up hD, A10.pot.up hD, rfl, (fun _ h => nomatch h)⟩ (fun _ _ _ _ => trivial) ?_ ?_
                · rintro j x H11 H12 hj ⟨hs, e11, f11, hP11, lh, hb⟩ ⟨rfl, rfl⟩
                  walk_at "st"
                  refine ⟨p, g, m, _, rfl, hP11, by omega, by omega, fun H13 n n0 n1 hP13 f13 => ?_⟩
                  have e13 := f13.keep D _ (by simpa using ⟨nD.1, nD.2.1⟩) e11
                  refine ⟨_, e13, line_lt (by rw [List.length_map]; omega), hs ++ [n], ?_, (f11.trans f13).wl e13 (.inr hD), hP13.wr e13 nD, by simp [lh], fun h hh => ?_⟩
                  · rw [upd_same, List.map_append]; rfl
                  · rcases List.mem_append.mp hh with hh | hh
                    · exact hb h hh
                    · rw [List.mem_singleton.mp hh]; omega
                · rintro H11 ⟨hs, e11, f11, hP11, lh, hb⟩
                  have A11 := A10.drawn f11 hP11
                  obtain ⟨dx11, hd11⟩ := A11.disk.ok
                  have lhs : hs.length = ps.length := by simpa using lh
                  walk_at "st"
                  refine st_tupOf (SqL.of e11) fun t ht => ?_
                  have g11 : Fr [] H11 (upd H11 t (.tup (hs.map V.int))) := Fr.up ht
                  have A11' := A11.keep g11
                  have hd11' := g11.same _ _ hd11
                  walk_at "st"
                  refine ⟨0, d, l, q, t, ls, ps, hs, rfl, A11'.disk, upd_same, lhs, hb, by omega, by omega, R.pr, fun H12 q2 hq2 D12 f12 => ?_⟩
                  have A12 := A11'.disked (f12.mono (by simp)) (.inr hq2) D12
                  have e12 := f12.keep D _ (by simpa using ⟨(apD d (by simp)).symm, (apD l (by simp)).symm⟩) (g11.same _ _ e11)
                  walk_at "st"
                  intro D2 hD2
                  obtain ⟨xr, hr12, tr⟩ := A12.row
                  have lr := tr.length
                  have f13 : Fr [] H12 (upd H12 D2 (.lst (hs.map V.int))) := Fr.up hD2
                  have hr13 := f13.same _ _ hr12
                  have tr13 := TDs.mono f13.tup _ _ tr
                  have eD2 : (upd H12 D2 (.lst (hs.map V.int))) D2 = some (.lst (hs.map V.int)) := upd_same
                  generalize upd H12 D2 (.lst (hs.map V.int)) = H13 at f13 hr13 tr13 eD2 ⊢
                  have rD2 : r ≠ D2 := ne_of_none hr12 hD2
                  walk_at "st"
                  intro Dn hDn
                  have nDn : D2 ≠ Dn := ne_of_none eD2 hDn
                  refine lc_it (walk_list (xs := xr)) (fun i H' => ∃ acc hs' accd, Fr [D2] H13 H' ∧ H' Dn = some (.lst acc) ∧ acc.length = i ∧ H' D2 = some (.lst (List.map V.int hs')) ∧ TDs H' acc accd ∧ accd ++ settle (rs.drop i) hs' = settle rs hs ∧ need (rs.drop i) = hs'.length)
                    ⟨[], hs, [], Fr.up hDn, upd_same, rfl, by rw [upd_ne nDn]; exact eD2, .nil, rfl, by rw [List.drop_zero, R.need, lhs]⟩ (fun i H' _ ⟨_, _, _, h, _⟩ => SqL.of (h.keep _ _ (by simpa using rD2) hr13)) ?_ ?_
                  · rintro j x H14 H15 hj ⟨acc, hs', accd, f14, e14, la, eD, ta, es, en⟩ ⟨rfl, hx⟩
                    obtain ⟨e, he, te⟩ := TDs.at_ (TDs.mono f14.tup _ _ tr13) hx
                    obtain ⟨kd, vd, h, rfl, _, _, _⟩ := R.rows e (List.mem_of_getElem? he)
                    obtain ⟨hjl, hje⟩ := List.getElem?_eq_some_iff.mp he
                    rw [List.drop_eq_getElem_cons hjl, hje] at es en
                    rw [need_cons] at en
                    rw [settle_cons] at es
                    cases te with
                    | @tup b zs _ hb' hT =>
                    cases hT with
                    | @cons z1 _ _ _ t1 hT =>
                    cases hT with
                    | @cons z2 _ _ _ t2 hT =>
                    cases hT with
                    | @cons z3 _ _ _ t3 hT =>
                    cases hT
                    cases t3
                    walk_at "st"
                    refine iteD (fun h3 => ?_) (fun h3 => ?_)
                    · have h3' : h = 3 := V.int.inj h3
                      rw [if_pos h3'] at es en
                      obtain ⟨w, tl, rfl⟩ : ∃ w tl, hs' = w :: tl := by
                        cases hs' with
                        | nil => exact absurd en (by simp)
                        | cons w tl => exact ⟨w, tl, rfl⟩
                      rw [List.map_cons] at eD
                      walk_at "st"
                      intro u hu
                      have e15 : upd H15 D2 (.lst ((V.int w :: tl.map V.int).eraseIdx 0)) Dn = some (.lst acc) := by rw [upd_ne nDn.symm]; exact e14
                      have e16 := upd_old (o' := HO.tup [z1, z2, V.int w]) hu e15
                      have f15 := (f14.wl (o' := .lst ((V.int w :: tl.map V.int).eraseIdx 0)) eD (.inl (by simp))).new (o := .tup [z1, z2, V.int w]) hu
                      have gT : Tp H15 (upd (upd (upd H15 D2 (.lst ((V.int w :: tl.map V.int).eraseIdx 0))) u (.tup [z1, z2, V.int w])) Dn (.lst (acc ++ [.ref u]))) := ((((Fr.refl (ms := [D2, Dn]) H15).wl eD (.inl (by simp))).new (o := .tup [z1, z2, V.int w]) hu).wl e16 (.inl (by simp))).tup
                      have uDn : u ≠ Dn := (ne_of_none e15 hu).symm
                      have uD2 : u ≠ D2 := fresh_ne hu
                      refine ⟨acc, e16, line_lt (by omega), acc ++ [.ref u], tl, accd ++ [.tuple [kd, vd, .int w]], f15.wl e16 (.inr hDn), upd_same, by simp [la], ?_, ?_, ?_, ?_⟩
                      · rw [upd_ne nDn, upd_ne uD2.symm, upd_same]; rfl
                      · refine TDs.snoc (TDs.mono gT _ _ ta) (.tup ?_ (.cons (TD.mono gT _ _ t1) (.cons (TD.mono gT _ _ t2) (.cons (.int _) .nil))))
                        rw [upd_ne uDn]
                        exact upd_same
                      · rw [← es, List.append_assoc]; rfl
                      · simpa using en
                    · have h3' : ¬ h = 3 := fun z => h3 (by rw [z])
                      rw [if_neg h3'] at es en
                      walk_at "st"
                      intro u hu
                      have e16 := upd_old (o' := HO.tup [z1, z2, V.int h]) hu e14
                      have f15 := f14.new (o := .tup [z1, z2, V.int h]) hu
                      have gT : Tp H15 (upd (upd H15 u (.tup [z1, z2, V.int h])) Dn (.lst (acc ++ [.ref u]))) := (((Fr.up (ms := [Dn]) (o := .tup [z1, z2, V.int h]) hu)).wl e16 (.inl (by simp))).tup
                      have uDn : u ≠ Dn := (ne_of_none e14 hu).symm
                      have uD2 : u ≠ D2 := (ne_of_none eD hu).symm
                      refine ⟨acc, e16, line_lt (by omega), acc ++ [.ref u], hs', accd ++ [.tuple [kd, vd, .int h]], f15.wl e16 (.inr hDn), upd_same, by simp [la], ?_, ?_, ?_, en⟩
                      · rw [upd_ne nDn, upd_ne uD2.symm]; exact eD
                      · refine TDs.snoc (TDs.mono gT _ _ ta) (.tup ?_ (.cons (TD.mono gT _ _ t1) (.cons (TD.mono gT _ _ t2) (.cons (.int _) .nil))))
                        rw [upd_ne uDn]
                        exact upd_same
                      · rw [← es, List.append_assoc]; rfl
                  · rintro H14 ⟨acc, hs', accd, f14, e14, la, eD, ta, es, en⟩
                    rw [List.drop_of_length_le (by omega)] at es
                    have es : accd = settle rs hs := by
                      rw [← es]
                      show _ = accd ++ []
                      rw [List.append_nil]
                    have F14 : Fr [] H12 H14 := ((f13.mono (ns := [] ++ [D2]) (by simp)).trans (f14.mono (by simp))).cut fun b hb => by rw [List.mem_singleton.mp hb]; exact hD2
                    have A14 := A12.rowNew F14 (f13.free hDn) e14 ta
                    have lacc := ta.length
                    walk_at "st"
                    intro s2 sx2 hs20 hsx20 sxs2
                    refine ⟨s2, sx2, d, rfl, upd_same, fun H15 S15 f15 => ⟨rfl, ?_⟩⟩
                    have F15 := made hs20 hsx20 sxs2 f15
                    walk_at "st"
                    have hfl := fallen_len (ps := ps) (hs := hs)
                    refine ⟨q2, s2, Dn, ls ++ fallen ps hs, [], accd, _, _, _, _, _, _, _, _, rfl, A14.stored F15 hs20 S15, ?_, ?_, ?_⟩
                    · rw [es]; exact R.fall lhs hb
                    · rw [List.length_append]; simp; omega
                    · omega
        · rintro σ' H11 ⟨q, s, r, ls, ps, rs, o1, o2, o3, o4, o5, o6, o7, o8, rfl, A11, R11, hsz11, hrs11⟩
          obtain ⟨sx11, hs11⟩ := A11.store.ok
          have gd := good_tab (wholes_pr R11.tr R11.pr)
          walk_at "st"
          refine ⟨s, d, l, q, ls, ps, rfl, A11.store, A11.disk, by omega, R11.tr, R11.pr, fun H12 T1 hT1 tab1 f12 => ?_⟩
          have A12 := A11.keep f12
          obtain ⟨xr, hr12, tr⟩ := A12.row
          walk_at "st"
          refine ⟨r, xr, rs, rfl, hr12, tr, by omega, R11.rows, fun H13 T2 hT2 tab2 f13 => ?_⟩
          rw [← R11.tab] at tab2
          have tab13 := tab1.keep f13 List.not_mem_nil
          have A13 := A12.keep f13
          refine ⟨sameT_eq tab13 tab2 gd, ?_⟩
          walk_at "st"
          intro s2 sx2 hs20 hsx20 sxs2
          refine ⟨s2, sx2, d, rfl, upd_same, fun H14 S14 f14 => ⟨rfl, ?_⟩⟩
          have F14 := made hs20 hsx20 sxs2 f14
          have A14 := A13.keep F14
          obtain ⟨sx14, hs14⟩ := S14.ok
          walk_at "st"
          refine ⟨s2, d, l, q, ls, ps, rfl, S14, A14.disk, by omega, R11.tr, R11.pr, fun H15 T3 hT3 tab3 f15 => ?_⟩
          have tab15 := (tab13.keep F14 List.not_mem_nil).keep f15 List.not_mem_nil
          have A15 := A14.keep f15
          walk_at "st"
          refine ⟨sameT_eq tab3 tab15 gd, ?_⟩
          walk_at "st"
          intro t ht
          have F15 : Fr [] H11 H15 := ((f12.trans f13).trans F14).trans f15
          obtain ⟨kvs, hkv, kd⟩ := tab15.ok
          have hkv' := upd_old (o' := HO.tup [V.str "own"]) ht hkv
          have hkey : upd H15 t (HO.tup [V.str "own"]) t = some (.tup (([Sum.inr "own"] : List Key).map kV)) := upd_same
          have lk := kd.length
          have hmk : (tab (wholes ls ps)).length ≤ 5000 := by
            have : ∀ (es : List PyData) (m : Dd), (es.foldl putE m).length ≤ m.length + es.length := by
              intro es
              induction es with
              | nil => intro m; exact Nat.le_refl _
              | cons e es ih =>
                intro m
                have := ih (putE m e)
                have := putE_len m e
                rw [List.foldl_cons, List.length_cons]
                omega
            have h1 := this (wholes ls ps) []
            have h2 := wholes_len ls ps
            show (List.foldl putE [] (wholes ls ps)).length ≤ 5000
            rw [List.length_nil] at h1
            omega
          refine st_putT hkv' hkey (line_lt (by omega)) ?_
          have F16 : Fr [] H11 (upd (upd H15 t (HO.tup [V.str "own"])) T1 (.dT (putK kvs [Sum.inr "own"] (V.int 0)))) := (F15.new ht).wr hkv' trivial (.inr hT1)
          have A16 := A11.keep F16
          obtain ⟨sx16, hs16⟩ := A16.store.ok
          walk_at "st"
          refine ⟨s, d, l, q, ls, ps, rfl, A16.store, A16.disk, by omega, R11.tr, R11.pr, fun H17 T4 hT4 tab4 f17 => ?_⟩
          have A17 := A16.keep f17
          obtain ⟨xr17, hr17, tr17⟩ := A17.row
          walk_at "st"
          refine ⟨r, xr17, rs, rfl, hr17, tr17, by omega, R11.rows, fun H18 T5 hT5 tab5 f18 => ?_⟩
          rw [← R11.tab] at tab5
          refine ⟨sameT_eq (tab4.keep f18 List.not_mem_nil) tab5 gd, ?_⟩
          walk_at "st"
          exact ⟨q, s, r, ls, ps, rs, _, _, _, _, _, _, _, _, rfl, A17.keep f18, R11, hsz11, hrs11⟩
      · rintro σ H8 ⟨q, s, r, ls, ps, rs, o1, o2, o3, o4, o5, o6, o7, o8, rfl, A, R, hsz, hrs⟩
        walk_at "st"
        exact k _
end
end K40

namespace K40
open PySem PySem.Spec PyProof.Rows L2 Hq
theorem all_mk {l : PySem.W.OpenLaw} {w : World} {K : PySem.W.Frag} {h : Heap} {mg : Str → Option Value} {fa : Addr} (X : K.In h) (G : h.Ns mainGlobals mg) (hfa : mg "law" = some (.ref fa))
    {C_Disk : Addr}
    {C_Store : Addr}
    {C_Exchange : Addr}
    {f_is_integer : Addr} {od_is_integer an_is_integer : Option Addr} {sl_is_integer : Array (Option Value)} {oc_is_integer kV_is_integer dc_is_integer pm_is_integer cd_is_integer ct_is_integer : Value}
    {f_is_between : Addr} {od_is_between an_is_between : Option Addr} {sl_is_between : Array (Option Value)} {oc_is_between kV_is_between dc_is_between pm_is_between cd_is_between ct_is_between : Value}
    {f_is_number : Addr} {od_is_number an_is_number : Option Addr} {sl_is_number : Array (Option Value)} {oc_is_number kV_is_number dc_is_number pm_is_number cd_is_number ct_is_number : Value}
    {f_is_tuple : Addr} {od_is_tuple an_is_tuple : Option Addr} {sl_is_tuple : Array (Option Value)} {oc_is_tuple kV_is_tuple dc_is_tuple pm_is_tuple cd_is_tuple ct_is_tuple : Value}
    {f_is_key : Addr} {od_is_key an_is_key : Option Addr} {sl_is_key : Array (Option Value)} {oc_is_key kV_is_key dc_is_key pm_is_key cd_is_key ct_is_key : Value}
    {f_is_kept : Addr} {od_is_kept an_is_kept : Option Addr} {sl_is_kept : Array (Option Value)} {oc_is_kept kV_is_kept dc_is_kept pm_is_kept cd_is_kept ct_is_kept : Value}
    {f_Disk___init__ : Addr} {od_Disk___init__ an_Disk___init__ : Option Addr} {sl_Disk___init__ : Array (Option Value)} {oc_Disk___init__ kV_Disk___init__ dc_Disk___init__ pm_Disk___init__ cd_Disk___init__ ct_Disk___init__ : Value}
    {f_Disk_write : Addr} {od_Disk_write an_Disk_write : Option Addr} {sl_Disk_write : Array (Option Value)} {oc_Disk_write kV_Disk_write dc_Disk_write pm_Disk_write cd_Disk_write ct_Disk_write : Value}
    {f_Disk_sync : Addr} {od_Disk_sync an_Disk_sync : Option Addr} {sl_Disk_sync : Array (Option Value)} {oc_Disk_sync kV_Disk_sync dc_Disk_sync pm_Disk_sync cd_Disk_sync ct_Disk_sync : Value}
    {f_Disk_fall : Addr} {od_Disk_fall an_Disk_fall : Option Addr} {sl_Disk_fall : Array (Option Value)} {oc_Disk_fall kV_Disk_fall dc_Disk_fall pm_Disk_fall cd_Disk_fall ct_Disk_fall : Value}
    {f_Disk_waiting : Addr} {od_Disk_waiting an_Disk_waiting : Option Addr} {sl_Disk_waiting : Array (Option Value)} {oc_Disk_waiting kV_Disk_waiting dc_Disk_waiting pm_Disk_waiting cd_Disk_waiting ct_Disk_waiting : Value}
    {f_Disk_wholes : Addr} {od_Disk_wholes an_Disk_wholes : Option Addr} {sl_Disk_wholes : Array (Option Value)} {oc_Disk_wholes kV_Disk_wholes dc_Disk_wholes pm_Disk_wholes cd_Disk_wholes ct_Disk_wholes : Value}
    {f_Store___init__ : Addr} {od_Store___init__ an_Store___init__ : Option Addr} {sl_Store___init__ : Array (Option Value)} {oc_Store___init__ kV_Store___init__ dc_Store___init__ pm_Store___init__ cd_Store___init__ ct_Store___init__ : Value}
    {f_Store_check : Addr} {od_Store_check an_Store_check : Option Addr} {sl_Store_check : Array (Option Value)} {oc_Store_check kV_Store_check dc_Store_check pm_Store_check cd_Store_check ct_Store_check : Value}
    {f_Store_keep : Addr} {od_Store_keep an_Store_keep : Option Addr} {sl_Store_keep : Array (Option Value)} {oc_Store_keep kV_Store_keep dc_Store_keep pm_Store_keep cd_Store_keep ct_Store_keep : Value}
    {f_Store_seal : Addr} {od_Store_seal an_Store_seal : Option Addr} {sl_Store_seal : Array (Option Value)} {oc_Store_seal kV_Store_seal dc_Store_seal pm_Store_seal cd_Store_seal ct_Store_seal : Value}
    {f_Store_found : Addr} {od_Store_found an_Store_found : Option Addr} {sl_Store_found : Array (Option Value)} {oc_Store_found kV_Store_found dc_Store_found pm_Store_found cd_Store_found ct_Store_found : Value}
    {f_law_pot : Addr} {od_law_pot an_law_pot : Option Addr} {sl_law_pot : Array (Option Value)} {oc_law_pot kV_law_pot dc_law_pot pm_law_pot cd_law_pot ct_law_pot : Value}
    {f_law_draw : Addr} {od_law_draw an_law_draw : Option Addr} {sl_law_draw : Array (Option Value)} {oc_law_draw kV_law_draw dc_law_draw pm_law_draw cd_law_draw ct_law_draw : Value}
    {f_law_any : Addr} {od_law_any an_law_any : Option Addr} {sl_law_any : Array (Option Value)} {oc_law_any kV_law_any dc_law_any pm_law_any cd_law_any ct_law_any : Value}
    {f_law_key : Addr} {od_law_key an_law_key : Option Addr} {sl_law_key : Array (Option Value)} {oc_law_key kV_law_key dc_law_key pm_law_key cd_law_key ct_law_key : Value}
    {f_law_thing : Addr} {od_law_thing an_law_thing : Option Addr} {sl_law_thing : Array (Option Value)} {oc_law_thing kV_law_thing dc_law_thing pm_law_thing cd_law_thing ct_law_thing : Value}
    {f_law_found : Addr} {od_law_found an_law_found : Option Addr} {sl_law_found : Array (Option Value)} {oc_law_found kV_law_found dc_law_found pm_law_found cd_law_found ct_law_found : Value}
    {f_law : Addr} {od_law an_law : Option Addr} {sl_law : Array (Option Value)} {oc_law kV_law dc_law pm_law cd_law ct_law : Value}
    {t_LOST : Tok}
    {t_WHOLE : Tok}
    {t_SEAL : Tok}
    (aC_Disk : PySem.W.nsIn K mainGlobals "Disk" = some (some (.ref C_Disk)))
    (pg_Disk : PySem.W.plainGet K C_Disk Str.empty = true)
    (hd_Disk : PySem.W.hasDictIn K C_Disk = true)
    (po_Disk : PySem.W.plainOver K C_Disk = true)
    (sa_Disk : PySem.W.findIn K (.ref C_Disk) "__setattr__" = some (some (.builtin "object.__setattr__")))
    (mk_Disk : PySem.W.makesIn K C_Disk = true)
    (kc_Disk : PySem.W.keepIn K (.ref C_Disk) = true)
    (aC_Store : PySem.W.nsIn K mainGlobals "Store" = some (some (.ref C_Store)))
    (pg_Store : PySem.W.plainGet K C_Store Str.empty = true)
    (hd_Store : PySem.W.hasDictIn K C_Store = true)
    (po_Store : PySem.W.plainOver K C_Store = true)
    (sa_Store : PySem.W.findIn K (.ref C_Store) "__setattr__" = some (some (.builtin "object.__setattr__")))
    (mk_Store : PySem.W.makesIn K C_Store = true)
    (kc_Store : PySem.W.keepIn K (.ref C_Store) = true)
    (aC_Exchange : PySem.W.nsIn K mainGlobals "Exchange" = some (some (.ref C_Exchange)))
    (a_is_integer : PySem.W.nsIn K mainGlobals "is_integer" = some (some (.ref f_is_integer)))
    (l_is_integer : K.lookup f_is_integer = some ⟨oc_is_integer, od_is_integer, .func (PySem.W.fnOf "is_integer" "is_integer" (defArgs s_is_integer) (defBody s_is_integer) (defScope s_is_integer) .none kV_is_integer dc_is_integer pm_is_integer an_is_integer cd_is_integer ct_is_integer), sl_is_integer⟩)
    (c_is_integer : PySem.W.codeIn K cd_is_integer "is_integer" = true)
    (k_is_integer : PySem.W.keepIn K (.ref f_is_integer) = true)
    (a_is_between : PySem.W.nsIn K mainGlobals "is_between" = some (some (.ref f_is_between)))
    (l_is_between : K.lookup f_is_between = some ⟨oc_is_between, od_is_between, .func (PySem.W.fnOf "is_between" "is_between" (defArgs s_is_between) (defBody s_is_between) (defScope s_is_between) .none kV_is_between dc_is_between pm_is_between an_is_between cd_is_between ct_is_between), sl_is_between⟩)
    (c_is_between : PySem.W.codeIn K cd_is_between "is_between" = true)
    (k_is_between : PySem.W.keepIn K (.ref f_is_between) = true)
    (a_is_number : PySem.W.nsIn K mainGlobals "is_number" = some (some (.ref f_is_number)))
    (l_is_number : K.lookup f_is_number = some ⟨oc_is_number, od_is_number, .func (PySem.W.fnOf "is_number" "is_number" (defArgs s_is_number) (defBody s_is_number) (defScope s_is_number) .none kV_is_number dc_is_number pm_is_number an_is_number cd_is_number ct_is_number), sl_is_number⟩)
    (c_is_number : PySem.W.codeIn K cd_is_number "is_number" = true)
    (k_is_number : PySem.W.keepIn K (.ref f_is_number) = true)
    (a_is_tuple : PySem.W.nsIn K mainGlobals "is_tuple" = some (some (.ref f_is_tuple)))
    (l_is_tuple : K.lookup f_is_tuple = some ⟨oc_is_tuple, od_is_tuple, .func (PySem.W.fnOf "is_tuple" "is_tuple" (defArgs s_is_tuple) (defBody s_is_tuple) (defScope s_is_tuple) .none kV_is_tuple dc_is_tuple pm_is_tuple an_is_tuple cd_is_tuple ct_is_tuple), sl_is_tuple⟩)
    (c_is_tuple : PySem.W.codeIn K cd_is_tuple "is_tuple" = true)
    (k_is_tuple : PySem.W.keepIn K (.ref f_is_tuple) = true)
    (a_is_key : PySem.W.nsIn K mainGlobals "is_key" = some (some (.ref f_is_key)))
    (l_is_key : K.lookup f_is_key = some ⟨oc_is_key, od_is_key, .func (PySem.W.fnOf "is_key" "is_key" (defArgs s_is_key) (defBody s_is_key) (defScope s_is_key) .none kV_is_key dc_is_key pm_is_key an_is_key cd_is_key ct_is_key), sl_is_key⟩)
    (c_is_key : PySem.W.codeIn K cd_is_key "is_key" = true)
    (k_is_key : PySem.W.keepIn K (.ref f_is_key) = true)
    (a_is_kept : PySem.W.nsIn K mainGlobals "is_kept" = some (some (.ref f_is_kept)))
    (l_is_kept : K.lookup f_is_kept = some ⟨oc_is_kept, od_is_kept, .func (PySem.W.fnOf "is_kept" "is_kept" (defArgs s_is_kept) (defBody s_is_kept) (defScope s_is_kept) .none kV_is_kept dc_is_kept pm_is_kept an_is_kept cd_is_kept ct_is_kept), sl_is_kept⟩)
    (c_is_kept : PySem.W.codeIn K cd_is_kept "is_kept" = true)
    (k_is_kept : PySem.W.keepIn K (.ref f_is_kept) = true)
    (a_Disk___init__ : PySem.W.findIn K (.ref C_Disk) "__init__" = some (some (.ref f_Disk___init__)))
    (i_Disk___init__ : PySem.W.isFn K (.ref f_Disk___init__) = true)
    (l_Disk___init__ : K.lookup f_Disk___init__ = some ⟨oc_Disk___init__, od_Disk___init__, .func (PySem.W.fnOf "__init__" "Disk.__init__" (defArgs s_Disk___init__) (defBody s_Disk___init__) (defScope s_Disk___init__) .none kV_Disk___init__ dc_Disk___init__ pm_Disk___init__ an_Disk___init__ cd_Disk___init__ ct_Disk___init__), sl_Disk___init__⟩)
    (c_Disk___init__ : PySem.W.codeIn K cd_Disk___init__ "Disk.__init__" = true)
    (k_Disk___init__ : PySem.W.keepIn K (.ref f_Disk___init__) = true)
    (a_Disk_write : PySem.W.findIn K (.ref C_Disk) "write" = some (some (.ref f_Disk_write)))
    (i_Disk_write : PySem.W.isFn K (.ref f_Disk_write) = true)
    (l_Disk_write : K.lookup f_Disk_write = some ⟨oc_Disk_write, od_Disk_write, .func (PySem.W.fnOf "write" "Disk.write" (defArgs s_Disk_write) (defBody s_Disk_write) (defScope s_Disk_write) .none kV_Disk_write dc_Disk_write pm_Disk_write an_Disk_write cd_Disk_write ct_Disk_write), sl_Disk_write⟩)
    (c_Disk_write : PySem.W.codeIn K cd_Disk_write "Disk.write" = true)
    (k_Disk_write : PySem.W.keepIn K (.ref f_Disk_write) = true)
    (a_Disk_sync : PySem.W.findIn K (.ref C_Disk) "sync" = some (some (.ref f_Disk_sync)))
    (i_Disk_sync : PySem.W.isFn K (.ref f_Disk_sync) = true)
    (l_Disk_sync : K.lookup f_Disk_sync = some ⟨oc_Disk_sync, od_Disk_sync, .func (PySem.W.fnOf "sync" "Disk.sync" (defArgs s_Disk_sync) (defBody s_Disk_sync) (defScope s_Disk_sync) .none kV_Disk_sync dc_Disk_sync pm_Disk_sync an_Disk_sync cd_Disk_sync ct_Disk_sync), sl_Disk_sync⟩)
    (c_Disk_sync : PySem.W.codeIn K cd_Disk_sync "Disk.sync" = true)
    (k_Disk_sync : PySem.W.keepIn K (.ref f_Disk_sync) = true)
    (a_Disk_fall : PySem.W.findIn K (.ref C_Disk) "fall" = some (some (.ref f_Disk_fall)))
    (i_Disk_fall : PySem.W.isFn K (.ref f_Disk_fall) = true)
    (l_Disk_fall : K.lookup f_Disk_fall = some ⟨oc_Disk_fall, od_Disk_fall, .func (PySem.W.fnOf "fall" "Disk.fall" (defArgs s_Disk_fall) (defBody s_Disk_fall) (defScope s_Disk_fall) .none kV_Disk_fall dc_Disk_fall pm_Disk_fall an_Disk_fall cd_Disk_fall ct_Disk_fall), sl_Disk_fall⟩)
    (c_Disk_fall : PySem.W.codeIn K cd_Disk_fall "Disk.fall" = true)
    (k_Disk_fall : PySem.W.keepIn K (.ref f_Disk_fall) = true)
    (a_Disk_waiting : PySem.W.findIn K (.ref C_Disk) "waiting" = some (some (.ref f_Disk_waiting)))
    (i_Disk_waiting : PySem.W.isFn K (.ref f_Disk_waiting) = true)
    (l_Disk_waiting : K.lookup f_Disk_waiting = some ⟨oc_Disk_waiting, od_Disk_waiting, .func (PySem.W.fnOf "waiting" "Disk.waiting" (defArgs s_Disk_waiting) (defBody s_Disk_waiting) (defScope s_Disk_waiting) .none kV_Disk_waiting dc_Disk_waiting pm_Disk_waiting an_Disk_waiting cd_Disk_waiting ct_Disk_waiting), sl_Disk_waiting⟩)
    (c_Disk_waiting : PySem.W.codeIn K cd_Disk_waiting "Disk.waiting" = true)
    (k_Disk_waiting : PySem.W.keepIn K (.ref f_Disk_waiting) = true)
    (a_Disk_wholes : PySem.W.findIn K (.ref C_Disk) "wholes" = some (some (.ref f_Disk_wholes)))
    (i_Disk_wholes : PySem.W.isFn K (.ref f_Disk_wholes) = true)
    (l_Disk_wholes : K.lookup f_Disk_wholes = some ⟨oc_Disk_wholes, od_Disk_wholes, .func (PySem.W.fnOf "wholes" "Disk.wholes" (defArgs s_Disk_wholes) (defBody s_Disk_wholes) (defScope s_Disk_wholes) .none kV_Disk_wholes dc_Disk_wholes pm_Disk_wholes an_Disk_wholes cd_Disk_wholes ct_Disk_wholes), sl_Disk_wholes⟩)
    (c_Disk_wholes : PySem.W.codeIn K cd_Disk_wholes "Disk.wholes" = true)
    (k_Disk_wholes : PySem.W.keepIn K (.ref f_Disk_wholes) = true)
    (a_Store___init__ : PySem.W.findIn K (.ref C_Store) "__init__" = some (some (.ref f_Store___init__)))
    (i_Store___init__ : PySem.W.isFn K (.ref f_Store___init__) = true)
    (l_Store___init__ : K.lookup f_Store___init__ = some ⟨oc_Store___init__, od_Store___init__, .func (PySem.W.fnOf "__init__" "Store.__init__" (defArgs s_Store___init__) (defBody s_Store___init__) (defScope s_Store___init__) .none kV_Store___init__ dc_Store___init__ pm_Store___init__ an_Store___init__ cd_Store___init__ ct_Store___init__), sl_Store___init__⟩)
    (c_Store___init__ : PySem.W.codeIn K cd_Store___init__ "Store.__init__" = true)
    (k_Store___init__ : PySem.W.keepIn K (.ref f_Store___init__) = true)
    (a_Store_check : PySem.W.findIn K (.ref C_Store) "check" = some (some (.ref f_Store_check)))
    (i_Store_check : PySem.W.isFn K (.ref f_Store_check) = true)
    (l_Store_check : K.lookup f_Store_check = some ⟨oc_Store_check, od_Store_check, .func (PySem.W.fnOf "check" "Store.check" (defArgs s_Store_check) (defBody s_Store_check) (defScope s_Store_check) .none kV_Store_check dc_Store_check pm_Store_check an_Store_check cd_Store_check ct_Store_check), sl_Store_check⟩)
    (c_Store_check : PySem.W.codeIn K cd_Store_check "Store.check" = true)
    (k_Store_check : PySem.W.keepIn K (.ref f_Store_check) = true)
    (a_Store_keep : PySem.W.findIn K (.ref C_Store) "keep" = some (some (.ref f_Store_keep)))
    (i_Store_keep : PySem.W.isFn K (.ref f_Store_keep) = true)
    (l_Store_keep : K.lookup f_Store_keep = some ⟨oc_Store_keep, od_Store_keep, .func (PySem.W.fnOf "keep" "Store.keep" (defArgs s_Store_keep) (defBody s_Store_keep) (defScope s_Store_keep) .none kV_Store_keep dc_Store_keep pm_Store_keep an_Store_keep cd_Store_keep ct_Store_keep), sl_Store_keep⟩)
    (c_Store_keep : PySem.W.codeIn K cd_Store_keep "Store.keep" = true)
    (k_Store_keep : PySem.W.keepIn K (.ref f_Store_keep) = true)
    (a_Store_seal : PySem.W.findIn K (.ref C_Store) "seal" = some (some (.ref f_Store_seal)))
    (i_Store_seal : PySem.W.isFn K (.ref f_Store_seal) = true)
    (l_Store_seal : K.lookup f_Store_seal = some ⟨oc_Store_seal, od_Store_seal, .func (PySem.W.fnOf "seal" "Store.seal" (defArgs s_Store_seal) (defBody s_Store_seal) (defScope s_Store_seal) .none kV_Store_seal dc_Store_seal pm_Store_seal an_Store_seal cd_Store_seal ct_Store_seal), sl_Store_seal⟩)
    (c_Store_seal : PySem.W.codeIn K cd_Store_seal "Store.seal" = true)
    (k_Store_seal : PySem.W.keepIn K (.ref f_Store_seal) = true)
    (a_Store_found : PySem.W.findIn K (.ref C_Store) "found" = some (some (.ref f_Store_found)))
    (i_Store_found : PySem.W.isFn K (.ref f_Store_found) = true)
    (l_Store_found : K.lookup f_Store_found = some ⟨oc_Store_found, od_Store_found, .func (PySem.W.fnOf "found" "Store.found" (defArgs s_Store_found) (defBody s_Store_found) (defScope s_Store_found) .none kV_Store_found dc_Store_found pm_Store_found an_Store_found cd_Store_found ct_Store_found), sl_Store_found⟩)
    (c_Store_found : PySem.W.codeIn K cd_Store_found "Store.found" = true)
    (k_Store_found : PySem.W.keepIn K (.ref f_Store_found) = true)
    (a_law_pot : PySem.W.nsIn K mainGlobals "_law_pot" = some (some (.ref f_law_pot)))
    (l_law_pot : K.lookup f_law_pot = some ⟨oc_law_pot, od_law_pot, .func (PySem.W.fnOf "_law_pot" "_law_pot" (defArgs s_law_pot) (defBody s_law_pot) (defScope s_law_pot) .none kV_law_pot dc_law_pot pm_law_pot an_law_pot cd_law_pot ct_law_pot), sl_law_pot⟩)
    (c_law_pot : PySem.W.codeIn K cd_law_pot "_law_pot" = true)
    (k_law_pot : PySem.W.keepIn K (.ref f_law_pot) = true)
    (a_law_draw : PySem.W.nsIn K mainGlobals "_law_draw" = some (some (.ref f_law_draw)))
    (l_law_draw : K.lookup f_law_draw = some ⟨oc_law_draw, od_law_draw, .func (PySem.W.fnOf "_law_draw" "_law_draw" (defArgs s_law_draw) (defBody s_law_draw) (defScope s_law_draw) .none kV_law_draw dc_law_draw pm_law_draw an_law_draw cd_law_draw ct_law_draw), sl_law_draw⟩)
    (c_law_draw : PySem.W.codeIn K cd_law_draw "_law_draw" = true)
    (k_law_draw : PySem.W.keepIn K (.ref f_law_draw) = true)
    (a_law_any : PySem.W.nsIn K mainGlobals "_law_any" = some (some (.ref f_law_any)))
    (l_law_any : K.lookup f_law_any = some ⟨oc_law_any, od_law_any, .func (PySem.W.fnOf "_law_any" "_law_any" (defArgs s_law_any) (defBody s_law_any) (defScope s_law_any) .none kV_law_any dc_law_any pm_law_any an_law_any cd_law_any ct_law_any), sl_law_any⟩)
    (c_law_any : PySem.W.codeIn K cd_law_any "_law_any" = true)
    (k_law_any : PySem.W.keepIn K (.ref f_law_any) = true)
    (a_law_key : PySem.W.nsIn K mainGlobals "_law_key" = some (some (.ref f_law_key)))
    (l_law_key : K.lookup f_law_key = some ⟨oc_law_key, od_law_key, .func (PySem.W.fnOf "_law_key" "_law_key" (defArgs s_law_key) (defBody s_law_key) (defScope s_law_key) .none kV_law_key dc_law_key pm_law_key an_law_key cd_law_key ct_law_key), sl_law_key⟩)
    (c_law_key : PySem.W.codeIn K cd_law_key "_law_key" = true)
    (k_law_key : PySem.W.keepIn K (.ref f_law_key) = true)
    (a_law_thing : PySem.W.nsIn K mainGlobals "_law_thing" = some (some (.ref f_law_thing)))
    (l_law_thing : K.lookup f_law_thing = some ⟨oc_law_thing, od_law_thing, .func (PySem.W.fnOf "_law_thing" "_law_thing" (defArgs s_law_thing) (defBody s_law_thing) (defScope s_law_thing) .none kV_law_thing dc_law_thing pm_law_thing an_law_thing cd_law_thing ct_law_thing), sl_law_thing⟩)
    (c_law_thing : PySem.W.codeIn K cd_law_thing "_law_thing" = true)
    (k_law_thing : PySem.W.keepIn K (.ref f_law_thing) = true)
    (a_law_found : PySem.W.nsIn K mainGlobals "_law_found" = some (some (.ref f_law_found)))
    (l_law_found : K.lookup f_law_found = some ⟨oc_law_found, od_law_found, .func (PySem.W.fnOf "_law_found" "_law_found" (defArgs s_law_found) (defBody s_law_found) (defScope s_law_found) .none kV_law_found dc_law_found pm_law_found an_law_found cd_law_found ct_law_found), sl_law_found⟩)
    (c_law_found : PySem.W.codeIn K cd_law_found "_law_found" = true)
    (k_law_found : PySem.W.keepIn K (.ref f_law_found) = true)
    (a_law : PySem.W.nsIn K mainGlobals "law" = some (some (.ref f_law)))
    (l_law : K.lookup f_law = some ⟨oc_law, od_law, .func (PySem.W.fnOf "law" "law" (defArgs s_law) (defBody s_law) (defScope s_law) .none kV_law dc_law pm_law an_law cd_law ct_law), sl_law⟩)
    (c_law : PySem.W.codeIn K cd_law "law" = true)
    (k_law : PySem.W.keepIn K (.ref f_law) = true)
    (no_Disk_lying : PySem.W.findIn K (.ref C_Disk) "lying" = some none)
    (no_Disk_pending : PySem.W.findIn K (.ref C_Disk) "pending" = some none)
    (no_Disk_spoils : PySem.W.findIn K (.ref C_Disk) "spoils" = some none)
    (no_Store_disk : PySem.W.findIn K (.ref C_Store) "disk" = some none)
    (z_len : PySem.W.nsIn K mainGlobals "len" = some none)
    (z_int : PySem.W.nsIn K mainGlobals "int" = some none)
    (z_bool : PySem.W.nsIn K mainGlobals "bool" = some none)
    (z_str : PySem.W.nsIn K mainGlobals "str" = some none)
    (z_tuple : PySem.W.nsIn K mainGlobals "tuple" = some none)
    (z_list : PySem.W.nsIn K mainGlobals "list" = some none)
    (z_isinstance : PySem.W.nsIn K mainGlobals "isinstance" = some none)
    (z_all : PySem.W.nsIn K mainGlobals "all" = some none)
    (z_abs : PySem.W.nsIn K mainGlobals "abs" = some none)
    (z_sum : PySem.W.nsIn K mainGlobals "sum" = some none)
    (z_range : PySem.W.nsIn K mainGlobals "range" = some none)
    (z_zip : PySem.W.nsIn K mainGlobals "zip" = some none)
    (g_LOST : PySem.W.nsIn K mainGlobals "LOST" = some (some (.int 0 t_LOST)))
    (g_WHOLE : PySem.W.nsIn K mainGlobals "WHOLE" = some (some (.int 2 t_WHOLE)))
    (g_SEAL : PySem.W.nsIn K mainGlobals "SEAL" = some (some (.str "seal" t_SEAL)))
    : ∃ fd : FuncData, (∀ (s : Shared) (v : Value), BindsTo s fd ⟨[v], []⟩ [("script", v)]) ∧ ∀ base : Heap, K.In base → base.Ns mainGlobals mg → FnOk l.prog w K mg base (L2.CX l.prog w) 14 fa fd ["script"] (spLaw K) := by
  have e := hfa.symm.trans (PySem.W.mg_of X G a_law)
  cases e
  have F_is_integer := fun_mk (st := s_is_integer) l_is_integer c_is_integer k_is_integer
  have b_is_integer := F_is_integer.binds (ps := ["thing"]) fun _ _ _ _ _ _ us hl => match us, hl with | [_], _ => rfl
  have F_is_between := fun_mk (st := s_is_between) l_is_between c_is_between k_is_between
  have b_is_between := F_is_between.binds (ps := ["thing", "least", "most"]) fun _ _ _ _ _ _ us hl => match us, hl with | [_, _, _], _ => rfl
  have F_is_number := fun_mk (st := s_is_number) l_is_number c_is_number k_is_number
  have b_is_number := F_is_number.binds (ps := ["thing"]) fun _ _ _ _ _ _ us hl => match us, hl with | [_], _ => rfl
  have F_is_tuple := fun_mk (st := s_is_tuple) l_is_tuple c_is_tuple k_is_tuple
  have b_is_tuple := F_is_tuple.binds (ps := ["thing", "least", "most"]) fun _ _ _ _ _ _ us hl => match us, hl with | [_, _, _], _ => rfl
  have F_is_key := fun_mk (st := s_is_key) l_is_key c_is_key k_is_key
  have b_is_key := F_is_key.binds (ps := ["thing"]) fun _ _ _ _ _ _ us hl => match us, hl with | [_], _ => rfl
  have F_is_kept := fun_mk (st := s_is_kept) l_is_kept c_is_kept k_is_kept
  have b_is_kept := F_is_kept.binds (ps := ["thing"]) fun _ _ _ _ _ _ us hl => match us, hl with | [_], _ => rfl
  have F_Disk___init__ := fun_mk (st := s_Disk___init__) l_Disk___init__ c_Disk___init__ k_Disk___init__
  have b_Disk___init__ := F_Disk___init__.binds (ps := ["self"]) fun _ _ _ _ _ _ us hl => match us, hl with | [_], _ => rfl
  have F_Disk_write := fun_mk (st := s_Disk_write) l_Disk_write c_Disk_write k_Disk_write
  have b_Disk_write := F_Disk_write.binds (ps := ["self", "key", "thing"]) fun _ _ _ _ _ _ us hl => match us, hl with | [_, _, _], _ => rfl
  have F_Disk_sync := fun_mk (st := s_Disk_sync) l_Disk_sync c_Disk_sync k_Disk_sync
  have b_Disk_sync := F_Disk_sync.binds (ps := ["self"]) fun _ _ _ _ _ _ us hl => match us, hl with | [_], _ => rfl
  have F_Disk_fall := fun_mk (st := s_Disk_fall) l_Disk_fall c_Disk_fall k_Disk_fall
  have b_Disk_fall := F_Disk_fall.binds (ps := ["self", "reached"]) fun _ _ _ _ _ _ us hl => match us, hl with | [_, _], _ => rfl
  have F_Disk_waiting := fun_mk (st := s_Disk_waiting) l_Disk_waiting c_Disk_waiting k_Disk_waiting
  have b_Disk_waiting := F_Disk_waiting.binds (ps := ["self"]) fun _ _ _ _ _ _ us hl => match us, hl with | [_], _ => rfl
  have F_Disk_wholes := fun_mk (st := s_Disk_wholes) l_Disk_wholes c_Disk_wholes k_Disk_wholes
  have b_Disk_wholes := F_Disk_wholes.binds (ps := ["self"]) fun _ _ _ _ _ _ us hl => match us, hl with | [_], _ => rfl
  have F_Store___init__ := fun_mk (st := s_Store___init__) l_Store___init__ c_Store___init__ k_Store___init__
  have b_Store___init__ := F_Store___init__.binds (ps := ["self", "disk"]) fun _ _ _ _ _ _ us hl => match us, hl with | [_, _], _ => rfl
  have F_Store_check := fun_mk (st := s_Store_check) l_Store_check c_Store_check k_Store_check
  have b_Store_check := F_Store_check.binds (ps := ["self"]) fun _ _ _ _ _ _ us hl => match us, hl with | [_], _ => rfl
  have F_Store_keep := fun_mk (st := s_Store_keep) l_Store_keep c_Store_keep k_Store_keep
  have b_Store_keep := F_Store_keep.binds (ps := ["self", "key", "thing"]) fun _ _ _ _ _ _ us hl => match us, hl with | [_, _, _], _ => rfl
  have F_Store_seal := fun_mk (st := s_Store_seal) l_Store_seal c_Store_seal k_Store_seal
  have b_Store_seal := F_Store_seal.binds (ps := ["self"]) fun _ _ _ _ _ _ us hl => match us, hl with | [_], _ => rfl
  have F_Store_found := fun_mk (st := s_Store_found) l_Store_found c_Store_found k_Store_found
  have b_Store_found := F_Store_found.binds (ps := ["self"]) fun _ _ _ _ _ _ us hl => match us, hl with | [_], _ => rfl
  have F_law_pot := fun_mk (st := s_law_pot) l_law_pot c_law_pot k_law_pot
  have b_law_pot := F_law_pot.binds (ps := ["script"]) fun _ _ _ _ _ _ us hl => match us, hl with | [_], _ => rfl
  have F_law_draw := fun_mk (st := s_law_draw) l_law_draw c_law_draw k_law_draw
  have b_law_draw := F_law_draw.binds (ps := ["pot", "many"]) fun _ _ _ _ _ _ us hl => match us, hl with | [_, _], _ => rfl
  have F_law_any := fun_mk (st := s_law_any) l_law_any c_law_any k_law_any
  have b_law_any := F_law_any.binds (ps := ["pot", "items"]) fun _ _ _ _ _ _ us hl => match us, hl with | [_, _], _ => rfl
  have F_law_key := fun_mk (st := s_law_key) l_law_key c_law_key k_law_key
  have b_law_key := F_law_key.binds (ps := ["pot"]) fun _ _ _ _ _ _ us hl => match us, hl with | [_], _ => rfl
  have F_law_thing := fun_mk (st := s_law_thing) l_law_thing c_law_thing k_law_thing
  have b_law_thing := F_law_thing.binds (ps := ["pot", "deep"]) fun _ _ _ _ _ _ us hl => match us, hl with | [_, _], _ => rfl
  have F_law_found := fun_mk (st := s_law_found) l_law_found c_law_found k_law_found
  have b_law_found := F_law_found.binds (ps := ["rows"]) fun _ _ _ _ _ _ us hl => match us, hl with | [_], _ => rfl
  have F_law := fun_mk (st := s_law) l_law c_law k_law
  have b_law := F_law.binds (ps := ["script"]) fun _ _ _ _ _ _ us hl => match us, hl with | [_], _ => rfl
  have n_ : ∀ x, PySem.W.nsIn K mainGlobals x = some none → mg x = none := fun x h => PySem.W.mg_none_of X G h
  have T : Txt K mg ⟨C_Disk, C_Store, C_Exchange⟩ := ⟨⟨_, PySem.W.mg_of X G aC_Exchange, rfl⟩, ⟨_, PySem.W.mg_of X G g_LOST, ⟨_, rfl⟩⟩, ⟨_, PySem.W.mg_of X G g_WHOLE, ⟨_, rfl⟩⟩, ⟨_, PySem.W.mg_of X G g_SEAL, ⟨_, rfl⟩⟩, ⟨pg_Disk, hd_Disk, po_Disk, sa_Disk⟩, no_Disk_lying, no_Disk_pending, no_Disk_spoils, ⟨pg_Store, hd_Store, po_Store, sa_Store⟩, no_Store_disk,
    n_ _ z_len, n_ _ z_int, n_ _ z_bool, n_ _ z_str, n_ _ z_tuple, n_ _ z_list, n_ _ z_isinstance, n_ _ z_all, n_ _ z_abs, n_ _ z_sum, n_ _ z_range, n_ _ z_zip⟩
  refine ⟨PySem.W.fnOf "law" "law" (defArgs s_law) (defBody s_law) (defScope s_law) .none kV_law dc_law pm_law an_law cd_law ct_law, fun s v => .of_eq rfl, fun base KB GB => ?_⟩
  have cl := T.cl
  have clS := T.clS
  have D_is_integer := dn_mk (mg := mg) (base := base) (P := l.prog) (w := w) F_is_integer (PySem.W.mg_of X G a_is_integer) b_is_integer (ok_is_integer F_is_integer T)
  have D_is_between := dn_mk (mg := mg) (base := base) (P := l.prog) (w := w) F_is_between (PySem.W.mg_of X G a_is_between) b_is_between (ok_is_between F_is_between T D_is_integer)
  have D_is_number := dn_mk (mg := mg) (base := base) (P := l.prog) (w := w) F_is_number (PySem.W.mg_of X G a_is_number) b_is_number (ok_is_number F_is_number T D_is_integer)
  have D_is_tuple := dn_mk (mg := mg) (base := base) (P := l.prog) (w := w) F_is_tuple (PySem.W.mg_of X G a_is_tuple) b_is_tuple (ok_is_tuple F_is_tuple T)
  have D_is_key := dn_mk (mg := mg) (base := base) (P := l.prog) (w := w) F_is_key (PySem.W.mg_of X G a_is_key) b_is_key (ok_is_key F_is_key T D_is_number)
  have D_is_kept := dn_mk (mg := mg) (base := base) (P := l.prog) (w := w) F_is_kept (PySem.W.mg_of X G a_is_kept) b_is_kept (fn_rec (k := 0) F_is_kept (PySem.W.mg_of X G a_is_kept) b_is_kept (fun n D => step_is_kept F_is_kept T n D) 10)
  have D_law_draw := dn_mk (mg := mg) (base := base) (P := l.prog) (w := w) F_law_draw (PySem.W.mg_of X G a_law_draw) b_law_draw (ok_law_draw F_law_draw T)
  have D_law_pot := dn_mk (mg := mg) (base := base) (P := l.prog) (w := w) F_law_pot (PySem.W.mg_of X G a_law_pot) b_law_pot (ok_law_pot F_law_pot T)
  have D_law_any := dn_mk (mg := mg) (base := base) (P := l.prog) (w := w) F_law_any (PySem.W.mg_of X G a_law_any) b_law_any (ok_law_any F_law_any T D_law_draw)
  have D_law_key := dn_mk (mg := mg) (base := base) (P := l.prog) (w := w) F_law_key (PySem.W.mg_of X G a_law_key) b_law_key (ok_law_key F_law_key T D_law_draw D_law_any)
  have D_law_thing := dn_mk (mg := mg) (base := base) (P := l.prog) (w := w) F_law_thing (PySem.W.mg_of X G a_law_thing) b_law_thing (fn_rec (k := 2) F_law_thing (PySem.W.mg_of X G a_law_thing) b_law_thing (fun n D => step_law_thing F_law_thing T D_law_draw D_law_any n D) 3)
  have D_law_found := dn_mk (mg := mg) (base := base) (P := l.prog) (w := w) F_law_found (PySem.W.mg_of X G a_law_found) b_law_found (ok_law_found F_law_found T)
  have M_Disk_write := mn_mk (mg := mg) (base := base) (P := l.prog) (w := w) cl F_Disk_write ⟨a_Disk_write, i_Disk_write, k_Disk_write⟩ b_Disk_write (ok_Disk_write F_Disk_write T D_is_key D_is_kept)
  have M_Disk_sync := mn_mk (mg := mg) (base := base) (P := l.prog) (w := w) cl F_Disk_sync ⟨a_Disk_sync, i_Disk_sync, k_Disk_sync⟩ b_Disk_sync (ok_Disk_sync F_Disk_sync T)
  have M_Disk_fall := mn_mk (mg := mg) (base := base) (P := l.prog) (w := w) cl F_Disk_fall ⟨a_Disk_fall, i_Disk_fall, k_Disk_fall⟩ b_Disk_fall (ok_Disk_fall F_Disk_fall T D_is_tuple D_is_between)
  have M_Disk_waiting := mn_mk (mg := mg) (base := base) (P := l.prog) (w := w) cl F_Disk_waiting ⟨a_Disk_waiting, i_Disk_waiting, k_Disk_waiting⟩ b_Disk_waiting (ok_Disk_waiting F_Disk_waiting T)
  have M_Disk_wholes := mn_mk (mg := mg) (base := base) (P := l.prog) (w := w) cl F_Disk_wholes ⟨a_Disk_wholes, i_Disk_wholes, k_Disk_wholes⟩ b_Disk_wholes (ok_Disk_wholes F_Disk_wholes T)
  have M_Store_check := mn_mk (mg := mg) (base := base) (P := l.prog) (w := w) clS F_Store_check ⟨a_Store_check, i_Store_check, k_Store_check⟩ b_Store_check (ok_Store_check F_Store_check T M_Disk_wholes)
  have M_Store_keep := mn_mk (mg := mg) (base := base) (P := l.prog) (w := w) clS F_Store_keep ⟨a_Store_keep, i_Store_keep, k_Store_keep⟩ b_Store_keep (ok_Store_keep F_Store_keep T D_is_key D_is_kept M_Store_check M_Disk_write)
  have M_Store_seal := mn_mk (mg := mg) (base := base) (P := l.prog) (w := w) clS F_Store_seal ⟨a_Store_seal, i_Store_seal, k_Store_seal⟩ b_Store_seal (ok_Store_seal F_Store_seal T M_Store_check M_Disk_write M_Disk_wholes M_Disk_sync)
  have M_Store_found := mn_mk (mg := mg) (base := base) (P := l.prog) (w := w) clS F_Store_found ⟨a_Store_found, i_Store_found, k_Store_found⟩ b_Store_found (ok_Store_found F_Store_found T M_Store_check M_Disk_wholes)
  have C_Disk : Cn l.prog w K mg base "Disk" C_Disk 1 ["self"] (spInit C_Disk) := ⟨PySem.W.mg_of X G aC_Disk, _, _, ok_Disk_init F_Disk___init__ T, ⟨mk_Disk, a_Disk___init__, i_Disk___init__, kc_Disk⟩, b_Disk___init__⟩
  have C_Store : Cn l.prog w K mg base "Store" C_Store 1 ["self", "disk"] (spSInit C_Store) := ⟨PySem.W.mg_of X G aC_Store, _, _, ok_Store_init F_Store___init__ T, ⟨mk_Store, a_Store___init__, i_Store___init__, kc_Store⟩, b_Store___init__⟩
  exact ok_law F_law T D_law_pot D_law_draw D_law_any D_law_key D_law_thing D_law_found C_Disk C_Store M_Disk_waiting M_Disk_fall M_Store_keep M_Store_seal M_Store_found
theorem walk {l : PySem.W.OpenLaw} {q : Program} {loose : List Str} {XP : (Str → Option Value) → Heap → Prop} {YP : World → Heap → Prop} {d : DefRec} {K : Params → PySem.W.Frag} (hn : l.most = some 63) (hdf : d.params.defaults = [])
    (hY : ∀ (w : World) (h : Heap), YP w h → (K w.params).In h)
    (F : ∀ (w : World) (mg : Str → Option Value) (fa : Addr) (h : Heap), (K w.params).In h → h.Ns mainGlobals mg → mg d.name = some (.ref fa) →
      ∃ fd : FuncData, (∀ (s : Shared) (u : Value), BindsTo s fd ⟨[u], []⟩ [("script", u)]) ∧ ∀ base : Heap, (K w.params).In base → base.Ns mainGlobals mg → FnOk l.prog w (K w.params) mg base (L2.CX l.prog w) 14 fa fd ["script"] (spLaw (K w.params))) :
    PySem.W.WalkO q loose XP YP l.row.toRowW d [] (fun f vs => PySem.call f vs) :=
  L2.walk_of (n := 63) (k := 14) (x := "script") (CX := fun w => L2.CX l.prog w) (sp := fun w => spLaw (K w.params)) hn (by decide) hdf ⟨rfl, by decide, by decide⟩ hY F (fun _ _ a ns hl _ hS => ⟨a, ns, rfl, hS, hl, fun _ => rfl⟩) fun _ _ _ _ _ z => by
    obtain ⟨_, _, _, _, _, _, _, _, _, _, _, _, z⟩ := z
    exact z.elim
end K40



open PySem PySem.W PyProof.Rows in
set_option maxRecDepth 100000 in
set_option maxHeartbeats 0 in
theorem PySem.Challenge.cw_oneplainrun_k40_whole_what_stores_find_holds : PySem.Challenge.rw_oneplainrun_k40_whole_what_stores_find.Holds := by
  w_on; o_law; k_head; (case hw => w_witness2)
  k_fill
  refine K40.walk (l := PySem.Challenge.rw_oneplainrun_k40_whole_what_stores_find) rfl rfl (fun w h Y => PySem.W.kIn_of Y) ?F
  case F =>
    intro w mg fa h KX G hmg
    refine' K40.all_mk KX G hmg ?aC_Disk ?pg_Disk ?hd_Disk ?po_Disk ?sa_Disk ?mk_Disk ?kc_Disk ?aC_Store ?pg_Store ?hd_Store ?po_Store ?sa_Store ?mk_Store ?kc_Store ?aC_Exchange ?a_is_integer ?l_is_integer ?c_is_integer ?k_is_integer ?a_is_between ?l_is_between ?c_is_between ?k_is_between ?a_is_number ?l_is_number ?c_is_number ?k_is_number ?a_is_tuple ?l_is_tuple ?c_is_tuple ?k_is_tuple ?a_is_key ?l_is_key ?c_is_key ?k_is_key ?a_is_kept ?l_is_kept ?c_is_kept ?k_is_kept ?a_Disk___init__ ?i_Disk___init__ ?l_Disk___init__ ?c_Disk___init__ ?k_Disk___init__ ?a_Disk_write ?i_Disk_write ?l_Disk_write ?c_Disk_write ?k_Disk_write ?a_Disk_sync ?i_Disk_sync ?l_Disk_sync ?c_Disk_sync ?k_Disk_sync ?a_Disk_fall ?i_Disk_fall ?l_Disk_fall ?c_Disk_fall ?k_Disk_fall ?a_Disk_waiting ?i_Disk_waiting ?l_Disk_waiting ?c_Disk_waiting ?k_Disk_waiting ?a_Disk_wholes ?i_Disk_wholes ?l_Disk_wholes ?c_Disk_wholes ?k_Disk_wholes ?a_Store___init__ ?i_Store___init__ ?l_Store___init__ ?c_Store___init__ ?k_Store___init__ ?a_Store_check ?i_Store_check ?l_Store_check ?c_Store_check ?k_Store_check ?a_Store_keep ?i_Store_keep ?l_Store_keep ?c_Store_keep ?k_Store_keep ?a_Store_seal ?i_Store_seal ?l_Store_seal ?c_Store_seal ?k_Store_seal ?a_Store_found ?i_Store_found ?l_Store_found ?c_Store_found ?k_Store_found ?a_law_pot ?l_law_pot ?c_law_pot ?k_law_pot ?a_law_draw ?l_law_draw ?c_law_draw ?k_law_draw ?a_law_any ?l_law_any ?c_law_any ?k_law_any ?a_law_key ?l_law_key ?c_law_key ?k_law_key ?a_law_thing ?l_law_thing ?c_law_thing ?k_law_thing ?a_law_found ?l_law_found ?c_law_found ?k_law_found ?a_law ?l_law ?c_law ?k_law ?no_Disk_lying ?no_Disk_pending ?no_Disk_spoils ?no_Store_disk ?z_len ?z_int ?z_bool ?z_str ?z_tuple ?z_list ?z_isinstance ?z_all ?z_abs ?z_sum ?z_range ?z_zip ?g_LOST ?g_WHOLE ?g_SEAL
    (case aC_Disk => k_is)
    (case pg_Disk => k_is)
    (case hd_Disk => k_is)
    (case po_Disk => k_is)
    (case sa_Disk => k_is)
    (case mk_Disk => k_is)
    (case kc_Disk => k_is)
    (case aC_Store => k_is)
    (case pg_Store => k_is)
    (case hd_Store => k_is)
    (case po_Store => k_is)
    (case sa_Store => k_is)
    (case mk_Store => k_is)
    (case kc_Store => k_is)
    (case aC_Exchange => k_is)
    (case a_is_integer => k_is)
    (case l_is_integer => k_is)
    (case c_is_integer => k_is)
    (case k_is_integer => k_is)
    (case a_is_between => k_is)
    (case l_is_between => k_is)
    (case c_is_between => k_is)
    (case k_is_between => k_is)
    (case a_is_number => k_is)
    (case l_is_number => k_is)
    (case c_is_number => k_is)
    (case k_is_number => k_is)
    (case a_is_tuple => k_is)
    (case l_is_tuple => k_is)
    (case c_is_tuple => k_is)
    (case k_is_tuple => k_is)
    (case a_is_key => k_is)
    (case l_is_key => k_is)
    (case c_is_key => k_is)
    (case k_is_key => k_is)
    (case a_is_kept => k_is)
    (case l_is_kept => k_is)
    (case c_is_kept => k_is)
    (case k_is_kept => k_is)
    (case a_Disk___init__ => k_is)
    (case i_Disk___init__ => k_is)
    (case l_Disk___init__ => k_is)
    (case c_Disk___init__ => k_is)
    (case k_Disk___init__ => k_is)
    (case a_Disk_write => k_is)
    (case i_Disk_write => k_is)
    (case l_Disk_write => k_is)
    (case c_Disk_write => k_is)
    (case k_Disk_write => k_is)
    (case a_Disk_sync => k_is)
    (case i_Disk_sync => k_is)
    (case l_Disk_sync => k_is)
    (case c_Disk_sync => k_is)
    (case k_Disk_sync => k_is)
    (case a_Disk_fall => k_is)
    (case i_Disk_fall => k_is)
    (case l_Disk_fall => k_is)
    (case c_Disk_fall => k_is)
    (case k_Disk_fall => k_is)
    (case a_Disk_waiting => k_is)
    (case i_Disk_waiting => k_is)
    (case l_Disk_waiting => k_is)
    (case c_Disk_waiting => k_is)
    (case k_Disk_waiting => k_is)
    (case a_Disk_wholes => k_is)
    (case i_Disk_wholes => k_is)
    (case l_Disk_wholes => k_is)
    (case c_Disk_wholes => k_is)
    (case k_Disk_wholes => k_is)
    (case a_Store___init__ => k_is)
    (case i_Store___init__ => k_is)
    (case l_Store___init__ => k_is)
    (case c_Store___init__ => k_is)
    (case k_Store___init__ => k_is)
    (case a_Store_check => k_is)
    (case i_Store_check => k_is)
    (case l_Store_check => k_is)
    (case c_Store_check => k_is)
    (case k_Store_check => k_is)
    (case a_Store_keep => k_is)
    (case i_Store_keep => k_is)
    (case l_Store_keep => k_is)
    (case c_Store_keep => k_is)
    (case k_Store_keep => k_is)
    (case a_Store_seal => k_is)
    (case i_Store_seal => k_is)
    (case l_Store_seal => k_is)
    (case c_Store_seal => k_is)
    (case k_Store_seal => k_is)
    (case a_Store_found => k_is)
    (case i_Store_found => k_is)
    (case l_Store_found => k_is)
    (case c_Store_found => k_is)
    (case k_Store_found => k_is)
    (case a_law_pot => k_is)
    (case l_law_pot => k_is)
    (case c_law_pot => k_is)
    (case k_law_pot => k_is)
    (case a_law_draw => k_is)
    (case l_law_draw => k_is)
    (case c_law_draw => k_is)
    (case k_law_draw => k_is)
    (case a_law_any => k_is)
    (case l_law_any => k_is)
    (case c_law_any => k_is)
    (case k_law_any => k_is)
    (case a_law_key => k_is)
    (case l_law_key => k_is)
    (case c_law_key => k_is)
    (case k_law_key => k_is)
    (case a_law_thing => k_is)
    (case l_law_thing => k_is)
    (case c_law_thing => k_is)
    (case k_law_thing => k_is)
    (case a_law_found => k_is)
    (case l_law_found => k_is)
    (case c_law_found => k_is)
    (case k_law_found => k_is)
    (case a_law => k_is)
    (case l_law => k_is)
    (case c_law => k_is)
    (case k_law => k_is)
    (case no_Disk_lying => k_is)
    (case no_Disk_pending => k_is)
    (case no_Disk_spoils => k_is)
    (case no_Store_disk => k_is)
    (case z_len => k_is)
    (case z_int => k_is)
    (case z_bool => k_is)
    (case z_str => k_is)
    (case z_tuple => k_is)
    (case z_list => k_is)
    (case z_isinstance => k_is)
    (case z_all => k_is)
    (case z_abs => k_is)
    (case z_sum => k_is)
    (case z_range => k_is)
    (case z_zip => k_is)
    (case g_LOST => k_is)
    (case g_WHOLE => k_is)
    (case g_SEAL => k_is)


