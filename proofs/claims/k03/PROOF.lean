import PyProof.Rows.All
import Wide.All
import OpenK.AllK
import Wide.FinOn
import HandS.ForMost
import HandS.Exc
import HandS.ExcOwn
import HandS.WordsExc
import HandS.IsInst
import HandS.Zip
import HandS.Codes
import HandS.Walk
import KE.GoesZip
import KE.GoesMore
import HandS.DictComp
import HandS.DeepEq
import HandS.TupLen
import KE.KDictCopyH
import HandS.ExcInit
import HandS.ExcIs
import HandS.TryMany
import HandS.TryOnly
import HandS.Lambda
import HandS.EndTab
import HandS.EndOwn
import HandS.TupMul
import HandS.Style
import HandS.Wide
import HandS.Conv
import HandS.Strs
import HandS.SetKeys
import PySem.Challenge.RW_oneplainrun_k03_names_of_functions
set_option Elab.async false
set_option linter.all false
set_option maxRecDepth 100000
set_option maxHeartbeats 4000000
/-! P1: bundles of a def, a method, a class; rules with K told; data of tuples; frames -/
namespace Hq
open PySem PySem.Spec PyProof.Rows L2

/-! ### what the module's names hold -/
def GlV (mg : Str → Option Value) (x : Str) (v : V) : Prop := ∃ u, mg x = some u ∧ RelV v u
theorem pe_gl {X : Cx} {x : Str} {v : V} {pos : Pos} (hg : Gl X x) (h : GlV X.mg x v) (hd : (x == ("__debug__" : Str)) = false := by decide) : PE X (.Name x pos) (tC v) := by
  obtain ⟨u, hm, r⟩ := h
  exact pe_glob hg hm r hd
theorem pe_ty (n : String) {X : Cx} {x : Str} {pos : Pos} (hg : Gl X x) (hm : X.mg x = none) (hv : bootBuiltins x = some (.type n)) (hn : x ≠ "__name__" := by decide) (hd : (x == ("__debug__" : Str)) = false := by decide) : PE X (.Name x pos) (tC (.ty n)) :=
  pe_bltn hg hm hv rfl hn hd

/-! ### a def, a method, a class, as callers see them -/
structure Dn (P : Program) (w : World) (K : PySem.W.Frag) (mg : Str → Option Value) (base : Heap) (x : Str) (k : Nat) (ps : List Str) (sp : Sp) : Prop where
  ok : ∃ f fd, FnOk P w K mg base (L2.CX P w) k f fd ps sp ∧ mg x = some (.ref f) ∧ PySem.W.keepIn K (.ref f) = true ∧ Binds K fd ps []
structure Mn (P : Program) (w : World) (K : PySem.W.Frag) (mg : Str → Option Value) (base : Heap) (C : Addr) (m : Str) (k : Nat) (ps : List Str) (sp : Sp) : Prop where
  cl : Cls K C
  ok : ∃ f fd, FnOk P w K mg base (L2.CX P w) k f fd ps sp ∧ Meth K C m f ∧ Binds K fd ps []
structure Cn (P : Program) (w : World) (K : PySem.W.Frag) (mg : Str → Option Value) (base : Heap) (x : Str) (C : Addr) (k : Nat) (ps : List Str) (sp : Sp) : Prop where
  mgC : mg x = some (.ref C)
  ok : ∃ f fd, FnOk P w K mg base (L2.CX P w) k f fd ps sp ∧ Mk K C f ∧ Binds K fd ps []
section
variable {P : Program} {w : World} {K : PySem.W.Frag} {mg : Str → Option Value} {base : Heap} {x : Str} {k j : Nat} {ps : List Str} {sp sp' : Sp} {C : Addr} {m : Str}
theorem Dn.imp (D : Dn P w K mg base x k ps sp) (h : ∀ vs H Q E, sp' vs H Q E → sp vs H Q E) : Dn P w K mg base x k ps sp' := by
  obtain ⟨f, fd, F, a, b, c⟩ := D.ok
  exact ⟨f, fd, F.imp h, a, b, c⟩
theorem Mn.imp (D : Mn P w K mg base C m k ps sp) (h : ∀ vs H Q E, sp' vs H Q E → sp vs H Q E) : Mn P w K mg base C m k ps sp' := by
  obtain ⟨f, fd, F, a, b⟩ := D.ok
  exact ⟨D.cl, f, fd, F.imp h, a, b⟩
theorem Dn.up (D : Dn P w K mg base x j ps sp) (h : j ≤ k) : Dn P w K mg base x k ps sp := by
  obtain ⟨f, fd, F, a, b, c⟩ := D.ok
  exact ⟨f, fd, F.mono h, a, b, c⟩
end
section
variable {X : Cx} {k : Nat} {ps : List Str} {sp : Sp} {C : Addr} {x m : Str} {p pos apos : Pos} {e o : Expr} {es : List Expr} {ta : TE} {t : TA}
theorem pe_d (D : Dn X.prog X.w X.K X.mg X.base x k ps sp) (E : XK) (hr : Room k X.A) (hg : Gl X x) (hx : Passes (L2.CX X.prog X.w) X E) (ha : PA X (e :: es) t) (hdb : (x == ("__debug__" : Str)) = false := by decide)
    (he : starEach (e :: es) X.env = (false, eval e X.env) :: starEach es X.env := by rfl) (hpl : (backTo pos (starEach es X.env)).any (·.1) = false := by rfl) :
    PE X (.Call (.Name x p) (e :: es) [] pos) (tCall sp [] E t) := by
  obtain ⟨f, fd, F, a, b, c⟩ := D.ok
  exact pe_call F hr hg a b c .nil hx ha hdb he hpl
theorem pe_d0 (D : Dn X.prog X.w X.K X.mg X.base x k ps sp) (E : XK) (hr : Room k X.A) (hg : Gl X x) (hx : Passes (L2.CX X.prog X.w) X E) (hdb : (x == ("__debug__" : Str)) = false := by decide) :
    PE X (.Call (.Name x p) [] [] pos) (tCall sp [] E tNil) := by
  obtain ⟨f, fd, F, a, b, c⟩ := D.ok
  exact pe_call0 F hr hg a b c .nil hx hdb
theorem pe_m (D : Mn X.prog X.w X.K X.mg X.base C m k ps sp) (E : XK) (hr : Room k X.A) (he : PE X o ta) (hx : Passes (L2.CX X.prog X.w) X E) (ha : PA X (e :: es) t) (pl : Sem Bool)
    (hst : starEach (e :: es) X.env = (false, eval e X.env) :: starEach es X.env := by rfl) (hpl : (backTo pos (starEach es X.env)).any (·.1) = false := by rfl)
    (ht : eval (.Call (.Attribute o m apos) (e :: es) [] pos) X.env = (do
      let v ← eval o X.env
      standAt apos.atName
      let (g, fs) ← holding [v] (getMethod v m pl)
      callWith pos g fs (backTo pos (starEach (e :: es) X.env)) (backToKw pos (keywordEach [] X.env))) := by rfl) :
    PE X (.Call (.Attribute o m apos) (e :: es) [] pos) (tMeth C m sp [] E ta t) := by
  obtain ⟨f, fd, F, a, b⟩ := D.ok
  exact pe_meth (pl := pl) he D.cl a F hr b .nil hx ha hst hpl ht
theorem pe_m0 (D : Mn X.prog X.w X.K X.mg X.base C m k ps sp) (E : XK) (hr : Room k X.A) (he : PE X o ta) (hx : Passes (L2.CX X.prog X.w) X E) (pl : Sem Bool)
    (ht : eval (.Call (.Attribute o m apos) [] [] pos) X.env = (do
      let v ← eval o X.env
      standAt apos.atName
      let (g, fs) ← holding [v] (getMethod v m pl)
      callWith pos g fs (backTo pos (starEach [] X.env)) (backToKw pos (keywordEach [] X.env))) := by rfl) :
    PE X (.Call (.Attribute o m apos) [] [] pos) (tMeth C m sp [] E ta tNil) := by
  obtain ⟨f, fd, F, a, b⟩ := D.ok
  exact pe_meth0 (pl := pl) he D.cl a F hr b .nil hx ht
theorem pe_c (D : Cn X.prog X.w X.K X.mg X.base x C k ps sp) (E : XK) (hr : Room (k + 1) X.A) (hg : Gl X x) (hx : Passes (L2.CX X.prog X.w) X E) (ha : PA X (e :: es) t) (hdb : (x == ("__debug__" : Str)) = false := by decide)
    (he : starEach (e :: es) X.env = (false, eval e X.env) :: starEach es X.env := by rfl) (hpl : (backTo pos (starEach es X.env)).any (·.1) = false := by rfl) :
    PE X (.Call (.Name x p) (e :: es) [] pos) (tMake C sp [] E t) := by
  obtain ⟨f, fd, F, M, b⟩ := D.ok
  exact pe_make M F hr hg D.mgC b .nil hx ha hdb he hpl
theorem pe_c0 (D : Cn X.prog X.w X.K X.mg X.base x C k ps sp) (E : XK) (hr : Room (k + 1) X.A) (hg : Gl X x) (hx : Passes (L2.CX X.prog X.w) X E) (hdb : (x == ("__debug__" : Str)) = false := by decide) :
    PE X (.Call (.Name x p) [] [] pos) (tMake C sp [] E tNil) := by
  obtain ⟨f, fd, F, M, b⟩ := D.ok
  exact pe_make0 M F hr hg D.mgC b .nil hx hdb
end
theorem dn_mk {P : Program} {w : World} {K : PySem.W.Frag} {mg : Str → Option Value} {base : Heap} {x q : Str} {st : Stmt} {f : Addr} {fd : FuncData} {k : Nat} {ps : List Str} {sp : Sp} (F : Fun K x q st f fd) (hm : mg x = some (.ref f)) (b : Binds K fd ps [])
    (ok : FnOk P w K mg base (L2.CX P w) k f fd ps sp) : Dn P w K mg base x k ps sp := ⟨⟨f, fd, ok, hm, F.kp, b⟩⟩
theorem mn_mk {P : Program} {w : World} {K : PySem.W.Frag} {mg : Str → Option Value} {base : Heap} {C : Addr} {x q : Str} {st : Stmt} {f : Addr} {fd : FuncData} {k : Nat} {ps : List Str} {sp : Sp} (c : Cls K C) (F : Fun K x q st f fd) (m : Meth K C x f) (b : Binds K fd ps [])
    (ok : FnOk P w K mg base (L2.CX P w) k f fd ps sp) : Mn P w K mg base C x k ps sp := ⟨c, f, fd, ok, m, b⟩
/-- what holds of all smaller ones -/
theorem fn_less {P : Program} {w : World} {K : PySem.W.Frag} {mg : Str → Option Value} {base : Heap} {f : Addr} {fd : FuncData} {k n : Nat} {ps : List Str} {sp : Nat → Sp} (h : ∀ m, m < n → FnOk P w K mg base (L2.CX P w) k f fd ps (sp m)) :
    FnOk P w K mg base (L2.CX P w) k f fd ps (fun vs H Q E => ∃ m, m < n ∧ sp m vs H Q E) :=
  ⟨fun vs H Q E ⟨m, hm, q⟩ => (h m hm).len vs H Q E q, fun A outer s H args us vs Q E hr he hb hv ⟨m, hm, q⟩ => (h m hm).run A outer s H args us vs Q E hr he hb hv q⟩
/-- a def that calls itself, by a size -/
theorem fn_rec {P : Program} {w : World} {K : PySem.W.Frag} {mg : Str → Option Value} {base : Heap} {x q : Str} {st : Stmt} {f : Addr} {fd : FuncData} {k : Nat} {ps : List Str} {sp : Nat → Sp} (F : Fun K x q st f fd) (hm : mg x = some (.ref f)) (b : Binds K fd ps [])
    (step : ∀ n, Dn P w K mg base x (k + n) ps (fun vs H Q E => ∃ m, m < n ∧ sp m vs H Q E) → FnOk P w K mg base (L2.CX P w) (k + n + 1) f fd ps (sp n)) : ∀ n, FnOk P w K mg base (L2.CX P w) (k + n + 1) f fd ps (sp n) := by
  intro n
  induction n using Nat.strongRecOn with
  | ind n ih => exact step n (dn_mk F hm b (fn_less fun m hm => (ih m hm).mono (by omega)))
/-- a def's body in which nothing is raised -/
theorem okN {P : Program} {w : World} {K : PySem.W.Frag} {mg : Str → Option Value} {base : Heap} {x qual : Str} {st : Stmt} {f : Addr} {fd : FuncData} {N ps : List Str} {k : Nat} {sp : Sp} (F : Fun K x qual st f fd) (S : FnScope N ps (defScope st))
    (len : ∀ vs H Q E, sp vs H Q E → vs.length = ps.length)
    (hb : ∀ (cdv : Value) (A : Around) (outer : List Env) (s : Shared) (H : Hp) (vs : List V) (Q : VK) (E : XK), Room k (A.deeper (envOfC qual (defScope st) s.heap.objs.size f cdv)) → sp vs H Q E →
      ∃ t σ, L2.start N vs = σ ∧ PSs (cxOf (L2.CX P w) P w K mg base N qual (defScope st) f cdv A outer s H E).nox (defBody st) t ∧ t { nx := fun _ H' => Q .non H', rt := Q } σ H) : FnOk P w K mg base (L2.CX P w) (k + 1) f fd ps sp :=
  F.okX S len fun cdv A outer s H vs Q E hr hs => by
    obtain ⟨t, σ, e, h, q⟩ := hb cdv A outer s H vs Q E hr hs
    cases e
    exact ⟨t, h.nox, q⟩

/-! ### the layer's rules, the written part told by its own letter -/
section
variable {X : Cx} {K : PySem.W.Frag}
theorem kIxL (h : X.K = K := by rfl) : IxR X (rIxL K) := by cases h; exact ix_list
theorem kIxT (h : X.K = K := by rfl) : IxR X (rIxT K) := by cases h; exact ix_tup
theorem kSlL (h : X.K = K := by rfl) : SlR X (rSlL K) := by cases h; exact sl_list
theorem kSlT (h : X.K = K := by rfl) : SlR X (rSlT K) := by cases h; exact sl_tup
theorem kPiL {tg l : Expr} {tl : TE} (hl : PE X l tl) (h : X.K = K := by rfl) : PI X tg l (iList K tl) := by cases h; exact pi_list hl
theorem kPiT {tg l : Expr} {tl : TE} (hl : PE X l tl) (h : X.K = K := by rfl) : PI X tg l (iTup K tl) := by cases h; exact pi_tup hl
theorem kFld {e : Expr} {f : Str} {ta : TE} {pos : Pos} (he : PE X e ta) (hb : attributeBase e f X.env (eval e X.env) = eval e X.env) (h : X.K = K := by rfl) : PE X (.Attribute e f pos) (tFld K ta f) := by
  cases h; exact pe_fld he hb
theorem kSFld {o value : Expr} {f : Str} {ta tv : TE} {pos pos' : Pos} (ha : PE X o ta) (hv : PE X value tv) (hs : swapsWith value (some (.Attribute o f pos')) pos.line X.env = pure false) (h : X.K = K := by rfl) :
    PS X (.Assign [.Attribute o f pos'] value pos) (sFld K ta tv f) := by cases h; exact ps_fld ha hv hs
def rLen (K : PySem.W.Frag) : List V → Hp → VK → Prop := fun xs H Q => ∃ p ys, xs = [.ref p] ∧ (SqL K H p ys ∨ SqT K H p ys) ∧ Q (.int ys.length) H
theorem kLen (h : X.K = K := by rfl) : CallR X (.builtin "len") (rLen K) := by cases h; exact call_len_seq
def rListOf (K : PySem.W.Frag) : List V → Hp → VK → Prop := fun xs H Q => ∃ p ys, xs = [.ref p] ∧ (SqL K H p ys ∨ SqT K H p ys) ∧ ∀ l, H l = none → Q (.ref l) (upd H l (.lst ys))
theorem kListOf (h : X.K = K := by rfl) : CallR X (.type "list") (rListOf K) := by cases h; exact call_list_of
def rTupOf (K : PySem.W.Frag) : List V → Hp → VK → Prop := fun xs H Q => ∃ p ys, xs = [.ref p] ∧ ((SqL K H p ys ∧ ∀ l, H l = none → Q (.ref l) (upd H l (.tup ys))) ∨ (SqT K H p ys ∧ Q (.ref p) H))
theorem kTupOf (h : X.K = K := by rfl) : CallR X (.type "tuple") (rTupOf K) := by cases h; exact call_tuple_of
theorem kSum (hc : X.calm = true := by rfl) (h : X.K = K := by rfl) : CallR X (.builtin "sum") (rSum K) := by cases h; exact cr_sum hc
theorem kAll (hc : X.calm = true := by rfl) (h : X.K = K := by rfl) : CallR X (.builtin "all") (rAll K) := by cases h; exact cr_all hc
theorem kAny (hc : X.calm = true := by rfl) (h : X.K = K := by rfl) : CallR X (.builtin "any") (rAny K) := by cases h; exact cr_any hc
theorem kEqD (hu : X.A.units + 64 < cLine) (h : X.K = K := by rfl) : OpR X (compareOp .Eq) (rEqD K) := by cases h; exact op_eqD hu
theorem kNeD (hu : X.A.units + 64 < cLine) (h : X.K = K := by rfl) : OpR X (compareOp .NotEq) (rNeD K) := by cases h; exact op_neD hu
theorem kIn (h : X.K = K := by rfl) : OpR X (compareOp .In) (rIn K false) := by cases h; exact op_in_seq
theorem kNotIn (h : X.K = K := by rfl) : OpR X (compareOp .NotIn) (rIn K true) := by cases h; exact op_notIn_seq
theorem kTupT {es : List Expr} {k : Nat} {t : TGs} {n : Nat} {pos : Pos} (hp : PGs X es t) (hc : X.calm = true := by rfl) (h : X.K = K := by rfl) (hn : (assignEach es X.env).length = n := by rfl) (hst : (assignEach es X.env).findIdx? (·.1) = none := by rfl) :
    PG X (.Tuple es k pos) (gTup K n t) := by cases h; exact pg_tup hc hp hn hst
theorem kCatT (h : X.K = K := by rfl) : OpR X (binaryOp .Add) (rCatT K) := by cases h; exact op_catT
theorem kIsi (h : X.K = K := by rfl) : CallR X (.builtin "isinstance") (rIsi K) := by cases h; exact call_isi
theorem kIsiT (h : X.K = K := by rfl) : CallR X (.builtin "isinstance") (rIsiT K) := by cases h; exact call_isiT
def tApp (K : PySem.W.Frag) (to te : TE) : TE := tBM K "list" rAppend to (tCons te tNil)
theorem kApp {o e : Expr} {to te : TE} {apos cpos : Pos} (ho : PE X o to) (ha : PE X e te) (hbase : attributeBase o "append" X.env (eval o X.env) = eval o X.env := by rfl)
    (hfew : ((backTo cpos (starEach [e] X.env)).all (fun x => !x.1) && (backToKw cpos (keywordEach [] X.env)).all (fun x => x.1.isSome)
      && decide (([e] : List Expr).length + ([] : List Keyword).length + (if ([] : List Keyword).isEmpty then 0 else 1) < 30)) = true := by rfl)
    (hline : (apos.endLine == cpos.line) = true := by rfl) (hs : starEach [e] X.env = (false, eval e X.env) :: starEach [] X.env := by rfl)
    (h : X.K = K := by rfl) : PE X (.Call (.Attribute o "append" apos) [e] [] cpos) (tApp K to te) := by
  cases h
  exact pe_bm PySem.F.plainAttrs_list PySem.F.slot_list_append PySem.F.type_list_append mt_append ho (pa_cons ha pa_nil hs) hbase hfew hline hs rfl
end

section
variable {X : Cx} {K : PySem.W.Frag}
theorem kBm {T id : String} {o e : Expr} {es : List Expr} {to : TE} {t : TA} {name : Str} {apos cpos : Pos} {r : V → List V → Hp → VK → Prop} (pa : PlainAttrs T) (slot : Slot T name id) (hty : typeOf (.builtin id) = pure (.type "method_descriptor")) (hm : MtR X id r) (ho : PE X o to) (ha : PA X (e :: es) t)
    (hbase : attributeBase o name X.env (eval o X.env) = eval o X.env := by rfl)
    (hfew : ((backTo cpos (starEach (e :: es) X.env)).all (fun x => !x.1) && (backToKw cpos (keywordEach [] X.env)).all (fun x => x.1.isSome)
      && decide ((e :: es : List Expr).length + ([] : List Keyword).length + (if ([] : List Keyword).isEmpty then 0 else 1) < 30)) = true := by rfl)
    (hline : (apos.endLine == cpos.line) = true := by rfl) (hs : starEach (e :: es) X.env = (false, eval e X.env) :: starEach es X.env := by rfl) (hplain : (backTo cpos (starEach es X.env)).any (·.1) = false := by rfl)
    (h : X.K = K := by rfl) : PE X (.Call (.Attribute o name apos) (e :: es) [] cpos) (tBM K T r to t) := by
  cases h
  exact pe_bm pa slot hty hm ho ha hbase hfew hline hs hplain
end
/-! ### data made of tuples: it stands for good -/
mutual
inductive TD (H : Hp) : V → PyData → Prop
  | non : TD H .non .none
  | bl (b : Bool) : TD H (.bl b) (.bool b)
  | int (i : Int) : TD H (.int i) (.int i)
  | str (x : Str) : TD H (.str x) (.str x)
  | tup {a : Addr} {xs : List V} {ds : List PyData} : H a = some (.tup xs) → TDs H xs ds → TD H (.ref a) (.tuple ds)
inductive TDs (H : Hp) : List V → List PyData → Prop
  | nil : TDs H [] []
  | cons {v : V} {vs : List V} {d : PyData} {ds : List PyData} : TD H v d → TDs H vs ds → TDs H (v :: vs) (d :: ds)
end
/-- tuples stay -/
def Tp (H H' : Hp) : Prop := ∀ a xs, H a = some (.tup xs) → H' a = some (.tup xs)
theorem Tp.refl (H : Hp) : Tp H H := fun _ _ h => h
theorem Tp.trans {H H1 H2 : Hp} (a : Tp H H1) (b : Tp H1 H2) : Tp H H2 := fun c o h => b c o (a c o h)
mutual
theorem TD.mono {H H' : Hp} (t : Tp H H') : ∀ (d : PyData) (v : V), TD H v d → TD H' v d
  | .none, _, h => by cases h; exact .non
  | .bool _, _, h => by cases h; exact .bl _
  | .int _, _, h => by cases h; exact .int _
  | .str _, _, h => by cases h; exact .str _
  | .tuple ds, _, h => by
    cases h with
    | tup e q => exact .tup (t _ _ e) (TDs.mono t ds _ q)
  | .list _, _, h => by cases h
  | .dict _, _, h => by cases h
theorem TDs.mono {H H' : Hp} (t : Tp H H') : ∀ (ds : List PyData) (vs : List V), TDs H vs ds → TDs H' vs ds
  | [], _, h => by cases h; exact .nil
  | d :: ds, _, h => by
    cases h with
    | cons h1 h2 => exact .cons (TD.mono t d _ h1) (TDs.mono t ds _ h2)
end
mutual
theorem TD.dp {K : PySem.W.Frag} {H : Hp} : ∀ (d : PyData) (v : V), TD H v d → Dp K H v d
  | .none, _, h => by cases h; exact .non
  | .bool _, _, h => by cases h; exact .bl _
  | .int _, _, h => by cases h; exact .int _
  | .str _, _, h => by cases h; exact .str _
  | .tuple ds, _, h => by
    cases h with
    | tup e q => exact .tup (SqT.of e) (TDs.dp ds _ q)
  | .list _, _, h => by cases h
  | .dict _, _, h => by cases h
theorem TDs.dp {K : PySem.W.Frag} {H : Hp} : ∀ (ds : List PyData) (vs : List V), TDs H vs ds → DpAll K H vs ds
  | [], _, h => by cases h; exact .nil
  | d :: ds, _, h => by
    cases h with
    | cons h1 h2 => exact .cons (TD.dp d _ h1) (TDs.dp ds _ h2)
end
section
variable {H H' : Hp} {vs us : List V} {ds es : List PyData} {v : V} {d : PyData} {i : Nat}
theorem TDs.length (h : TDs H vs ds) : vs.length = ds.length := by
  induction ds generalizing vs with
  | nil => cases h; rfl
  | cons d ds ih =>
    cases h with
    | cons h1 h2 => simp only [List.length_cons, ih h2]
theorem TDs.app (h : TDs H vs ds) (g : TDs H us es) : TDs H (vs ++ us) (ds ++ es) := by
  induction ds generalizing vs with
  | nil => cases h; exact g
  | cons d ds ih =>
    cases h with
    | cons h1 h2 => exact .cons h1 (ih h2)
theorem TDs.snoc (h : TDs H vs ds) (g : TD H v d) : TDs H (vs ++ [v]) (ds ++ [d]) := h.app (.cons g .nil)
theorem TDs.at_ (h : TDs H vs ds) (e : vs[i]? = some v) : ∃ d, ds[i]? = some d ∧ TD H v d := by
  induction ds generalizing vs i with
  | nil => cases h; cases e
  | cons d ds ih =>
    cases h with
    | cons h1 h2 =>
      cases i with
      | zero => cases e; exact ⟨d, rfl, h1⟩
      | succ i =>
        obtain ⟨d, a, b⟩ := ih h2 (by simpa using e)
        exact ⟨d, a, b⟩
theorem TDs.to_ (h : TDs H vs ds) (e : ds[i]? = some d) : ∃ v, vs[i]? = some v ∧ TD H v d := by
  induction ds generalizing vs i with
  | nil => cases e
  | cons d' ds ih =>
    cases h with
    | cons h1 h2 =>
      cases i with
      | zero => cases e; exact ⟨_, rfl, h1⟩
      | succ i =>
        obtain ⟨v, a, b⟩ := ih h2 e
        exact ⟨v, a, b⟩
theorem TDs.take (n : Nat) (h : TDs H vs ds) : TDs H (vs.take n) (ds.take n) := by
  induction ds generalizing vs n with
  | nil => cases h; rw [List.take_nil, List.take_nil]; exact .nil
  | cons d ds ih =>
    cases h with
    | cons h1 h2 =>
      cases n with
      | zero => exact .nil
      | succ n => exact .cons h1 (ih n h2)
theorem TDs.drop (n : Nat) (h : TDs H vs ds) : TDs H (vs.drop n) (ds.drop n) := by
  induction ds generalizing vs n with
  | nil => cases h; rw [List.drop_nil, List.drop_nil]; exact .nil
  | cons d ds ih =>
    cases h with
    | cons h1 h2 =>
      cases n with
      | zero => exact .cons h1 h2
      | succ n => exact ih n h2
end

theorem fresh_ne {H : Hp} {p D : Addr} {o : HO} (h : upd H p o D = none) : D ≠ p := fun z => by
  rw [z, upd_same] at h
  cases h
theorem upd_old {H : Hp} {p b : Addr} {o o' : HO} (hp : H p = none) (hb : H b = some o) : upd H p o' b = some o := by
  rw [upd_ne (ne_of_none hb hp)]
  exact hb
theorem fresh_of {H : Hp} {p D : Addr} {o : HO} (h : upd H p o D = none) : H D = none := by
  rw [upd_ne (fresh_ne h)] at h
  exact h
/-! ### frames -/
/-- all but ms is as it was, tuples are there -/
structure Fr (ms : List Addr) (H H' : Hp) : Prop where
  keep : ∀ b o, b ∉ ms → H b = some o → H' b = some o
  tup : Tp H H'
section
variable {ms ns : List Addr} {H H1 H2 : Hp} {p : Addr} {o o' : HO}
theorem Fr.refl (H : Hp) : Fr ms H H := ⟨fun _ _ _ h => h, Tp.refl H⟩
theorem Fr.trans (a : Fr ms H H1) (b : Fr ms H1 H2) : Fr ms H H2 := ⟨fun c o n h => b.keep c o n (a.keep c o n h), a.tup.trans b.tup⟩
theorem Fr.mono (a : Fr ms H H1) (h : ∀ b, b ∈ ms → b ∈ ns) : Fr ns H H1 := ⟨fun c o n e => a.keep c o (fun z => n (h c z)) e, a.tup⟩
theorem Fr.same (a : Fr [] H H1) : Same H H1 := fun b o e => a.keep b o (List.not_mem_nil) e
theorem Fr.ofSame (s : Same H H1) : Fr ms H H1 := ⟨fun b o _ e => s b o e, fun a xs e => s a _ e⟩
theorem Fr.new (a : Fr ms H H1) (h : H1 p = none) : Fr ms H (upd H1 p o) := by
  refine ⟨fun b u n e => ?_, fun b xs e => ?_⟩
  · have q := a.keep b u n e
    rw [upd_ne (ne_of_none q h)]
    exact q
  · have q := a.tup b xs e
    rw [upd_ne (ne_of_none q h)]
    exact q
theorem Fr.up (h : H p = none) : Fr ms H (upd H p o) := (Fr.refl H).new h
/-- a list, an instance .. is written: it is one of ms, or new -/
theorem Fr.wr (a : Fr ms H H1) (h : H1 p = some o) (m : Mut (some o)) (hp : p ∈ ms ∨ H p = none) : Fr ms H (upd H1 p o') := by
  refine ⟨fun b u n e => ?_, fun b xs e => ?_⟩
  · have ne : b ≠ p := fun z => by
      rcases hp with q | q
      · exact n (z ▸ q)
      · rw [z, q] at e; cases e
    rw [upd_ne ne]
    exact a.keep b u n e
  · have q := a.tup b xs e
    have ne : b ≠ p := fun z => by
      rw [z, h] at q
      cases q
      exact m
    rw [upd_ne ne]
    exact q
theorem Fr.wl {xs : List V} (a : Fr ms H H1) (h : H1 p = some (.lst xs)) (hp : p ∈ ms ∨ H p = none) : Fr ms H (upd H1 p o') := a.wr h trivial hp
theorem Fr.wi {C dx : Addr} {fs : List (Str × V)} (a : Fr ms H H1) (h : H1 p = some (.ins C dx fs)) (hp : p ∈ ms ∨ H p = none) : Fr ms H (upd H1 p o') := a.wr h trivial hp
/-- what was not there ahead may be of ms -/
theorem Fr.cut (a : Fr (ms ++ ns) H H1) (h : ∀ b, b ∈ ns → H b = none) : Fr ms H H1 := by
  refine ⟨fun c o n e => a.keep c o (fun z => ?_) e, a.tup⟩
  rcases List.mem_append.mp z with q | q
  · exact n q
  · rw [h c q] at e
    cases e
theorem Fr.free (a : Fr [] H H1) (h : H1 p = none) : H p = none := a.same.free h
theorem Fr.back (a : Fr ms H H1) (n : p ∉ ms) (h : H1 p = none) : H p = none := by
  cases q : H p with
  | none => rfl
  | some o =>
    rw [a.keep p o n q] at h
    cases h
end
end Hq

/-! P2: readings step by step -/
namespace Hq
open PySem PySem.Spec PyProof.Rows L2
section
variable {σ : L2.St} {H : Hp} {Q : VK} {QT : Bool → Hp → Prop} {QA : List V → Hp → Prop} {D : Ends} {te ta tb tc : TE} {t u : TT} {ts us : TS} {tA tr : TA} {v x y : V} {i : Nat} {n j : Int} {K : PySem.W.Frag} {r r' : R2} {a p C dx : Addr} {fs : List (Str × V)} {f m : Str} {xs ys : List V} {sp : Sp} {E : XK}
theorem st_var (h : σ[i]? = some (some v)) (q : Q v H) : tVar i σ H Q := ⟨v, h, q⟩
theorem st_c (q : Q v H) : tC v σ H Q := q
theorem st_op (q : ta σ H fun x H1 => tb σ H1 fun y H2 => r x y H2 Q) : tOp r ta tb σ H Q := q
theorem st_un {r : V → Hp → VK → Prop} (q : ta σ H fun x H1 => r x H1 Q) : tUn r ta σ H Q := q
theorem st_I {c : Int → Int → Prop} {g : Int → Int → V} (h : c n j) (q : Q (g n j) H) : rI c g (.int n) (.int j) H Q := ⟨n, j, rfl, rfl, h, q⟩
theorem st_I0 {g : Int → Int → V} (q : Q (g n j) H) : rI0 g (.int n) (.int j) H Q := ⟨n, j, rfl, rfl, q⟩
theorem st_U {g : Int → V} (q : Q (g n) H) : rU g (.int n) H Q := ⟨n, rfl, q⟩
theorem st_eq (h : scal x y = true) (q : Q (.bl (decide (x = y))) H) : rEq x y H Q := ⟨h, q⟩
theorem st_ne (h : scal x y = true) (q : Q (.bl (!decide (x = y))) H) : rNe x y H Q := ⟨h, q⟩
theorem st_test (q : te σ H fun x H' => ∃ k, x = .bl k ∧ QT k H') : tTest te σ H QT := q
theorem st_B (q : te σ H fun x H' => ∃ k, x = .bl k ∧ QT k H') : tB te σ H QT := q
theorem st_bl {b : Bool} {R : Bool → Prop} (q : R b) : ∃ k, V.bl b = .bl k ∧ R k := ⟨b, rfl, q⟩
theorem st_isN (q : ta σ H fun x H1 => Q (.bl (decide (x = .non))) H1) : tIsN ta σ H Q := q
theorem st_notN (q : ta σ H fun x H1 => Q (.bl (!decide (x = .non))) H1) : tNotN ta σ H Q := q
theorem st_chain (q : ta σ H fun x H1 => tb σ H1 fun y H2 => r x y H2 fun z H3 => ∃ k, z = .bl k ∧ (if k = true then tc σ H3 fun w' H4 => r' y w' H4 Q else Q (.bl false) H3)) : tChain r r' ta tb tc σ H Q := q
theorem st_and (q : t σ H fun c H1 => if c = true then u σ H1 QT else QT false H1) : tAnd t u σ H QT := q
theorem st_or (q : t σ H fun c H1 => if c = true then QT true H1 else u σ H1 QT) : tOr t u σ H QT := q
theorem st_not (q : t σ H fun c H1 => QT (!c) H1) : tNot t σ H QT := q
theorem st_andV (q : ta σ H fun x H1 => ∃ c, x = .bl c ∧ if c = true then tb σ H1 Q else Q (.bl false) H1) : tAndV ta tb σ H Q := q
theorem st_orV (q : ta σ H fun x H1 => ∃ c, x = .bl c ∧ if c = true then Q (.bl true) H1 else tb σ H1 Q) : tOrV ta tb σ H Q := q
theorem st_notV (q : ta σ H fun x H1 => ∃ c, x = .bl c ∧ Q (.bl (!c)) H1) : tNotV ta σ H Q := q
theorem st_if (q : t σ H fun c H1 => if c = true then ta σ H1 Q else tb σ H1 Q) : tIf t ta tb σ H Q := q
theorem st_CB {r : List V → Hp → VK → Prop} (q : tA σ H fun vs H1 => r vs H1 Q) : tCB r tA σ H Q := q
theorem st_cons (q : te σ H fun x H1 => tr σ H1 fun xs H2 => QA (x :: xs) H2) : tCons te tr σ H QA := q
theorem st_nil (q : QA [] H) : tNil σ H QA := q
theorem st_tup (q : tA σ H fun xs H1 => xs.length ≤ sizeLine ∧ ∀ p, H1 p = none → Q (.ref p) (upd H1 p (.tup xs))) : tTup tA σ H Q := q
theorem st_lst (q : tA σ H fun xs H1 => xs.length ≤ sizeLine ∧ ∀ p, H1 p = none → Q (.ref p) (upd H1 p (.lst xs))) : tLst tA σ H Q := q
theorem st_fld (q : ta σ H fun x H1 => ∃ a C dx fs v, x = .ref a ∧ H1 a = some (.ins C dx fs) ∧ Cls K C ∧ NoAttr K C f ∧ fs.lookup f = some v ∧ Q v H1) : tFld K ta f σ H Q := q
theorem st_call (q : tA σ H fun vs H1 => sp (vs ++ []) H1 Q E) : tCall sp [] E tA σ H Q := q
theorem st_meth (q : ta σ H fun x H1 => ∃ a dx fs, x = .ref a ∧ H1 a = some (.ins C dx fs) ∧ fs.lookup m = none ∧ tA σ H1 fun vs H2 => sp (x :: (vs ++ [])) H2 Q E) : tMeth C m sp [] E ta tA σ H Q := q
theorem st_make (q : tA σ H fun vs H1 => ∀ x dx, H1 x = none → H1 dx = none → dx ≠ x → sp (.ref x :: (vs ++ [])) (upd (upd H1 dx (.own x)) x (.ins C dx [])) (fun v H2 => v = .non ∧ Q (.ref x) H2) E) : tMake C sp [] E tA σ H Q := q
theorem st_sl {r : V → Option Int → Option Int → Hp → VK → Prop} {tl th : TO} (q : te σ H fun x H1 => tl σ H1 fun l H2 => th σ H2 fun u H3 => r x l u H3 Q) : tSl r te tl th σ H Q := q
theorem st_noPart {QO : Option Int → Hp → Prop} (q : QO none H) : tNoPart σ H QO := q
theorem st_part {QO : Option Int → Hp → Prop} (q : te σ H fun x H1 => ∃ i, x = .int i ∧ QO (some i) H1) : tPart te σ H QO := q
theorem st_int {R : Int → Prop} (q : R n) : ∃ i, V.int n = .int i ∧ R i := ⟨n, rfl, q⟩
theorem st_ixL (h : SqL K H p xs) (e : atI xs n = some v) (q : Q v H) : rIxL K (.ref p) (.int n) H Q := ⟨p, xs, n, v, rfl, rfl, h, e, q⟩
theorem st_ixT (h : SqT K H p xs) (e : atI xs n = some v) (q : Q v H) : rIxT K (.ref p) (.int n) H Q := ⟨p, xs, n, v, rfl, rfl, h, e, q⟩
theorem st_bm {T : String} {r : V → List V → Hp → VK → Prop} (q : ta σ H fun x H1 => tyV K T x H1 ∧ tA σ H1 fun xs H2 => r x xs H2 Q) : tBM K T r ta tA σ H Q := q
theorem st_app (q : ta σ H fun x H1 => tyV K "list" x H1 ∧ te σ H1 fun y H2 => rAppend x [y] H2 Q) : tApp K ta te σ H Q := q
theorem ty_lst (h : H p = some (.lst xs)) : tyV K "list" (.ref p) H := .inl ⟨rfl, _, SqL.of h⟩
theorem st_append (h : H p = some (.lst xs)) (l : xs.length < sizeLine) (q : Q .non (upd H p (.lst (xs ++ [v])))) : rAppend (.ref p) [v] H Q := ⟨p, xs, v, rfl, rfl, h, l, q⟩
theorem st_len {n : Nat} (h : SqL K H p xs ∨ SqT K H p xs) (q : Q (.int xs.length) H) : rLen K [.ref p] H Q := ⟨p, xs, rfl, h, q⟩
theorem st_listOf (h : SqL K H p xs ∨ SqT K H p xs) (q : ∀ l, H l = none → Q (.ref l) (upd H l (.lst xs))) : rListOf K [.ref p] H Q := ⟨p, xs, rfl, h, q⟩
theorem st_tupOf (h : SqL K H p xs) (q : ∀ l, H l = none → Q (.ref l) (upd H l (.tup xs))) : rTupOf K [.ref p] H Q := ⟨p, xs, rfl, .inl ⟨h, q⟩⟩
def rIntI : List V → Hp → VK → Prop := fun xs H Q => ∃ i, xs = [.int i] ∧ Q (.int i) H
theorem st_intI (q : Q (.int n) H) : rIntI [.int n] H Q := ⟨n, rfl, q⟩
theorem kInt {X : Cx} : CallR X (.type "int") rIntI := by
  intro pins s σ H xs us Q I r h
  exact call_int1 pins s σ H xs us Q I r (.inl h)
def rAbs : List V → Hp → VK → Prop := fun xs H Q => ∃ i, xs = [.int i] ∧ Q (.int (if i < 0 then -i else i)) H
theorem st_abs (q : Q (.int (if n < 0 then -n else n)) H) : rAbs [.int n] H Q := ⟨n, rfl, q⟩
theorem kAbs {X : Cx} : CallR X (.builtin "abs") rAbs := call_abs
theorem iteNT {A B : Prop} (h : B) : if (!true) = true then A else B := by simpa using h
theorem iteNF {A B : Prop} (h : A) : if (!false) = true then A else B := by simpa using h
theorem iteD {p A B : Prop} [Decidable p] (h1 : p → A) (h2 : ¬ p → B) : if decide p = true then A else B := by
  by_cases h : p
  · rw [if_pos (decide_eq_true h)]
    exact h1 h
  · rw [if_neg (by simpa using h)]
    exact h2 h
theorem iteDN {p A B : Prop} [Decidable p] (h1 : p → A) (h2 : ¬ p → B) : if (!decide p) = true then B else A := by
  by_cases h : p
  · rw [if_neg (by simpa using h)]
    exact h1 h
  · rw [if_pos (by simpa using h)]
    exact h2 h
theorem iteB {b : Bool} {A B : Prop} (h1 : b = true → A) (h2 : b = false → B) : if b = true then A else B := by
  cases b with
  | true => rw [if_pos rfl]; exact h1 rfl
  | false => rw [if_neg Bool.false_ne_true]; exact h2 rfl
theorem at0 {x : V} {xs : List V} : atI (x :: xs) 0 = some x := by
  have h := atI_nat (xs := x :: xs) (j := 0) (v := x) rfl
  exact h
theorem at1 {x y : V} {xs : List V} : atI (x :: y :: xs) 1 = some y := by
  have h := atI_nat (xs := x :: y :: xs) (j := 1) (v := y) rfl
  exact h
theorem at2 {x0 x1 x2 : V} {xs : List V} : atI (x0 :: x1 :: x2 :: xs) 2 = some x2 := by
  have h := atI_nat (xs := x0 :: x1 :: x2 :: xs) (j := 2) (v := x2) rfl
  exact h
theorem at3 {x0 x1 x2 x3 : V} {xs : List V} : atI (x0 :: x1 :: x2 :: x3 :: xs) 3 = some x3 := by
  have h := atI_nat (xs := x0 :: x1 :: x2 :: x3 :: xs) (j := 3) (v := x3) rfl
  exact h
theorem at4 {x0 x1 x2 x3 x4 : V} {xs : List V} : atI (x0 :: x1 :: x2 :: x3 :: x4 :: xs) 4 = some x4 := by
  have h := atI_nat (xs := x0 :: x1 :: x2 :: x3 :: x4 :: xs) (j := 4) (v := x4) rfl
  exact h
theorem at5 {x0 x1 x2 x3 x4 x5 : V} {xs : List V} : atI (x0 :: x1 :: x2 :: x3 :: x4 :: x5 :: xs) 5 = some x5 := by
  have h := atI_nat (xs := x0 :: x1 :: x2 :: x3 :: x4 :: x5 :: xs) (j := 5) (v := x5) rfl
  exact h
theorem at6 {x0 x1 x2 x3 x4 x5 x6 : V} {xs : List V} : atI (x0 :: x1 :: x2 :: x3 :: x4 :: x5 :: x6 :: xs) 6 = some x6 := by
  have h := atI_nat (xs := x0 :: x1 :: x2 :: x3 :: x4 :: x5 :: x6 :: xs) (j := 6) (v := x6) rfl
  exact h
theorem at7 {x0 x1 x2 x3 x4 x5 x6 x7 : V} {xs : List V} : atI (x0 :: x1 :: x2 :: x3 :: x4 :: x5 :: x6 :: x7 :: xs) 7 = some x7 := by
  have h := atI_nat (xs := x0 :: x1 :: x2 :: x3 :: x4 :: x5 :: x6 :: x7 :: xs) (j := 7) (v := x7) rfl
  exact h
theorem at8 {x0 x1 x2 x3 x4 x5 x6 x7 x8 : V} {xs : List V} : atI (x0 :: x1 :: x2 :: x3 :: x4 :: x5 :: x6 :: x7 :: x8 :: xs) 8 = some x8 := by
  have h := atI_nat (xs := x0 :: x1 :: x2 :: x3 :: x4 :: x5 :: x6 :: x7 :: x8 :: xs) (j := 8) (v := x8) rfl
  exact h
theorem ixN_nat {n k : Nat} (h : k < n) : ixN n (k : Int) = some k := by
  unfold ixN
  rw [if_pos (by omega), if_pos (by omega)]
  rfl
theorem ix0 {n : Nat} : ixN (n + 1) 0 = some 0 := ixN_nat (k := 0) (by omega)
theorem seq0 {n : Nat} : PySem.seqIndex? 0 (n + 1) = some 0 := by
  unfold PySem.seqIndex?
  simp
theorem and_left {A B : Prop} (h : A) (q : B) : A ∧ B := ⟨h, q⟩
theorem st_popAt {k : Nat} (h : H p = some (.lst xs)) (hk : PySem.seqIndex? 0 xs.length = some k) (e : xs[k]? = some v) (q : Q v (upd H p (.lst (xs.eraseIdx k)))) : rPopAt (.ref p) [.int 0] H Q :=
  ⟨p, xs, 0, k, v, rfl, rfl, h, by decide, by decide, hk, e, q⟩
theorem at_in {xs : List V} {n : Int} (h0 : 0 ≤ n) (h1 : n < xs.length) : ∃ v, v ∈ xs ∧ atI xs n = some v := by
  obtain ⟨j, e⟩ : ∃ j : Nat, n = (j : Int) := ⟨n.toNat, by omega⟩
  have hj : j < xs.length := by omega
  subst e
  exact ⟨xs[j], List.getElem_mem hj, atI_nat (List.getElem?_eq_getElem hj)⟩
theorem st_popAtN {k : Nat} (hl : xs.length ≤ 1000000) (h : H p = some (.lst xs)) (e : xs[k]? = some v) (q : Q v (upd H p (.lst (xs.eraseIdx k)))) : rPopAt (.ref p) [.int k] H Q := by
  have hk := (List.getElem?_eq_some_iff.mp e).1
  refine ⟨p, xs, k, k, v, rfl, rfl, h, by omega, by omega, ?_, e, q⟩
  unfold PySem.seqIndex?
  have h1 : ¬ ((k : Int) < 0) := by omega
  have h2 : ¬ ((xs.length : Int) ≤ (k : Int)) := by omega
  simp [h1, h2]
  omega
theorem look_cons (f g : Str) (v : V) (fs : List (Str × V)) : List.lookup g ((f, v) :: fs) = if g = f then some v else List.lookup g fs := by
  rw [List.lookup_cons]
  by_cases h : g = f
  · rw [if_pos h, h]; simp
  · rw [if_neg h]
    have : (g == f) = false := by simpa using h
    rw [this]
theorem put_cons (f g : Str) (v w : V) (fs : List (Str × V)) : putF g w ((f, v) :: fs) = if f = g then (f, w) :: fs else (f, v) :: putF g w fs := rfl
theorem put_nil (g : Str) (w : V) : putF g w [] = [(g, w)] := rfl
theorem at_mod {xs : List V} (t : Int) (h : 0 < xs.length) : ∃ j : Nat, j < xs.length ∧ t % (xs.length : Int) = (j : Int) ∧ atI xs (t % (xs.length : Int)) = xs[j]? := by
  have h0 : 0 ≤ t % (xs.length : Int) := Int.emod_nonneg _ (by omega)
  have h1 : t % (xs.length : Int) < xs.length := Int.emod_lt_of_pos _ (by omega)
  obtain ⟨j, e⟩ : ∃ j : Nat, t % (xs.length : Int) = (j : Int) := ⟨(t % (xs.length : Int)).toNat, by omega⟩
  have hj : j < xs.length := by omega
  refine ⟨j, hj, e, ?_⟩
  rw [e, List.getElem?_eq_getElem hj]
  exact atI_nat (List.getElem?_eq_getElem hj)
theorem st_ins {R : Addr → Addr → Addr → List (Str × V) → Prop} (h : H a = some (.ins C dx fs)) (c : Cls K C) (n : NoAttr K C f) (l : fs.length < 1000) (q : R a C dx fs) :
    ∃ a' C' dx' fs', V.ref a = .ref a' ∧ H a' = some (.ins C' dx' fs') ∧ Cls K C' ∧ NoAttr K C' f ∧ fs'.length < 1000 ∧ R a' C' dx' fs' := ⟨a, C, dx, fs, rfl, h, c, n, l, q⟩
theorem st_att {R : V → Prop} (h : H a = some (.ins C dx fs)) (c : Cls K C) (n : NoAttr K C f) (l : fs.lookup f = some v) (q : R v) :
    ∃ a' C' dx' fs' v', V.ref a = .ref a' ∧ H a' = some (.ins C' dx' fs') ∧ Cls K C' ∧ NoAttr K C' f ∧ fs'.lookup f = some v' ∧ R v' := ⟨a, C, dx, fs, v, rfl, h, c, n, l, q⟩
theorem st_mt {R : Addr → Prop} (h : H a = some (.ins C dx fs)) (l : fs.lookup m = none) (q : R a) : ∃ a' dx' fs', V.ref a = .ref a' ∧ H a' = some (.ins C dx' fs') ∧ fs'.lookup m = none ∧ R a' := ⟨a, dx, fs, rfl, h, l, q⟩
theorem st_extend (h : H a = some (.lst xs)) (h2 : H p = some (.lst ys)) (l : xs.length + ys.length ≤ sizeLine) (q : Q .non (upd H a (.lst (xs ++ ys)))) : rExtend (.ref a) [.ref p] H Q := ⟨a, p, xs, ys, rfl, rfl, h, h2, l, q⟩
/-! isinstance against a built-in class -/
theorem st_isi {t n : String} {b : Bool} (h : TyX K H x (.type t)) (e : kitB t n = some b) (q : Q (.bl b) H) : rIsi K [x, .ty n] H Q := ⟨x, .ty n, _, _, b, rfl, .ty n, h, kit_ty e, q⟩
theorem kit_NoneType_bool : kitB "NoneType" "bool" = some false := by decide +kernel
theorem kit_NoneType_int : kitB "NoneType" "int" = some false := by decide +kernel
theorem kit_NoneType_str : kitB "NoneType" "str" = some false := by decide +kernel
theorem kit_NoneType_tuple : kitB "NoneType" "tuple" = some false := by decide +kernel
theorem kit_NoneType_list : kitB "NoneType" "list" = some false := by decide +kernel
theorem kit_NoneType_dict : kitB "NoneType" "dict" = some false := by decide +kernel
theorem kit_bool_bool : kitB "bool" "bool" = some true := by decide +kernel
theorem kit_bool_int : kitB "bool" "int" = some true := by decide +kernel
theorem kit_bool_str : kitB "bool" "str" = some false := by decide +kernel
theorem kit_bool_tuple : kitB "bool" "tuple" = some false := by decide +kernel
theorem kit_bool_list : kitB "bool" "list" = some false := by decide +kernel
theorem kit_bool_dict : kitB "bool" "dict" = some false := by decide +kernel
theorem kit_int_bool : kitB "int" "bool" = some false := by decide +kernel
theorem kit_int_int : kitB "int" "int" = some true := by decide +kernel
theorem kit_int_str : kitB "int" "str" = some false := by decide +kernel
theorem kit_int_tuple : kitB "int" "tuple" = some false := by decide +kernel
theorem kit_int_list : kitB "int" "list" = some false := by decide +kernel
theorem kit_int_dict : kitB "int" "dict" = some false := by decide +kernel
theorem kit_str_bool : kitB "str" "bool" = some false := by decide +kernel
theorem kit_str_int : kitB "str" "int" = some false := by decide +kernel
theorem kit_str_str : kitB "str" "str" = some true := by decide +kernel
theorem kit_str_tuple : kitB "str" "tuple" = some false := by decide +kernel
theorem kit_str_list : kitB "str" "list" = some false := by decide +kernel
theorem kit_str_dict : kitB "str" "dict" = some false := by decide +kernel
theorem kit_tuple_bool : kitB "tuple" "bool" = some false := by decide +kernel
theorem kit_tuple_int : kitB "tuple" "int" = some false := by decide +kernel
theorem kit_tuple_str : kitB "tuple" "str" = some false := by decide +kernel
theorem kit_tuple_tuple : kitB "tuple" "tuple" = some true := by decide +kernel
theorem kit_tuple_list : kitB "tuple" "list" = some false := by decide +kernel
theorem kit_tuple_dict : kitB "tuple" "dict" = some false := by decide +kernel
theorem kit_list_bool : kitB "list" "bool" = some false := by decide +kernel
theorem kit_list_int : kitB "list" "int" = some false := by decide +kernel
theorem kit_list_str : kitB "list" "str" = some false := by decide +kernel
theorem kit_list_tuple : kitB "list" "tuple" = some false := by decide +kernel
theorem kit_list_list : kitB "list" "list" = some true := by decide +kernel
theorem kit_list_dict : kitB "list" "dict" = some false := by decide +kernel
theorem kit_dict_bool : kitB "dict" "bool" = some false := by decide +kernel
theorem kit_dict_int : kitB "dict" "int" = some false := by decide +kernel
theorem kit_dict_str : kitB "dict" "str" = some false := by decide +kernel
theorem kit_dict_tuple : kitB "dict" "tuple" = some false := by decide +kernel
theorem kit_dict_list : kitB "dict" "list" = some false := by decide +kernel
theorem kit_dict_dict : kitB "dict" "dict" = some true := by decide +kernel
/-! statements -/
theorem st_seq (q : ts { D with nx := us D } σ H) : tSeq ts us D σ H := q
theorem st_next (q : D.nx σ H) : tNext D σ H := q
theorem st_drop (q : te σ H fun _ H1 => D.nx σ H1) : tDrop te D σ H := q
theorem st_ret (q : te σ H D.rt) : tRet te D σ H := q
theorem st_retN (q : D.rt .non H) : tRetN D σ H := q
theorem st_ifS {c : TT} (q : c σ H fun b H1 => if b = true then ts D σ H1 else us D σ H1) : tIfS c ts us D σ H := q
theorem st_asg {g : TG} (q : te σ H fun x H1 => g x σ H1 D.nx) : tAsg te g D σ H := q
theorem st_name {QG : L2.St → Hp → Prop} (q : QG (σ.set i (some v)) H) : gName i v σ H QG := q
theorem st_par {j : Nat} (q : tA σ H fun vs H1 => ∃ v w, vs = [v, w] ∧ D.nx ((σ.set i (some v)).set j (some w)) H1) : tPar i j tA D σ H := q
theorem st_gtup {QG : L2.St → Hp → Prop} {k : Nat} {g : TGs} (h : SqT K H a xs) (hl : xs.length = k) (q : g xs σ H QG) : gTup K k g (.ref a) σ H QG := ⟨a, xs, rfl, h, hl, q⟩
theorem st_gcons {QG : L2.St → Hp → Prop} {g : TG} {gs : TGs} (q : g v σ H fun σ' H' => gs xs σ' H' QG) : gCons g gs (v :: xs) σ H QG := ⟨v, xs, rfl, q⟩
theorem st_gnil {QG : L2.St → Hp → Prop} (q : QG σ H) : gNil [] σ H QG := ⟨rfl, q⟩
theorem st_gsub {QG : L2.St → Hp → Prop} {st : TSet} (q : ta σ H fun o H1 => tb σ H1 fun i H2 => st o i v H2 fun H3 => QG σ H3) : gSub ta tb st v σ H QG := q
theorem st_setL {QH : Hp → Prop} {k : Nat} (h : H p = some (.lst xs)) (e : ixN xs.length n = some k) (q : QH (upd H p (.lst (xs.set k v)))) : rSetL (.ref p) (.int n) v H QH := ⟨p, xs, n, k, rfl, rfl, h, e, q⟩
theorem st_sFld {tv : TE} (q : tv σ H fun y H1 => ta σ H1 fun x H2 => ∃ a C dx fs, x = .ref a ∧ H2 a = some (.ins C dx fs) ∧ Cls K C ∧ NoAttr K C f ∧ fs.length < 1000 ∧ D.nx σ (upd H2 a (.ins C dx (putF f y fs)))) : sFld K ta tv f D σ H := q
end
end Hq

/-! P3: zip of two sequences, each a list or a tuple -/
namespace Hq
open PySem PySem.Spec PyProof.Rows L2

/-- tuples: true, lists: false -/
def SqB (b : Bool) (K : PySem.W.Frag) (H : Hp) (a : Addr) (xs : List V) : Prop := match b with
  | true => SqT K H a xs
  | false => SqL K H a xs
def hIter (b : Bool) (h : Heap) (it l : Addr) (i : Nat) : Prop := match b with
  | true => h.IsTupleIter it l i
  | false => h.IsListIter it l i
def hSeq (b : Bool) (h : Heap) (l : Addr) (vs : Array Value) : Prop := match b with
  | true => h.IsTuple l vs
  | false => h.IsList l vs
def itName (b : Bool) : String := match b with
  | true => "tuple_iterator"
  | false => "list_iterator"
abbrev itObj (b : Bool) (l : Addr) : Obj := { cls := .type (itName b), data := .fields #[.ref l, .int 0 0] }
theorem hSeq.push {b : Bool} {h : Heap} {l : Addr} {vs : Array Value} (q : hSeq b h l vs) (o : Obj) : hSeq b (h.push o) l vs := by
  cases b with
  | true => exact Heap.IsTuple.push q o
  | false => exact Heap.IsList.push q o
theorem hSeq.lt {b : Bool} {h : Heap} {l : Addr} {vs : Array Value} (q : hSeq b h l vs) : l < h.objs.size := by
  cases b with
  | true =>
    obtain ⟨o, e, _⟩ := (show h.IsTuple l vs from q)
    exact Heap.lt_size e
  | false =>
    obtain ⟨o, _, e, _⟩ := (show h.IsList l vs from q)
    first | exact Heap.lt_size e | exact Heap.lt_size (by assumption)
theorem hIter.at {b : Bool} {h g : Heap} {it l : Addr} {i : Nat} (q : hIter b h it l i) (k : ∀ o, h.get? it = some o → g.get? it = some o) : hIter b g it l i := by
  cases b with
  | true => exact Heap.IsTupleIter.at q k
  | false => exact Heap.IsListIter.at q k
theorem hIter.obj {b : Bool} {h : Heap} {it l : Addr} {i : Nat} (q : hIter b h it l i) : ∃ o, h.get? it = some o ∧ ∀ v, o.data ≠ .cell v := by
  cases b with
  | true =>
    obtain ⟨o, e, _, d⟩ := (show h.IsTupleIter it l i from q)
    exact ⟨o, e, fun v z => by rw [d] at z; cases z⟩
  | false =>
    obtain ⟨o, e, _, d⟩ := (show h.IsListIter it l i from q)
    exact ⟨o, e, fun v z => by rw [d] at z; cases z⟩
theorem hIter.new (b : Bool) {h : Heap} {it l : Addr} (e : h.get? it = some (itObj b l)) : hIter b h it l 0 := by
  cases b with
  | true => exact ⟨_, e, rfl, rfl⟩
  | false => exact ⟨_, e, rfl, rfl⟩
theorem draws2 (b : Bool) {prog : Program} {w : World} {A : Around} (hh : A.handled = none) (it l : Addr) (ne : l ≠ it) (vs : Array Value) :
    Draws prog w A it [it, l] vs.size (fun i v => vs[i]? = some v) (fun i h => hIter b h it l i ∧ hSeq b h l vs) := by
  cases b with
  | true => exact Draws.tuple hh it l ne vs
  | false => exact Draws.list hh it l ne vs
section
variable {prog : Program} {w : World} {A : Around} {E : Value → Shared → Prop} {s : Shared}
theorem iter2 (b : Bool) {l : Addr} {vs : Array Value} {Q : Value → Shared → Prop} (q : hSeq b s.heap l vs) (h : Q (.ref s.heap.objs.size) { s with heap := s.heap.push (itObj b l) }) :
    wpAny (model prog w) A (pyIter (.ref l)) Q E s := by
  cases b with
  | true => exact wpAny_pyIter_tuple (show s.heap.IsTuple l vs from q) h
  | false => exact wpAny_pyIter_list (show s.heap.IsList l vs from q) h
end
section
variable (b c : Bool)
abbrev zg1 (h : Heap) (l m : Addr) : Heap := h.push (itObj b l)
abbrev zg2 (h : Heap) (l m : Addr) : Heap := (zg1 b h l m).push (itObj c m)
abbrev zg3 (h : Heap) (l m : Addr) : Heap := (zg2 b c h l m).push { cls := .type "tuple", data := .seq #[.ref h.objs.size, .ref (zg1 b h l m).objs.size] }
abbrev zg4 (h : Heap) (l m : Addr) : Heap := (zg3 b c h l m).push { cls := .type "tuple", data := .seq #[.none, .none] }
abbrev zg5 (h : Heap) (l m : Addr) : Heap := (zg4 b c h l m).push { cls := .type "zip", data := .fields #[.none, .bool false, .bool false, .ref (zg2 b c h l m).objs.size, .ref (zg3 b c h l m).objs.size] }
theorem zipNew (l m : Addr) (xs ys : Array Value) :
    Meets (Builtin.«zip.__new__» ⟨[.type "zip", .ref l, .ref m], []⟩) (fun _ R s => hSeq b s.heap l xs ∧ hSeq c s.heap m ys ∧
      R (.ok (.ret (.ref (zg4 b c s.heap l m).objs.size))) { s with heap := zg5 b c s.heap l m }) :=
  .of_wp fun prog w A R s h => by
    obtain ⟨hp, g, d, tk, os⟩ := s
    obtain ⟨q1, q2, h⟩ := h
    have sub := sub_zip
    have q1' : hSeq b (Shared.heap ⟨hp, g, d, tk, os⟩) l xs := q1
    have q2' : hSeq c (Shared.heap ⟨hp.push (itObj b l), g, d, tk, os⟩) m ys := hSeq.push q2 _
    wp_walk using iter2 b q1', iter2 c q2'
    exact ⟨_, rfl, h⟩
variable {prog : Program} {w : World} {A : Around} {E : Value → Shared → Prop} {s : Shared}
theorem zipCall {l m : Addr} {xs ys : Array Value} {Q : Value → Shared → Prop} (q1 : hSeq b s.heap l xs) (q2 : hSeq c s.heap m ys)
    (h : ∀ g, IsZip g (s.heap.objs.size + 4) (s.heap.objs.size + 2) (s.heap.objs.size + 3) .none → IsTupOf2 g (s.heap.objs.size + 2) (.ref s.heap.objs.size) (.ref (s.heap.objs.size + 1)) →
      IsTupOf2 g (s.heap.objs.size + 3) .none .none → hIter b g s.heap.objs.size l 0 → hIter c g (s.heap.objs.size + 1) m 0 →
      (∀ a o, s.heap.get? a = some o → g.get? a = some o) → Q (.ref (s.heap.objs.size + 4)) { s with heap := g }) :
    wpAny (model prog w) A (call (.type "zip") [.ref l, .ref m]) Q E s := by
  refine callType_new F.called_zip (by decide) (F.typeCall_zip_2 _ _) (F.newCall_zip_2 _ _) (fun obj => F.args_object_init_3 obj _ _) F.entry_zip_new (zipNew b c l m xs ys) ⟨q1, q2, ?_⟩
  have n1 : (zg1 b s.heap l m).objs.size = s.heap.objs.size + 1 := Heap.size_push ..
  have n2 : (zg2 b c s.heap l m).objs.size = s.heap.objs.size + 2 := by rw [Heap.size_push, n1]
  have n3 : (zg3 b c s.heap l m).objs.size = s.heap.objs.size + 3 := by rw [Heap.size_push, n2]
  have n4 : (zg4 b c s.heap l m).objs.size = s.heap.objs.size + 4 := by rw [Heap.size_push, n3]
  have up : ∀ a o, s.heap.get? a = some o → (zg5 b c s.heap l m).get? a = some o := fun a o e =>
    Heap.get?_push_of_some _ (Heap.get?_push_of_some _ (Heap.get?_push_of_some _ (Heap.get?_push_of_some _ (Heap.get?_push_of_some _ e))))
  have g5 : (zg5 b c s.heap l m).get? (zg4 b c s.heap l m).objs.size = some _ := Heap.get?_push_size _ rfl
  have g4 : (zg5 b c s.heap l m).get? (zg3 b c s.heap l m).objs.size = some _ := Heap.get?_push_of_some _ (Heap.get?_push_size _ rfl)
  have g3 : (zg5 b c s.heap l m).get? (zg2 b c s.heap l m).objs.size = some _ := Heap.get?_push_of_some _ (Heap.get?_push_of_some _ (Heap.get?_push_size _ rfl))
  have g2 : (zg5 b c s.heap l m).get? (zg1 b s.heap l m).objs.size = some (itObj c m) := Heap.get?_push_of_some _ (Heap.get?_push_of_some _ (Heap.get?_push_of_some _ (Heap.get?_push_size _ (by cases c <;> rfl))))
  have g1 : (zg5 b c s.heap l m).get? s.heap.objs.size = some (itObj b l) :=
    Heap.get?_push_of_some _ (Heap.get?_push_of_some _ (Heap.get?_push_of_some _ (Heap.get?_push_of_some _ (Heap.get?_push_size _ (by cases b <;> rfl)))))
  show _ ∧ _
  rw [n2, n3, n4] at g5
  rw [n1, n2] at g3
  rw [n3] at g4
  rw [n1] at g2
  rw [n4]
  exact ⟨⟨_, g5, rfl⟩, h _ g5 g3 g4 (hIter.new b g1) (hIter.new c g2) up⟩
end
section
variable {X : Cx} {pins : List (Addr × Obj)} {σ : L2.St} {H : Hp} {s : Shared}
theorem Inv_seq (I : Inv X pins σ H s) (b : Bool) {a : Addr} {xs : List V} (h : SqB b X.K H a xs) : ∃ its : List Value, Vals xs its ∧ hSeq b s.heap a its.toArray := by
  cases b with
  | true =>
    obtain ⟨its, r, p, _⟩ := I.tuple h
    exact ⟨its, r, p⟩
  | false =>
    obtain ⟨its, r, p, _⟩ := I.list h
    exact ⟨its, r, p.isList⟩
theorem Inv_seq_inj (I : Inv X pins σ H s) (b : Bool) {a : Addr} {xs ys : List V} (h : SqB b X.K H a xs) (g : SqB b X.K H a ys) : xs = ys := by
  cases b with
  | true => exact I.tuple_inj h g
  | false => exact I.list_inj h g
end
/-- the sequences at a and b as they stand at each turn, the items in new pairs -/
def ItZ (b c : Bool) (K : PySem.W.Frag) (l m : Addr) : It where
  go := fun i H => ∃ xs ys x y, SqB b K H l xs ∧ SqB c K H m ys ∧ xs[i]? = some x ∧ ys[i]? = some y
  yld := fun i H v H' => ∃ T x y, v = .ref T ∧ H T = none ∧ H' = upd H T (.tup [x, y]) ∧ (∀ xs, SqB b K H l xs → xs[i]? = some x) ∧ ∀ ys, SqB c K H m ys → ys[i]? = some y
  stop := fun i H => ∃ xs ys, SqB b K H l xs ∧ SqB c K H m ys ∧ i ≤ xs.length ∧ i ≤ ys.length ∧ (i = xs.length ∨ i = ys.length)
theorem turnZ {P : Program} {w : World} {K : PySem.W.Frag} {elts : List Expr} {kk : Nat} {tpos : Pos} (b c : Bool) {l m z TI TO i1 i2 : Addr} (a1 : TI ≠ z) (a2 : TO ≠ z) (a3 : TI ≠ TO) (a4 : TI ≠ i1) (a5 : TI ≠ i2) (a6 : z ≠ i1) (a7 : z ≠ i2) (a8 : TO ≠ i1) (a9 : TO ≠ i2) (a0 : i1 ≠ i2)
    (lz : l ≠ z) (lt : l ≠ TO) (l1 : l ≠ i1) (l2 : l ≠ i2) (mz : m ≠ z) (mt : m ≠ TO) (m1 : m ≠ i1) (m2 : m ≠ i2) :
    Turn P w K (.Tuple elts kk tpos) (ItZ b c K l m) [z, TI, TO, i1, i2] z (fun i h => IsZip h z TI TO .none ∧ IsTupOf2 h TI (.ref i1) (.ref i2) ∧ (∃ x y, IsTupOf2 h TO x y) ∧ hIter b h i1 l i ∧ hIter c h i2 m i) where
  mem := by simp
  obj := fun i h st d hd => by
    obtain ⟨hz, hI, ⟨x, y, hO⟩, h1, h2⟩ := st
    have hd' : d = z ∨ d = TI ∨ d = TO ∨ d = i1 ∨ d = i2 := by simpa using hd
    rcases hd' with rfl | rfl | rfl | rfl | rfl
    · exact ⟨_, hz, fun v q => nomatch q⟩
    · exact ⟨_, hI, fun v q => nomatch q⟩
    · exact ⟨_, hO, fun v q => nomatch q⟩
    · exact h1.obj
    · exact h2.obj
  keep := fun i h g st k => by
    obtain ⟨hz, hI, ⟨x, y, hO⟩, h1, h2⟩ := st
    exact ⟨k z (by simp) _ hz, k TI (by simp) _ hI, ⟨x, y, k TO (by simp) _ hO⟩, h1.at fun o q => k i1 (by simp) o q, h2.at fun o q => k i2 (by simp) o q⟩
  item := by
    intro X eP ew eK hc i pins s σ H E I hf st hg
    cases eP
    cases ew
    cases eK
    obtain ⟨hz, hI, ⟨x0, y0, hO⟩, h1, h2⟩ := st
    obtain ⟨xs, ys, x, y, qx, qy, hx, hy⟩ := hg
    obtain ⟨its, rv, p⟩ := Inv_seq I b qx
    obtain ⟨jts, rw2, p2⟩ := Inv_seq I c qy
    obtain ⟨u, hu, ru⟩ := rv.get hx
    obtain ⟨v, hv, rv'⟩ := rw2.get hy
    have zl : z < s.heap.objs.size := Heap.lt_size hz
    have hh : X.A.in1.handled = none := I.ok.hd hc
    have S : ZipSep2 z TI TO i1 i2 [i1, l] [i2, m] := ⟨a1, a2, a3, a4, by simp, by simp [a6, lz.symm], by simp [a8, lt.symm], a5, by simp, by simp [a7, mz.symm], by simp [a9, mt.symm], by simp [a0, m1.symm], by simp [a0.symm, l2.symm]⟩
    have b1 : i < its.toArray.size := by
      have := (List.getElem?_eq_some_iff.mp hu).1
      simpa using this
    have b2 : i < jts.toArray.size := by
      have := (List.getElem?_eq_some_iff.mp hv).1
      simpa using this
    refine wpAny_pyNext_zipD2_item S (draws2 b hh i1 l l1 its.toArray) (draws2 c hh i2 m m2 jts.toArray) hz hI hO ⟨h1, p⟩ ⟨h2, p2⟩ b1 b2 fun v1 v2 g tk e1 e2 gz gO s1 s2 gT gs gk => ?_
    have e1' : v1 = u := by
      have := e1.symm.trans (show its.toArray[i]? = some u by simpa using hu)
      simpa using this
    have e2' : v2 = v := by
      have := e2.symm.trans (show jts.toArray[i]? = some v by simpa using hv)
      simpa using this
    subst e1' e2'
    refine ⟨_, rfl, wpAny_letOwnedTupleGo_zip (s := { s with heap := g, toks := tk }) gz fun g2 gz2 sb => ?_⟩
    have gT2 : g2.get? s.heap.objs.size = some { cls := .type "tuple", data := .seq #[v1, v2] } := (sb.2 _ (Nat.ne_of_gt zl)).trans gT
    have new : ObjOk X.prog X.w (upd H s.heap.objs.size (.tup [x, y])) g2 s.heap.objs.size (.tup [x, y]) := ⟨by show 2 ≤ sizeLine; decide, [v1, v2], .cons ru (.cons rv' .nil), ⟨_, gT2, rfl, _, rfl⟩⟩
    have I1 : Inv X pins σ (upd H s.heap.objs.size (.tup [x, y])) { s with heap := g2, toks := tk } :=
      I.turnedNew (t' := tk) (ch := [z, TI, TO, i1, i2]) (fun d o hb q => (sb.2 d (fun q' => hb (by simp [q']))).trans (gk d o (fun q' => hb (by simp [q'])) (fun q' => hb (by simp [q'])) (fun q' => hb (by simp [q'])) (fun q' => hb (by simp [q'])) q)) hf (Nat.le_refl _) new
    refine ⟨.ref s.heap.objs.size, _, I1, rfl, ⟨_, x, y, rfl, I.hok.fresh (Nat.le_refl _), rfl, fun us hl => ?_, fun us hl => ?_⟩, ⟨gz2, ?_, ⟨v1, v2, ?_⟩, ?_, ?_⟩, fun d hd => ?_⟩
    · rw [Inv_seq_inj I b hl qx]; exact hx
    · rw [Inv_seq_inj I c hl qy]; exact hy
    · exact (sb.2 _ a1).trans (gk _ _ a1 a3 a4 a5 hI)
    · exact (sb.2 _ a2).trans gO
    · exact s1.1.at fun o q => (sb.2 _ a6.symm).trans q
    · exact s2.1.at fun o q => (sb.2 _ a7.symm).trans q
    · have lt : d < s.heap.objs.size := by
        have hd' : d = z ∨ d = TI ∨ d = TO ∨ d = i1 ∨ d = i2 := by simpa using hd
        rcases hd' with rfl | rfl | rfl | rfl | rfl
        · exact zl
        · exact Heap.lt_size hI
        · exact Heap.lt_size hO
        · obtain ⟨_, e, _⟩ := h1.obj
          exact Heap.lt_size e
        · obtain ⟨_, e, _⟩ := h2.obj
          exact Heap.lt_size e
      rw [upd_ne (Nat.ne_of_lt lt)]
      exact (hf d hd).1
  done := by
    intro X eP ew eK hc i pins s σ H E I hf st hg
    cases eP
    cases ew
    cases eK
    obtain ⟨hz, hI, ⟨x0, y0, hO⟩, h1, h2⟩ := st
    obtain ⟨xs, ys, qx, qy, le1, le2, hend⟩ := hg
    obtain ⟨its, rv, p⟩ := Inv_seq I b qx
    obtain ⟨jts, rw2, p2⟩ := Inv_seq I c qy
    have n1 := rv.length
    have n2 := rw2.length
    have hh : X.A.in1.handled = none := I.ok.hd hc
    have S : ZipSep2 z TI TO i1 i2 [i1, l] [i2, m] := ⟨a1, a2, a3, a4, by simp, by simp [a6, lz.symm], by simp [a8, lt.symm], a5, by simp, by simp [a7, mz.symm], by simp [a9, mt.symm], by simp [a0, m1.symm], by simp [a0.symm, l2.symm]⟩
    refine wpAny_pyNext_zipD2_end S (draws2 b hh i1 l l1 its.toArray) (draws2 c hh i2 m m2 jts.toArray) hz hI hO ⟨h1, p⟩ ⟨h2, p2⟩ (by simp; omega) (by simp; omega) (by simp; omega) fun g tk gk => ?_
    exact ⟨rfl, I.turnedL (t' := tk) (ch := [z, TI, TO, i1, i2]) (fun d o hb q => gk d o (fun q' => hb (by simp [q'])) (fun q' => hb (by simp [q'])) (fun q' => hb (by simp [q'])) (fun q' => hb (by simp [q'])) q) hf⟩
  self := fun A i s Q E st h => wpAny_pyIter_zip st.1 h
theorem apartN (n l m : Nat) (hl : l < n) (hm : m < n) : n + 2 ≠ n + 4 ∧ n + 3 ≠ n + 4 ∧ n + 2 ≠ n + 3 ∧ n + 2 ≠ n ∧ n + 2 ≠ n + 1 ∧ n + 4 ≠ n ∧ n + 4 ≠ n + 1 ∧ n + 3 ≠ n ∧ n + 3 ≠ n + 1 ∧ n ≠ n + 1 ∧
    l ≠ n + 4 ∧ l ≠ n + 3 ∧ l ≠ n ∧ l ≠ n + 1 ∧ m ≠ n + 4 ∧ m ≠ n + 3 ∧ m ≠ n ∧ m ≠ n + 1 := by omega
theorem geN (n d : Nat) (h : d = n + 4 ∨ d = n + 2 ∨ d = n + 3 ∨ d = n ∨ d = n + 1) : n ≤ d := by omega
def iZ (b c : Bool) (K : PySem.W.Frag) (ta : TA) : TI := fun σ H R => ta σ H fun vs H1 => ∃ l m xs ys, vs = [.ref l, .ref m] ∧ SqB b K H1 l xs ∧ SqB c K H1 m ys ∧ R (ItZ b c K l m) H1
theorem kZip (b c : Bool) {X : Cx} {K : PySem.W.Frag} {e e2 : Expr} {ta : TA} {p pos tpos : Pos} {elts : List Expr} {kk : Nat} (hg : Gl X "zip") (hm : X.mg "zip" = none) (ha : PA X [e, e2] ta) (hK : X.K = K := by rfl)
    (hs : starEach [e, e2] X.env = (false, eval e X.env) :: starEach [e2] X.env := by rfl) (hpl : (backTo pos (starEach [e2] X.env)).any (·.1) = false := by rfl) :
    PI X (.Tuple elts kk tpos) (.Call (.Name "zip" p) [e, e2] [] pos) (iZ b c K ta) := by
  cases hK
  refine ⟨fun pins s σ H R I h => ?_⟩
  refine Call_ (ld_blt I hg hm PyProof.Rows.boot_zip (PyProof.Rows.callWith_type1 (thn (ha.run pos pins s σ H _ I h) ?_) hs hpl))
  rintro us s1 ⟨vs, H1, I1, r1, l, m, xs, ys, rfl, qx, qy, q⟩
  obtain ⟨u1, u2, rfl, e1, e2⟩ := vals2 r1
  cases e1
  cases e2
  obtain ⟨its, rv, p1⟩ := Inv_seq I1 b qx
  obtain ⟨jts, rw2, p2⟩ := Inv_seq I1 c qy
  have ll := p1.lt
  have lm := p2.lt
  refine zipCall b c p1 p2 fun g gz gI gO g1 g2 gk => wpAny_pyIter_zip gz ?_
  have I2 : Inv X pins σ H1 { s1 with heap := g } := I1.kept (t' := s1.toks) gk
  obtain ⟨a1, a2, a3, a4, a5, a6, a7, a8, a9, a0, b1, b2, b3, b4, b5, b6, b7, b8⟩ := apartN s1.heap.objs.size l m ll lm
  refine ⟨s1.heap.objs.size + 4, [s1.heap.objs.size + 4, s1.heap.objs.size + 2, s1.heap.objs.size + 3, s1.heap.objs.size, s1.heap.objs.size + 1], _, _, H1, rfl, I2,
    turnZ b c a1 a2 a3 a4 a5 a6 a7 a8 a9 a0 b1 b2 b3 b4 b5 b6 b7 b8, ⟨gz, gI, ⟨_, _, gO⟩, g1, g2⟩, fun d hd => ?_, q⟩
  have le : s1.heap.objs.size ≤ d := geN _ _ (by simpa using hd)
  exact I1.fpOk le (I1.hok.fresh le)
theorem walkZ {b c : Bool} {K : PySem.W.Frag} {l m : Addr} {xs ys : List V} {n : Nat} (hn : n = min xs.length ys.length) : Walk (ItZ b c K l m) n (fun H => SqB b K H l xs ∧ SqB c K H m ys) (YPair (fun i => xs[i]?) (fun i => ys[i]?)) := by
  cases hn
  refine ⟨fun i H hi q => ?_, fun H q => ⟨xs, ys, q.1, q.2, by omega, by omega, by omega⟩, fun i H v H' hi q y => ?_⟩
  · have h1 : i < xs.length := by omega
    have h2 : i < ys.length := by omega
    exact ⟨xs, ys, xs[i], ys[i], q.1, q.2, by simp [h1], by simp [h2]⟩
  · obtain ⟨T, x, z, h1, h2, h3, h4, h5⟩ := y
    exact ⟨T, x, z, h1, h2, h3, h4 xs q.1, h5 ys q.2⟩
end Hq

/-! P4: what is walked; comprehensions and loops over a walk -/
namespace Hq
open PySem PySem.Spec PyProof.Rows L2
section
variable {σ : L2.St} {H : Hp} {K : PySem.W.Frag} {R : It → Hp → Prop} {tl te : TE} {ta : TA} {tt : TT} {g : TG} {wi : TI} {vs : List Nat} {Q : VK} {D : Ends} {tb : TS} {a l m : Addr} {xs ys : List V} {n i j : Int} {b c : Bool}
theorem st_iL (q : tl σ H fun x H1 => ∃ a, x = .ref a ∧ (∃ xs, SqL K H1 a xs) ∧ R (Itl K a) H1) : iList K tl σ H R := q
theorem st_iT (q : tl σ H fun x H1 => ∃ a, x = .ref a ∧ (∃ xs, SqT K H1 a xs) ∧ R (Itt K a) H1) : iTup K tl σ H R := q
theorem st_refL {R : Addr → Prop} (h : SqL K H a xs) (q : R a) : ∃ a', V.ref a = .ref a' ∧ (∃ xs, SqL K H a' xs) ∧ R a' := ⟨a, rfl, ⟨xs, h⟩, q⟩
theorem st_refT {R : Addr → Prop} (h : SqT K H a xs) (q : R a) : ∃ a', V.ref a = .ref a' ∧ (∃ xs, SqT K H a' xs) ∧ R a' := ⟨a, rfl, ⟨xs, h⟩, q⟩
theorem st_iR1 (q : ta σ H fun vs H1 => ∃ j : Int, vs = [.int j] ∧ -(2 ^ 62) ≤ j ∧ j < 2 ^ 62 ∧ R (Itr 0 j.toNat) H1) : iRng1 ta σ H R := q
theorem st_iR2 (q : ta σ H fun vs H1 => ∃ i j : Int, vs = [.int i, .int j] ∧ (-(2 ^ 62) ≤ i ∧ i < 2 ^ 62 ∧ -(2 ^ 62) ≤ j ∧ j < 2 ^ 62) ∧ R (Itr i (j - i).toNat) H1) : iRng2 ta σ H R := q
theorem st_rng1 {R : Int → Prop} (h : -1000000000 ≤ n ∧ n ≤ 1000000000) (q : R n) : ∃ j : Int, [V.int n] = [.int j] ∧ -(2 ^ 62) ≤ j ∧ j < 2 ^ 62 ∧ R j := ⟨n, rfl, by omega, by omega, q⟩
theorem st_rng2 {R : Int → Int → Prop} (h : (-1000000000 ≤ i ∧ i ≤ 1000000000) ∧ -1000000000 ≤ j ∧ j ≤ 1000000000) (q : R i j) : ∃ i' j' : Int, [V.int i, .int j] = [.int i', .int j'] ∧ (-(2 ^ 62) ≤ i' ∧ i' < 2 ^ 62 ∧ -(2 ^ 62) ≤ j' ∧ j' < 2 ^ 62) ∧ R i' j' :=
  ⟨i, j, rfl, ⟨by omega, by omega, by omega, by omega⟩, q⟩
theorem st_iZ (q : ta σ H fun vs H1 => ∃ l m xs ys, vs = [.ref l, .ref m] ∧ SqB b K H1 l xs ∧ SqB c K H1 m ys ∧ R (ItZ b c K l m) H1) : iZ b c K ta σ H R := q
theorem st_zip {R : Addr → Addr → Prop} (h : SqB b K H l xs) (h2 : SqB c K H m ys) (q : R l m) : ∃ l' m' xs ys, [V.ref l, .ref m] = [.ref l', .ref m'] ∧ SqB b K H l' xs ∧ SqB c K H m' ys ∧ R l' m' := ⟨l, m, xs, ys, rfl, h, h2, q⟩
theorem st_lc (q : wi σ H fun J H1 => ∀ D, H1 D = none → ∃ W : Nat → Nat → Hp → Prop, (∃ m, W 0 m (upd H1 D (.lst []))) ∧ ∀ i m H, W i m H →
  (J.stop i H ∧ Q (.ref D) H) ∨ (J.go i H ∧ ∃ Nx : Hp → Prop, (∀ H', Nx H' → ∃ m', m' < m ∧ W (i + 1) m' H') ∧ ∀ x H', J.yld i H x H' → g x (wipe σ vs) H' fun σ2 H2 => wipe σ2 vs = wipe σ vs ∧ tt σ2 H2 fun b H3 =>
    if b = true then te σ2 H3 fun y H4 => ∃ acc, H4 D = some (.lst acc) ∧ acc.length < sizeLine ∧ Nx (upd H4 D (.lst (acc ++ [y]))) else Nx H3)) : tLc wi g tt te vs σ H Q := q
theorem st_for (q : wi σ H fun J H1 => ∃ W : Nat → Nat → L2.St → Hp → Prop, (∃ m, W 0 m σ H1) ∧ ∀ i m σ H, W i m σ H →
  (J.stop i H ∧ D.nx σ H) ∨ (J.go i H ∧ ∃ N : L2.St → Hp → Prop, (∀ σ' H', N σ' H' → ∃ m', m' < m ∧ W (i + 1) m' σ' H') ∧ ∀ x H', J.yld i H x H' → g x σ H' fun σ2 H2 => tb { D with nx := N, ct := N, bk := D.nx } σ2 H2)) : tFor wi g tb D σ H := q
theorem st_wipe {σ2 : L2.St} {B : Prop} (h : wipe σ2 vs = wipe σ vs) (q : B) : wipe σ2 vs = wipe σ vs ∧ B := ⟨h, q⟩
theorem st_slL {lo hi : Option Int} (h : SqL K H a xs) (q : ∀ p, H p = none → Q (.ref p) (upd H p (.lst (cutV xs lo hi)))) : rSlL K (.ref a) lo hi H Q := ⟨a, xs, rfl, h, q⟩
theorem cut_take (xs : List V) (k : Nat) : cutV xs none (some (k : Int)) = xs.take k := by
  unfold cutV
  rw [HT.sIx_none, HT.sIx_nat, List.drop_zero, Nat.sub_zero]
  by_cases h : k ≤ xs.length
  · rw [Nat.min_eq_left h]
  · rw [Nat.min_eq_right (by omega), List.take_length, List.take_of_length_le (by omega)]
theorem cut_drop (xs : List V) (k : Nat) : cutV xs (some (k : Int)) none = xs.drop k := by
  unfold cutV
  rw [HT.sIx_none, HT.sIx_nat]
  by_cases h : k ≤ xs.length
  · rw [Nat.min_eq_left h, List.take_of_length_le (by simp)]
  · rw [Nat.min_eq_right (by omega), List.drop_length, List.drop_of_length_le (by omega), List.take_nil]
theorem st_cat {zs : List V} (h : H a = some (.lst xs)) (h2 : H l = some (.lst zs)) (hl : xs.length + zs.length ≤ sizeLine) (q : ∀ p, H p = none → Q (.ref p) (upd H p (.lst (xs ++ zs)))) : rCat (.ref a) (.ref l) H Q := ⟨a, l, xs, zs, rfl, rfl, h, h2, hl, q⟩
theorem st_sum {ns : List Int} (h : SqL K H a (ns.map V.int)) (q : Q (.int ns.sum) H) : rSum K [.ref a] H Q := ⟨a, ns, rfl, h, q⟩
theorem st_all {bs : List Bool} (h : SqL K H a (bs.map V.bl)) (q : Q (.bl (bs.all id)) H) : rAll K [.ref a] H Q := ⟨a, bs, rfl, h, q⟩
theorem st_any {bs : List Bool} (h : SqL K H a (bs.map V.bl)) (q : Q (.bl (bs.any id)) H) : rAny K [.ref a] H Q := ⟨a, bs, rfl, h, q⟩
theorem ex_int {ns : List Int} {x : V} (h : x ∈ ns.map V.int) : ∃ n, n ∈ ns ∧ x = .int n := by
  obtain ⟨n, a, b⟩ := List.mem_map.mp h
  exact ⟨n, a, b.symm⟩
theorem line_of {n : Nat} (h : n ≤ 100000) : n ≤ sizeLine := Nat.le_trans h (by decide)
theorem line_lt {n : Nat} (h : n ≤ 100000) : n < sizeLine := Nat.lt_of_le_of_lt h (by decide)
theorem st_size {zs : List V} {B : Prop} (h : zs.length ≤ sizeLine) (q : B) : zs.length ≤ sizeLine ∧ B := ⟨h, q⟩
theorem take_snoc {α : Type} {xs : List α} {i : Nat} {x : α} (h : xs[i]? = some x) : xs.take (i + 1) = xs.take i ++ [x] := by
  rw [List.take_add_one, h]
  rfl
theorem st_two {x y : V} {R : V → V → Prop} (q : R x y) : ∃ v w, [x, y] = [v, w] ∧ R v w := ⟨x, y, rfl, q⟩
theorem st_yes {QT : Bool → Hp → Prop} (q : QT true H) : tYes σ H QT := q
end
section
variable {J : It} {n : Nat} {G : Hp → Prop} {Y : Nat → Hp → V → Hp → Prop} {g : TG} {tt : TT} {te : TE} {vs : List Nat} {σ : L2.St} {H1 : Hp} {D : Addr} {Qd : Hp → Prop}
/-- a comprehension that changes nothing: f tells what becomes of an item -/
theorem lc_pure {xs : List V} (f : V → Option V) (w : Walk J xs.length G (YAt xs)) (hG : ∀ o, G (upd H1 D o)) (hl : xs.length < sizeLine)
    (hs : ∀ x acc, x ∈ xs → acc.length < sizeLine → ∀ Nx : Hp → Prop, Nx (upd H1 D (.lst (acc ++ (f x).toList))) → g x (wipe σ vs) (upd H1 D (.lst acc)) fun σ2 H2 => wipe σ2 vs = wipe σ vs ∧ tt σ2 H2 fun b H3 =>
      if b = true then te σ2 H3 fun y H4 => ∃ acc, H4 D = some (.lst acc) ∧ acc.length < sizeLine ∧ Nx (upd H4 D (.lst (acc ++ [y]))) else Nx H3)
    (hd : Qd (upd H1 D (.lst (xs.filterMap f)))) :
    ∃ W : Nat → Nat → Hp → Prop, (∃ m, W 0 m (upd H1 D (.lst []))) ∧ ∀ i m H, W i m H →
      (J.stop i H ∧ Qd H) ∨ (J.go i H ∧ ∃ Nx : Hp → Prop, (∀ H', Nx H' → ∃ m', m' < m ∧ W (i + 1) m' H') ∧ ∀ x H', J.yld i H x H' → g x (wipe σ vs) H' fun σ2 H2 => wipe σ2 vs = wipe σ vs ∧ tt σ2 H2 fun b H3 =>
        if b = true then te σ2 H3 fun y H4 => ∃ acc, H4 D = some (.lst acc) ∧ acc.length < sizeLine ∧ Nx (upd H4 D (.lst (acc ++ [y]))) else Nx H3) := by
  refine lc_it w (fun i H => H = upd H1 D (.lst ((xs.take i).filterMap f))) (by simp) (fun i H hi e => by rw [e]; exact hG _) (fun i x H H' hi e y => ?_) (fun H e => ?_)
  · obtain ⟨e2, hx⟩ := y
    subst e2
    rw [e]
    have hlen : ((xs.take i).filterMap f).length < sizeLine := by
      have h1 := List.length_filterMap_le f (xs.take i)
      have h2 : (xs.take i).length ≤ xs.length := by rw [List.length_take]; exact Nat.min_le_right _ _
      exact Nat.lt_of_le_of_lt (Nat.le_trans h1 h2) hl
    refine hs x _ (List.mem_of_getElem? hx) hlen _ ?_
    have e3 : xs.take (i + 1) = xs.take i ++ [x] := by
      rw [List.take_add_one, hx]
      rfl
    have e4 : List.filterMap f [x] = (f x).toList := by
      cases hf : f x with
      | none => rw [List.filterMap_cons_none hf]; rfl
      | some z => rw [List.filterMap_cons_some hf]; rfl
    rw [e3, List.filterMap_append, e4]
  · rw [e, List.take_length]
    exact hd
theorem fm_ints (f : Int → Option Int) (F : V → Option V) (h : ∀ n, F (.int n) = (f n).map V.int) : ∀ ns : List Int, (ns.map V.int).filterMap F = (ns.filterMap f).map V.int
  | [] => rfl
  | n :: ns => by
    rw [List.map_cons]
    cases e : f n with
    | none => rw [List.filterMap_cons_none (by rw [h, e]; rfl), List.filterMap_cons_none e, fm_ints f F h ns]
    | some z => rw [List.filterMap_cons_some (b := V.int z) (by rw [h, e]; rfl), List.filterMap_cons_some e, fm_ints f F h ns, List.map_cons]
theorem lc_ints {ns : List Int} (f : Int → Option Int) (w : Walk J (ns.map V.int).length G (YAt (ns.map V.int))) (hG : ∀ o, G (upd H1 D o)) (hl : ns.length < sizeLine)
    (hs : ∀ x acc, x ∈ ns → acc.length < sizeLine → ∀ Nx : Hp → Prop, Nx (upd H1 D (.lst (acc ++ ((f x).map V.int).toList))) → g (.int x) (wipe σ vs) (upd H1 D (.lst acc)) fun σ2 H2 => wipe σ2 vs = wipe σ vs ∧ tt σ2 H2 fun b H3 =>
      if b = true then te σ2 H3 fun y H4 => ∃ acc, H4 D = some (.lst acc) ∧ acc.length < sizeLine ∧ Nx (upd H4 D (.lst (acc ++ [y]))) else Nx H3)
    (hd : Qd (upd H1 D (.lst ((ns.filterMap f).map V.int)))) :
    ∃ W : Nat → Nat → Hp → Prop, (∃ m, W 0 m (upd H1 D (.lst []))) ∧ ∀ i m H, W i m H →
      (J.stop i H ∧ Qd H) ∨ (J.go i H ∧ ∃ Nx : Hp → Prop, (∀ H', Nx H' → ∃ m', m' < m ∧ W (i + 1) m' H') ∧ ∀ x H', J.yld i H x H' → g x (wipe σ vs) H' fun σ2 H2 => wipe σ2 vs = wipe σ vs ∧ tt σ2 H2 fun b H3 =>
        if b = true then te σ2 H3 fun y H4 => ∃ acc, H4 D = some (.lst acc) ∧ acc.length < sizeLine ∧ Nx (upd H4 D (.lst (acc ++ [y]))) else Nx H3) := by
  refine lc_pure (fun x => match x with | .int n => (f n).map V.int | _ => none) w hG (by simpa using hl) (fun x acc hx ha Nx hN => ?_) ?_
  · obtain ⟨n, hn, rfl⟩ := ex_int hx
    exact hs n acc hn ha Nx hN
  · rw [fm_ints f _ (fun n => rfl)]
    exact hd
end
end Hq

/-! P5: dicts with tuple keys: == and !=, the dict comprehension (also of dicts with other keys) -/
namespace Hq
open PySem PySem.Spec PyProof.Rows L2 PyProof.V PySem.W

/-! ### == of two dicts with tuple keys -/
section
variable {prog : Program} {w : World} {K : Type} [DecidableEq K] {knd : HeapKind prog w K} {A : Around} {E : Value → Shared → Prop} {s : Shared}
/-- every key of the one stands in the other, with an equal worth -/
def HitsH (prog : Program) (w : World) (A : Around) (s : Shared) (kb : List (K × Addr × Value)) (ka : List (K × Addr × Value)) : Prop :=
  ∀ x ∈ ka, ∃ p, atKey kb x.1 = some p ∧ SeqAt.EqP prog w A s x.2.2 p.2 true
theorem sameH {nm : String} {a b : Addr} {ka kb : List (K × Addr × Value)} {Q : Bool → Shared → Prop} (hu : knd.room A) (ha : (a == sysModules) = false) (hb : (b == sysModules) = false)
    (da : s.heap.DictOfH knd a ka) (db : s.heap.DictOfH knd b kb) (hl : ka.length = kb.length) (hits : HitsH prog w A s kb ka) (h : Q true s) :
    wpAny (model prog w) A (Builtin.Dict.samePairs nm a b) Q E s := by
  obtain ⟨oa, es, ep, hoa, _, hda, hea, hia, _⟩ := da
  obtain ⟨ob, fs, ep', hob, _, hdb, heb, hib, hnb⟩ := db
  have hsa : es.size = ka.length := size_of_entries hea
  have hsb : fs.size = kb.length := size_of_entries heb
  unfold Builtin.Dict.samePairs Builtin.Dict.showsAll
  rw [if_neg (show ¬ (a == sysModules) = true by rw [ha]; exact Bool.false_ne_true), if_neg (show ¬ (b == sysModules) = true by rw [hb]; exact Bool.false_ne_true)]
  refine wpAny_bind (wpAny_pure (wpAny_bind (wpAny_pure ?_)))
  refine wpAny_bind (wpAny_dictEntries hoa hda ?_)
  dsimp only
  refine wpAny_bind (wpAny_dictEntries hob hdb ?_)
  have hsz : es.size = fs.size := by omega
  rw [if_neg (by rw [hsz]; simp)]
  refine wpAny_bind (wpAny_dictEpoch hoa hda ?_)
  refine wpAny_bind ?_
  rw [Std.Legacy.Range.forIn_eq_forIn_range']
  simp only [Std.Legacy.Range.size, Nat.sub_zero, Nat.add_sub_cancel, Nat.div_one]
  refine wpAny_forIn_list _ (fun rest q s' => s' = s ∧ q = (none, ()) ∧ ∃ i, rest = List.range' i (es.size - i) ∧ i ≤ es.size) _ ?_ ?_ _ _ ⟨rfl, rfl, 0, by simp, Nat.zero_le _⟩
  · rintro x rest q s' ⟨rfl, rfl, i, hr, hi⟩
    have hlt : i < es.size := by
      rcases Nat.lt_or_ge i es.size with h | h
      · exact h
      · rw [Nat.sub_eq_zero_of_le h] at hr; simp at hr
    obtain ⟨rfl, hrest⟩ : x = i ∧ rest = List.range' (i + 1) (es.size - (i + 1)) := by
      have e : es.size - i = (es.size - (i + 1)) + 1 := by omega
      rw [e, List.range'_succ] at hr
      injection hr with h1 h2
      exact ⟨h1, h2⟩
    refine wpAny_bind (wpAny_dictEntries hoa hda ?_)
    have hx : x < ka.length := by omega
    have hat : es[x]? = some (entryOfKey knd ka[x]) := by rw [entry_at hea x, List.getElem?_eq_getElem hx]; rfl
    rw [hat]
    obtain ⟨p, hp, he⟩ := hits ka[x] (List.getElem_mem hx)
    show wpAny _ _ (holding [Value.ref ka[x].2.1, ka[x].2.2] _ >>= _) _ _ _
    refine wpAny_bind (wpAny_holding (wpAny_bind (wpAny_dictFind_heap (k := ka[x].1) hu (hia _ (List.getElem_mem hx)) hob hdb heb hib hnb (fun hno => ?_) (fun j p' hj => ?_))))
    · rw [atKey_none_of_get hno] at hp
      exact nomatch hp
    · rw [atKey_of_get hnb hj] at hp
      cases hp
      refine wpAny_bind (wpAny_dictEntries hob hdb ?_)
      rw [entry_at heb j, hj]
      refine wpAny_holding (he _ _ ?_)
      show wpAny _ _ (if (!true) = true then _ else _) _ _ _
      rw [if_neg (by decide)]
      refine wpAny_bind (wpAny_dictEpoch hoa hda ?_)
      rw [if_neg (by simp)]
      exact wpAny_pure ⟨rfl, rfl, x + 1, hrest, hlt⟩
  · rintro q s' ⟨rfl, rfl, i, hr, hi⟩
    exact wpAny_pure h
theorem eqH {nm : Bool} {a b : Addr} {ka kb : List (K × Addr × Value)} {Q : Value → Shared → Prop} (hu : A.units < cLine) (hr : knd.room A.in1) (ha : (a == sysModules) = false) (hb : (b == sysModules) = false)
    (da : s.heap.DictOfH knd a ka) (db : s.heap.DictOfH knd b kb) (hl : ka.length = kb.length) (hits : HitsH prog w A.in1 s kb ka) (h : Q (.bool nm) s) :
    wpAny (model prog w) A (compareOp (if nm = true then .Eq else .NotEq) (.ref a) (.ref b)) Q E s := by
  cases nm with
  | true =>
    rw [if_pos rfl]
    refine wpAny_richCompare_same_room (op := .Eq) da.typeIs db.typeIs PySem.F.slot_dict_eq (wpAny_call_entry PySem.F.slot_dict_eq da.typeIs PySem.F.entry_dict_eq ?_ (PySem.F.args_dict_eq_2 _ _)) hu
    show wpAny _ _ (Builtin.Dict.dictSlotArgs "__eq__" ⟨[.ref a, .ref b], []⟩ >>= _) _ _ s
    refine wpAny_bind ?_
    unfold Builtin.Dict.dictSlotArgs
    refine wpAny_bind (wpAny_notOrdered_dict da.typeIs ?_)
    show wpAny _ _ (pure (Value.ref a, Value.ref b)) _ _ s
    refine wpAny_pure ?_
    refine wpAny_bind (wpAny_isInstance (T := "dict") db.typeIs PySem.F.sub_dict_dict ?_)
    simp only [Bool.not_true, Bool.false_eq_true, if_false]
    refine wpAny_bind (wpAny_pure (wpAny_bind (wpAny_pure ?_)))
    refine wpAny_bind (sameH hr ha hb da db hl hits ?_)
    exact wpAny_pure ⟨_, rfl, fun x => (nomatch x), h⟩
  | false =>
    rw [if_neg Bool.false_ne_true]
    refine wpAny_richCompare_same_room (op := .NotEq) da.typeIs db.typeIs PySem.F.slot_dict_ne (wpAny_call_entry PySem.F.slot_dict_ne da.typeIs PySem.F.entry_dict_ne ?_ (PySem.F.args_dict_ne_2 _ _)) hu
    show wpAny _ _ (Builtin.Dict.dictSlotArgs "__ne__" ⟨[.ref a, .ref b], []⟩ >>= _) _ _ s
    refine wpAny_bind ?_
    unfold Builtin.Dict.dictSlotArgs
    refine wpAny_bind (wpAny_notOrdered_dict da.typeIs ?_)
    show wpAny _ _ (pure (Value.ref a, Value.ref b)) _ _ s
    refine wpAny_pure ?_
    refine wpAny_bind (wpAny_isInstance (T := "dict") db.typeIs PySem.F.sub_dict_dict ?_)
    simp only [Bool.not_true, Bool.false_eq_true, if_false]
    refine wpAny_bind (wpAny_pure (wpAny_bind (wpAny_pure ?_)))
    refine wpAny_bind (sameH hr ha hb da db hl hits ?_)
    exact wpAny_pure ⟨_, rfl, fun x => (nomatch x), h⟩
end
/-- the two dicts hold the same keys with equal data -/
def SameT (K : PySem.W.Frag) (H : Hp) (x y : V) : Prop := ∃ a b ks ls, x = .ref a ∧ y = .ref b ∧ H a = some (.dT ks) ∧ H b = some (.dT ls) ∧ ks.length = ls.length ∧
  ∀ p ∈ ks, ∃ u d, valV ls p.1 = some u ∧ Dp K H p.2 d ∧ Dp K H u d ∧ SeqAt.shaped d = true
theorem hitsT {X : Cx} {pins : List (Addr × Obj)} {σ : L2.St} {H : Hp} {s : Shared} (I : Inv X pins σ H s) {A : Around} (hu : A.in1.units + 64 < cLine) {ls : List (List Key × V)} {kb : List (List Key × Addr × Value)} (rb : KT H ls kb) {ks : List (List Key × V)} {ka : List (List Key × Addr × Value)}
    (ra : KT H ks ka) : (∀ p ∈ ks, ∃ u d, valV ls p.1 = some u ∧ Dp X.K H p.2 d ∧ Dp X.K H u d ∧ SeqAt.shaped d = true) → HitsH X.prog X.w A.in1 s kb ka := by
  induction ra with
  | nil => exact fun _ x hx => nomatch hx
  | @cons p q ps qs h t ih =>
    intro hp x hx
    rcases List.mem_cons.mp hx with e | hx
    · subst e
      obtain ⟨u, d, e, d1, d2, sh⟩ := hp p List.mem_cons_self
      obtain ⟨h1, _, h3⟩ := h
      obtain ⟨y, hy, ry⟩ := RelO.some_of (v := u) (o := (atKey kb p.1).map (·.2)) (by rw [← e]; exact rb.val p.1)
      obtain ⟨z, hz, ez⟩ := Option.map_eq_some_iff.mp hy
      obtain ⟨as, r1⟩ := Dp.reads I d _ _ d1 h3
      obtain ⟨bs, r2⟩ := Dp.reads I d _ _ d2 ry
      refine ⟨z, by rw [← h1]; exact hz, ?_⟩
      rw [ez]
      have k := PySem.W.keq_at r1 r2 sh sh hu
      rw [SeqAt.eqv_refl _ (SeqAt.canLay_of_shaped sh)] at k
      exact k.eqP
    · exact ih (fun p' hm => hp p' (List.mem_cons_of_mem _ hm)) x hx
section
variable {X : Cx} {K : PySem.W.Frag}
theorem sameT_run {pins : List (Addr × Obj)} {σ : L2.St} {H : Hp} {s : Shared} {x y : V} {v u : Value} {E : Value → Shared → Prop} {Q : Value → Shared → Prop} (nm : Bool) (hu : X.A.units + 66 < cLine) (I : Inv X pins σ H s) (rx : RelV x v) (ry : RelV y u) (h : SameT X.K H x y) (q : Q (.bool nm) s) :
    wpAny (model X.prog X.w) X.A (compareOp (if nm = true then .Eq else .NotEq) v u) Q E s := by
  obtain ⟨a, b, ks, ls, rfl, rfl, ea, eb, hl, hp⟩ := h
  obtain rfl : v = Value.ref a := rx
  obtain rfl : u = Value.ref b := ry
  obtain ⟨_, ya, va, ra, da⟩ := dt_of I.hok ea
  obtain ⟨_, yb, vb, rb, db⟩ := dt_of I.hok eb
  have hu1 : X.A.in1.units = X.A.units + 1 := rfl
  exact eqH (by omega) (tupleKind_room_in1 (by omega)) ya yb da db (by rw [← Paired.length ra, ← Paired.length rb]; exact hl) (hitsT I (by rw [hu1]; omega) rb ra hp) q
def rNeT (K : PySem.W.Frag) : R2 := fun x y H Q => SameT K H x y ∧ Q (.bl false) H
def rEqT (K : PySem.W.Frag) : R2 := fun x y H Q => SameT K H x y ∧ Q (.bl true) H
theorem kNeT (hu : X.A.units + 66 < cLine) (h : X.K = K := by rfl) : OpR X (compareOp .NotEq) (rNeT K) := by
  cases h
  intro pins s σ H x y v u Q I rx ry ⟨h, q⟩
  exact sameT_run false hu I rx ry h ⟨.bl false, H, I, rfl, q⟩
theorem kEqT (hu : X.A.units + 66 < cLine) (h : X.K = K := by rfl) : OpR X (compareOp .Eq) (rEqT K) := by
  cases h
  intro pins s σ H x y v u Q I rx ry ⟨h, q⟩
  exact sameT_run true hu I rx ry h ⟨.bl true, H, I, rfl, q⟩
end
/-! ### the dict comprehension, whatever the keys: after the library's own one -/
/-- d[y] = z by a comprehension -/
theorem d_dictSetG {X : Cx} {pins : List (Addr × Obj)} {σ : L2.St} {H H' : Hp} {s : Shared} {E : Value → Shared → Prop} {D : Addr} {y v : V} {u r : Value} {Q : Unit → Shared → Prop} (hu : X.A.units < cLine) (I : Inv X pins σ H s) (g : DPut H D y v H')
    (ry : RelV y u) (rv : RelV v r) (h : ∀ s', Inv X pins σ H' s' → Q () s') : wpAny (model X.prog X.w) X.A (dictSet D u r) Q E s := by
  rcases g with ⟨kvs, k, e, ey, l, eH⟩ | ⟨kvs, k, b, e, ey, eb, l, eH⟩
  · subst ey eH
    exact d_dictSet I e l ry rv h
  · subst ey eH
    cases (show u = Value.ref b from ry)
    obtain ⟨z, hd, xs, rel, dd⟩ := dt_of I.hok e
    have hz : xs.length ≤ sizeLine := by rw [← Paired.length rel]; exact z
    have hl : (putK kvs k v).length ≤ sizeLine := by have := length_putK kvs k v; omega
    refine wpAny_dictSet_heap (hsz := hz) (show (tupleKind (mixKind X.prog X.w)).room X.A from hu) (key_of I.hok eb) dd fun h' dd' hs => h _ ?_
    obtain ⟨q, es, ep, hq, h2, h3, h4, _, h5⟩ := dd'
    refine d_write I (by rw [e]; exact True.intro) hs ⟨q, hq⟩ ⟨hl, hd, _, (rel.put k eb rv).keeps fun c ys ec => ?_, q, es, ep, hq, h2, h3, h4, h5⟩
    rw [upd_ne (ne_of ec e (fun z => nomatch z))]
    exact ec
section
variable {X : Cx}
/-- {k: v for target in iter if ..}: D the new dict -/
def tDcG (o0 : HO) (wi : TI) (g : TG) (tt : TT) (tk tv : TE) (vs : List Nat) : TE := fun σ H Q => wi σ H fun J H1 => ∀ D, H1 D = none → ∃ W : Nat → Nat → Hp → Prop, (∃ m, W 0 m (upd H1 D o0)) ∧ ∀ i m H, W i m H →
  (J.stop i H ∧ Q (.ref D) H) ∨ (J.go i H ∧ ∃ Nx : Hp → Prop, (∀ H', Nx H' → ∃ m', m' < m ∧ W (i + 1) m' H') ∧ ∀ x H', J.yld i H x H' → g x (wipe σ vs) H' fun σ2 H2 => wipe σ2 vs = wipe σ vs ∧ tt σ2 H2 fun b H3 =>
    if b = true then tk σ2 H3 fun y H4 => tv σ2 H4 fun z H5 => ∃ H6, DPut H5 D y z H6 ∧ Nx H6 else Nx H3)
theorem dcG_core (o0 : HO) (hu : X.A.units < cLine) (ho : o0 = .dK [] ∨ o0 = .dT []) {pins : List (Addr × Obj)} {s : Shared} {σ : L2.St} {H : Hp} {Q : VK} {kx vx tg iter : Expr} {ifs : List Expr} {scope : Scope} {own : List (Str × Nat)} {pos pos' : Pos} {wi : TI} {g : TG} {tt : TT} {tk tv : TE} {use : Option (Value → Sem Unit)} {Qf : Value → Shared → Prop}
    (hc : X.calm = true) (hN : X.N.Nodup) (I : Inv X pins σ H s) (hi : PI X tg iter wi) (ok : BlkOk X.N X.env.scope scope own)
    (hg : ∀ (s : Shared) (H : Hp) (C : Addr) (cl : List (Str × Addr)) (fp : List Addr), PG (X.blk s H scope (compEnvC scope cl C X.env) fp) tg g) (ht : ∀ (s : Shared) (H : Hp) (C : Addr) (cl : List (Str × Addr)) (fp : List Addr), PTs (X.blk s H scope (compEnvC scope cl C X.env) fp) ifs tt)
    (hk : ∀ (s : Shared) (H : Hp) (C : Addr) (cl : List (Str × Addr)) (fp : List Addr), PE (X.blk s H scope (compEnvC scope cl C X.env) fp) kx tk)
    (he : ∀ (s : Shared) (H : Hp) (C : Addr) (cl : List (Str × Addr)) (fp : List Addr), PE (X.blk s H scope (compEnvC scope cl C X.env) fp) vx tv) (hs : ∀ x, foldedSetIterable iter X.env x = pure x)
    (h : tDcG o0 wi g tt tk tv (own.map (·.2)) σ H Q)
    (hRR : ∀ D C s' m H', Inv X pins σ H' s' → Q (.ref D) H' → s'.heap.Ns C m → FpOk X pins H' C → compPost (model X.prog X.w) X.A X.xe use Qf (.ref D) C (.ok .next) s') :
    wpAny (model X.prog X.w) X.A (comprehension (.DictComp kx vx [⟨tg, iter, ifs, 0⟩] scope pos) scope X.env pos' newDict false (eval iter X.env) use) Qf X.xe s := by
  have hfree : ∀ y ∈ scope.names, y.2 = .free → ∃ c, X.env.cells.lookup y.1 = some c := fun y hy e => by
    rcases ok.free y hy e with k | k
    · exact I.ok.has _ (.inl k)
    · exact I.ok.has _ (.inr k)
  refine wpAny_comprehension_free (use := use) rfl hs (closure_ok hfree) ok.kind (fun y hy e => by rw [ok.uniq y hy, e])
    (thn (hi.run pins s σ H _ I h) fun xv s1 hx => thn hx fun itv s2 h2 => ?_)
  obtain ⟨it, fp, tn, J, H2, e, I2, T, st2, f2, q⟩ := h2
  subst e
  refine wpAny_newObj_type (newEnv_comp ?_)
  generalize hD : s2.heap.objs.size = D
  have hDn : H2 D = none := I2.hok.fresh (Nat.le_of_eq hD)
  obtain ⟨W, ⟨m0, w0⟩, turn⟩ := q D hDn
  -- the new list
  generalize hs3 : ({ s2 with heap := s2.heap.push { cls := .type "dict", data := .dict #[] } } : Shared) = s3
  have I3 : Inv X pins σ (upd H2 D o0) s3 := by
    rw [← hs3]
    refine I2.laid (t' := s2.toks) (fun b o e => Heap.get?_push_of_some _ e) (Nat.le_of_eq hD) ?_
    rw [← hD]
    rcases ho with e | e
    · rw [e]; exact dk_empty s2.heap I2.big
    · rw [e]; exact dt_empty s2.heap I2.big
  have h3 : s3.heap = s2.heap.push { cls := .type "dict", data := .dict #[] } := by rw [← hs3]
  have sz : ∀ b ∈ fp, b < s2.heap.objs.size := fun b hb => by
    obtain ⟨o, e, _⟩ := T.obj _ _ st2 b hb
    exact Heap.lt_size e
  have f3 : ∀ b ∈ fp, FpOk X pins (upd H2 D o0) b ∧ b < s3.heap.objs.size := fun b hb => by
    have hlt := sz b hb
    refine ⟨⟨?_, (f2 b hb).2⟩, by rw [h3, Heap.size_push]; exact Nat.lt_succ_of_lt hlt⟩
    rw [upd_ne (by rw [← hD]; exact Nat.ne_of_lt hlt)]
    exact (f2 b hb).1
  have st3 : tn 0 s3.heap := T.keep _ _ _ st2 fun b _ o e => by rw [h3]; exact Heap.get?_push_of_some _ e
  have I4 := block_start I3 ok hN f3
  have pg := hg s3 (upd H2 D o0) s3.heap.objs.size (cellsFrom (s3.heap.objs.size + 1) scope.names (cloFrom X.env.cells scope.names [])) fp
  have pt := ht s3 (upd H2 D o0) s3.heap.objs.size (cellsFrom (s3.heap.objs.size + 1) scope.names (cloFrom X.env.cells scope.names [])) fp
  have pk := hk s3 (upd H2 D o0) s3.heap.objs.size (cellsFrom (s3.heap.objs.size + 1) scope.names (cloFrom X.env.cells scope.names [])) fp
  have pe := he s3 (upd H2 D o0) s3.heap.objs.size (cellsFrom (s3.heap.objs.size + 1) scope.names (cloFrom X.env.cells scope.names [])) fp
  show codeAny _ _ (.compStart (.DictComp kx vx [⟨tg, iter, ifs, 0⟩] scope pos) 0 (.ref it) (.ref D) (compEnvC scope (cellsFrom (s3.heap.objs.size + 1) scope.names (cloFrom X.env.cells scope.names [])) s3.heap.objs.size X.env)) (compPost (model X.prog X.w) X.A X.xe use Qf (.ref D) s3.heap.objs.size) { s3 with heap := pushCells (s3.heap.push { cls := .type "dict", data := .dict #[] }) scope.names }
  have nfp : ∀ b ∈ fp, (upd H2 D o0) b = none := fun b hb => (f3 b hb).1.1
  generalize hce : compEnvC scope (cellsFrom (s3.heap.objs.size + 1) scope.names (cloFrom X.env.cells scope.names [])) s3.heap.objs.size X.env = ce at I4 pg pt pk pe ⊢
  have cL : ce.locals = s3.heap.objs.size := by subst hce; rfl
  generalize hH3 : upd H2 D o0 = H3 at I3 I4 pg pt pk pe w0 nfp f3
  generalize hs4 : ({ s3 with heap := pushCells (s3.heap.push { cls := .type "dict", data := .dict #[] }) scope.names } : Shared) = s4 at I4 ⊢
  have st4 : tn 0 s4.heap := T.keep _ _ _ st3 fun b _ o e => by rw [← hs4]; exact pushCells_keeps _ _ _ _ (Heap.get?_push_of_some _ e)
  have stat : ∀ {σ' : L2.St} {H' : Hp} {s' : Shared}, Inv (X.blk s3 H3 scope ce fp) [] σ' H' s' → (∀ b ∈ fp, H' b = none) → ∀ b ∈ fp, FpOk (X.blk s3 H3 scope ce fp) [] H' b := fun {σ' H' s'} I' hn b hb =>
    ⟨hn b hb, (I'.ok.exf b hb).1, I'.ok.exfs b hb, .inl hb, fun x c e => (I'.ok.exf b hb).2 x c e, fun p hp => absurd (show p ∈ ([] : List (Addr × Obj)) ++ [] from hp) (by simp)⟩
  have loop : codeAny (model X.prog X.w) X.A (.compLoop (.DictComp kx vx [⟨tg, iter, ifs, 0⟩] scope pos) 0 (.ref it) (.ref D) ce) (compPost (model X.prog X.w) X.A X.xe use Qf (.ref D) s3.heap.objs.size) s4 := by
    refine compLoop_anyD (fun n s' => ∃ i H', Inv (X.blk s3 H3 scope ce fp) [] (wipe σ (own.map (·.2))) H' s' ∧ tn i s'.heap ∧ (∀ b ∈ fp, H' b = none) ∧ W i n H') ?_ m0 ⟨0, H3, I4, st4, nfp, w0⟩
    rintro n s5 ⟨i, H5, I5, st5, n5, w5⟩
    rcases turn i n H5 w5 with ⟨stop, qq⟩ | ⟨go, Nx, hNx, step⟩
    · have td := T.done (X.blk s3 H3 scope ce fp) rfl rfl rfl hc i [] s5 _ H5 (fun _ _ => False) I5 (stat I5 n5) st5 stop
      refine thnF td fun r s6 ⟨hr, I6⟩ => ?_
      subst hr
      -- back in the def's context
      have I7 : Inv X pins σ H5 s6 := I3.call' (ch := fp) I6.os I6.base I6.hok I6.bare fun b hb => ⟨(f3 b hb).1.2.2.2.1, (f3 b hb).1.2.1, (f3 b hb).1.2.2.2.2.1, (f3 b hb).1.2.2.2.2.2⟩
      have nC : H5 s3.heap.objs.size = none := by
        have z : H5 ce.locals = none := I6.free
        rw [cL] at z
        exact z
      obtain ⟨m, hn, _⟩ := I6.loc
      have hn : s6.heap.Ns ce.locals m := hn
      rw [cL] at hn
      exact hRR D s3.heap.objs.size s6 m H5 I7 qq hn (I3.fpOk (Nat.le_refl _) nC)
    · have ti := T.item (X.blk s3 H3 scope ce fp) rfl rfl rfl hc i [] s5 _ H5 (fun _ _ => False) I5 (stat I5 n5) st5 go
      refine thnF ti fun r s6 ⟨u, hr, h6⟩ => ?_
      subst hr
      refine thnF h6 fun _ s7 ⟨x, H7, I7, r7, y7, st7, n7⟩ => ?_
      have I7' := I7.pinned (stat I7 n7) (T.obj _ _ st7)
      refine thnF (pg.run _ s7 _ H7 x u _ I7' r7 (step x H7 y7)) fun _ s8 ⟨σ8, H8, I8, hw8, q8⟩ => ?_
      refine thnF (pt.run _ s8 σ8 H8 _ I8 q8) fun b s9 ⟨H9, I9, q9⟩ => ?_
      -- the turn's end
      have fin : ∀ {s' : Shared} {H' : Hp}, Inv (X.blk s3 H3 scope ce fp) ([] ++ pinsAt fp s7.heap) σ8 H' s' → Nx H' → ∃ m, m < n ∧ ∃ i H', Inv (X.blk s3 H3 scope ce fp) [] (wipe σ (own.map (·.2))) H' s' ∧ tn i s'.heap ∧ (∀ b ∈ fp, H' b = none) ∧ W i m H' := fun {s' H'} I' nx => by
        obtain ⟨m', hm, w'⟩ := hNx H' nx
        have pin' : ∀ b ∈ fp, ∀ o, s7.heap.get? b = some o → s'.heap.get? b = some o ∧ H' b = none := fun b hb o e =>
          let z := I'.pin (b, o) (List.mem_append_right _ (List.mem_append_right _ (mem_pinsAt hb e)))
          ⟨z.1, z.2.1⟩
        have hl : (wipe σ (own.map (·.2))).length = σ8.length := by rw [← hw8, wipe_length]
        refine ⟨m', hm, i + 1, H', (I'.unpinned (pins := [])).weak hl (fun j v e => ?_), T.keep _ _ _ st7 fun b hb o e => (pin' b hb o e).1, fun b hb => ?_, w'⟩
        · rw [← hw8] at e
          exact (wipe_some e).1
        · obtain ⟨o, e, _⟩ := T.obj _ _ st7 b hb
          exact (pin' b hb o e).2
      cases b with
      | false =>
        simp only [Bool.false_eq_true, if_false] at q9 ⊢
        exact fin I9 q9
      | true =>
        simp only [if_true] at q9 ⊢
        refine thnF (pk.run _ s9 σ8 H9 _ I9 q9) fun z s10 ⟨yk, H10, I10, r10, q10⟩ => ?_
        refine thnF (pe.run _ s10 σ8 H10 _ I10 q10) fun z2 s11 ⟨yv, H11, I11, r11, H12, hP, nx⟩ => ?_
        exact d_dictSetG (X := X.blk s3 H3 scope ce fp) hu I11 hP r10 r11 fun s12 I12 => fin I12 nx
  exact codeAny_compStart_dict loop (T.self X.A 0 _ _ _ st4 loop)
/-- as a value -/
theorem pe_dcG (o0 : HO) (hu : X.A.units < cLine) (ho : o0 = .dK [] ∨ o0 = .dT []) {kx vx tg iter : Expr} {ifs : List Expr} {scope : Scope} {own : List (Str × Nat)} {pos : Pos} {wi : TI} {g : TG} {tt : TT} {tk tv : TE} (hc : X.calm = true) (hN : X.N.Nodup) (hi : PI X tg iter wi) (ok : BlkOk X.N X.env.scope scope own)
    (hg : ∀ (s : Shared) (H : Hp) (C : Addr) (cl : List (Str × Addr)) (fp : List Addr), PG (X.blk s H scope (compEnvC scope cl C X.env) fp) tg g) (ht : ∀ (s : Shared) (H : Hp) (C : Addr) (cl : List (Str × Addr)) (fp : List Addr), PTs (X.blk s H scope (compEnvC scope cl C X.env) fp) ifs tt)
    (hk : ∀ (s : Shared) (H : Hp) (C : Addr) (cl : List (Str × Addr)) (fp : List Addr), PE (X.blk s H scope (compEnvC scope cl C X.env) fp) kx tk)
    (he : ∀ (s : Shared) (H : Hp) (C : Addr) (cl : List (Str × Addr)) (fp : List Addr), PE (X.blk s H scope (compEnvC scope cl C X.env) fp) vx tv) (hs : ∀ x, foldedSetIterable iter X.env x = pure x := by intro _; rfl) :
    PE X (.DictComp kx vx [⟨tg, iter, ifs, 0⟩] scope pos) (tDcG o0 wi g tt tk tv (own.map (·.2))) := by
  refine ⟨fun pins s σ H Q I h => ?_⟩
  rw [arm_eval_DictComp]
  refine dcG_core o0 hu ho hc hN I hi ok hg ht hk he hs h fun D C s' m H' I' q hn f => ⟨m, hn, fun h'' sb => ?_⟩
  obtain ⟨f0, f1, f2, f3, f4, f5⟩ := f
  exact ⟨.ref D, H', I'.turned (t' := s'.toks) (fun b o hb e => (sb.2 b hb).trans e) f0 f1 f3 f4 f5, rfl, q⟩
end
end Hq

/-! P6: readings of dicts step by step; dicts as data -/
namespace Hq
open PySem PySem.Spec PyProof.Rows L2
theorem u1_of {k : Nat} {A : Around} (r : Room k A) : A.units + 1 < cLine := by have := r.un; omega
theorem u66_of {k : Nat} {A : Around} (r : Room k A) : A.units + 66 < cLine := by have := r.un; omega
theorem u0_of {k : Nat} {A : Around} (r : Room k A) : A.units < cLine := r.units0
theorem iteNN {a b : Prop} (h : b) : if (!decide (V.non = V.non)) = true then a else b := by rw [if_neg (by simp)]; exact h
theorem iteYN {a b : Prop} (h : a) : if decide (V.non = V.non) = true then a else b := by rw [if_pos (by simp)]; exact h
/-! ### a[i], a list or a tuple -/
def rIxB (K : PySem.W.Frag) : R2 := fun x y H Q => rIxL K x y H Q ∨ rIxT K x y H Q
theorem kIxB {X : Cx} {K : PySem.W.Frag} (h : X.K = K := by rfl) : IxR X (rIxB K) := by
  cases h
  intro value slice pins s σ H x y v u Q I rx ry h
  rcases h with h | h
  · exact ix_list value slice pins s σ H x y v u Q I rx ry h
  · exact ix_tup value slice pins s σ H x y v u Q I rx ry h
theorem st_ixB {K : PySem.W.Frag} {H : Hp} {p : Addr} {xs : List V} {n : Int} {v : V} {Q : VK} (h : SqL K H p xs ∨ SqT K H p xs) (e : atI xs n = some v) (q : Q v H) : rIxB K (.ref p) (.int n) H Q := by
  rcases h with h | h
  · exact .inl ⟨p, xs, n, v, rfl, rfl, h, e, q⟩
  · exact .inr ⟨p, xs, n, v, rfl, rfl, h, e, q⟩
/-! ### the dict comprehension -/
section
variable {wi : TI} {g : TG} {tt : TT} {tk tv : TE} {vs : List Nat} {σ : L2.St} {H : Hp} {Q : VK} {o0 : HO}
theorem st_dc (q : wi σ H fun J H1 => ∀ D, H1 D = none → ∃ W : Nat → Nat → Hp → Prop, (∃ m, W 0 m (upd H1 D o0)) ∧ ∀ i m H, W i m H →
  (J.stop i H ∧ Q (.ref D) H) ∨ (J.go i H ∧ ∃ Nx : Hp → Prop, (∀ H', Nx H' → ∃ m', m' < m ∧ W (i + 1) m' H') ∧ ∀ x H', J.yld i H x H' → g x (wipe σ vs) H' fun σ2 H2 => wipe σ2 vs = wipe σ vs ∧ tt σ2 H2 fun b H3 =>
    if b = true then tk σ2 H3 fun y H4 => tv σ2 H4 fun z H5 => ∃ H6, DPut H5 D y z H6 ∧ Nx H6 else Nx H3)) : tDcG o0 wi g tt tk tv vs σ H Q := q
theorem dc_it {J : It} {n : Nat} {G : Hp → Prop} {Y : Nat → Hp → V → Hp → Prop} (w : Walk J n G Y) {H1 : Hp} {D : Addr} {Qd : Hp → Prop} (Pv : Nat → Hp → Prop) (h0 : Pv 0 (upd H1 D o0)) (hG : ∀ i H, i ≤ n → Pv i H → G H)
    (hs : ∀ i x H H', i < n → Pv i H → Y i H x H' → g x (wipe σ vs) H' fun σ2 H2 => wipe σ2 vs = wipe σ vs ∧ tt σ2 H2 fun b H3 =>
      if b = true then tk σ2 H3 fun y H4 => tv σ2 H4 fun z H5 => ∃ H6, DPut H5 D y z H6 ∧ Pv (i + 1) H6 else Pv (i + 1) H3) (hd : ∀ H, Pv n H → Qd H) :
    ∃ W : Nat → Nat → Hp → Prop, (∃ m, W 0 m (upd H1 D o0)) ∧ ∀ i m H, W i m H →
      (J.stop i H ∧ Qd H) ∨ (J.go i H ∧ ∃ Nx : Hp → Prop, (∀ H', Nx H' → ∃ m', m' < m ∧ W (i + 1) m' H') ∧ ∀ x H', J.yld i H x H' → g x (wipe σ vs) H' fun σ2 H2 => wipe σ2 vs = wipe σ vs ∧ tt σ2 H2 fun b H3 =>
        if b = true then tk σ2 H3 fun y H4 => tv σ2 H4 fun z H5 => ∃ H6, DPut H5 D y z H6 ∧ Nx H6 else Nx H3) := by
  refine ⟨fun i m H => m = n - i ∧ i ≤ n ∧ Pv i H, ⟨n, by simp, Nat.zero_le _, h0⟩, ?_⟩
  rintro i m H ⟨rfl, hi, p⟩
  have q := hG i H hi p
  by_cases hlt : i < n
  · exact .inr ⟨w.goes i H hlt q, Pv (i + 1), fun H' p' => ⟨n - (i + 1), by omega, rfl, hlt, p'⟩, fun x H' y => hs i x H H' hlt p (w.yields i H x H' hlt q y)⟩
  · have e : i = n := by omega
    subst e
    exact .inl ⟨w.stops H q, hd H p⟩
end
/-! ### d[k], k in d, d[k] = v -/
section
variable {td ty tv : TE} {σ : L2.St} {H : Hp} {Q : VK} {D : Ends} {a b : Addr} {kvs : List (List Key × V)} {k : List Key} {v : V} {R : Hp → Prop}
theorem st_dgetS (q : td σ H fun x H1 => ty σ H1 fun y H2 => ∃ a v, x = .ref a ∧ DGet H2 a y (some v) ∧ Q v H2) : tDGet td ty σ H Q := q
theorem st_dinS (q : ty σ H fun y H1 => td σ H1 fun x H2 => ∃ a o, x = .ref a ∧ DGet H2 a y o ∧ Q (.bl o.isSome) H2) : tDIn ty td σ H Q := q
theorem st_dninS (q : ty σ H fun y H1 => td σ H1 fun x H2 => ∃ a o, x = .ref a ∧ DGet H2 a y o ∧ Q (.bl (!o.isSome)) H2) : tDNotIn ty td σ H Q := q
theorem st_dputS (q : tv σ H fun v H1 => td σ H1 fun x H2 => ty σ H2 fun y H3 => ∃ a H4, x = .ref a ∧ DPut H3 a y v H4 ∧ D.nx σ H4) : sDPut td ty tv D σ H := q
theorem st_newT (q : ∀ p, H p = none → Q (.ref p) (upd H p (.dT []))) : tDNewT σ H Q := q
theorem st_newK (q : ∀ p, H p = none → Q (.ref p) (upd H p (.dK []))) : tDNewK σ H Q := q
theorem st_getT (e : H a = some (.dT kvs)) (eb : H b = some (.tup (k.map kV))) (l : valV kvs k = some v) (q : Q v H) : ∃ a' v', V.ref a = .ref a' ∧ DGet H a' (.ref b) (some v') ∧ Q v' H := ⟨a, v, rfl, l ▸ DGet.t e eb, q⟩
theorem st_inT (e : H a = some (.dT kvs)) (eb : H b = some (.tup (k.map kV))) (q : Q (.bl (valV kvs k).isSome) H) : ∃ a' o, V.ref a = .ref a' ∧ DGet H a' (.ref b) o ∧ Q (.bl o.isSome) H := ⟨a, _, rfl, DGet.t e eb, q⟩
theorem st_ninT (e : H a = some (.dT kvs)) (eb : H b = some (.tup (k.map kV))) (q : Q (.bl (!(valV kvs k).isSome)) H) : ∃ a' o, V.ref a = .ref a' ∧ DGet H a' (.ref b) o ∧ Q (.bl (!o.isSome)) H := ⟨a, _, rfl, DGet.t e eb, q⟩
theorem st_putT (e : H a = some (.dT kvs)) (eb : H b = some (.tup (k.map kV))) (l : kvs.length < sizeLine) (q : R (upd H a (.dT (putK kvs k v)))) : ∃ a' H4, V.ref a = .ref a' ∧ DPut H a' (.ref b) v H4 ∧ R H4 := ⟨a, _, rfl, DPut.t e eb l, q⟩
theorem st_cputT (e : H a = some (.dT kvs)) (eb : H b = some (.tup (k.map kV))) (l : kvs.length < sizeLine) (q : R (upd H a (.dT (putK kvs k v)))) : ∃ H4, DPut H a (.ref b) v H4 ∧ R H4 := ⟨_, DPut.t e eb l, q⟩
end
/-! ### a dict as data -/
abbrev Dd := List (List Key × PyData)
def lookD (ms : Dd) (k : List Key) : Option PyData := (ms.find? fun m => decide (m.1 = k)).map (·.2)
def putD (ms : Dd) (k : List Key) (d : PyData) : Dd :=
  if (ms.any fun m => decide (m.1 = k)) = true then ms.map (fun m => if m.1 = k then (m.1, d) else m) else ms ++ [(k, d)]
def KD (H : Hp) : List (List Key × V) → Dd → Prop := Paired fun p m => p.1 = m.1 ∧ TD H p.2 m.2
theorem KD.mono {H H' : Hp} {kvs : List (List Key × V)} {ms : Dd} (r : KD H kvs ms) (t : Tp H H') : KD H' kvs ms := Paired.mapP r fun _ _ h => ⟨h.1, TD.mono t _ _ h.2⟩
theorem KD.length {H : Hp} {kvs : List (List Key × V)} {ms : Dd} (r : KD H kvs ms) : kvs.length = ms.length := Paired.length r
theorem KD.any {H : Hp} {kvs : List (List Key × V)} {ms : Dd} (r : KD H kvs ms) (k : List Key) : (kvs.any fun kv => decide (kv.1 = k)) = (ms.any fun m => decide (m.1 = k)) := by
  unfold KD at r
  induction r with
  | nil => rfl
  | cons h t ih => rw [List.any_cons, List.any_cons, ih, h.1]
theorem KD.put {H : Hp} {kvs : List (List Key × V)} {ms : Dd} (r : KD H kvs ms) (k : List Key) {v : V} {d : PyData} (t : TD H v d) : KD H (putK kvs k v) (putD ms k d) := by
  unfold putK putD
  rw [r.any k]
  by_cases q : (ms.any fun m => decide (m.1 = k)) = true
  · rw [if_pos q, if_pos q]
    clear q
    unfold KD at r ⊢
    induction r with
    | nil => exact .nil
    | @cons p m ps qs h t' ih =>
      rw [List.map_cons, List.map_cons]
      refine .cons ?_ ih
      by_cases e : p.1 = k
      · rw [if_pos e, if_pos (h.1.symm.trans e)]; exact ⟨h.1, t⟩
      · rw [if_neg e, if_neg (fun z => e (h.1.trans z))]; exact h
  · rw [if_neg q, if_neg q]
    exact Paired.snoc r ⟨rfl, t⟩
theorem KD.look {H : Hp} {kvs : List (List Key × V)} {ms : Dd} (r : KD H kvs ms) (k : List Key) : (lookD ms k = none ∧ valV kvs k = none) ∨ ∃ v d, lookD ms k = some d ∧ valV kvs k = some v ∧ TD H v d := by
  unfold KD at r
  induction r with
  | nil => exact .inl ⟨rfl, rfl⟩
  | @cons p m ps qs h t ih =>
    obtain ⟨h1, h2⟩ := h
    by_cases e : p.1 = k
    · refine .inr ⟨p.2, m.2, ?_, valV_pos e, h2⟩
      simp [lookD, List.find?_cons, h1.symm.trans e]
    · have e' : ¬ m.1 = k := fun z => e (h1.trans z)
      have b : lookD (m :: qs) k = lookD qs k := by simp [lookD, List.find?_cons, e']
      rw [valV_neg e, b]
      exact ih
theorem lookD_mem {ms : Dd} {k : List Key} {d : PyData} (h : lookD ms k = some d) : (k, d) ∈ ms := by
  unfold lookD at h
  obtain ⟨m, hm, rfl⟩ := Option.map_eq_some_iff.mp h
  have e := List.find?_some hm
  have e : m.1 = k := of_decide_eq_true e
  rw [← e]
  exact List.mem_of_find?_eq_some hm
theorem lookD_of {ms : Dd} (nd : (ms.map (·.1)).Nodup) {m : List Key × PyData} (hm : m ∈ ms) : lookD ms m.1 = some m.2 := by
  induction ms with
  | nil => exact nomatch hm
  | cons x ms ih =>
    rw [List.map_cons, List.nodup_cons] at nd
    unfold lookD
    rw [List.find?_cons]
    rcases List.mem_cons.mp hm with e | hm
    · subst e; simp
    · have n : ¬ x.1 = m.1 := fun e => nd.1 (by rw [e]; exact List.mem_map.mpr ⟨m, hm, rfl⟩)
      simp only [n, decide_false]
      exact ih nd.2 hm
theorem keys_put {ms : Dd} {k : List Key} {d : PyData} (nd : (ms.map (·.1)).Nodup) : ((putD ms k d).map (·.1)).Nodup := by
  unfold putD
  by_cases q : (ms.any fun m => decide (m.1 = k)) = true
  · rw [if_pos q, List.map_map]
    have : (fun m : List Key × PyData => (if m.1 = k then (m.1, d) else m).1) = fun m => m.1 := by
      funext m
      by_cases e : m.1 = k
      · rw [if_pos e]
      · rw [if_neg e]
    show (ms.map (fun m => (if m.1 = k then (m.1, d) else m).1)).Nodup
    rw [this]
    exact nd
  · rw [if_neg q, List.map_append, List.nodup_append]
    refine ⟨nd, by simp, ?_⟩
    intro x hx y hy e
    simp only [List.map_cons, List.map_nil, List.mem_singleton] at hy
    obtain ⟨m, hm, rfl⟩ := List.mem_map.mp hx
    exact q (List.any_eq_true.mpr ⟨m, hm, by simp [e, hy]⟩)
theorem all_put {F : PyData → Prop} {ms : Dd} {k : List Key} {d : PyData} (h : ∀ m ∈ ms, F m.2) (hd : F d) : ∀ m ∈ putD ms k d, F m.2 := by
  unfold putD
  by_cases q : (ms.any fun m => decide (m.1 = k)) = true
  · rw [if_pos q]
    intro m hm
    obtain ⟨x, hx, rfl⟩ := List.mem_map.mp hm
    by_cases e : x.1 = k
    · rw [if_pos e]; exact hd
    · rw [if_neg e]; exact h x hx
  · rw [if_neg q]
    intro m hm
    rcases List.mem_append.mp hm with hm | hm
    · exact h m hm
    · rw [List.mem_singleton.mp hm]; exact hd
theorem len_put {ms : Dd} {k : List Key} {d : PyData} : (putD ms k d).length ≤ ms.length + 1 := by
  unfold putD
  by_cases q : (ms.any fun m => decide (m.1 = k)) = true
  · rw [if_pos q, List.length_map]; omega
  · rw [if_neg q, List.length_append]; simp
/-- a dict with tuple keys at a -/
structure TabAt (H : Hp) (a : Addr) (ms : Dd) : Prop where
  ok : ∃ kvs, H a = some (.dT kvs) ∧ KD H kvs ms
structure GoodD (ms : Dd) : Prop where
  nd : (ms.map (·.1)).Nodup
  sh : ∀ m ∈ ms, SeqAt.shaped m.2 = true
theorem GoodD.put {ms : Dd} {k : List Key} {d : PyData} (g : GoodD ms) (h : SeqAt.shaped d = true) : GoodD (putD ms k d) := ⟨keys_put g.nd, all_put (F := fun d => SeqAt.shaped d = true) g.sh h⟩
theorem GoodD.nil : GoodD [] := ⟨List.nodup_nil, fun _ h => nomatch h⟩
theorem sameT_of {K : PySem.W.Frag} {H : Hp} {a b : Addr} {ms ls : Dd} (ta : TabAt H a ms) (tb : TabAt H b ls) (hl : ms.length = ls.length) (h : ∀ m ∈ ms, lookD ls m.1 = some m.2 ∧ SeqAt.shaped m.2 = true) : SameT K H (.ref a) (.ref b) := by
  obtain ⟨kvs, ha, ra⟩ := ta.ok
  obtain ⟨lvs, hb, rb⟩ := tb.ok
  refine ⟨a, b, kvs, lvs, rfl, rfl, ha, hb, by rw [ra.length, rb.length]; exact hl, ?_⟩
  clear ha hb hl ta tb
  unfold KD at ra
  induction ra with
  | nil => exact fun _ hp => nomatch hp
  | @cons p m ps qs hp t ih =>
    intro x hx
    rcases List.mem_cons.mp hx with e | hx
    · subst e
      obtain ⟨l, s⟩ := h m (by simp)
      rcases KD.look (show KD H lvs ls from rb) m.1 with ⟨n, _⟩ | ⟨v, d, e1, e2, e3⟩
      · rw [n] at l; exact nomatch l
      · rw [e1] at l
        cases l
        exact ⟨v, m.2, by rw [hp.1]; exact e2, TD.dp _ _ hp.2, TD.dp _ _ e3, s⟩
    · exact ih (fun m hm => h m (List.mem_cons_of_mem _ hm)) x hx
theorem sameT_eq {K : PySem.W.Frag} {H : Hp} {a b : Addr} {ms : Dd} (ta : TabAt H a ms) (tb : TabAt H b ms) (g : GoodD ms) : SameT K H (.ref a) (.ref b) :=
  sameT_of ta tb rfl fun m hm => ⟨lookD_of g.nd hm, g.sh m hm⟩
theorem TabAt.keep {H H' : Hp} {a : Addr} {ms : Dd} {fs : List Addr} (t : TabAt H a ms) (f : Fr fs H H') (h : a ∉ fs) : TabAt H' a ms := by
  obtain ⟨kvs, e, r⟩ := t.ok
  exact ⟨kvs, f.keep _ _ h e, r.mono f.tup⟩
/-! ### keys as data -/
def keyOf : PyData → Key
  | .int i => .inl i
  | .str x => .inr x
  | _ => .inl 0
def keysOf : PyData → List Key
  | .tuple ds => ds.map keyOf
  | _ => []
end Hq

/-! P7: own exceptions that are made without arguments and keep no field -/
namespace Hq
open PySem PySem.Spec PyProof.Rows L2
section
variable {X : Cx}
/-- the end of C(): the exception is let go; it has no dict -/
theorem none_end0 {pins : List (Addr × Obj)} {σ : L2.St} {H1 H2 : Hp} {hp hp2 h2 : Heap} {g1 g2 : Array GenState} {d1 d2 : Drawn} {t1 t2 : Nat} {os1 os2 : OsState} {a C : Addr} (I1 : Inv X pins σ H1 ⟨hp, g1, d1, t1, os1⟩)
    (ha : hp.objs.size ≤ a) (k : ∀ b o, hp.get? b = some o → hp2.get? b = some o) (un : Un (frs X.stack) [] (upd H1 a (exo a C none)) H2 hp2 h2) (hok : HOk X.prog X.w H2 h2) (ho : os2 = os1) (hb : AllBare g2)
    (ea : H2 a = some (exo a C none)) :
    ∃ (t0 : Addr) (G : Heap), Inv X pins σ (del H2 a) ⟨G, g2, d2, t2, os2⟩ ∧ (∀ b o, G.get? b = some o → h2.get? b = some o) ∧ G.get? a = none ∧
      h2.get? a = some ({ cls := .ref C, dict := none, data := .fields #[.ref t0, .none, .none, .none, .bool false, .none] } : Obj) := by
  obtain ⟨t0, hoe⟩ := exo_at hok ea
  have hn : H1 a = none := I1.hok.fresh ha
  obtain ⟨G, g1', g2'⟩ := restrict h2 fun b => decide (b ≠ a)
  have gk : ∀ b, b ≠ a → G.get? b = h2.get? b := fun b hb => g1' b (decide_eq_true hb)
  have ge : G.get? a = none := g2' a (by simp)
  have nha : ∀ {b : Addr} {o : Obj}, hp.get? b = some o → b ≠ a := fun {b o} z => Nat.ne_of_lt (Nat.lt_of_lt_of_le (Heap.lt_size z) ha)
  have up : ∀ {b : Addr}, b ≠ a → H1 b = none → upd H1 a (exo a C none) b = none := fun {b} hb n => by rw [upd_ne hb]; exact n
  have U : Un (frs X.stack) [] H1 (del H2 a) hp G := {
    keep := fun b o z n hf hx => by
      rw [gk b (nha z)]
      exact un.keep b o (k b o z) (up (nha z) n) hf hx
    slot := fun b o z n hf hx => by
      rw [gk b (nha z)]
      exact un.slot b o (k b o z) (up (nha z) n) hf hx
    free := fun b o z n hx => by
      rw [del_ne (nha z)]
      exact un.free b o (k b o z) (up (nha z) n) hx
    there := fun b o z hx => by
      rw [gk b (nha z)]
      exact un.there b o (k b o z) hx
    tups := fun b xs z => by
      rw [del_ne (ne_of_none z hn)]
      exact un.tups b xs (by rw [upd_ne (ne_of_none z hn)]; exact z)
    frzs := fun b o v z => by
      rw [del_ne (ne_of_none z hn)]
      exact un.frzs b o v (by rw [upd_ne (ne_of_none z hn)]; exact z)
    tbls := fun b ps z => by
      rw [del_ne (ne_of_none z hn)]
      exact un.tbls b ps (by rw [upd_ne (ne_of_none z hn)]; exact z) }
  have hok3 : HOk X.prog X.w (del H2 a) G := fun b o z => by
    have hba : b ≠ a := fun e => by
      rw [e, del_same] at z
      cases z
    rw [del_ne hba] at z
    have noa : ∀ {c : Addr}, H2 c = some (.own b) → c ≠ a := fun {c} hc => at_ne ea hc exo_own
    exact (hok b o z).stay (fun c v hc y => by
        have hca : c ≠ a := by
          rcases hc with hc | hc
          · rw [hc]
            exact hba
          · exact noa hc
        rw [gk c hca]
        exact y)
      (fun c hc => by rw [del_ne (noa hc)]; exact hc) (fun c xs hc => by rw [del_ne (at_ne ea hc exo_tup)]; exact hc)
  have J : Inv X pins σ (del H2 a) ⟨G, g2, d2, t2, os2⟩ := I1.call' (ch := []) ho U hok3 hb (fun b z => absurd z (by simp))
  refine ⟨t0, G, J, fun b o z => ?_, ge, hoe⟩
  by_cases hba : b = a
  · rw [hba, ge] at z
    cases z
  · exact (gk b hba).symm.trans z
theorem none_end {pins : List (Addr × Obj)} {σ : L2.St} {H1 H2 : Hp} {Q : XK} {hp hp2 h2 : Heap} {g1 g2 : Array GenState} {d1 d2 : Drawn} {t1 t2 : Nat} {os1 os2 : OsState} {a C : Addr} (T : Raises X (.ref C)) (I1 : Inv X pins σ H1 ⟨hp, g1, d1, t1, os1⟩)
    (ha : hp.objs.size ≤ a) (k : ∀ b o, hp.get? b = some o → hp2.get? b = some o) (un : Un (frs X.stack) [] (upd H1 a (exo a C none)) H2 hp2 h2) (hok : HOk X.prog X.w H2 h2) (ho : os2 = os1) (hb : AllBare g2)
    (ea : H2 a = some (exo a C none)) (q : Q (.ref C) none (del H2 a)) : MkP X pins σ Q (.ref a) ⟨h2, g2, d2, t2, os2⟩ := by
  obtain ⟨t0, G, J, kG, ge, hoe⟩ := none_end0 (d2 := d2) (t2 := t2) I1 ha k un hok ho hb ea
  exact ⟨a, _, _, ⟨G, g2, d2, t2, os2⟩, _, .ref C, none, rfl, J, kG, ge, hoe, ⟨rfl, rfl⟩, rfl, rfl, del_same, rfl, hb, T, q⟩
/-- what an __init__ that stores nothing promises -/
def spErr0 (K : PySem.W.Frag) : Sp := fun vs H Q _ => ∃ (a C : Addr), vs = [.ref a] ∧ OexC K C ∧ H a = some (exo a C none) ∧ Q .non H
/-- an error class that is made without arguments -/
structure En (P : Program) (w : World) (K : PySem.W.Frag) (mg : Str → Option Value) (base : Heap) (x : Str) (C : Addr) (k : Nat) : Prop where
  mgC : mg x = some (.ref C)
  oex : OexC K C
  ok : ∃ f fd, FnOk P w K mg base (L2.CX P w) k f fd ["self"] (spErr0 K) ∧ PySem.W.findIn K (.ref C) "__init__" = some (some (.ref f)) ∧ PySem.W.typeIn K (.ref f) = some (.type "function") ∧ Binds K fd ["self"] []
theorem del_upd {H : Hp} {a : Addr} {o : HO} (h : H a = none) : del (upd H a o) a = H := by
  funext b
  by_cases e : b = a
  · rw [e, del_same, h]
  · rw [del_ne e, upd_ne e]
theorem pmk_err0 {x : Str} {C : Addr} {k : Nat} {p pos : Pos} (D : En X.prog X.w X.K X.mg X.base x C k) (hr : Room (k + 1) X.A) (hx : Passes (L2.CX X.prog X.w) X (fun _ _ _ => False)) (hg : Gl X x) (hdb : (x == ("__debug__" : Str)) = false := by decide) :
    PMk X (.Call (.Name x p) [] [] pos) (fun σ H Q => Q (.ref C) none H) := by
  intro pins s σ H Q I h
  obtain ⟨fI, fd, F1, iC, tI, hb⟩ := D.ok
  have T := D.oex
  obtain ⟨nm, q, N, bs, bm, sn, sub, ab, col, dd, k0, k1, k2, k3, k5, hC, hbm⟩ := T.cls
  refine wpAny_Call_Name_kw (ld_glob I hg D.mgC ?_ hdb)
  refine PySem.W.callWith_K0 I.kIn T.kC ?_
  obtain ⟨hp, g, dr, tk, os⟩ := s
  have hsz : hp.objs.size ≤ hp.objs.size + 1 := Nat.le_succ _
  have hn : H (hp.objs.size + 1) = none := I.hok.fresh hsz
  have kk : ∀ b o, hp.get? b = some o → ((hp.push (PySem.W.kdv_tup [])).push (PySem.HandSPX.excO C hp.objs.size)).get? b = some o := fun b o e => Heap.get?_push_of_some _ (Heap.get?_push_of_some _ e)
  have hget : ((hp.push (PySem.W.kdv_tup [])).push (PySem.HandSPX.excO C hp.objs.size)).get? (hp.objs.size + 1) = some (PySem.HandSPX.excO C hp.objs.size) := by heap_get
  have I2 : Inv X pins σ (upd H (hp.objs.size + 1) (exo (hp.objs.size + 1) C none)) ⟨(hp.push (PySem.W.kdv_tup [])).push (PySem.HandSPX.excO C hp.objs.size), g, dr, tk, os⟩ :=
    I.laid (t' := tk) (a := hp.objs.size + 1) (o := exo (hp.objs.size + 1) C none) (h' := (hp.push (PySem.W.kdv_tup [])).push (PySem.HandSPX.excO C hp.objs.size)) kk hsz (exo_ok hget)
  have hq : spErr0 X.K [.ref (hp.objs.size + 1)] (upd H (hp.objs.size + 1) (exo (hp.objs.size + 1) C none)) (fun v H2 => v = .non ∧ H2 (hp.objs.size + 1) = some (exo (hp.objs.size + 1) C none) ∧ Q (.ref C) none (del H2 (hp.objs.size + 1))) (fun _ _ _ => False) :=
    ⟨_, C, rfl, T, upd_same, rfl, upd_same, by rw [del_upd hn]; exact h⟩
  refine wpAny_call (PySem.HandSPX.call_own F.excBase_ValueError (fun Y => PySem.HandSPX.refsVE_contains Y bm hbm) (I.kIn _ _ hC) (PySem.W.looks_findIn I.kIn iC) (fun self => PySem.W.bind_fn I.kIn self tI) (Nat.zero_le _)
    (codeAny_mono (F1.run _ X.stack _ _ ⟨[Value.ref (hp.objs.size + 1)], []⟩ [Value.ref (hp.objs.size + 1)] [V.ref (hp.objs.size + 1)] _ (fun _ _ _ => False) (hr.make C [] []) (I2.env0.make C [] []) (hb _ [Value.ref (hp.objs.size + 1)] I2.kIn rfl) (.cons rfl .nil) hq) fun r s' hq' => ?_))
  cases r with
  | error er => exact hx pins σ _ _ er s' I2 hq'
  | ok fl =>
    cases fl with
    | ret u =>
      obtain ⟨v, H2, os2, bare2, un2, hok2, rv, ev, ea, q2⟩ := hq'
      subst ev
      obtain ⟨h2, g2, d2, t2, os'⟩ := s'
      exact ⟨rv, none_end (raises_own T.exC T.tyC) I hsz kk un2 hok2 os2 bare2 ea q2⟩
    | next => exact False.elim hq'
    | brk => exact False.elim hq'
    | cont => exact False.elim hq'
end
/-- a def's body out of which errors may go -/
theorem okE {P : Program} {w : World} {K : PySem.W.Frag} {mg : Str → Option Value} {base : Heap} {x qual : Str} {st : Stmt} {f : Addr} {fd : FuncData} {N ps : List Str} {k : Nat} {sp : Sp} (F : Fun K x qual st f fd) (S : FnScope N ps (defScope st))
    (len : ∀ vs H Q E, sp vs H Q E → vs.length = ps.length)
    (hb : ∀ (cdv : Value) (A : Around) (outer : List Env) (s : Shared) (H : Hp) (vs : List V) (Q : VK) (E : XK), Room k (A.deeper (envOfC qual (defScope st) s.heap.objs.size f cdv)) → sp vs H Q E →
      ∃ t σ, L2.start N vs = σ ∧ PSs (cxOf (L2.CX P w) P w K mg base N qual (defScope st) f cdv A outer s H E) (defBody st) t ∧ t { nx := fun _ H' => Q .non H', rt := Q } σ H) : FnOk P w K mg base (L2.CX P w) (k + 1) f fd ps sp :=
  F.okX S len fun cdv A outer s H vs Q E hr hs => by
    obtain ⟨t, σ, e, h, q⟩ := hb cdv A outer s H vs Q E hr hs
    cases e
    exact ⟨t, h, q⟩
theorem passE {P : Program} {w : World} {K : PySem.W.Frag} {mg : Str → Option Value} {base : Heap} {N : List Str} {qual : Str} {sc : Scope} {f : Addr} {cdv : Value} {A : Around} {outer : List Env} {s : Shared} {H : Hp} {E : XK} :
    Passes (L2.CX P w) (cxOf (L2.CX P w) P w K mg base N qual sc f cdv A outer s H E) E :=
  passes_call (X := cxOf (L2.CX P w) P w K mg base N qual sc f cdv A outer s H E) (W := fun cls d _ H => E cls d H) (takes_of rfl rfl rfl rfl) fun _ _ _ _ h => h
theorem takesE {P : Program} {w : World} {K : PySem.W.Frag} {mg : Str → Option Value} {base : Heap} {N : List Str} {qual : Str} {sc : Scope} {f : Addr} {cdv : Value} {A : Around} {outer : List Env} {s : Shared} {H : Hp} {E : XK} :
    Takes (cxOf (L2.CX P w) P w K mg base N qual sc f cdv A outer s H E) (fun cls d _ H => E cls d H) := takes_of rfl rfl rfl rfl
/-- raise C(), out of the def -/
theorem ps_err0 {P : Program} {w : World} {K : PySem.W.Frag} {mg : Str → Option Value} {base : Heap} {N : List Str} {qual : Str} {sc : Scope} {f : Addr} {cdv : Value} {A : Around} {outer : List Env} {s : Shared} {H : Hp} {E : XK} {x : Str} {C : Addr} {k : Nat} {p pos pos' : Pos}
    (D : En P w K mg base x C k) (hr : Room (k + 1) (cxOf (L2.CX P w) P w K mg base N qual sc f cdv A outer s H E).A) (hg : Gl (cxOf (L2.CX P w) P w K mg base N qual sc f cdv A outer s H E) x) (hdb : (x == ("__debug__" : Str)) = false := by decide) :
    PS (cxOf (L2.CX P w) P w K mg base N qual sc f cdv A outer s H E) (.Raise (some (.Call (.Name x p) [] [] pos)) none pos') (fun _ _ H' => E (.ref C) none H') :=
  L2.ps_raise (X := cxOf (L2.CX P w) P w K mg base N qual sc f cdv A outer s H E) rfl takesE (pmk_err0 D hr passL hg hdb)
end Hq

/-! P8: (x,) * n for any n, three names set at once -/
namespace Hq
open PySem PySem.Spec PyProof.Rows L2
open AutoSeq1 (wpAny_loadPart')
theorem tup_mul1 (l : Addr) (items : Array Value) (n : Nat) (dd : Option Addr) (sl : Array (Option Value)) (u : Tok) (c : items.isEmpty = false) :
    Meets (Builtin.«tuple.__mul__» ⟨[.ref l, .int 1 u], []⟩) (fun _ R s => s.heap.get? l = some { cls := .type "tuple", dict := dd, data := .seq items n, slots := sl } ∧
      R (.ok (.ret (Value.ref l))) s) :=
  .of_wp fun prog w A R s h => by
    obtain ⟨hp, g, d, tk, os⟩ := s
    obtain ⟨hl, h⟩ := h
    have f1 := AutoSeq1.idx_int
    wp_walk using wpAny_loadPart' hl
    exact ⟨_, rfl, h⟩
theorem tup_mul0 (l : Addr) (items : Array Value) (n : Nat) (dd : Option Addr) (sl : Array (Option Value)) (u : Tok) (c : items.isEmpty = false) :
    Meets (Builtin.«tuple.__mul__» ⟨[.ref l, .int 0 u], []⟩) (fun _ R s => s.heap.get? l = some { cls := .type "tuple", dict := dd, data := .seq items n, slots := sl } ∧
      R (.ok (.ret (Value.ref s.heap.objs.size))) { s with heap := s.heap.push { cls := Value.type "tuple", data := Data.seq #[] }, toks := s.toks }) :=
  .of_wp fun prog w A R s h => by
    obtain ⟨hp, g, d, tk, os⟩ := s
    obtain ⟨hl, h⟩ := h
    have f1 := AutoSeq1.idx_int
    wp_walk using wpAny_loadPart' hl
    repeat (first
      | (refine wpAny_ite_false (decide_eq_false (by rw [c]; decide)) ?_; wp_walk using wpAny_loadPart' hl))
    exact ⟨_, rfl, h⟩
/-- a tuple that is not empty, so many times -/
def rRepN (K : PySem.W.Frag) : R2 := fun x y H Q => ∃ (l : Addr) (k : Nat) (xs : List V), x = .ref l ∧ y = .int k ∧ SqT K H l xs ∧ xs ≠ [] ∧ k ≤ 1000 ∧ xs.length ≤ 1000 ∧ (k = 1 → Q (.ref l) H) ∧ (k ≠ 1 → ∀ p, H p = none → Q (.ref p) (upd H p (.tup (List.replicate k xs).flatten)))
section
variable {X : Cx} {K : PySem.W.Frag}
theorem op_repN : OpR X (binaryOp .Mult) (rRepN X.K) := by
  intro pins s σ H x y v u Q I rx ry h
  obtain ⟨l, k, xs, rfl, rfl, hT, hne, h2, hz, q1, q⟩ := h
  rcases Nat.lt_trichotomy k 1 with hk | hk | hk
  · obtain rfl : k = 0 := by omega
    cases rx
    obtain ⟨t, rfl⟩ := ry
    obtain ⟨its, r, ⟨⟨cls, dd, data, sl⟩, ho, hc, n, hd⟩, hs⟩ := I.tuple hT
    simp only at hc hd
    subst hc hd
    have hle : its.length = xs.length := r.length.symm
    have hi : its.toArray.isEmpty = false := by
      cases its with
      | nil => exact absurd (List.eq_nil_of_length_eq_zero hle.symm) hne
      | cons a b => rfl
    refine wpAny_binaryOp_repeat_ref (T := "tuple") (U := "int") (by decide) ⟨_, ho, rfl⟩ (fun s' => typeIs_int s' 0 t) noFill_tuple_mul F.fills_int_mul F.slot_int_rmul repeat_tuple F.slot_int_index.lookup
      (call_meets F.slot_int_rmul (typeIs_int s 0 t) F.entry_int_rmul (F.args_int_rmul_2 _ _) (int_rmul_tuple 0 t l its.toArray n dd sl)
        ⟨ho, rfl, ⟨_, ho, rfl⟩, call_meets F.slot_tuple_mul ⟨_, ho, rfl⟩ F.entry_tuple_mul (F.args_tuple_mul_2 _ _) (tup_mul0 l its.toArray n dd sl t hi) ⟨ho, ?_⟩⟩)
    refine ⟨.ref s.heap.objs.size, _, I.laid (t' := s.toks) (o := .tup (List.replicate 0 xs).flatten) (fun b ob q => Heap.get?_push_of_some _ q) (Nat.le_refl _) ?_, rfl, q (by decide) _ (I.hok.fresh (Nat.le_refl _))⟩
    exact ⟨Nat.zero_le _, [], .nil, IsTup.new _ _⟩
  · subst hk
    cases rx
    obtain ⟨t, rfl⟩ := ry
    obtain ⟨its, r, ⟨⟨cls, dd, data, sl⟩, ho, hc, n, hd⟩, hs⟩ := I.tuple hT
    simp only at hc hd
    subst hc hd
    have hle : its.length = xs.length := r.length.symm
    have hi : its.toArray.isEmpty = false := by
      cases its with
      | nil => exact absurd (List.eq_nil_of_length_eq_zero hle.symm) hne
      | cons a b => rfl
    refine wpAny_binaryOp_repeat_ref (T := "tuple") (U := "int") (by decide) ⟨_, ho, rfl⟩ (fun s' => typeIs_int s' 1 t) noFill_tuple_mul F.fills_int_mul F.slot_int_rmul repeat_tuple F.slot_int_index.lookup
      (call_meets F.slot_int_rmul (typeIs_int s 1 t) F.entry_int_rmul (F.args_int_rmul_2 _ _) (int_rmul_tuple 1 t l its.toArray n dd sl)
        ⟨ho, rfl, ⟨_, ho, rfl⟩, call_meets F.slot_tuple_mul ⟨_, ho, rfl⟩ F.entry_tuple_mul (F.args_tuple_mul_2 _ _) (tup_mul1 l its.toArray n dd sl t hi) ⟨ho, ?_⟩⟩)
    exact ⟨.ref l, _, I, rfl, q1 rfl⟩
  · exact op_repT pins s σ H _ _ v u Q I rx ry ⟨l, k, xs, rfl, rfl, hT, hne, by omega, by omega, hz, q (by omega)⟩
theorem kRepN (h : X.K = K := by rfl) : OpR X (binaryOp .Mult) (rRepN K) := by cases h; exact op_repN
end
theorem st_par3 {tA : TA} {i j l : Nat} {D : Ends} {σ : L2.St} {H : Hp} (q : tA σ H fun vs H1 => ∃ u v w, vs = [u, v, w] ∧ D.nx (((σ.set i (some u)).set j (some v)).set l (some w)) H1) : tPar3 i j l tA D σ H := q
/-! ### enumerate(a list) -/
theorem kEnum {X : Cx} {K : PySem.W.Frag} {e : Expr} {ta : TA} {p pos tpos : Pos} {elts : List Expr} {kk : Nat} (hg : Gl X "enumerate") (hm : X.mg "enumerate" = none) (ha : PA X [e] ta) (hs : starEach [e] X.env = [(false, eval e X.env)] := by rfl) (h : X.K = K := by rfl) :
    PI X (.Tuple elts kk tpos) (.Call (.Name "enumerate" p) [e] [] pos) (iEnum K ta) := by
  cases h
  exact pi_enum hg hm ha hs
theorem st_iE {K : PySem.W.Frag} {ta : TA} {σ : L2.St} {H : Hp} {R : It → Hp → Prop} (q : ta σ H fun vs H1 => ∃ a xs, vs = [.ref a] ∧ SqL K H1 a xs ∧ R (Ite K a) H1) : iEnum K ta σ H R := q
end Hq

/-! P9: the end of a law whose defs hold lambdas: their tables are empty at the start -/
namespace Hq
open PySem PySem.Spec PyProof.Rows L2 LamX
/-- each def at the top has an empty table -/
def OwnTabs (q : Program) (K : PySem.W.Frag) (mg : Str → Option Value) (h : Heap) : Prop := ∀ (x : Str) (f : Addr), ((recsOf q).any fun e => e.name == x) = true → mg x = some (.ref f) → OwnTab K f h
theorem walk_ofOwns {l : PySem.W.OpenLaw} {n k : Nat} {q : Program} {loose : List Str} {XP : (Str → Option Value) → Heap → Prop} {YP : World → Heap → Prop} {d : DefRec} {K : Params → PySem.W.Frag} {CX : World → CXT} {x : Str}
    (hn : l.most = some n) (hn2 : n ≤ sizeLine) (hdf : d.params.defaults = []) (hr : Room k callerA) (hY : ∀ (w : World) (h : Heap), YP w h → (K w.params).In h)
    (F : ∀ (w : World) (mg : Str → Option Value) (fa : Addr) (h : Heap), YP w h → (K w.params).In h → h.Ns mainGlobals mg → mg d.name = some (.ref fa) → OwnTabs q (K w.params) mg h → LawAtS l w (K w.params) (CX w) k n x mg fa h)
    (hCX : ∀ (w : World) (H : Hp) (s : Shared) (e : Value) (s' : Shared), CX w [] H s (fun _ _ _ => False) e s' → False) :
    PySem.W.WalkO q loose XP YP l.row.toRowW d [] (fun f vs => PySem.call f vs) := by
  refine Att.attach_callB hn hdf fun w s₀ s₁ mg mb fa o pm cd doc a vs ns G Y ho hd hcd hmg hobj hints hlen hbits hg => ?_
  have KX := hY w _ Y
  have own : OwnTabs q (K w.params) mg s₁.heap := fun y f hrec hmy c P o1 fd1 e dd vs1 sl k1 k2 k3 k4 k5 => by
    obtain ⟨dL, hm, hn1⟩ := List.any_eq_true.mp hrec
    have hn2 : dL.name = y := beq_iff_eq.mp hn1
    obtain ⟨a', o', fd', c', P', h1, h2, h3, h4, h5, h6⟩ := G.T.tab dL hm
    rw [hn2, hmy] at h1
    cases h1
    have g1 := KX _ _ k1
    rw [g1] at h2
    cases h2
    rw [k2] at h3
    cases h3
    rw [k3] at h4
    cases h4
    obtain ⟨⟨oc, vc, e1, _, e3, e4⟩, hP⟩ := h6
    have g2 := KX _ _ k4
    rw [g2] at e1
    cases e1
    cases e3
    rw [k5] at e4
    cases e4
    exact hP
  obtain ⟨fd, cs, sp, hT, nT, C, hb, hsp, hF⟩ := F w mg fa _ Y KX G.T.g hmg own
  exact law_callTs KX G.T.g G.T.b G.T.builtins G.T.nolimit hg hT nT C G.T.bmain hobj hints (Nat.le_trans hlen hn2) hr hF hb (fun H hH hS => hsp H a ns hlen hbits hH hS) fun H e s' => hCX w H s₁ e s'
section
variable {P1 P2 : Addr} {x y : Str}
theorem tb_m1 : (P1, x) ∈ [(P1, x), (P2, y)] := List.mem_cons_self
theorem tb_m2 : (P2, y) ∈ [(P1, x), (P2, y)] := List.mem_cons_of_mem _ List.mem_cons_self
theorem tb_u1 (ne : P1 ≠ P2) : ∀ p ∈ [(P1, x), (P2, y)], p.1 = P1 → p.2 = x := fun p hp e => by
  rcases List.mem_cons.mp hp with rfl | hp
  · rfl
  · rw [List.mem_singleton.mp hp] at e
    exact absurd e.symm ne
theorem tb_u2 (ne : P1 ≠ P2) : ∀ p ∈ [(P1, x), (P2, y)], p.1 = P2 → p.2 = y := fun p hp e => by
  rcases List.mem_cons.mp hp with rfl | hp
  · exact absurd e ne
  · rw [List.mem_singleton.mp hp]
theorem tb_1 : (P1, x) ∈ [(P1, x)] := List.mem_cons_self
theorem tb_u (p : Addr × Str) (hp : p ∈ [(P1, x)]) (_ : p.1 = P1) : p.2 = x := by rw [List.mem_singleton.mp hp]
end
section
variable {P1 P2 c1 c2 : Addr}
theorem tc_m1 : (c1, P1) ∈ [(c1, P1), (c2, P2)] := List.mem_cons_self
theorem tc_m2 : (c2, P2) ∈ [(c1, P1), (c2, P2)] := List.mem_cons_of_mem _ List.mem_cons_self
theorem tc_1 : (c1, P1) ∈ [(c1, P1)] := List.mem_cons_self
end
end Hq

/-! P10: any value by its kind: data, or something else -/
namespace Hq
open PySem PySem.Spec PyProof.Rows L2
inductive JD where
  | none | bool (b : Bool) | int (i : Int) | str (s : Str) | tuple (ds : List JD) | other
/-- a list, a dict, an instance -/
inductive Oth (K : PySem.W.Frag) : HO → Value → Prop
  | lst (xs : List V) : Oth K (.lst xs) (.type "list")
  | dK (kvs : List (Key × V)) : Oth K (.dK kvs) (.type "dict")
  | dT (kvs : List (List Key × V)) : Oth K (.dT kvs) (.type "dict")
  | ins {C : Addr} (dx : Addr) (fs : List (Str × V)) (cl : Cls K C) (ha : PySem.W.findIn K (.ref C) "__class__" = some (some (.builtin "object.__class__")))
      (hn : PySem.W.specialIn K (.builtin "object.__class__") "__get__" = some (some (.builtin "getset_descriptor.__get__"))) (htk : PySem.W.takesIn K (.builtin "object.__class__") = some true)
      (hm : PySem.W.mroIn K C (.type "object") = some true) : Oth K (.ins C dx fs) (.ref C)
theorem Oth.ty {K : PySem.W.Frag} {H : Hp} {a : Addr} {o : HO} {t : Value} (h : Oth K o t) (e : H a = some o) : TyX K H (.ref a) t := by
  cases h with
  | lst xs => exact .base (.lst e)
  | dK kvs => exact .base (.dK e)
  | dT kvs => exact .base (.dT e)
  | ins dx fs cl ha hn htk hm => exact .base (.ins e cl ha hn htk hm)
theorem Oth.noTbl {K : PySem.W.Frag} {o : HO} {t : Value} (h : Oth K o t) : ∀ ps, o ≠ .tbl ps := by
  intro ps z
  cases h <;> exact nomatch z
mutual
/-- v is d; what is else lies not in B, and is of none of the classes us -/
inductive AD (K : PySem.W.Frag) (us : List Value) (B : List Addr) (H : Hp) : V → JD → Prop
  | non : AD K us B H .non .none
  | bl (b : Bool) : AD K us B H (.bl b) (.bool b)
  | int (i : Int) : AD K us B H (.int i) (.int i)
  | str (x : Str) : AD K us B H (.str x) (.str x)
  | tup {a : Addr} {xs : List V} {ds : List JD} : H a = some (.tup xs) → ADs K us B H xs ds → AD K us B H (.ref a) (.tuple ds)
  | oth {a : Addr} {o : HO} {t : Value} : H a = some o → a ∉ B → Oth K o t → (∀ u ∈ us, PySem.W.kitOne K t u = some false) → AD K us B H (.ref a) .other
inductive ADs (K : PySem.W.Frag) (us : List Value) (B : List Addr) (H : Hp) : List V → List JD → Prop
  | nil : ADs K us B H [] []
  | cons {v : V} {vs : List V} {d : JD} {ds : List JD} : AD K us B H v d → ADs K us B H vs ds → ADs K us B H (v :: vs) (d :: ds)
end
/-- what stands outside B stays, but for tables -/
def KeepB (B : List Addr) (H H' : Hp) : Prop := ∀ a o, a ∉ B → H a = some o → (∀ ps, o ≠ .tbl ps) → H' a = some o
theorem Fr.keepB {ms B : List Addr} {H H' : Hp} (f : Fr ms H H') (h : ∀ x ∈ ms, x ∈ B) : KeepB B H H' := fun a o n e _ => f.keep a o (fun z => n (h a z)) e
theorem keepB_ext {B : List Addr} {H H' : Hp} (e : LamX.ExtN H H') : KeepB B H H' := fun a o _ h n => e a o h n
theorem tp_ext {H H' : Hp} (e : LamX.ExtN H H') : Tp H H' := fun a _ h => e a _ h (fun _ z => nomatch z)
mutual
theorem AD.mono {K : PySem.W.Frag} {us : List Value} {B : List Addr} {H H' : Hp} (t : Tp H H') (k : KeepB B H H') : ∀ (d : JD) (v : V), AD K us B H v d → AD K us B H' v d
  | .none, _, h => by cases h; exact .non
  | .bool _, _, h => by cases h; exact .bl _
  | .int _, _, h => by cases h; exact .int _
  | .str _, _, h => by cases h; exact .str _
  | .tuple ds, _, h => by
    cases h with
    | tup e hs => exact .tup (t _ _ e) (ADs.mono t k ds _ hs)
  | .other, _, h => by
    cases h with
    | oth e n o us => exact .oth (k _ _ n e o.noTbl) n o us
theorem ADs.mono {K : PySem.W.Frag} {us : List Value} {B : List Addr} {H H' : Hp} (t : Tp H H') (k : KeepB B H H') : ∀ (ds : List JD) (vs : List V), ADs K us B H vs ds → ADs K us B H' vs ds
  | [], _, h => by cases h; exact .nil
  | d :: ds, _, h => by
    cases h with
    | cons a b => exact .cons (AD.mono t k d _ a) (ADs.mono t k ds _ b)
end
mutual
theorem AD.less {K : PySem.W.Frag} {us : List Value} {B B' : List Addr} {H : Hp} (hB : ∀ x ∈ B', x ∈ B) : ∀ (d : JD) (v : V), AD K us B H v d → AD K us B' H v d
  | .none, _, h => by cases h; exact .non
  | .bool _, _, h => by cases h; exact .bl _
  | .int _, _, h => by cases h; exact .int _
  | .str _, _, h => by cases h; exact .str _
  | .tuple ds, _, h => by
    cases h with
    | tup e hs => exact .tup e (ADs.less hB ds _ hs)
  | .other, _, h => by
    cases h with
    | oth e n o us => exact .oth e (fun z => n (hB _ z)) o us
theorem ADs.less {K : PySem.W.Frag} {us : List Value} {B B' : List Addr} {H : Hp} (hB : ∀ x ∈ B', x ∈ B) : ∀ (ds : List JD) (vs : List V), ADs K us B H vs ds → ADs K us B' H vs ds
  | [], _, h => by cases h; exact .nil
  | d :: ds, _, h => by
    cases h with
    | cons a b => exact .cons (AD.less hB d _ a) (ADs.less hB ds _ b)
end
mutual
def ofP : PyData → JD
  | .none => .none
  | .bool b => .bool b
  | .int i => .int i
  | .str s => .str s
  | .tuple ds => .tuple (ofPs ds)
  | _ => .other
def ofPs : List PyData → List JD
  | [] => []
  | d :: ds => ofP d :: ofPs ds
end
theorem ofPs_map : ∀ ds : List PyData, ofPs ds = ds.map ofP
  | [] => rfl
  | d :: ds => by rw [ofPs, ofPs_map ds, List.map_cons]
mutual
theorem TD.ad {K : PySem.W.Frag} {us : List Value} {B : List Addr} {H : Hp} : ∀ (d : PyData) (v : V), TD H v d → AD K us B H v (ofP d)
  | .none, _, h => by cases h; exact .non
  | .bool _, _, h => by cases h; exact .bl _
  | .int _, _, h => by cases h; exact .int _
  | .str _, _, h => by cases h; exact .str _
  | .tuple ds, _, h => by
    cases h with
    | tup e hs => exact .tup e (TDs.ad ds _ hs)
  | .list _, _, h => by cases h
  | .dict _, _, h => by cases h
theorem TDs.ad {K : PySem.W.Frag} {us : List Value} {B : List Addr} {H : Hp} : ∀ (ds : List PyData) (vs : List V), TDs H vs ds → ADs K us B H vs (ofPs ds)
  | [], _, h => by cases h; exact .nil
  | d :: ds, _, h => by
    cases h with
    | cons a b => exact .cons (TD.ad d _ a) (TDs.ad ds _ b)
end
section
variable {K : PySem.W.Frag} {us : List Value} {B : List Addr} {H : Hp} {v : V} {d : JD} {vs : List V} {ds : List JD} {i : Nat}
theorem ADs.length (h : ADs K us B H vs ds) : vs.length = ds.length := by
  induction ds generalizing vs with
  | nil => cases h; rfl
  | cons d ds ih =>
    cases h with
    | cons _ b => rw [List.length_cons, List.length_cons, ih b]
theorem ADs.at_ (h : ADs K us B H vs ds) (e : vs[i]? = some v) : ∃ d, ds[i]? = some d ∧ AD K us B H v d := by
  induction ds generalizing vs i with
  | nil => cases h; cases e
  | cons d ds ih =>
    cases h with
    | cons a b =>
      cases i with
      | zero => cases e; exact ⟨d, rfl, a⟩
      | succ i => exact ih b e
/-- isinstance of what is else -/
theorem st_isiO {a : Addr} {o : HO} {t : Value} {n : String} {Q : VK} (e : H a = some o) (h : Oth K o t) (hu : ∀ u ∈ us, PySem.W.kitOne K t u = some false) (hn : Value.type n ∈ us) (q : Q (.bl false) H) : rIsi K [.ref a, .ty n] H Q :=
  ⟨.ref a, .ty n, t, _, false, rfl, .ty n, h.ty e, hu _ hn, q⟩
end
theorem fn_or {P : Program} {w : World} {K : PySem.W.Frag} {mg : Str → Option Value} {base : Heap} {CX : CXT} {f : Addr} {fd : FuncData} {k : Nat} {ps : List Str} {sp sp' : Sp} (h : FnOk P w K mg base CX k f fd ps sp) (h' : FnOk P w K mg base CX k f fd ps sp') :
    FnOk P w K mg base CX k f fd ps (fun vs H Q E => sp vs H Q E ∨ sp' vs H Q E) :=
  ⟨fun vs H Q E q => q.elim (h.len vs H Q E) (h'.len vs H Q E), fun A outer s H args us vs Q E hr he hb hv q => q.elim (h.run A outer s H args us vs Q E hr he hb hv) (h'.run A outer s H args us vs Q E hr he hb hv)⟩
/-- a def's promise weakened -/
theorem fn_weak {P : Program} {w : World} {K : PySem.W.Frag} {mg : Str → Option Value} {base : Heap} {CX : CXT} {f : Addr} {fd : FuncData} {k : Nat} {ps : List Str} {sp sp' : Sp} (h : FnOk P w K mg base CX k f fd ps sp) (i : ∀ vs H Q E, sp' vs H Q E → sp vs H Q E) : FnOk P w K mg base CX k f fd ps sp' :=
  ⟨fun vs H Q E q => h.len vs H Q E (i _ _ _ _ q), fun A outer s H args us vs Q E hr he hb hv q => h.run A outer s H args us vs Q E hr he hb hv (i _ _ _ _ q)⟩
theorem Dn.weak {P : Program} {w : World} {K : PySem.W.Frag} {mg : Str → Option Value} {base : Heap} {x : Str} {k : Nat} {ps : List Str} {sp sp' : Sp} (h : Dn P w K mg base x k ps sp) (i : ∀ vs H Q E, sp' vs H Q E → sp vs H Q E) : Dn P w K mg base x k ps sp' := by
  obtain ⟨f, fd, ok, a, b, c⟩ := h.ok
  exact ⟨⟨f, fd, fn_weak ok i, a, b, c⟩⟩
end Hq

/-! P13: d.update(d2), keys ints and texts -/
namespace Hq
open PySem PySem.Spec PyProof.Rows L2
def rUpdK : V → List V → Hp → VK → Prop := fun x xs H Q => ∃ (a b : Addr) (ks ls : List (Key × V)), x = .ref a ∧ xs = [.ref b] ∧ a ≠ b ∧ H a = some (.dK ks) ∧ H b = some (.dK ls) ∧ ks.length + ls.length ≤ sizeLine ∧ Q .non (upd H a (.dK (mergeK ks ls)))
theorem mergeK_len : ∀ (ls ks : List (Key × V)), (mergeK ks ls).length ≤ ks.length + ls.length
  | [], ks => by simp [mergeK]
  | l :: ls, ks => by
    have h := mergeK_len ls (putK ks l.1 l.2)
    have h2 := length_putK ks l.1 l.2
    show (mergeK (putK ks l.1 l.2) ls).length ≤ _
    rw [List.length_cons]
    omega
theorem mt_updK {X : Cx} : MtR X "dict.update" rUpdK := by
  intro pins s σ H x xs v us Q I rx rxs h
  obtain ⟨a, b, ks, ls, rfl, rfl, hne, ea, eb, hz, q⟩ := h
  obtain rfl : v = Value.ref a := rx
  obtain ⟨u, rfl, ru⟩ := rxs.one
  obtain rfl : u = Value.ref b := ru
  obtain ⟨_, hda, va, ra, da⟩ := dk_of I.hok ea
  obtain ⟨_, hdb, vb, rb, db⟩ := dk_of I.hok eb
  refine call_meetsIn PySem.F.slot_dict_update da.typeIs PySem.F.entry_dict_update (PySem.F.args_dict_update_2 _ _) (meets_dict_update (mixKind X.prog X.w) a b hne hdb) ⟨va, vb, da, db, by rw [← ra.length, ← rb.length]; exact hz, fun h' d1 d2 sb => ?_⟩
  have he : ∃ q, h'.get? a = some q := let ⟨q, _, _, hq, _⟩ := d1; ⟨q, hq⟩
  refine ⟨.non, _, d_write (t' := s.toks) I (by rw [ea]; exact True.intro) sb he (dk_new (Nat.le_trans (mergeK_len ls ks) hz) hda (KV.merge rb ra) d1), rfl, q⟩
end Hq

/-! P14: len(set(t)) of a tuple of unlike texts -/
namespace Hq
open PySem PySem.Spec PySem.Calls PyProof.Rows L2
/-- a new set -/
abbrev setO (led : Bool) : Obj := { cls := .type "set", dict := none, data := .set #[] 0 (.fresh 0 0 led) }
section
variable {prog : Program} {w : World} {A : Around} {I : Addr} {fp wr : List Addr} {G : Array GenState → Array GenState → Prop} {n : Nat} {Pv : Nat → Value → Prop} {St : Nat → Shared → Prop} {R : Result → Shared → Prop}
/-- the first i texts stand in the set -/
abbrev InSet (prog : Program) (w : World) (h : Heap) (S : Addr) (xs : List Str) (i : Nat) : Prop := h.SetOf (PySem.strKind prog w) S (fun k => (xs.take i).any (· == k)) i
theorem InSet.at {h h' : Heap} {S : Addr} {xs : List Str} {i : Nat} (x : InSet prog w h S xs i) (k : ∀ o, h.get? S = some o → h'.get? S = some o) : InSet prog w h' S xs i := by
  obtain ⟨o, es, ep, tb, ho, rest⟩ := x
  exact ⟨o, es, ep, tb, k _ ho, rest⟩
theorem loopU (W : WalksS prog w A.in1 I fp wr G n Pv St) (S : Addr) (out : S ∉ fp) (xs : List Str) (len : xs.length = n) (few : n + 1 < scanBound) (un : xs.Nodup) (val : ∀ i v, Pv i v → ∃ t, v = .str (xs.getD i Str.empty) t) :
    ∀ (left i : Nat) (s : Shared), n - i = left → i ≤ n → St i s → InSet prog w s.heap S xs i → (∀ s', Moved (S :: wr) G s s' → InSet prog w s'.heap S xs n → R (.ok (.ret .none)) s') →
      codeAny (model prog w) A (.builtin "set.update.loop" ⟨[.ref S, .ref I], []⟩) R s := by
  have outw : S ∉ wr := fun z => out (W.sub _ z)
  have more : ∀ b ∈ wr, b ∈ S :: wr := fun b z => List.mem_cons_of_mem _ z
  intro left
  induction left with
  | zero =>
    intro i s e le hst hS hR
    obtain rfl : i = n := by omega
    refine codeAny_builtin PyProof.Rows.F.entry_set_update_loop (by
      rw [Around.under_plainId PyProof.Rows.F.plain_set_update_loop _]
      show wpAny _ A.in1 (pyNext (.ref I) >>= _) _ _ s
      exact wpAny_bind (W.done s _ _ hst fun s' hm => by
        show wpAny _ A.in1 (ret Value.none) _ _ s'
        exact wpAny_pure (hR s' (hm.mono more) (hS.at fun o z => hm.heap S o outw z))))
  | succ left ih =>
    intro i s e le hst hS hR
    have lt : i < n := by omega
    have ltx : i < xs.length := by omega
    refine codeAny_builtin PyProof.Rows.F.entry_set_update_loop ?_
    rw [Around.under_plainId PyProof.Rows.F.plain_set_update_loop _]
    show wpAny _ A.in1 (pyNext (.ref I) >>= _) _ _ s
    refine wpAny_bind (W.item i s _ _ lt hst fun v s' hP hst' hm => ?_)
    obtain ⟨t, rfl⟩ := val i v hP
    have hS' : InSet prog w s'.heap S xs i := hS.at fun o z => hm.heap S o outw z
    have gx : xs.getD i Str.empty = xs[i] := by rw [List.getD_eq_getElem?_getD, List.getElem?_eq_getElem ltx]; rfl
    rw [gx]
    show wpAny _ A.in1 (holding [Value.str xs[i] t] (setAdd S (.str xs[i] t)) >>= _) _ _ s'
    refine wpAny_bind (wpAny_holding ?_)
    unfold setAdd
    refine wpAny_holding (wpAny_bind ((PySem.strKind prog w).pyHash (k := xs[i]) (strKind_is _ _ _ _) ?_))
    refine wpAny_setAddHashed_of (knd := PySem.strKind prog w) (s := { s' with toks := s'.toks + 1 }) (strKind_is _ _ _ _) rfl hS' (by omega) fun h' only hS2 => ?_
    have fresh : (xs.take i).any (· == xs[i]) = false := by
      rw [List.any_eq_false]
      intro y hy z
      have ey : y = xs[i] := eq_of_beq z
      obtain ⟨j, hj, ej⟩ := List.mem_take_iff_getElem.mp hy
      have hji : j < i := by omega
      have := (List.getElem_inj (h₀ := by omega) (h₁ := ltx) un).mp (ej.trans ey)
      omega
    have hS3 : InSet prog w h' S xs (i + 1) := by
      refine SetOf_congr hS2 (fun k => ?_) (by rw [fresh]; rfl)
      rw [List.take_add_one, List.getElem?_eq_getElem ltx, List.any_append]
      congr 1
      by_cases q : k = xs[i]
      · simp [q]
      · have : (xs[i] == k) = false := beq_eq_false_iff_ne.mpr fun z => q z.symm
        simp [q, this]
    refine wpAny_pure ⟨plainId_quiet PyProof.Rows.F.plain_set_update_loop _, ih (i + 1) _ (by omega) lt (W.frame _ s' _ _ hst' (Nat.le_succ _) fun b hb o z => (only.2 b (fun q : b = S => out (q ▸ hb))).trans z) hS3 fun s2 m2 hS4 => ?_⟩
    exact hR s2 (Moved.trans W.gtrans ((hm.mono more).then_heap (Nat.le_succ _) fun b o hb z => (only.2 b (fun q : b = S => hb (q ▸ List.mem_cons_self))).trans z) m2) hS4
end
section
variable {prog : Program} {w : World} {A : Around} {E : Value → Shared → Prop} {s : Shared}
set_option maxHeartbeats 3200000 in
theorem set_tupU {l : Addr} {its : Array Value} {xs : List Str} {Q : Value → Shared → Prop} (hh : A.handled = none) (tl : s.heap.IsTuple l its) (are : PyProof.Rows.StrsAre its.toList xs) (few : xs.length + 1 < scanBound) (un : xs.Nodup)
    (q : ∀ (h' : Heap) (tk : Nat), InSet prog w h' s.heap.objs.size xs xs.length → (∀ b o, b < s.heap.objs.size → s.heap.get? b = some o → h'.get? b = some o) → Q (.ref s.heap.objs.size) { s with heap := h', toks := tk }) :
    wpAny (model prog w) A (call (.type "set") [.ref l]) Q E s := by
  obtain ⟨c, tl0, hmro⟩ := PySem.F.called_set.mro
  have hmade := PySem.F.called_set.made; have hsub := PySem.F.called_set.sub
  refine wpAny_call (codeAny_of_tree ?_); show wpAny _ _ (callAny (.type "set") _) _ _ _
  refine wpAny_pure ⟨Code.quiet_builtin _ (by decide +kernel), codeAny_builtin PySem.F.entry_type_call ?_⟩
  rw [Around.under_plain (weight_type_call_type "set" [.ref l] []) rfl]
  have h1 := PySem.F.called_set.notType; have h2 := PySem.F.called_set.canCreate; have hct := PySem.F.typeCall_set_1 (.ref l)
  repeat (any_goals (first | assumption | wp_step))
  refine codeAny_mono (code_set_new_1 (.ref l) (E := E) (Q₁ := fun o t => ∃ led : Bool, o = .ref s.heap.objs.size ∧ t = { s with heap := s.heap.push (setO led) }) fun led => ⟨led, rfl, rfl⟩) fun r t hr => ?_
  cases r with
  | error e => exact hr
  | ok fl =>
    cases fl with
    | ret obj =>
      obtain ⟨led, rfl, rfl⟩ := hr
      have new : (s.heap.push (setO led)).get? s.heap.objs.size = some (setO led) := Heap.get?_push_size _ rfl
      have ty : Shared.TypeIs { s with heap := s.heap.push (setO led) } (.ref s.heap.objs.size) "set" := ⟨_, new, rfl⟩
      have i1 := PySem.F.called_set.init.lookup; have i2 := PySem.F.called_set.init.bind (.ref s.heap.objs.size)
      repeat (any_goals (first | assumption | wp_step))
      refine codeAny_mono (codeAny_call_builtin (R := wants (fun r t => r = .none ∧ ∃ h' tk, t = { s with heap := h', toks := tk } ∧ InSet prog w h' s.heap.objs.size xs xs.length ∧ (∀ b o, b < s.heap.objs.size → s.heap.get? b = some o → h'.get? b = some o)) E)
        PySem.F.called_set.init.plain PySem.F.entry_set_init (check_set_init_1 ty ?_)) fun r2 t2 hr2 => ?_
      · obtain ⟨ol, hol, hcl, nl, hdl⟩ := tl
        obtain ⟨c1, o1, d1, p1⟩ := ol
        cases (show c1 = _ from hcl)
        cases (show d1 = _ from hdl)
        have at1 : (s.heap.push (setO led)).get? l = some { cls := .type "tuple", dict := o1, data := .seq its nl, slots := p1 } := Heap.get?_push_of_some _ hol
        have s1 := PySem.F.sub_tuple_set; have s2 := PySem.F.sub_tuple_frozenset
        have nd : (Value.type "tuple" == Value.type "dict") = false := by decide
        have tup1 : (s.heap.push (setO led)).IsTuple l its := ⟨_, at1, rfl, nl, rfl⟩
        unfold Builtin.«set.__init__» noKeywords Builtin.Frozenset.updateFrom
        generalize eP : pyIter = PI
        wp_walk
        subst eP
        refine wpAny_pyIter_tuple tup1 (wpAny_bind (wpAny_runValue ?_))
        have ll : l < s.heap.objs.size := Heap.lt_size hol
        have hh3 : A.in1.in1.in1.handled = none := by simp [hh]
        have sz1 : (s.heap.push (setO led)).objs.size = s.heap.objs.size + 1 := Heap.size_push ..
        have nI : l ≠ (s.heap.push (setO led)).objs.size := by rw [sz1]; exact Nat.ne_of_lt (Nat.lt_succ_of_lt ll)
        have nS : s.heap.objs.size ∉ [(s.heap.push (setO led)).objs.size, l] := by
          rw [sz1]
          simp only [List.mem_cons, List.not_mem_nil, or_false, not_or]
          exact ⟨Nat.ne_of_lt (Nat.lt_succ_self _), Nat.ne_of_gt ll⟩
        have len : xs.length = its.size := by rw [← StrsAre.len_eq are, Array.length_toList]
        refine loopU ((Walks.tuple hh3 _ l nI its).toS) s.heap.objs.size nS xs len (by omega) un (fun i v hv => SS.strs_at are i v (by rw [Array.getElem?_toList]; exact hv)) (its.size - 0) 0 _ (by omega) (Nat.zero_le _)
          ⟨⟨_, Heap.get?_push_size _ rfl, rfl, rfl⟩, (tup1.push _)⟩ ?hS0 ?hR
        case hS0 =>
          have g0 : ((s.heap.push (setO led)).push { cls := .type "tuple_iterator", data := .fields #[.ref l, .int 0 0] }).get? s.heap.objs.size = some (setO led) := Heap.get?_push_of_some _ new
          exact PyProof.Rows.SetOf_congr ((PyProof.Rows.setObjOf_fresh (knd := PySem.strKind prog w) led).setOf g0 (by unfold scanBound; omega)) (fun _ => rfl) rfl
        case hR =>
          intro s' hm hS'
          obtain ⟨h', g', d', tk', os'⟩ := s'
          cases (show g' = s.gens from hm.gens)
          cases (show d' = s.drawn from hm.drawn)
          cases (show os' = s.os from hm.os)
          rw [← len] at hS'
          show wpAny _ _ _ _ _ _
          refine wpAny_pure ?_
          show wpAny _ _ (ret Value.none) _ _ _
          refine wpAny_pure ⟨rfl, h', tk', rfl, hS', fun b o hb e => hm.heap b o (by rw [sz1]; simp only [List.mem_cons, List.not_mem_nil, or_false, not_or]; exact ⟨Nat.ne_of_lt hb, Nat.ne_of_lt (Nat.lt_succ_of_lt hb)⟩) (Heap.get?_push_of_some _ (Heap.get?_push_of_some _ e))⟩
      · cases r2 with
        | error e => exact hr2
        | ok f2 =>
          cases f2 with
          | ret r =>
            obtain ⟨rfl, h', tk, rfl, hS', hk'⟩ := hr2
            repeat (any_goals (first | assumption | wp_step))
            exact q _ _ hS' hk'
          | _ => exact hr2.elim
    | _ => exact hr.elim
end
section
variable {X : Cx}
/-- len(set(t)), t a tuple of unlike texts -/
def tLenSetU (K : PySem.W.Frag) (ta : TE) : TE := fun σ H Q => ta σ H fun x H1 => ∃ (l : Addr) (xs : List Str), x = .ref l ∧ SqT K H1 l (xs.map V.str) ∧ xs.length ≤ 1000 ∧ xs.Nodup ∧ Q (.int xs.length) H1
theorem pe_lenSetU {a : Expr} {ta : TE} {p p2 q pos : Pos} (hc : X.calm = true) (hg : Gl X "len") (hm : X.mg "len" = none) (hg2 : Gl X "set") (hm2 : X.mg "set" = none) (ha : PE X a ta)
    (na : starEach [a] X.env = (false, eval a X.env) :: starEach [] X.env := by rfl) : PE X (.Call (.Name "len" p) [.Call (.Name "set" p2) [a] [] q] [] pos) (tLenSetU X.K ta) := by
  refine ⟨fun pins s σ H Q I h => ?_⟩
  refine Call_ (ld_blt I hg hm boot_len (PyProof.Rows.callWith_builtin1 (PyProof.Rows.args_cons ?_ rfl) rfl rfl))
  refine Call_ (ld_blt I hg2 hm2 boot_set ?_)
  refine PyProof.Rows.callWith_type1 (PyProof.Rows.args_cons (thn (ha.run pins s σ H _ I h) fun v s1 ⟨x, H1, I1, r1, q1⟩ => PyProof.Rows.args_nil ?_) na) na rfl
  obtain ⟨l, xs, rfl, hq, few, un, q1⟩ := q1
  cases r1
  obtain ⟨its, r, pl, hz⟩ := I1.tuple hq
  refine set_tupU (I1.ok.hd hc) pl (by simpa using strsAre_of r) (by unfold scanBound; omega) un fun h' tk hS hk => PyProof.Rows.args_nil ?_
  obtain ⟨o, es, ep, t, ho, hex, hd, _, _, _, hf, hn⟩ := hS
  have I2 : Inv X pins σ H1 { s1 with heap := h', toks := tk } := I1.kept fun b o e => hk b o (Heap.lt_size e) e
  exact call_len_set ho hex hd hf (by rw [hn]; omega) ⟨.int xs.length, H1, I2.tok _, ⟨_, by rw [hn]⟩, q1⟩
theorem kLenSet {K : PySem.W.Frag} {a : Expr} {ta : TE} {p p2 q pos : Pos} (hg : Gl X "len") (hm : X.mg "len" = none) (hg2 : Gl X "set") (hm2 : X.mg "set" = none) (ha : PE X a ta) (hc : X.calm = true := by rfl) (h : X.K = K := by rfl)
    (na : starEach [a] X.env = (false, eval a X.env) :: starEach [] X.env := by rfl) : PE X (.Call (.Name "len" p) [.Call (.Name "set" p2) [a] [] q] [] pos) (tLenSetU K ta) := by
  cases h
  exact pe_lenSetU hc hg hm hg2 hm2 ha na
end
end Hq

/-! P15: slices of tuples -/
namespace Hq
open PySem PySem.Spec PyProof.Rows L2
theorem sIx_lo {n k : Nat} (h : k ≤ n) : HT.sIx n 0 (some (k : Int)) = k := by
  rw [HT.sIx_nat]
  omega
/-- t[k:], k above 0 -/
theorem st_slT_drop {K : PySem.W.Frag} {H : Hp} {a : Addr} {xs : List V} {k : Nat} {Q : VK} (h : SqT K H a xs) (k0 : 0 < k) (hk : k ≤ xs.length) (q : ∀ p, H p = none → Q (.ref p) (upd H p (.tup (xs.drop k)))) : rSlT K (.ref a) (some (k : Int)) none H Q := by
  refine ⟨a, xs, rfl, h, fun z => ?_, fun p hp => ?_⟩
  · have := z.1
    rw [sIx_lo hk] at this
    omega
  · rw [cut_drop]
    exact q p hp
end Hq

/-! P16: dicts that tell True of texts; sorted texts -/
namespace Hq
open PySem PySem.Spec PyProof.Rows L2
def addN (acc : List Str) (x : Str) : List Str := if x ∈ acc then acc else acc ++ [x]
def addAll (acc xs : List Str) : List Str := xs.foldl addN acc
def dkN (ns : List Str) : List (Key × V) := ns.map fun s => (.inr s, .bl true)
theorem dkN_len (ns : List Str) : (dkN ns).length = ns.length := List.length_map ..
theorem dkN_any (acc : List Str) (x : Str) : ((dkN acc).any fun kv => decide (kv.1 = (Sum.inr x : Key))) = decide (x ∈ acc) := by
  induction acc with
  | nil => rfl
  | cons a acc ih =>
    show (decide ((Sum.inr a : Key) = Sum.inr x) || (dkN acc).any _) = _
    rw [ih]
    by_cases h : a = x
    · subst h
      simp
    · have h2 : ¬ x = a := fun e => h e.symm
      simp [h, h2]
theorem dkN_put (acc : List Str) (x : Str) : putK (dkN acc) (.inr x) (.bl true) = dkN (addN acc x) := by
  unfold putK addN
  rw [dkN_any]
  by_cases h : x ∈ acc
  · rw [if_pos (decide_eq_true h), if_pos h]
    unfold dkN
    rw [List.map_map]
    refine List.map_congr_left fun s _ => ?_
    show (if (Sum.inr s : Key) = Sum.inr x then ((Sum.inr s : Key), V.bl true) else (Sum.inr s, .bl true)) = _
    rw [ite_self]
  · rw [if_neg (by rw [decide_eq_false h]; exact Bool.false_ne_true), if_neg h]
    unfold dkN
    rw [List.map_append]
    rfl
theorem dkN_merge : ∀ (xs acc : List Str), mergeK (dkN acc) (dkN xs) = dkN (addAll acc xs)
  | [], _ => rfl
  | x :: xs, acc => by
    show mergeK (putK (dkN acc) (.inr x) (.bl true)) (dkN xs) = dkN (addAll (addN acc x) xs)
    rw [dkN_put, dkN_merge xs]
theorem addN_mem (acc : List Str) (x y : Str) : y ∈ addN acc x ↔ y ∈ acc ∨ y = x := by
  unfold addN
  by_cases h : x ∈ acc
  · rw [if_pos h]
    exact ⟨.inl, fun e => e.elim id fun e => e ▸ h⟩
  · rw [if_neg h, List.mem_append, List.mem_singleton]
theorem addAll_mem : ∀ (xs acc : List Str) (y : Str), y ∈ addAll acc xs ↔ y ∈ acc ∨ y ∈ xs
  | [], acc, y => by
    show y ∈ acc ↔ _
    simp
  | x :: xs, acc, y => by
    show y ∈ addAll (addN acc x) xs ↔ _
    rw [addAll_mem xs, addN_mem, List.mem_cons, or_assoc]
theorem addN_nodup {acc : List Str} {x : Str} (h : acc.Nodup) : (addN acc x).Nodup := by
  unfold addN
  by_cases hx : x ∈ acc
  · rw [if_pos hx]; exact h
  · rw [if_neg hx]
    rw [List.nodup_append]
    refine ⟨h, by simp, fun a ha b hb e => ?_⟩
    rw [List.mem_singleton] at hb
    exact hx (hb ▸ e ▸ ha)
theorem addAll_nodup : ∀ (xs : List Str) {acc : List Str}, acc.Nodup → (addAll acc xs).Nodup
  | [], _, h => h
  | x :: xs, _, h => addAll_nodup xs (acc := addN _ x) (addN_nodup h)
theorem addAll_append (acc xs ys : List Str) : addAll acc (xs ++ ys) = addAll (addAll acc xs) ys := List.foldl_append ..
theorem addAll_addN (acc b : List Str) (x : Str) : addAll acc (addN b x) = addN (addAll acc b) x := by
  by_cases h : x ∈ b
  · have h2 : x ∈ addAll acc b := (addAll_mem b acc x).mpr (.inr h)
    rw [show addN b x = b from if_pos h, show addN (addAll acc b) x = addAll acc b from if_pos h2]
  · rw [show addN b x = b ++ [x] from if_neg h, addAll_append]
    rfl
theorem addAll_addAll : ∀ (xs acc b : List Str), addAll acc (addAll b xs) = addAll (addAll acc b) xs
  | [], _, _ => rfl
  | x :: xs, acc, b => by
    show addAll acc (addAll (addN b x) xs) = addAll (addN (addAll acc b) x) xs
    rw [addAll_addAll xs, addAll_addN]
theorem addAll_twice (acc xs : List Str) : addAll acc (addAll [] xs) = addAll acc xs := addAll_addAll xs acc []
theorem addAll_le {acc xs ns : List Str} (hn : acc.Nodup) (ha : ∀ x ∈ acc, x ∈ ns) (hx : ∀ x ∈ xs, x ∈ ns) : (addAll acc xs).length ≤ ns.length :=
  (addAll_nodup xs hn).length_le_of_subset fun y hy => ((addAll_mem xs acc y).mp hy).elim (ha y) (hx y)
theorem risingS_pw : ∀ (ys : List Str) (x : Str), risingS x ys = true → (x :: ys).Pairwise fun a b => ¬ b.cps.toList < a.cps.toList
  | [], x, _ => by simp
  | y :: ys, x, h => by
    have h' : (!ltCps y.cps.toList x.cps.toList && risingS y ys) = true := h
    rw [Bool.and_eq_true] at h'
    have e := h'.1
    rw [ltCps_eq] at e
    have hyx : ¬ y.cps.toList < x.cps.toList := by simpa using e
    have p := risingS_pw ys y h'.2
    rw [List.pairwise_cons] at p ⊢
    refine ⟨fun z hz => ?_, List.pairwise_cons.mpr p⟩
    rcases List.mem_cons.mp hz with rfl | hz
    · exact hyx
    · exact fun hlt => absurd hlt (List.not_lt.mpr (List.le_trans (List.not_lt.mp hyx) (List.not_lt.mp (p.1 z hz))))
theorem sortedS_pw (ys : List Str) (h : sortedS ys = true) : ys.Pairwise fun a b => ¬ b.cps.toList < a.cps.toList := by
  cases ys with
  | nil => exact .nil
  | cons y ys => exact risingS_pw ys y h
theorem str_of_cps {a b : Str} (h : a.cps.toList = b.cps.toList) : a = b := by
  cases a
  cases b
  simpa using h
theorem sortedS_eq {ys zs : List Str} (h : sortedS ys = true) (g : sortedS zs = true) (p : ys.Perm zs) : ys = zs :=
  List.Perm.eq_of_pairwise (fun a b _ _ h1 h2 => str_of_cps (List.le_antisymm (List.not_lt.mp h1) (List.not_lt.mp h2))) (sortedS_pw _ h) (sortedS_pw _ g) p
theorem kSortS {X : Cx} {K : PySem.W.Frag} (h : X.K = K := by rfl) : CallR X (.builtin "sorted") (rSortedS K) := by cases h; exact cr_sortedS
theorem inV_strs (x : Str) (ws : List Str) : inV (V.str x) (ws.map V.str) = decide (x ∈ ws) := by
  induction ws with
  | nil => rfl
  | cons y ws ih =>
    unfold inV at ih ⊢
    rw [List.map_cons, List.any_cons, ih]
    by_cases h : x = y
    · subst h
      simp [eqV]
    · have h2 : ¬ y = x := fun e => h e.symm
      simp [eqV, h, h2]
end Hq
namespace Hq
open PySem PySem.Spec PyProof.Rows L2
section
variable {X : Cx}
/-- name = {k: v for ..} on one line, the name a local: after the library's own rule of lists -/
theorem ps_setDc (o0 : HO) (hu : X.A.units < cLine) (ho : o0 = .dK [] ∨ o0 = .dT []) {i : Nat} {y : Str} {py : Pos} {kx vx tg iter : Expr} {ifs : List Expr} {scope : Scope} {own : List (Str × Nat)} {pos spos : Pos} {wi : TI} {g : TG} {tt : TT} {tk tv : TE} (hc : X.calm = true) (hN : X.N.Nodup) (hy : X.N[i]? = some y) (hyl : X.env.scope.names.lookup y = some .local)
    (hsw : swapsWith (.DictComp kx vx [⟨tg, iter, ifs, 0⟩] scope pos) (some (.Name y py)) spos.line X.env = pure true) (hi : PI X tg iter wi) (ok : BlkOk X.N X.env.scope scope own)
    (hg : ∀ (s : Shared) (H : Hp) (C : Addr) (cl : List (Str × Addr)) (fp : List Addr), PG (X.blk s H scope (compEnvC scope cl C X.env) fp) tg g) (ht : ∀ (s : Shared) (H : Hp) (C : Addr) (cl : List (Str × Addr)) (fp : List Addr), PTs (X.blk s H scope (compEnvC scope cl C X.env) fp) ifs tt)
    (hk : ∀ (s : Shared) (H : Hp) (C : Addr) (cl : List (Str × Addr)) (fp : List Addr), PE (X.blk s H scope (compEnvC scope cl C X.env) fp) kx tk)
    (he : ∀ (s : Shared) (H : Hp) (C : Addr) (cl : List (Str × Addr)) (fp : List Addr), PE (X.blk s H scope (compEnvC scope cl C X.env) fp) vx tv) (hs : ∀ x, foldedSetIterable iter X.env x = pure x := by intro _; rfl) :
    PS X (.Assign [.Name y py] (.DictComp kx vx [⟨tg, iter, ifs, 0⟩] scope pos) spos) (tAsg (tDcG o0 wi g tt tk tv (own.map (·.2))) (gName i)) := by
  refine ⟨fun pins s σ H D I h => ?_⟩
  rw [exec_Assign_Name_used _ _ _ _ hsw]
  refine wpAny_bind (wpAny_standAt (wpAny_bind ?_))
  show wpAny _ X.A (do let _ ← comprehension (.DictComp kx vx [⟨tg, iter, ifs, 0⟩] scope pos) scope X.env (firstIterPos [⟨tg, iter, ifs, 0⟩] pos) newDict false (eval iter X.env) (some (assign (.Name y py) X.env))) _ _ s
  have h : tDcG o0 wi g tt tk tv (own.map (·.2)) σ H (fun x H1 => gName i x σ H1 D.nx) := h
  refine wpAny_bind (thn (dcG_core (Qf := fun _ s' => SP X pins D .next s') o0 hu ho hc hN I hi ok hg ht hk he hs h fun L C s' m H' I' q hn f => ?_) fun _ s' hq => wpAny_pure (wpAny_pure hq))
  show wpAny _ _ (assign (.Name y py) X.env (.ref L)) _ _ _
  refine wpAny_assign_Name (store_ok2 (v := V.ref L) I' hN hy (.inl hyl) rfl (fun s2 I2 ⟨a, sb, ha⟩ => ?_) (.inr hyl))
  obtain ⟨f0, f1, f2, f3, f4, f5⟩ := f
  have haC : C ≠ a := by
    rcases ha with z | z
    · rw [z]; exact f1
    · exact fun e => f4 y a z e.symm
  refine ⟨m, hn.sameBut sb haC, fun h3 sb3 => ?_⟩
  exact ⟨_, H', I2.turned (t' := s2.toks) (fun b o hb e => (sb3.2 b hb).trans e) f0 f1 f3 f4 f5, q⟩
theorem sw_trueD {kx vx : Expr} {gs : List Comprehension} {scope : Scope} {pos py : Pos} {y : Str} {l : Nat} {env : Env} (hk : env.scope.kind = .function) (hy : env.scope.names.lookup y = some .local) (hl : (py.line == pos.line) = true)
    (ha : (scope.names.any fun (n, k) => n == y && (k == .local || k == .cell)) = false) : swapsWith (.DictComp kx vx gs scope pos) (some (.Name y py)) l env = pure true := by
  have ky : env.kindOf y = some .local := hy
  have hb : env.blockKind = .function := by unfold Env.blockKind; rw [hk]; rfl
  unfold swapsWith
  simp only [hb, ky, ha, Expr.pos, hl]
  rfl
end
end Hq
namespace Hq
open PySem PySem.Spec PyProof.Rows L2
theorem ty_dK {K : PySem.W.Frag} {H : Hp} {p : Addr} {kvs : List (Key × V)} (h : H p = some (.dK kvs)) : tyV K "dict" (.ref p) H := .inr (.inr (.inl ⟨rfl, .inl ⟨_, h⟩⟩))
end Hq

/-! P17: enumerate of a tuple: after the library's own rules of lists -/
namespace Hq
open PySem PySem.Spec PyProof.Rows L2
open AutoSeq1 (wpAny_loadPart')
set_option maxHeartbeats 4000000 in
theorem enumNewT (l : Addr) (items : Array Value) :
    Meets (Builtin.«enumerate.__new__» ⟨[.type "enumerate", .ref l], []⟩) (fun _ R s => s.heap.IsTuple l items ∧
      R (.ok (.ret (.ref (s.heap.push (itObj true l)).objs.size)))
        { s with heap := (s.heap.push (itObj true l)).push { cls := .type "enumerate", data := .fields #[.none, .bool false, .ref s.heap.objs.size, rawInt 0, .none, .none] } }) :=
  .of_wp fun prog w A R s h => by
    obtain ⟨hp, g, d, tk, os⟩ := s; obtain ⟨hL, h⟩ := h
    have hsub := sub_enumerate
    have hL' : hSeq true (Shared.heap ⟨hp, g, d, tk, os⟩) l items := hL
    obtain ⟨⟨c0, d0, dt0, sl0⟩, hl, hc0, n0, hd0⟩ := id hL
    simp only at hc0 hd0
    subst hc0 hd0
    wp_walk using wpAny_loadPart' hl
    refine wpAny_stack_any fun st => wpAny_pure ?_
    split
    · rename_i c _ _ _ _ _
      cases (c == Value.type "enumerate")
      · wp_walk using wpAny_loadPart' hl, iter2 true hL'
        exact ⟨_, rfl, h⟩
      · wp_walk using wpAny_loadPart' hl, iter2 true hL'
        exact ⟨_, rfl, h⟩
    · wp_walk using wpAny_loadPart' hl, iter2 true hL'
      exact ⟨_, rfl, h⟩
section
variable {prog : Program} {w : World} {A : Around} {E : Value → Shared → Prop} {s : Shared}
theorem enumCallT {l : Addr} {items : Array Value} {Q : Value → Shared → Prop} (hL : s.heap.IsTuple l items)
    (h : ∀ h', IsEnum h' (s.heap.objs.size + 1) s.heap.objs.size 0 .none → h'.IsTupleIter s.heap.objs.size l 0 → h'.objs.size = s.heap.objs.size + 2 →
      (∀ b o, s.heap.get? b = some o → h'.get? b = some o) → Q (.ref (s.heap.objs.size + 1)) { s with heap := h' }) :
    wpAny (model prog w) A (call (.type "enumerate") [.ref l]) Q E s := by
  refine callType_new F.called_enumerate (by decide) (F.typeCall_enumerate_1 _) (F.newCall_enumerate_1 _) (fun obj => F.args_object_init_2 obj _) F.entry_enumerate_new
    (enumNewT l items) ⟨hL, ?_⟩
  have hz : (s.heap.push (itObj true l)).objs.size = s.heap.objs.size + 1 := Heap.size_push ..
  show _ ∧ _
  rw [hz]
  have he : IsEnum ((s.heap.push (itObj true l)).push
      { cls := .type "enumerate", data := .fields #[.none, .bool false, .ref s.heap.objs.size, rawInt 0, .none, .none] }) (s.heap.objs.size + 1) s.heap.objs.size 0 .none := by
    have := Heap.get?_push_size (s.heap.push (itObj true l))
      (o := { cls := .type "enumerate", data := .fields #[.none, .bool false, .ref s.heap.objs.size, rawInt 0, .none, .none] }) rfl
    rw [hz] at this; exact this
  refine ⟨⟨_, he, rfl⟩, h _ he ⟨_, Heap.get?_push_of_some _ (Heap.get?_push_size _ rfl), rfl, rfl⟩ (by rw [Heap.size_push, hz]) fun b o x => Heap.get?_push_of_some _ (Heap.get?_push_of_some _ x)⟩
end
/-- the tuple at a, each item in a new pair -/
def ItE (K : PySem.W.Frag) (a : Addr) : It :=
  ⟨fun i H => ∃ (xs : List V) (x : V), SqT K H a xs ∧ xs[i]? = some x, fun i H v H' => ∃ T x, v = .ref T ∧ H T = none ∧ H' = upd H T (.tup [.int (i : Nat), x]) ∧ ∀ xs, SqT K H a xs → xs[i]? = some x, fun i H => ∃ xs : List V, SqT K H a xs ∧ xs.length = i⟩
theorem turnE {P : Program} {w : World} {K : PySem.W.Frag} {elts : List Expr} {kk : Nat} {tpos : Pos} (a e it : Addr) (hai : a ≠ it) (hae : a ≠ e) :
    Turn P w K (.Tuple elts kk tpos) (ItE K a) [e, it] e (fun i h => (∃ old, IsEnum h e it ((i : Nat) : Int) old) ∧ h.IsTupleIter it a i ∧ e ≠ it) where
  mem := by simp
  obj := fun i h st b hb => by
    obtain ⟨⟨old, he⟩, ⟨o, ho, hc, hd⟩, _⟩ := st
    have e' : b = e ∨ b = it := by simpa using hb
    rcases e' with z | z
    · rw [z]; exact ⟨_, he, fun v q => nomatch q⟩
    · rw [z]; exact ⟨o, ho, fun v q => by rw [hd] at q; cases q⟩
  keep := fun i h h' st k => let ⟨⟨old, he⟩, hi, hne⟩ := st; ⟨⟨old, k e (by simp) _ he⟩, hi.at fun o q => k it (by simp) o q, hne⟩
  item := by
    intro X hP hw hK hc i pins s σ H E I hf st hg
    subst hP hw hK
    obtain ⟨⟨old, he⟩, hit, hne⟩ := st
    obtain ⟨xs, x, hq, hx⟩ := hg
    obtain ⟨its, rv, p, hz⟩ := I.tuple hq
    obtain ⟨u, hu, ru⟩ := rv.get hx
    have hel : e < s.heap.objs.size := Heap.lt_size he
    have hil : it < s.heap.objs.size := by obtain ⟨_, q, _⟩ := hit; exact Heap.lt_size q
    have hsz' : i < its.toArray.size := by
      have := List.getElem?_eq_some_iff.mp hu
      obtain ⟨h1, _⟩ := this
      simpa using h1
    have D := draws2 true (prog := X.prog) (w := X.w) (A := X.A.in1) (I.ok.hd hc) it a hai its.toArray
    have hef : e ∉ [it, a] := by simp [hne, Ne.symm hae]
    have hst : hIter true s.heap it a i ∧ hSeq true s.heap a its.toArray := ⟨hit, p⟩
    refine wpAny_pyNext_enum_itemD D he hst hsz' hne hef fun x' h' tk' hx' ho hit' hT hsz hk => ?_
    obtain rfl : x' = u := by
      have h1 : its[i]? = some x' := by simpa using hx'
      rw [hu] at h1
      exact (Option.some.inj h1).symm
    refine ⟨_, rfl, wpAny_letOwnedTupleGo_enum (s := { s with heap := h', toks := tk' + 1 }) ho fun h'' he' sb => ?_⟩
    have hT2 : h''.get? s.heap.objs.size = some { cls := .type "tuple", data := .seq #[.int i tk', x'] } := (sb.2 _ (Nat.ne_of_gt hel)).trans hT
    have new : ObjOk X.prog X.w (upd H s.heap.objs.size (.tup [.int (i : Nat), x])) h'' s.heap.objs.size (.tup [.int (i : Nat), x]) :=
      ⟨by show 2 ≤ sizeLine; decide, [.int i tk', x'], .cons ⟨_, rfl⟩ (.cons ru .nil), ⟨_, hT2, rfl, _, rfl⟩⟩
    have I1 : Inv X pins σ (upd H s.heap.objs.size (.tup [.int (i : Nat), x])) { s with heap := h'', toks := tk' + 1 } :=
      I.turnedNew (ch := [e, it]) (fun b ob hb q => (sb.2 b (fun z => hb (by simp [z]))).trans (hk b ob (fun z => hb (by simp [z])) (fun z => hb (by simp [z])) q)) hf (Nat.le_refl _) new
    have hit2 : h'.IsTupleIter it a (i + 1) := hit'.1
    refine ⟨.ref s.heap.objs.size, _, I1, rfl, ⟨_, x, rfl, I.hok.fresh (Nat.le_refl _), rfl, fun ys hy => by rw [I.tuple_inj hy hq]; exact hx⟩, ⟨⟨x', ?_⟩, hit2.at fun o q => (sb.2 it (Ne.symm hne)).trans q, hne⟩, fun b hb => ?_⟩
    · have e1 : ((i + 1 : Nat) : Int) = (i : Int) + 1 := by omega
      rw [e1]; exact he'
    · have hb' : b < s.heap.objs.size := by
        have e' : b = e ∨ b = it := by simpa using hb
        rcases e' with z | z
        · rw [z]; exact hel
        · rw [z]; exact hil
      rw [upd_ne (Nat.ne_of_lt hb')]
      exact (hf b hb).1
  done := by
    intro X hP hw hK hc i pins s σ H E I hf st hg
    subst hP hw hK
    obtain ⟨⟨old, he⟩, hit, hne⟩ := st
    obtain ⟨xs, hq, hx⟩ := hg
    obtain ⟨its, rv, p, hz⟩ := I.tuple hq
    obtain ⟨f0, f1, f2, f3, f4, f5⟩ := hf it (by simp)
    have hl := rv.length
    have e0 : i = its.toArray.size := by
      rw [List.size_toArray]
      omega
    subst e0
    have D := draws2 true (prog := X.prog) (w := X.w) (A := X.A.in1) (I.ok.hd hc) it a hai its.toArray
    have hst : hIter true s.heap it a its.toArray.size ∧ hSeq true s.heap a its.toArray := ⟨hit, p⟩
    exact wpAny_pyNext_enum_endD D he hst fun h' eb => ⟨rfl, I.turned (t' := s.toks) (fun b o hb q => eb b o hb q) f0 f1 f3 f4 f5⟩
  self := fun A i s Q E st h => let ⟨⟨_, he⟩, _⟩ := st; wpAny_pyIter_enum he h
def iEnumT (K : PySem.W.Frag) (ta : TA) : TI := fun σ H R => ta σ H fun vs H1 => ∃ a xs, vs = [.ref a] ∧ SqT K H1 a xs ∧ R (ItE K a) H1
theorem pi_enumT {X : Cx} {e : Expr} {ta : TA} {p pos tpos : Pos} {elts : List Expr} {kk : Nat} (hg : Gl X "enumerate") (hm : X.mg "enumerate" = none) (ha : PA X [e] ta) (hs : starEach [e] X.env = [(false, eval e X.env)] := by rfl) :
    PI X (.Tuple elts kk tpos) (.Call (.Name "enumerate" p) [e] [] pos) (iEnumT X.K ta) := by
  refine ⟨fun pins s σ H R I h => ?_⟩
  refine Call_ (ld_blt I hg hm boot_enumerate (PyProof.Rows.callWith_type1 (thn (ha.run pos pins s σ H _ I h) fun us s1 ⟨vs, H1, I1, r1, q1⟩ => ?_) hs rfl))
  obtain ⟨a, xs, ex, hq, q⟩ := q1
  subst ex
  cases r1 with
  | cons r rr =>
    cases rr
    cases r
    obtain ⟨its, rv, p', hz⟩ := I1.tuple hq
    have hal : a < s1.heap.objs.size := by
      obtain ⟨o, ho, _⟩ := id p'
      exact Heap.lt_size ho
    refine enumCallT p' fun h' he hit hsz hk => wpAny_pyIter_enum he ?_
    have I2 : Inv X pins σ H1 { s1 with heap := h' } := I1.kept (t' := s1.toks) hk
    refine ⟨s1.heap.objs.size + 1, [s1.heap.objs.size + 1, s1.heap.objs.size], _, _, H1, rfl, I2, turnE a (s1.heap.objs.size + 1) s1.heap.objs.size (Nat.ne_of_lt hal) (Nat.ne_of_lt (Nat.lt_succ_of_lt hal)), ⟨⟨.none, he⟩, hit, Nat.succ_ne_self _⟩, fun b hb => ?_, q⟩
    have e' : b = s1.heap.objs.size + 1 ∨ b = s1.heap.objs.size := by simpa using hb
    have hle : s1.heap.objs.size ≤ b := by
      rcases e' with z | z
      · rw [z]; exact Nat.le_add_right _ _
      · rw [z]; exact Nat.le_refl _
    exact I1.fpOk hle (I1.hok.fresh hle)
theorem kEnumT {X : Cx} {K : PySem.W.Frag} {e : Expr} {ta : TA} {p pos tpos : Pos} {elts : List Expr} {kk : Nat} (hg : Gl X "enumerate") (hm : X.mg "enumerate" = none) (ha : PA X [e] ta) (hs : starEach [e] X.env = [(false, eval e X.env)] := by rfl) (h : X.K = K := by rfl) :
    PI X (.Tuple elts kk tpos) (.Call (.Name "enumerate" p) [e] [] pos) (iEnumT K ta) := by
  cases h
  exact pi_enumT hg hm ha hs
theorem st_iET {K : PySem.W.Frag} {ta : TA} {σ : L2.St} {H : Hp} {R : It → Hp → Prop} (q : ta σ H fun vs H1 => ∃ a xs, vs = [.ref a] ∧ SqT K H1 a xs ∧ R (ItE K a) H1) : iEnumT K ta σ H R := q
theorem walk_enumT {K : PySem.W.Frag} {a : Addr} {xs : List V} : Walk (ItE K a) xs.length (fun H => SqT K H a xs) (YPair (fun i => some (.int (i : Nat))) (fun i => xs[i]?)) := by
  refine ⟨fun i _ hi q => ⟨xs, xs[i], q, by simp [hi]⟩, fun _ q => ⟨xs, q, rfl⟩, fun i H v H' _ q y => ?_⟩
  obtain ⟨T, x, h1, h2, h3, h4⟩ := y
  exact ⟨T, .int (i : Nat), x, h1, h2, h3, rfl, h4 xs q⟩
end Hq

/-! P18: written things, laid tuple by tuple -/
namespace Hq
open PySem PySem.Spec PyProof.Rows L2
def Lv (H : Hp) (L : List (V × PyData)) : Prop := ∀ p ∈ L, TD H p.1 p.2
section
variable {H H' : Hp} {L M : List (V × PyData)} {p : Addr} {v : V} {d : PyData} {xs : List V} {ds : List PyData} {ms : List Addr}
theorem Lv.nil : Lv H [] := fun _ h => nomatch h
theorem Lv.at (h : Lv H L) (m : (v, d) ∈ L) : TD H v d := h _ m
theorem Lv.tp (h : Lv H L) (t : Tp H H') : Lv H' L := fun q hq => TD.mono t _ _ (h q hq)
theorem Lv.fr (h : Lv H L) (f : Fr ms H H') : Lv H' L := h.tp f.tup
theorem Lv.new (h : Lv H L) {o : HO} (hp : H p = none) : Lv (upd H p o) L := h.fr (Fr.up (ms := []) hp)
theorem Lv.put (h : Lv H L) (hp : H p = none) (t : TDs H xs ds) : Lv (upd H p (.tup xs)) ((.ref p, .tuple ds) :: L) := fun q hq => by
  rcases List.mem_cons.mp hq with rfl | hq
  · exact .tup upd_same (TDs.mono (Fr.up (ms := []) hp).tup _ _ t)
  · exact h.new hp q hq
theorem Lv.cons (h : Lv H L) (t : TD H v d) : Lv H ((v, d) :: L) := fun q hq => by
  rcases List.mem_cons.mp hq with rfl | hq
  · exact t
  · exact h q hq
theorem Lv.sub (h : Lv H L) (s : ∀ q ∈ M, q ∈ L) : Lv H M := fun q hq => h q (s q hq)
end
end Hq

/-! P19: lambdas' tables through frames, a def whose own code is told, a def that is handed a lambda -/
namespace Hq
open PySem PySem.Spec PyProof.Rows L2 LamX
theorem extN_tp {H H' : Hp} (e : ExtN H H') : Tp H H' := fun a xs h => e a _ h (fun ps z => nomatch z)
theorem extN_fr {H H' : Hp} (f : Fr [] H H') : ExtN H H' := ExtN.of f.same
theorem extN_keep {H H' : Hp} (e : ExtN H H') {a : Addr} {o : HO} (h : H a = some o) (n : ∀ ps, o ≠ .tbl ps := by intro _ z; cases z) : H' a = some o := e a o h n
/-- a list, an instance or a dict -/
def Soft (o : HO) : Prop := (∃ xs, o = .lst xs) ∨ (∃ C dx fs, o = .ins C dx fs) ∨ (∃ ks, o = .dK ks) ∨ ∃ ks, o = .dT ks
theorem tabs_fr {Tb : List (Addr × Str)} {H H' : Hp} {ms : List Addr} (t : Tabs Tb H) (f : Fr ms H H') (hm : ∀ x ∈ ms, ∃ o, H x = some o ∧ Soft o) : Tabs Tb H' := by
  intro pr hpr
  obtain ⟨ps, h1, h2, h3⟩ := t pr hpr
  refine ⟨ps, f.keep _ _ (fun hx => ?_) h1, h2, fun pos cv hc => ?_⟩
  · obtain ⟨o, ho, n1⟩ := hm _ hx
    rw [h1] at ho
    cases ho
    rcases n1 with ⟨_, z⟩ | ⟨_, _, _, z⟩ | ⟨_, z⟩ | ⟨_, z⟩ <;> exact nomatch z
  · obtain ⟨c, e1, e2⟩ := h3 pos cv hc
    refine ⟨c, e1, f.keep _ _ (fun hx => ?_) e2⟩
    obtain ⟨o, ho, n1⟩ := hm _ hx
    rw [e2] at ho
    cases ho
    rcases n1 with ⟨_, z⟩ | ⟨_, _, _, z⟩ | ⟨_, z⟩ | ⟨_, z⟩ <;> exact nomatch z
theorem takes_len {X : Cx} {W : WX} (t : Takes X W) : Takes X (fun c d σ H => σ.length = X.N.length → W c d σ H) := fun u s' ⟨a, B, sI, pins, σ, H, cls, d, e, I, nb, up, sky, na, os, ag, w⟩ =>
  t u s' ⟨a, B, sI, pins, σ, H, cls, d, e, I, nb, up, sky, na, os, ag, w I.len⟩
theorem len3 {α : Type} {σ : List α} (h : σ.length = 3) : ∃ x y z, σ = [x, y, z] := by
  match σ, h with
  | [x, y, z], _ => exact ⟨x, y, z, rfl⟩
/-- a def whose own code is told -/
theorem okL {P : Program} {w : World} {K : PySem.W.Frag} {mg : Str → Option Value} {base : Heap} {x qual : Str} {st : Stmt} {f : Addr} {N ps : List Str} {k : Nat} {sp : Sp} {oc : Value} {od : Option Addr} {kV doc pm : Value} {an : Option Addr} {cdv ct : Value} {osl : Array (Option Value)}
    (lk : K.lookup f = some ⟨oc, od, .func (PySem.W.fnOf x qual (defArgs st) (defBody st) (defScope st) .none kV doc pm an cdv ct), osl⟩) (hcd : PySem.W.codeIn K cdv qual = true) (S : FnScope N ps (defScope st)) (len : ∀ vs H Q E, sp vs H Q E → vs.length = ps.length)
    (hb : ∀ (A : Around) (outer : List Env) (s : Shared) (H : Hp) (vs : List V) (Q : VK) (E : XK), Room k (A.deeper (envOfC qual (defScope st) s.heap.objs.size f cdv)) → sp vs H Q E →
      ∃ t σ, L2.start N vs = σ ∧ PSs (cxOf (L2.CX P w) P w K mg base N qual (defScope st) f cdv A outer s H E).nox (defBody st) t ∧ t { nx := fun _ H' => Q .non H', rt := Q } σ H) :
    FnOk P w K mg base (L2.CX P w) (k + 1) f (PySem.W.fnOf x qual (defArgs st) (defBody st) (defScope st) .none kV doc pm an cdv ct) ps sp :=
  fn_of lk hcd S len fun A outer s H vs Q E hr hs => by
    obtain ⟨t, σ, e, h, q⟩ := hb A outer s H vs Q E hr hs
    cases e
    exact ⟨t, h.nox, q⟩
end Hq

namespace K03
open PySem PySem.Spec PyProof.Rows L2 Hq
local macro_rules | `(tactic| walk_at "st1") => `(tactic| first
  | with_reducible refine st_seq ?_ | with_reducible refine st_ret ?_ | with_reducible refine st_ifS ?_ | with_reducible refine st_asg ?_ | with_reducible refine st_drop ?_
  | ((with_reducible refine' st_var ?hv ?_); (case hv => rfl)) | with_reducible refine st_c ?_ | with_reducible refine st_op ?_ | with_reducible refine st_un ?_
  | with_reducible refine st_I0 ?_ | with_reducible refine st_U ?_ | ((with_reducible refine' st_I ?hc ?_); (case hc => walk_at "side"))
  | ((with_reducible refine' st_eq ?hs ?_); (case hs => rfl)) | ((with_reducible refine' st_ne ?hs ?_); (case hs => rfl))
  | with_reducible refine st_test ?_ | with_reducible refine st_B ?_ | with_reducible refine st_bl ?_ | with_reducible refine st_isN ?_ | with_reducible refine st_notN ?_
  | with_reducible refine st_chain ?_ | with_reducible refine st_and ?_ | with_reducible refine st_or ?_ | with_reducible refine st_not ?_
  | with_reducible refine st_andV ?_ | with_reducible refine st_orV ?_ | with_reducible refine st_notV ?_ | with_reducible refine st_if ?_
  | with_reducible refine st_CB ?_ | with_reducible refine st_cons ?_ | with_reducible refine st_nil ?_ | with_reducible refine st_fld ?_
  | ((with_reducible refine st_tup ?_)) | ((with_reducible refine st_lst ?_))
  | with_reducible refine st_call ?_ | with_reducible refine st_meth ?_ | with_reducible refine st_make ?_
  | with_reducible refine st_sl ?_ | with_reducible refine st_noPart ?_ | with_reducible refine st_part ?_ | with_reducible refine st_int ?_
  | ((with_reducible refine' st_ixL ?hq ?he ?_); (case hq => walk_at "sqL"); (case he => walk_at "at"))
  | ((with_reducible refine' st_ixT ?hq ?he ?_); (case hq => walk_at "sqT"); (case he => walk_at "at"))
  | with_reducible refine st_bm ?_ | with_reducible refine st_app ?_
  | ((with_reducible refine' st_append ?hq ?hl ?_); (case hq => walk_at "hp"); (case hl => walk_at "line"))
  | ((with_reducible refine' st_len (n := 0) ?hq ?_); (case hq => first | exact Or.inl (by walk_at "sqL") | exact Or.inr (by walk_at "sqT")))
  | ((with_reducible refine' st_listOf ?hq ?_); (case hq => first | exact Or.inl (by walk_at "sqL") | exact Or.inr (by walk_at "sqT")))
  | ((with_reducible refine st_name ?_); (try dsimp only [List.set_cons_zero, List.set_cons_succ])) | with_reducible refine st_par ?_
  | with_reducible refine st_gcons ?_ | with_reducible refine st_gnil ?_ | with_reducible refine st_gsub ?_ | with_reducible refine st_sFld ?_
  | ((with_reducible refine' st_gtup ?hq ?hl ?_); (case hq => walk_at "sqT"); (case hl => rfl))
  | ((with_reducible refine' st_setL ?hq ?hl ?_); (case hq => walk_at "hp"); (case hl => first | rfl | exact ix0 | exact ixN_nat (by assumption)); (try simp only [Int.reduceToNat, List.set_cons_zero, List.set_cons_succ]))
  | with_reducible refine st_intI ?_ | with_reducible refine st_abs ?_
  | ((with_reducible refine' st_popAt ?hq ?hk ?hy ?_); (case hq => walk_at "hp"); (case hk => exact seq0); (case hy => rfl))
  | ((with_reducible refine' and_left ?ht ?_); (case ht => walk_at "ty"))
  | with_reducible refine st_lc ?_ | with_reducible refine st_for ?_ | with_reducible refine st_iL ?_ | with_reducible refine st_iT ?_ | with_reducible refine st_iR1 ?_ | with_reducible refine st_iR2 ?_ | with_reducible refine st_iZ ?_
  | ((with_reducible refine' st_refL ?hq ?_); (case hq => walk_at "sqL")) | ((with_reducible refine' st_refT ?hq ?_); (case hq => walk_at "sqT"))
  | ((with_reducible refine' st_rng1 ?hq ?_); (case hq => walk_at "side")) | ((with_reducible refine' st_rng2 ?hq ?_); (case hq => walk_at "side"))
  | ((with_reducible refine' st_zip ?hq ?hr ?_); (case hq => walk_at "sqb"); (case hr => walk_at "sqb"))
  | ((with_reducible refine' st_size ?hw ?_); (case hw => walk_at "line"))
  | ((with_reducible refine' st_sum ?hq ?_); (case hq => walk_at "sqL"))
  | with_reducible refine st_two ?_ | with_reducible refine st_yes ?_ | ((with_reducible refine' st_wipe ?hw ?_); (case hw => rfl))
  | ((with_reducible refine' st_slL ?hq ?_); (case hq => walk_at "sqL"))
  | ((with_reducible refine' st_cat ?hq ?hr ?hl ?_); (case hq => walk_at "hp"); (case hr => walk_at "hp"); (case hl => walk_at "line"))
  | ((with_reducible refine' st_isi ?hk ?he ?_); (case hk => walk_at "kd"); (case he => walk_at "kit"))
  | ((with_reducible refine' st_ins ?hq ?hc ?hn ?hl ?_); (case hq => walk_at "hp"); (case hc => with_reducible assumption); (case hn => with_reducible assumption); (case hl => walk_at "flen"); walk_at "puts")
  | ((with_reducible refine' st_att ?hq ?hc ?hn ?hl ?_); (case hq => walk_at "hp"); (case hc => with_reducible assumption); (case hn => with_reducible assumption); (case hl => walk_at "lk"))
  | ((with_reducible refine' st_mt ?hq ?hl ?_); (case hq => walk_at "hp"); (case hl => walk_at "lk"))
  | ((with_reducible refine' st_extend ?hq ?hr ?hl ?_); (case hq => walk_at "hp"); (case hr => walk_at "hp"); (case hl => walk_at "line"))
  | with_reducible refine st_next ?_ | with_reducible refine st_retN ?_ | (with_reducible refine iteNT ?_) | (with_reducible refine iteNF ?_) | (with_reducible refine iteT ?_) | (with_reducible refine iteF ?_))
local macro_rules | `(tactic| walk_at "side") => `(tactic| first | omega | decide | assumption | exact ⟨by omega, by omega⟩ | exact Or.inr ⟨by omega, by omega⟩ | exact Or.inl ⟨by omega, by omega⟩ | (simp only [List.length_map, List.length_cons, List.length_nil, List.length_append] at *; omega))
local macro_rules | `(tactic| walk_at "hp") => `(tactic| first | assumption | exact upd_same | ((with_reducible refine' upd_old ?ho ?hb); (case ho => assumption); (case hb => walk_at "hp")) | (rw [upd_ne (by first | assumption | exact Ne.symm (by assumption))]; walk_at "hp"))
local macro_rules | `(tactic| walk_at "sqL") => `(tactic| first | assumption | exact SqL.of (by walk_at "hp"))
local macro_rules | `(tactic| walk_at "sqT") => `(tactic| first | assumption | exact SqT.of (by walk_at "hp"))
local macro_rules | `(tactic| walk_at "sqb") => `(tactic| (unfold SqB; first | ((with_reducible change SqL _ _ _ _); walk_at "sqL") | ((with_reducible change SqT _ _ _ _); walk_at "sqT")))
local macro_rules | `(tactic| walk_at "line") => `(tactic| first | assumption | decide | (apply line_of; walk_at "side") | (apply line_lt; walk_at "side"))
local macro_rules | `(tactic| walk_at "ty") => `(tactic| ((with_reducible refine' ty_lst ?hq); (case hq => walk_at "hp")))
local macro_rules | `(tactic| walk_at "at") => `(tactic| with_reducible first | assumption | exact at0 | exact at1 | exact at2 | exact at3 | exact at4 | exact at5 | exact at6 | exact at7 | exact at8)
local macro_rules | `(tactic| walk_at "st") => `(tactic| (repeat walk_at "st1"))
local macro_rules | `(tactic| walk_at "lk") => `(tactic| first | with_reducible assumption | rfl)
local macro_rules | `(tactic| walk_at "kd") => `(tactic| first | exact .base (.int _) | exact .base .non | exact .base (.bl _) | exact .base (.str _) | exact .base (.tup (by walk_at "hp")) | exact .base (.lst (by walk_at "hp")) | exact .base (.dK (by walk_at "hp")) | exact .base (.dT (by walk_at "hp")))
local macro_rules | `(tactic| walk_at "kit") => `(tactic| with_reducible first
  | exact kit_NoneType_bool
  | exact kit_NoneType_int
  | exact kit_NoneType_str
  | exact kit_NoneType_tuple
  | exact kit_NoneType_list
  | exact kit_NoneType_dict
  | exact kit_bool_bool
  | exact kit_bool_int
  | exact kit_bool_str
  | exact kit_bool_tuple
  | exact kit_bool_list
  | exact kit_bool_dict
  | exact kit_int_bool
  | exact kit_int_int
  | exact kit_int_str
  | exact kit_int_tuple
  | exact kit_int_list
  | exact kit_int_dict
  | exact kit_str_bool
  | exact kit_str_int
  | exact kit_str_str
  | exact kit_str_tuple
  | exact kit_str_list
  | exact kit_str_dict
  | exact kit_tuple_bool
  | exact kit_tuple_int
  | exact kit_tuple_str
  | exact kit_tuple_tuple
  | exact kit_tuple_list
  | exact kit_tuple_dict
  | exact kit_list_bool
  | exact kit_list_int
  | exact kit_list_str
  | exact kit_list_tuple
  | exact kit_list_list
  | exact kit_list_dict
  | exact kit_dict_bool
  | exact kit_dict_int
  | exact kit_dict_str
  | exact kit_dict_tuple
  | exact kit_dict_list
  | exact kit_dict_dict)
local macro_rules | `(tactic| walk_at "flen") => `(tactic| decide)
local macro_rules | `(tactic| walk_at "puts") => `(tactic| skip)

def top (i : Nat) : Stmt := PySem.Challenge.pw_oneplainrun_k03_names_of_functions.main.body.getD i (.Pass ⟨0, 0, 0, 0⟩)
/-- where the classes stand, and the tuple and the dict of the module -/
structure Ads where
  RunError : Addr
  NoFunction : Addr
  BadText : Addr
  Text : Addr
  Flow : Addr
  OPS : Addr
  SIZES : Addr
def LETT : Str := "abcdefghijklmnopqrstuvwxyz"
def opsL : List Str := ["add", "sub", "mul", "less", "same"]
structure Txt (K : PySem.W.Frag) (mg : Str → Option Value) (Z : Ads) : Prop where
  g_LETTERS : GlV mg "LETTERS" (.str LETT)
  g_LONGEST : GlV mg "LONGEST" (.int 8)
  g_MOST_WHOLE : GlV mg "MOST_WHOLE" (.int ((10 : Int) ^ 18))
  g_MOST_DEEP : GlV mg "MOST_DEEP" (.int 4)
  g_MOST_FIELDS : GlV mg "MOST_FIELDS" (.int 4)
  g_MOST_PARAMS : GlV mg "MOST_PARAMS" (.int 4)
  g_MOST_STATEMENTS : GlV mg "MOST_STATEMENTS" (.int 40)
  g_MOST_IFS : GlV mg "MOST_IFS" (.int 8)
  g_MOST_BLOCKS : GlV mg "MOST_BLOCKS" (.int 5)
  g_MOST_NAMES : GlV mg "MOST_NAMES" (.int 12)
  g_MOST_TABLES : GlV mg "MOST_TABLES" (.int 4)
  g_MOST_FUNCTIONS : GlV mg "MOST_FUNCTIONS" (.int 8)
  g_OFF : GlV mg "OFF" (.int (-1))
  g_OPS : GlV mg "OPS" (.ref Z.OPS)
  opsT : ∃ (o : Obj) (its : Array Value) (n : Nat), K.lookup Z.OPS = some o ∧ o.cls = .type "tuple" ∧ o.data = .seq its n ∧ its.size ≤ sizeLine ∧ Vals (opsL.map V.str) its.toList
  g_SIZES : GlV mg "SIZES" (.ref Z.SIZES)
  g_RunError : GlV mg "RunError" (.ref Z.RunError)
  g_NoFunction : GlV mg "NoFunction" (.ref Z.NoFunction)
  n_len : mg "len" = none
  n_int : mg "int" = none
  n_bool : mg "bool" = none
  n_str : mg "str" = none
  n_tuple : mg "tuple" = none
  n_list : mg "list" = none
  n_isinstance : mg "isinstance" = none
  n_all : mg "all" = none
  n_abs : mg "abs" = none
  n_sum : mg "sum" = none
  n_range : mg "range" = none
  n_zip : mg "zip" = none
  n_set : mg "set" = none
  n_sorted : mg "sorted" = none
  n_enumerate : mg "enumerate" = none
  n_ValueError : mg "ValueError" = none
section
variable {Z : Ads} {P : Program} {w : World} {K : PySem.W.Frag} {mg : Str → Option Value} {base : Heap}
/-! ### the hand of draws -/
structure Hand (H : Hp) (h c : Addr) : Prop where
  ok : ∃ (i b s n : Int) (cs : List Int), H h = some (.lst [.ref c, .int i, .int b, .int s, .int n]) ∧ H c = some (.lst (cs.map V.int)) ∧ 0 ≤ i ∧ 0 ≤ b
  ne : h ≠ c
theorem Hand.keep {H H' : Hp} {h c : Addr} {ms : List Addr} (a : Hand H h c) (f : Fr ms H H') (h1 : h ∉ ms := by simp) (h2 : c ∉ ms := by simp) : Hand H' h c := by
  obtain ⟨⟨i, b, s, n, cs, e1, e2, e3⟩, ne⟩ := a
  exact ⟨⟨i, b, s, n, cs, f.keep _ _ h1 e1, f.keep _ _ h2 e2, e3⟩, ne⟩
theorem Hand.out {H : Hp} {h c D : Addr} (a : Hand H h c) (hn : H D = none) : D ≠ h ∧ D ≠ c := by
  obtain ⟨⟨i, b, s, n, cs, e1, e2, _⟩, _⟩ := a
  exact ⟨(ne_of_none e1 hn).symm, (ne_of_none e2 hn).symm⟩
theorem Hand.wr {H : Hp} {h c D : Addr} {o : HO} {xs : List V} (a : Hand H h c) (hD : H D = some (.lst xs)) (n : D ≠ h ∧ D ≠ c) : Hand (upd H D o) h c :=
  a.keep (ms := [D]) ((Fr.refl H).wl hD (.inl (by simp))) (by simpa using n.1.symm) (by simpa using n.2.symm)
def spDraw : Sp := fun vs H Q _ => ∃ (h c : Addr) (span : Int), vs = [.ref h, .int span] ∧ Hand H h c ∧ 0 < span ∧ span < 2 ^ 67 ∧ ∀ H' n, 0 ≤ n → n < span → Hand H' h c → Fr [h] H H' → Q (.int n) H'
abbrev s_law_draw : Stmt := top 47
theorem sc_law_draw : FnScope ["hand", "span", "cell", "digit", "number"] ["hand", "span"] (defScope s_law_draw) := ⟨rfl, rfl, rfl, by decide +kernel, rfl, by decide +kernel, by decide +kernel⟩
theorem ok_law_draw {f : Addr} {fd : FuncData} (F : Fun K "_law_draw" "_law_draw" s_law_draw f fd) (T : Txt K mg Z) : FnOk P w K mg base (L2.CX P w) 1 f fd ["hand", "span"] spDraw := by
  refine okN F sc_law_draw (fun vs H Q E h => ?_) (fun cdv A outer s0 H vs Q E hr h => ?_)
  · obtain ⟨h, c, span, rfl, _⟩ := h
    rfl
  · obtain ⟨h, c, span, rfl, ⟨⟨i, b, s, n, cs, e1, e2, i0, b0⟩, ne⟩, m0, m1, k⟩ := h
    have hm : ∀ n : Int, 0 ≤ n % span ∧ n % span < span := fun n => ⟨Int.emod_nonneg _ (by omega), Int.emod_lt_of_pos _ m0⟩
    refine ⟨_, [some _, some _, none, none, none], rfl, (C8.pss_cut (ps_if (PW.pt (pw_and (pt_cmpR op_eq (pe_ix (kIxL (K := K)) (pv 0) pe_int (fun _ _ => rfl)) pe_int (by first | exact nomark _ | rfl)) (pw_and1 (pt_cmpR op_lt (pe_ix (kIxL (K := K)) (pv 0) pe_int (fun _ _ => rfl)) (pe_callB (kLen (K := K)) (by rfl) T.n_len (by decide +kernel) (pa_cons (pe_ix (kIxL (K := K)) (pv 0) pe_int (fun _ _ => rfl)) pa_nil)) (by first | exact nomark _ | rfl))))) (pss_cons (ps_set (i := 2) sc_law_draw.nd rfl (by first | exact Or.inl rfl | exact Or.inr rfl) (pe_ix (kIxL (K := K)) (pe_ix (kIxL (K := K)) (pv 0) pe_int (fun _ _ => rfl)) (pe_ix (kIxL (K := K)) (pv 0) pe_int (fun _ _ => rfl)) (fun _ _ => rfl)))
      (pss_cons (ps_asg (pe_op op_add (pe_ix (kIxL (K := K)) (pv 0) pe_int (fun _ _ => rfl)) pe_int) (pg_sub (pv 0) pe_int set_list))
      (pss_cons (ps_asg (pe_op op_mod (pe_callTy kInt (by rfl) T.n_int (by decide +kernel) (pa_cons (pe_op op_add (pe_op op_add (pe_op op_mul (pe_ix (kIxL (K := K)) (pv 0) pe_int (fun _ _ => rfl)) pe_int) (pv 2)) pe_int) pa_nil)) pe_int) (pg_sub (pv 0) pe_int set_list))
      (pss_one (ps_if (pt_cmpR op_ge (pv 2) (pe_op op_pow pe_int pe_int) (by first | exact nomark _ | rfl)) (pss_one (ps_asg (pv 2) (pg_sub (pv 0) pe_int set_list))) pss_nil))))) pss_nil)
      (pss_cons (ps_if (pt_cmpR op_gt (pe_ix (kIxL (K := K)) (pv 0) pe_int (fun _ _ => rfl)) pe_int (by first | exact nomark _ | rfl)) (pss_cons (ps_set (i := 3) sc_law_draw.nd rfl (by first | exact Or.inl rfl | exact Or.inr rfl) (pe_op op_mod (pe_callTy kInt (by rfl) T.n_int (by decide +kernel) (pa_cons (pe_ix (kIxL (K := K)) (pv 0) pe_int (fun _ _ => rfl)) pa_nil)) (pv 1)))
      (pss_cons (ps_asg (pe_op op_fdivW (pe_ix (kIxL (K := K)) (pv 0) pe_int (fun _ _ => rfl)) (pv 1)) (pg_sub (pv 0) pe_int set_list))
      (pss_one (ps_ret (pv 3))))) pss_nil)
      (pss_cons (ps_asg (pe_op op_add (pe_ix (kIxL (K := K)) (pv 0) pe_int (fun _ _ => rfl)) pe_int) (pg_sub (pv 0) pe_int set_list))
      (pss_cons (ps_set (i := 4) sc_law_draw.nd rfl (by first | exact Or.inl rfl | exact Or.inr rfl) (pe_op op_mod (pe_callTy kInt (by rfl) T.n_int (by decide +kernel) (pa_cons (pe_op op_mul (pe_callTy kInt (by rfl) T.n_int (by decide +kernel) (pa_cons (pe_op op_add (pe_ix (kIxL (K := K)) (pv 0) pe_int (fun _ _ => rfl)) (pe_op op_mul pe_int (pe_ix (kIxL (K := K)) (pv 0) pe_int (fun _ _ => rfl)))) pa_nil)) pe_int) pa_nil)) pe_int))
      (pss_cons (ps_set (i := 4) sc_law_draw.nd rfl (by first | exact Or.inl rfl | exact Or.inr rfl) (pe_op op_mod (pe_callTy kInt (by rfl) T.n_int (by decide +kernel) (pa_cons (pe_op op_mul (pv 4) (pe_op op_add (pe_op op_fdiv (pv 4) pe_int) pe_int)) pa_nil)) pe_int))
      (pss_cons (ps_set (i := 4) sc_law_draw.nd rfl (by first | exact Or.inl rfl | exact Or.inr rfl) (pe_op op_mod (pe_callTy kInt (by rfl) T.n_int (by decide +kernel) (pa_cons (pe_op op_mul (pv 4) (pe_op op_add (pe_op op_fdiv (pv 4) pe_int) pe_int)) pa_nil)) pe_int))
      (pss_one (ps_ret (pe_op op_mod (pe_callTy kInt (by rfl) T.n_int (by decide +kernel) (pa_cons (pe_op op_fdiv (pv 4) pe_int) pa_nil)) (pv 1)))))))))), ?_⟩
    refine ⟨fun σ H' => ∃ o3 o4 o5 i b s, σ = [some (.ref h), some (.int span), o3, o4, o5] ∧ H' h = some (.lst [.ref c, .int i, .int b, .int s, .int n]) ∧ H' c = some (.lst (cs.map V.int)) ∧ 0 ≤ i ∧ 0 ≤ b ∧ Fr [h] H H', ?_, ?_⟩
    · walk_at "st"
      refine iteD (fun hb => ?_) (fun hb => ?_)
      · walk_at "st"
        refine iteD (fun hi => ?_) (fun hi => ?_)
        · obtain ⟨j, rfl⟩ : ∃ j : Nat, i = (j : Int) := ⟨i.toNat, by omega⟩
          rw [List.length_map] at hi
          have hj : j < cs.length := by omega
          have hat : atI (cs.map V.int) (j : Int) = some (.int cs[j]) := atI_nat (by rw [List.getElem?_map, List.getElem?_eq_getElem hj]; rfl)
          generalize cs[j] = v at hat
          walk_at "st"
          refine iteD (fun hv => ?_) (fun hv => ?_)
          · walk_at "st"
            refine ⟨_, none, none, (j : Int) + 1, v, _, rfl, upd_same, ?_, by omega, ?_, ?_⟩
            · walk_at "hp"
            · have : (0 : Int) ≤ (10 : Int) ^ (18 : Int).toNat := by decide
              omega
            · exact (((Fr.refl H).wl e1 (.inl (by simp))).wl (p := h) upd_same (.inl (by simp))).wl (p := h) upd_same (.inl (by simp))
          · walk_at "st"
            refine ⟨_, none, none, (j : Int) + 1, b, _, rfl, upd_same, ?_, by omega, b0, ?_⟩
            · walk_at "hp"
            · exact ((Fr.refl H).wl e1 (.inl (by simp))).wl (p := h) upd_same (.inl (by simp))
        · walk_at "st"
          exact ⟨none, none, none, i, b, s, rfl, e1, e2, i0, b0, Fr.refl H⟩
      · walk_at "st"
        exact ⟨none, none, none, i, b, s, rfl, e1, e2, i0, b0, Fr.refl H⟩
    · rintro σ H' ⟨o3, o4, o5, i, b, s, rfl, e1, e2, i0, b0, f⟩
      have hw : CDivW b span := wide_div (b := 67) m0 (by have : (2 : Nat) ^ 67 = ((2 : Int) ^ 67).toNat := by decide
                                                          omega) (by decide) (by decide)
      clear m1
      walk_at "st"
      refine iteD (fun hb => ?_) (fun hb => ?_)
      · walk_at "st"
        refine k _ _ (hm _).1 (hm _).2 ⟨⟨i, _, s, n, cs, upd_same, ?_, i0, ?_⟩, ne⟩ (f.wl e1 (.inl (by simp)))
        · walk_at "hp"
        · exact Int.ediv_nonneg b0 (by omega)
      · walk_at "st"
        refine k _ _ (hm _).1 (hm _).2 ⟨⟨i, b, s, _, cs, upd_same, ?_, i0, b0⟩, ne⟩ (f.wl e1 (.inl (by simp)))
        walk_at "hp"
end

end K03

namespace K03
open PySem PySem.Spec PyProof.Rows L2 Hq
local macro_rules | `(tactic| walk_at "st1") => `(tactic| first
  | with_reducible refine st_seq ?_ | with_reducible refine st_ret ?_ | with_reducible refine st_ifS ?_ | with_reducible refine st_asg ?_ | with_reducible refine st_drop ?_
  | ((with_reducible refine' st_var ?hv ?_); (case hv => rfl)) | with_reducible refine st_c ?_ | with_reducible refine st_op ?_ | with_reducible refine st_un ?_
  | with_reducible refine st_I0 ?_ | with_reducible refine st_U ?_ | ((with_reducible refine' st_I ?hc ?_); (case hc => walk_at "side"))
  | ((with_reducible refine' st_eq ?hs ?_); (case hs => rfl)) | ((with_reducible refine' st_ne ?hs ?_); (case hs => rfl))
  | with_reducible refine st_test ?_ | with_reducible refine st_B ?_ | with_reducible refine st_bl ?_ | with_reducible refine st_isN ?_ | with_reducible refine st_notN ?_
  | with_reducible refine st_chain ?_ | with_reducible refine st_and ?_ | with_reducible refine st_or ?_ | with_reducible refine st_not ?_
  | with_reducible refine st_andV ?_ | with_reducible refine st_orV ?_ | with_reducible refine st_notV ?_ | with_reducible refine st_if ?_
  | with_reducible refine st_CB ?_ | with_reducible refine st_cons ?_ | with_reducible refine st_nil ?_ | with_reducible refine st_fld ?_
  | ((with_reducible refine st_tup ?_)) | ((with_reducible refine st_lst ?_))
  | with_reducible refine st_call ?_ | with_reducible refine st_meth ?_ | with_reducible refine st_make ?_
  | with_reducible refine st_sl ?_ | with_reducible refine st_noPart ?_ | with_reducible refine st_part ?_ | with_reducible refine st_int ?_
  | ((with_reducible refine' st_ixL ?hq ?he ?_); (case hq => walk_at "sqL"); (case he => walk_at "at"))
  | ((with_reducible refine' st_ixT ?hq ?he ?_); (case hq => walk_at "sqT"); (case he => walk_at "at"))
  | with_reducible refine st_bm ?_ | with_reducible refine st_app ?_
  | ((with_reducible refine' st_append ?hq ?hl ?_); (case hq => walk_at "hp"); (case hl => walk_at "line"))
  | ((with_reducible refine' st_len (n := 0) ?hq ?_); (case hq => first | exact Or.inl (by walk_at "sqL") | exact Or.inr (by walk_at "sqT")))
  | ((with_reducible refine' st_listOf ?hq ?_); (case hq => first | exact Or.inl (by walk_at "sqL") | exact Or.inr (by walk_at "sqT")))
  | ((with_reducible refine st_name ?_); (try dsimp only [List.set_cons_zero, List.set_cons_succ])) | with_reducible refine st_par ?_
  | with_reducible refine st_gcons ?_ | with_reducible refine st_gnil ?_ | with_reducible refine st_gsub ?_ | with_reducible refine st_sFld ?_
  | ((with_reducible refine' st_gtup ?hq ?hl ?_); (case hq => walk_at "sqT"); (case hl => rfl))
  | ((with_reducible refine' st_setL ?hq ?hl ?_); (case hq => walk_at "hp"); (case hl => first | rfl | exact ix0 | exact ixN_nat (by assumption)); (try simp only [Int.reduceToNat, List.set_cons_zero, List.set_cons_succ]))
  | with_reducible refine st_intI ?_ | with_reducible refine st_abs ?_
  | ((with_reducible refine' st_popAt ?hq ?hk ?hy ?_); (case hq => walk_at "hp"); (case hk => exact seq0); (case hy => rfl))
  | ((with_reducible refine' and_left ?ht ?_); (case ht => walk_at "ty"))
  | with_reducible refine st_lc ?_ | with_reducible refine st_for ?_ | with_reducible refine st_iL ?_ | with_reducible refine st_iT ?_ | with_reducible refine st_iR1 ?_ | with_reducible refine st_iR2 ?_ | with_reducible refine st_iZ ?_
  | ((with_reducible refine' st_refL ?hq ?_); (case hq => walk_at "sqL")) | ((with_reducible refine' st_refT ?hq ?_); (case hq => walk_at "sqT"))
  | ((with_reducible refine' st_rng1 ?hq ?_); (case hq => walk_at "side")) | ((with_reducible refine' st_rng2 ?hq ?_); (case hq => walk_at "side"))
  | ((with_reducible refine' st_zip ?hq ?hr ?_); (case hq => walk_at "sqb"); (case hr => walk_at "sqb"))
  | ((with_reducible refine' st_size ?hw ?_); (case hw => walk_at "line"))
  | ((with_reducible refine' st_sum ?hq ?_); (case hq => walk_at "sqL"))
  | with_reducible refine st_two ?_ | with_reducible refine st_yes ?_ | ((with_reducible refine' st_wipe ?hw ?_); (case hw => rfl))
  | ((with_reducible refine' st_slL ?hq ?_); (case hq => walk_at "sqL"))
  | ((with_reducible refine' st_cat ?hq ?hr ?hl ?_); (case hq => walk_at "hp"); (case hr => walk_at "hp"); (case hl => walk_at "line"))
  | ((with_reducible refine' st_isi ?hk ?he ?_); (case hk => walk_at "kd"); (case he => walk_at "kit"))
  | ((with_reducible refine' st_ins ?hq ?hc ?hn ?hl ?_); (case hq => walk_at "hp"); (case hc => with_reducible assumption); (case hn => with_reducible assumption); (case hl => walk_at "flen"); walk_at "puts")
  | ((with_reducible refine' st_att ?hq ?hc ?hn ?hl ?_); (case hq => walk_at "hp"); (case hc => with_reducible assumption); (case hn => with_reducible assumption); (case hl => walk_at "lk"))
  | ((with_reducible refine' st_mt ?hq ?hl ?_); (case hq => walk_at "hp"); (case hl => walk_at "lk"))
  | ((with_reducible refine' st_extend ?hq ?hr ?hl ?_); (case hq => walk_at "hp"); (case hr => walk_at "hp"); (case hl => walk_at "line"))
  | with_reducible refine st_next ?_ | with_reducible refine st_retN ?_ | (with_reducible refine iteNT ?_) | (with_reducible refine iteNF ?_) | (with_reducible refine iteT ?_) | (with_reducible refine iteF ?_))
local macro_rules | `(tactic| walk_at "side") => `(tactic| first | omega | decide | assumption | exact ⟨by omega, by omega⟩ | exact Or.inr ⟨by omega, by omega⟩ | exact Or.inl ⟨by omega, by omega⟩ | (simp only [List.length_map, List.length_cons, List.length_nil, List.length_append] at *; omega))
local macro_rules | `(tactic| walk_at "hp") => `(tactic| first | assumption | exact upd_same | ((with_reducible refine' upd_old ?ho ?hb); (case ho => assumption); (case hb => walk_at "hp")) | (rw [upd_ne (by first | assumption | exact Ne.symm (by assumption))]; walk_at "hp"))
local macro_rules | `(tactic| walk_at "sqL") => `(tactic| first | assumption | exact SqL.of (by walk_at "hp"))
local macro_rules | `(tactic| walk_at "sqT") => `(tactic| first | assumption | exact SqT.of (by walk_at "hp"))
local macro_rules | `(tactic| walk_at "sqb") => `(tactic| (unfold SqB; first | ((with_reducible change SqL _ _ _ _); walk_at "sqL") | ((with_reducible change SqT _ _ _ _); walk_at "sqT")))
local macro_rules | `(tactic| walk_at "line") => `(tactic| first | assumption | decide | (apply line_of; walk_at "side") | (apply line_lt; walk_at "side"))
local macro_rules | `(tactic| walk_at "ty") => `(tactic| ((with_reducible refine' ty_lst ?hq); (case hq => walk_at "hp")))
local macro_rules | `(tactic| walk_at "at") => `(tactic| with_reducible first | assumption | exact at0 | exact at1 | exact at2 | exact at3 | exact at4 | exact at5 | exact at6 | exact at7 | exact at8)
local macro_rules | `(tactic| walk_at "st") => `(tactic| (repeat walk_at "st1"))
local macro_rules | `(tactic| walk_at "lk") => `(tactic| first | with_reducible assumption | rfl)
local macro_rules | `(tactic| walk_at "kd") => `(tactic| first | exact .base (.int _) | exact .base .non | exact .base (.bl _) | exact .base (.str _) | exact .base (.tup (by walk_at "hp")) | exact .base (.lst (by walk_at "hp")) | exact .base (.dK (by walk_at "hp")) | exact .base (.dT (by walk_at "hp")))
local macro_rules | `(tactic| walk_at "kit") => `(tactic| with_reducible first
  | exact kit_NoneType_bool
  | exact kit_NoneType_int
  | exact kit_NoneType_str
  | exact kit_NoneType_tuple
  | exact kit_NoneType_list
  | exact kit_NoneType_dict
  | exact kit_bool_bool
  | exact kit_bool_int
  | exact kit_bool_str
  | exact kit_bool_tuple
  | exact kit_bool_list
  | exact kit_bool_dict
  | exact kit_int_bool
  | exact kit_int_int
  | exact kit_int_str
  | exact kit_int_tuple
  | exact kit_int_list
  | exact kit_int_dict
  | exact kit_str_bool
  | exact kit_str_int
  | exact kit_str_str
  | exact kit_str_tuple
  | exact kit_str_list
  | exact kit_str_dict
  | exact kit_tuple_bool
  | exact kit_tuple_int
  | exact kit_tuple_str
  | exact kit_tuple_tuple
  | exact kit_tuple_list
  | exact kit_tuple_dict
  | exact kit_list_bool
  | exact kit_list_int
  | exact kit_list_str
  | exact kit_list_tuple
  | exact kit_list_list
  | exact kit_list_dict
  | exact kit_dict_bool
  | exact kit_dict_int
  | exact kit_dict_str
  | exact kit_dict_tuple
  | exact kit_dict_list
  | exact kit_dict_dict)
local macro_rules | `(tactic| walk_at "flen") => `(tactic| decide)
local macro_rules | `(tactic| walk_at "puts") => `(tactic| skip)

local macro_rules | `(tactic| walk_at "st1") => `(tactic| first
  | with_reducible refine st_dc ?_ | with_reducible refine st_dgetS ?_ | with_reducible refine st_dinS ?_ | with_reducible refine st_dninS ?_ | with_reducible refine st_dputS ?_ | with_reducible refine st_newT ?_ | with_reducible refine iteNN ?_ | with_reducible refine iteYN ?_
  | ((with_reducible refine' st_getT ?hq ?hk ?hv ?_); (case hq => walk_at "hp"); (case hk => walk_at "key"); (case hv => with_reducible assumption))
  | ((with_reducible refine' st_inT ?hq ?hk ?_); (case hq => walk_at "hp"); (case hk => walk_at "key"))
  | ((with_reducible refine' st_ninT ?hq ?hk ?_); (case hq => walk_at "hp"); (case hk => walk_at "key"))
  | ((with_reducible refine' st_putT ?hq ?hk ?hl ?_); (case hq => walk_at "hp"); (case hk => walk_at "key"); (case hl => walk_at "line"))
  | ((with_reducible refine' st_cputT ?hq ?hk ?hl ?_); (case hq => walk_at "hp"); (case hk => walk_at "key"); (case hl => walk_at "line"))
  | ((with_reducible refine' st_ixB ?hq ?he ?_); (case hq => first | assumption | exact Or.inl (by walk_at "sqL") | exact Or.inr (by walk_at "sqT")); (case he => walk_at "at")))
local macro_rules | `(tactic| walk_at "key") => `(tactic| with_reducible assumption)

section
variable {Z : Ads} {P : Program} {w : World} {K : PySem.W.Frag} {mg : Str → Option Value} {base : Heap}
def spHand (K : PySem.W.Frag) : Sp := fun vs H Q _ => ∃ (a : Addr) (ns : List Int), vs = [.ref a] ∧ SqL K H a (ns.map V.int) ∧ ns.length ≤ 63 ∧ ∀ H' h c, Hand H' h c → Fr [] H H' → H h = none → H c = none → Q (.ref h) H'
abbrev s_law_hand : Stmt := top 52
theorem sc_law_hand : FnScope ["script", "cells", "cell"] ["script"] (defScope s_law_hand) := ⟨rfl, rfl, rfl, by decide +kernel, rfl, by decide +kernel, by decide +kernel⟩
theorem ok_law_hand {f : Addr} {fd : FuncData} (F : Fun K "_law_hand" "_law_hand" s_law_hand f fd) (T : Txt K mg Z) : FnOk P w K mg base (L2.CX P w) 1 f fd ["script"] (spHand K) := by
  refine okN F sc_law_hand (fun vs H Q E h => ?_) (fun cdv A outer s0 H vs Q E hr h => ?_)
  · obtain ⟨a, ns, rfl, _⟩ := h
    rfl
  · obtain ⟨a, ns, rfl, hS, hlen, k⟩ := h
    refine ⟨_, [some _, none, none], rfl, (pss_cons (ps_setLc (i := 1) (own := [("cell", 2)]) (g := (gName 2)) (tt := tYes) rfl sc_law_hand.nd rfl rfl (sw_true rfl rfl rfl (by decide +kernel)) (kPiL (K := K) (pe_slice (kSlL (K := K)) (pv 0) po_none (po_some pe_int))) (blkOk_by (N := ["script", "cells", "cell"]) (sc := defScope s_law_hand) (by decide +kernel)) (fun _ _ _ _ _ => (pg_name (i := 2) sc_law_hand.nd rfl (by first | exact Or.inl rfl | exact Or.inr rfl))) (fun _ _ _ _ _ => pts_nil) (fun _ _ _ _ _ => (pe_callB kAbs (by rfl) T.n_abs (by decide +kernel) (pa_cons (pe_callTy kInt (by rfl) T.n_int (by decide +kernel) (pa_cons (pv 2) pa_nil)) pa_nil))))
      (pss_one (ps_ret (pe_lst (pa_cons (pv 1) (pa_cons pe_int (pa_cons pe_int (pa_cons (pe_op op_add pe_int (pe_op op_mul pe_int (pe_callB (kLen (K := K)) (by rfl) T.n_len (by decide +kernel) (pa_cons (pv 1) pa_nil)))) (pa_cons pe_int pa_nil))))))))), ?_⟩
    walk_at "st"
    intro p1 hp1
    walk_at "st"
    intro D1 hD1
    have ecut : cutV (ns.map V.int) none (some 63) = ns.map V.int := by
      have e := cut_take (ns.map V.int) 63
      rw [List.take_of_length_le (by simpa using hlen)] at e
      exact e
    rw [ecut] at hD1 ⊢
    refine lc_ints (fun n => some (if n < 0 then -n else n)) (walk_list (xs := ns.map V.int)) (fun o => SqL.of (by walk_at "hp")) (line_lt (by omega)) (fun n acc hn hacc Nx hN => ?_) ?_
    · walk_at "st"
      exact ⟨acc, upd_same, hacc, by rw [upd_upd]; exact hN⟩
    have hl3 := List.length_filterMap_le (fun n : Int => some (if n < 0 then -n else n)) ns
    generalize List.filterMap _ ns = cs at hl3 ⊢
    walk_at "st"
    intro p4 hp4
    walk_at "st"
    have F1 : Fr [] H _ := (Fr.refl H).new (o := .lst (ns.map V.int)) hp1
    have F2 := F1.new (o := .lst (cs.map V.int)) hD1
    have F3 := F2.new (o := .lst [.ref D1, .int 0, .int 0, .int (157 + 3 * ((cs.map V.int).length : Int)), .int 0]) hp4
    exact k _ p4 D1 ⟨⟨0, 0, _, 0, cs, upd_same, (by walk_at "hp"), (by omega), (by omega)⟩, (ne_of_none (b := p4) (show _ = some (HO.lst (cs.map V.int)) by walk_at "hp") hp4).symm⟩ F3 (F2.free hp4) (F1.free hD1)
def spSome (K : PySem.W.Frag) : Sp := fun vs H Q _ => ∃ (h c q : Addr) (xs : List V), vs = [.ref h, .ref q] ∧ Hand H h c ∧ (H q = some (.tup xs) ∨ (H q = some (.lst xs) ∧ q ≠ h ∧ q ≠ c)) ∧ 0 < xs.length ∧ xs.length < 1000 ∧ ∀ H' x, x ∈ xs → Hand H' h c → Fr [h] H H' → Q x H'
abbrev s_law_some : Stmt := top 48
theorem sc_law_some : FnScope ["hand", "things"] ["hand", "things"] (defScope s_law_some) := ⟨rfl, rfl, rfl, by decide +kernel, rfl, by decide +kernel, by decide +kernel⟩
theorem ok_law_some {f : Addr} {fd : FuncData} (F : Fun K "_law_some" "_law_some" s_law_some f fd) (T : Txt K mg Z) (D_law_draw : Dn P w K mg base "_law_draw" 1 ["hand", "span"] spDraw) : FnOk P w K mg base (L2.CX P w) 2 f fd ["hand", "things"] (spSome K) := by
  refine okN F sc_law_some (fun vs H Q E h => ?_) (fun cdv A outer s0 H vs Q E hr h => ?_)
  · obtain ⟨h, c, q, xs, rfl, _⟩ := h
    rfl
  · obtain ⟨h, c, q, xs, rfl, hH, hq, h0, h1, k⟩ := h
    refine ⟨_, [some _, some _], rfl, (pss_one (ps_ret (pe_ix (kIxB (K := K)) (pv 1) (pe_d D_law_draw E0 (hr.mono (by first | decide | omega)) (by rfl) passL (pa_cons (pv 0) (pa_cons (pe_callB (kLen (K := K)) (by rfl) T.n_len (by decide +kernel) (pa_cons (pv 1) pa_nil)) pa_nil))) (fun _ _ => rfl)))), ?_⟩
    have sq : SqL K H q xs ∨ SqT K H q xs := hq.elim (fun e => .inr (SqT.of e)) (fun e => .inl (SqL.of e.1))
    walk_at "st"
    refine st_len (n := 0) sq ?_
    walk_at "st"
    refine ⟨h, c, _, rfl, hH, by omega, by omega, fun H1 n n0 n1 hH1 f1 => ?_⟩
    obtain ⟨j, rfl⟩ : ∃ j : Nat, n = (j : Int) := ⟨n.toNat, by omega⟩
    have hj : j < xs.length := by omega
    have sq1 : SqL K H1 q xs ∨ SqT K H1 q xs := hq.elim (fun e => .inr (SqT.of (f1.tup _ _ e))) (fun e => .inl (SqL.of (f1.keep _ _ (by simpa using e.2.1) e.1)))
    refine st_ixB sq1 (atI_nat (List.getElem?_eq_getElem hj)) ?_
    exact k _ _ (List.getElem_mem hj) hH1 f1
theorem erase_perm {α : Type} : ∀ (xs : List α) (j : Nat) (h : j < xs.length), (xs[j] :: xs.eraseIdx j).Perm xs
  | x :: xs, 0, _ => List.Perm.refl _
  | x :: xs, j + 1, h => by
    have hj : j < xs.length := by simpa using h
    show (xs[j] :: x :: xs.eraseIdx j).Perm (x :: xs)
    exact (List.Perm.swap x xs[j] _).trans ((erase_perm xs j hj).cons x)
def spMixed (K : PySem.W.Frag) : Sp := fun vs H Q _ => ∃ (h c q : Addr) (ss : List Str), vs = [.ref h, .ref q] ∧ Hand H h c ∧ SqL K H q (ss.map V.str) ∧ ss.length < 1000 ∧ ∀ (H' : Hp) (r : Addr) (ys : List Str), ys.Perm ss → H r = none → H' r = some (.lst (ys.map V.str)) → Hand H' h c → Fr [h] H H' → Q (.ref r) H'
abbrev s_law_mixed : Stmt := top 50
theorem sc_law_mixed : FnScope ["hand", "some", "more", "found"] ["hand", "some"] (defScope s_law_mixed) := ⟨rfl, rfl, rfl, by decide +kernel, rfl, by decide +kernel, by decide +kernel⟩
theorem ok_law_mixed {f : Addr} {fd : FuncData} (F : Fun K "_law_mixed" "_law_mixed" s_law_mixed f fd) (T : Txt K mg Z) (D_law_draw : Dn P w K mg base "_law_draw" 1 ["hand", "span"] spDraw) : FnOk P w K mg base (L2.CX P w) 2 f fd ["hand", "some"] (spMixed K) := by
  refine okN F sc_law_mixed (fun vs H Q E h => ?_) (fun cdv A outer s0 H vs Q E hr h => ?_)
  · obtain ⟨h, c, q, ss, rfl, _⟩ := h
    rfl
  · obtain ⟨h, c, q, ss, rfl, hH, hq, h1, k⟩ := h
    refine ⟨_, [some _, some _, none, none], rfl, (pss_cons (ps_par (i := 2) (j := 3) rfl sc_law_mixed.nd rfl rfl (by decide) rfl rfl (pa_cons (pe_callTy (kListOf (K := K)) (by rfl) T.n_list (by decide +kernel) (pa_cons (pv 1) pa_nil)) (pa_cons (pe_lst pa_nil) pa_nil)) rfl)
      (pss_cons (ps_while PassesOwn.never (pt_cmpR op_gt (pe_callB (kLen (K := K)) (by rfl) T.n_len (by decide +kernel) (pa_cons (pv 2) pa_nil)) pe_int (by first | exact nomark _ | rfl)) (pss_one (ps_expr (kApp (K := K) (pv 3) (kBm (K := K) PySem.F.plainAttrs_list PySem.F.slot_list_pop PySem.F.type_list_pop mt_popAt (pv 2) (pa_cons (pe_d D_law_draw E0 (hr.mono (by first | decide | omega)) (by rfl) passL (pa_cons (pv 0) (pa_cons (pe_callB (kLen (K := K)) (by rfl) T.n_len (by decide +kernel) (pa_cons (pv 2) pa_nil)) pa_nil))) pa_nil))))))
      (pss_one (ps_ret (pv 3))))), ?_⟩
    walk_at "st"
    intro u1 hu1
    walk_at "st"
    intro u2 hu2
    walk_at "st"
    have n1 := hH.out hu1
    have n2 := hH.out (fresh_of hu2)
    have G : Fr [] H (upd (upd H u1 (.lst (ss.map V.str))) u2 (.lst [])) := (Fr.up hu1).new hu2
    have u12 : u1 ≠ u2 := fun e => by
      rw [e] at hu2
      rw [upd_same] at hu2
      exact nomatch hu2
    refine ⟨fun m σ H' => ∃ (xs ys : List Str) (o : Bool), m = xs.length ∧ σ = [some (.ref h), some (.ref q), some (.ref u1), some (.ref u2)] ∧ H' u1 = some (.lst (xs.map V.str)) ∧ H' u2 = some (.lst (ys.map V.str)) ∧ (ys ++ xs).Perm ss ∧ Hand H' h c ∧ Fr [h] H H' ∧ o = true, ⟨_, ss, [], true, rfl, rfl, upd_old hu2 upd_same, upd_same, List.Perm.refl _, hH.keep G, G.mono (by simp), rfl⟩, ?_⟩
    rintro m σ H' ⟨xs, ys, o, rfl, rfl, e1, e2, hp, hH', f', _⟩
    have hl := hp.length_eq
    rw [List.length_append] at hl
    walk_at "st"
    refine iteD (fun h0 => ?_) (fun h0 => ?_)
    rotate_left
    · have hx0 : xs = [] := List.length_eq_zero_iff.mp (by rw [List.length_map] at h0; omega)
      subst hx0
      walk_at "st"
      rw [List.append_nil] at hp
      exact k _ u2 ys hp (fresh_of hu2) e2 hH' f'
    · have hx0 : 0 < xs.length := by
        rw [List.length_map] at h0
        omega
      refine ⟨fun σ' H' => ∃ m', m' < xs.length ∧ ∃ (xs ys : List Str) (o : Bool), m' = xs.length ∧ σ' = [some (.ref h), some (.ref q), some (.ref u1), some (.ref u2)] ∧ H' u1 = some (.lst (xs.map V.str)) ∧ H' u2 = some (.lst (ys.map V.str)) ∧ (ys ++ xs).Perm ss ∧ Hand H' h c ∧ Fr [h] H H' ∧ o = true, fun _ _ z => z, ?_⟩
      walk_at "st"
      refine ⟨h, c, _, rfl, hH', by omega, by rw [List.length_map]; omega, fun H1 n m0 m1 hH1 f1 => ?_⟩
      obtain ⟨j, rfl⟩ : ∃ j : Nat, n = (j : Int) := ⟨n.toNat, by omega⟩
      rw [List.length_map] at m1
      have hj : j < xs.length := by omega
      have d1 := f1.keep u1 _ (by simpa using n1.1) e1
      have d2 := f1.keep u2 _ (by simpa using n2.1) e2
      walk_at "st"
      refine st_popAtN (k := j) (v := .str xs[j]) (by rw [List.length_map]; omega) d1 (by rw [List.getElem?_map, List.getElem?_eq_getElem hj]; rfl) ?_
      walk_at "st"
      have me : (xs.map V.str).eraseIdx j = (xs.eraseIdx j).map V.str := by
        rw [List.eraseIdx_eq_take_drop_succ, List.eraseIdx_eq_take_drop_succ, List.map_append, List.map_take, List.map_drop]
      have he : (xs.eraseIdx j).length = xs.length - 1 := List.length_eraseIdx_of_lt hj
      have g2 : upd H1 u1 (.lst ((xs.map V.str).eraseIdx j)) u2 = some (.lst (ys.map V.str)) := by rw [upd_ne u12.symm]; exact d2
      refine ⟨(xs.eraseIdx j).length, by omega, xs.eraseIdx j, ys ++ [xs[j]], true, rfl, rfl, ?_, ?_, ?_, ?_, ?_, rfl⟩
      · rw [upd_ne u12, upd_same, me]
      · rw [upd_same, List.map_append]; rfl
      · rw [List.append_assoc]
        exact ((erase_perm xs j hj).append_left ys).trans hp
      · exact (hH1.wr d1 n1).wr g2 n2
      · exact ((f'.trans f1).wl d1 (.inr hu1)).wl g2 (.inr (fresh_of hu2))
def namesL : List Str := ["x", "y", "new", "ask", "if", "else", "pass", "end", "while", "tables", "a", "abcdefgh", "zz", "k"]
theorem namesL_nodup : namesL.Nodup := by decide +kernel
def spNames : Sp := fun vs H Q _ => ∃ (h c : Addr) (many : Nat), vs = [.ref h, .int (many : Nat)] ∧ Hand H h c ∧ many ≤ 14 ∧ ∀ (H' : Hp) (r : Addr) (ys : List Str), ys.Nodup → (∀ y ∈ ys, y ∈ namesL) → ys.length = many → H r = none → H' r = some (.lst (ys.map V.str)) → Hand H' h c → Fr [h] H H' → Q (.ref r) H'
abbrev s_law_names : Stmt := top 57
theorem sc_law_names : FnScope ["hand", "many", "some"] ["hand", "many"] (defScope s_law_names) := ⟨rfl, rfl, rfl, by decide +kernel, rfl, by decide +kernel, by decide +kernel⟩
theorem ok_law_names {f : Addr} {fd : FuncData} (F : Fun K "_law_names" "_law_names" s_law_names f fd) (T : Txt K mg Z) (D_law_mixed : Dn P w K mg base "_law_mixed" 2 ["hand", "some"] (spMixed K)) : FnOk P w K mg base (L2.CX P w) 3 f fd ["hand", "many"] spNames := by
  refine okN F sc_law_names (fun vs H Q E h => ?_) (fun cdv A outer s0 H vs Q E hr h => ?_)
  · obtain ⟨h, c, many, rfl, _⟩ := h
    rfl
  · obtain ⟨h, c, many, rfl, hH, hm, k⟩ := h
    refine ⟨_, [some _, some _, none], rfl, (pss_cons (ps_set (i := 2) sc_law_names.nd rfl (by first | exact Or.inl rfl | exact Or.inr rfl) (pe_lst (pa_cons pe_str (pa_cons pe_str (pa_cons pe_str (pa_cons pe_str (pa_cons pe_str (pa_cons pe_str (pa_cons pe_str (pa_cons pe_str (pa_cons pe_str (pa_cons pe_str (pa_cons pe_str (pa_cons pe_str (pa_cons pe_str (pa_cons pe_str pa_nil))))))))))))))))
      (pss_one (ps_ret (pe_slice (kSlL (K := K)) (pe_d D_law_mixed E0 (hr.mono (by first | decide | omega)) (by rfl) passL (pa_cons (pv 0) (pa_cons (pv 2) pa_nil))) po_none (po_some (pv 1)))))), ?_⟩
    walk_at "st"
    intro u hu
    have G : Fr [] H (upd H u (.lst (namesL.map V.str))) := Fr.up hu
    walk_at "st"
    refine ⟨h, c, u, namesL, rfl, hH.keep G, SqL.of upd_same, by decide, fun H1 r ys hp hr0 hr1 hH1 f1 => ?_⟩
    have hl := hp.length_eq
    walk_at "st"
    intro v hv
    rw [cut_take, ← List.map_take]
    have G2 : Fr [] H1 (upd H1 v (.lst ((ys.take many).map V.str))) := Fr.up hv
    have F2 : Fr [h] H _ := ((G.mono (by simp)).trans f1).trans (G2.mono (by simp))
    refine k _ v (ys.take many) ((hp.nodup_iff.mpr namesL_nodup).sublist (List.take_sublist _ _)) (fun y hy => hp.mem_iff.mp (List.mem_of_mem_take hy)) ?_ (((G.mono (ns := [h]) (by simp)).trans f1).back (by simpa using (hH1.out hv).1) hv) upd_same (hH1.keep G2) F2
    rw [List.length_take, hl]
    exact Nat.min_eq_left hm
end

end K03

namespace K03
open PySem PySem.Spec PyProof.Rows L2 Hq
local macro_rules | `(tactic| walk_at "st1") => `(tactic| first
  | with_reducible refine st_seq ?_ | with_reducible refine st_ret ?_ | with_reducible refine st_ifS ?_ | with_reducible refine st_asg ?_ | with_reducible refine st_drop ?_
  | ((with_reducible refine' st_var ?hv ?_); (case hv => rfl)) | with_reducible refine st_c ?_ | with_reducible refine st_op ?_ | with_reducible refine st_un ?_
  | with_reducible refine st_I0 ?_ | with_reducible refine st_U ?_ | ((with_reducible refine' st_I ?hc ?_); (case hc => walk_at "side"))
  | ((with_reducible refine' st_eq ?hs ?_); (case hs => rfl)) | ((with_reducible refine' st_ne ?hs ?_); (case hs => rfl))
  | with_reducible refine st_test ?_ | with_reducible refine st_B ?_ | with_reducible refine st_bl ?_ | with_reducible refine st_isN ?_ | with_reducible refine st_notN ?_
  | with_reducible refine st_chain ?_ | with_reducible refine st_and ?_ | with_reducible refine st_or ?_ | with_reducible refine st_not ?_
  | with_reducible refine st_andV ?_ | with_reducible refine st_orV ?_ | with_reducible refine st_notV ?_ | with_reducible refine st_if ?_
  | with_reducible refine st_CB ?_ | with_reducible refine st_cons ?_ | with_reducible refine st_nil ?_ | with_reducible refine st_fld ?_
  | ((with_reducible refine st_tup ?_)) | ((with_reducible refine st_lst ?_))
  | with_reducible refine st_call ?_ | with_reducible refine st_meth ?_ | with_reducible refine st_make ?_
  | with_reducible refine st_sl ?_ | with_reducible refine st_noPart ?_ | with_reducible refine st_part ?_ | with_reducible refine st_int ?_
  | ((with_reducible refine' st_ixL ?hq ?he ?_); (case hq => walk_at "sqL"); (case he => walk_at "at"))
  | ((with_reducible refine' st_ixT ?hq ?he ?_); (case hq => walk_at "sqT"); (case he => walk_at "at"))
  | with_reducible refine st_bm ?_ | with_reducible refine st_app ?_
  | ((with_reducible refine' st_append ?hq ?hl ?_); (case hq => walk_at "hp"); (case hl => walk_at "line"))
  | ((with_reducible refine' st_len (n := 0) ?hq ?_); (case hq => first | exact Or.inl (by walk_at "sqL") | exact Or.inr (by walk_at "sqT")))
  | ((with_reducible refine' st_listOf ?hq ?_); (case hq => first | exact Or.inl (by walk_at "sqL") | exact Or.inr (by walk_at "sqT")))
  | ((with_reducible refine st_name ?_); (try dsimp only [List.set_cons_zero, List.set_cons_succ])) | with_reducible refine st_par ?_
  | with_reducible refine st_gcons ?_ | with_reducible refine st_gnil ?_ | with_reducible refine st_gsub ?_ | with_reducible refine st_sFld ?_
  | ((with_reducible refine' st_gtup ?hq ?hl ?_); (case hq => walk_at "sqT"); (case hl => rfl))
  | ((with_reducible refine' st_setL ?hq ?hl ?_); (case hq => walk_at "hp"); (case hl => first | rfl | exact ix0 | exact ixN_nat (by assumption)); (try simp only [Int.reduceToNat, List.set_cons_zero, List.set_cons_succ]))
  | with_reducible refine st_intI ?_ | with_reducible refine st_abs ?_
  | ((with_reducible refine' st_popAt ?hq ?hk ?hy ?_); (case hq => walk_at "hp"); (case hk => exact seq0); (case hy => rfl))
  | ((with_reducible refine' and_left ?ht ?_); (case ht => walk_at "ty"))
  | with_reducible refine st_lc ?_ | with_reducible refine st_for ?_ | with_reducible refine st_iL ?_ | with_reducible refine st_iT ?_ | with_reducible refine st_iR1 ?_ | with_reducible refine st_iR2 ?_ | with_reducible refine st_iZ ?_
  | ((with_reducible refine' st_refL ?hq ?_); (case hq => walk_at "sqL")) | ((with_reducible refine' st_refT ?hq ?_); (case hq => walk_at "sqT"))
  | ((with_reducible refine' st_rng1 ?hq ?_); (case hq => walk_at "side")) | ((with_reducible refine' st_rng2 ?hq ?_); (case hq => walk_at "side"))
  | ((with_reducible refine' st_zip ?hq ?hr ?_); (case hq => walk_at "sqb"); (case hr => walk_at "sqb"))
  | ((with_reducible refine' st_size ?hw ?_); (case hw => walk_at "line"))
  | ((with_reducible refine' st_sum ?hq ?_); (case hq => walk_at "sqL"))
  | with_reducible refine st_two ?_ | with_reducible refine st_yes ?_ | ((with_reducible refine' st_wipe ?hw ?_); (case hw => rfl))
  | ((with_reducible refine' st_slL ?hq ?_); (case hq => walk_at "sqL"))
  | ((with_reducible refine' st_cat ?hq ?hr ?hl ?_); (case hq => walk_at "hp"); (case hr => walk_at "hp"); (case hl => walk_at "line"))
  | ((with_reducible refine' st_isi ?hk ?he ?_); (case hk => walk_at "kd"); (case he => walk_at "kit"))
  | ((with_reducible refine' st_ins ?hq ?hc ?hn ?hl ?_); (case hq => walk_at "hp"); (case hc => with_reducible assumption); (case hn => with_reducible assumption); (case hl => walk_at "flen"); walk_at "puts")
  | ((with_reducible refine' st_att ?hq ?hc ?hn ?hl ?_); (case hq => walk_at "hp"); (case hc => with_reducible assumption); (case hn => with_reducible assumption); (case hl => walk_at "lk"))
  | ((with_reducible refine' st_mt ?hq ?hl ?_); (case hq => walk_at "hp"); (case hl => walk_at "lk"))
  | ((with_reducible refine' st_extend ?hq ?hr ?hl ?_); (case hq => walk_at "hp"); (case hr => walk_at "hp"); (case hl => walk_at "line"))
  | with_reducible refine st_next ?_ | with_reducible refine st_retN ?_ | (with_reducible refine iteNT ?_) | (with_reducible refine iteNF ?_) | (with_reducible refine iteT ?_) | (with_reducible refine iteF ?_))
local macro_rules | `(tactic| walk_at "side") => `(tactic| first | omega | decide | assumption | exact ⟨by omega, by omega⟩ | exact Or.inr ⟨by omega, by omega⟩ | exact Or.inl ⟨by omega, by omega⟩ | (simp only [List.length_map, List.length_cons, List.length_nil, List.length_append] at *; omega))
local macro_rules | `(tactic| walk_at "hp") => `(tactic| first | assumption | exact upd_same | ((with_reducible refine' upd_old ?ho ?hb); (case ho => assumption); (case hb => walk_at "hp")) | (rw [upd_ne (by first | assumption | exact Ne.symm (by assumption))]; walk_at "hp"))
local macro_rules | `(tactic| walk_at "sqL") => `(tactic| first | assumption | exact SqL.of (by walk_at "hp"))
local macro_rules | `(tactic| walk_at "sqT") => `(tactic| first | assumption | exact SqT.of (by walk_at "hp"))
local macro_rules | `(tactic| walk_at "sqb") => `(tactic| (unfold SqB; first | ((with_reducible change SqL _ _ _ _); walk_at "sqL") | ((with_reducible change SqT _ _ _ _); walk_at "sqT")))
local macro_rules | `(tactic| walk_at "line") => `(tactic| first | assumption | decide | (apply line_of; walk_at "side") | (apply line_lt; walk_at "side"))
local macro_rules | `(tactic| walk_at "ty") => `(tactic| ((with_reducible refine' ty_lst ?hq); (case hq => walk_at "hp")))
local macro_rules | `(tactic| walk_at "at") => `(tactic| with_reducible first | assumption | exact at0 | exact at1 | exact at2 | exact at3 | exact at4 | exact at5 | exact at6 | exact at7 | exact at8)
local macro_rules | `(tactic| walk_at "st") => `(tactic| (repeat walk_at "st1"))
local macro_rules | `(tactic| walk_at "lk") => `(tactic| first | with_reducible assumption | rfl)
local macro_rules | `(tactic| walk_at "kd") => `(tactic| first | exact .base (.int _) | exact .base .non | exact .base (.bl _) | exact .base (.str _) | exact .base (.tup (by walk_at "hp")) | exact .base (.lst (by walk_at "hp")) | exact .base (.dK (by walk_at "hp")) | exact .base (.dT (by walk_at "hp")))
local macro_rules | `(tactic| walk_at "kit") => `(tactic| with_reducible first
  | exact kit_NoneType_bool
  | exact kit_NoneType_int
  | exact kit_NoneType_str
  | exact kit_NoneType_tuple
  | exact kit_NoneType_list
  | exact kit_NoneType_dict
  | exact kit_bool_bool
  | exact kit_bool_int
  | exact kit_bool_str
  | exact kit_bool_tuple
  | exact kit_bool_list
  | exact kit_bool_dict
  | exact kit_int_bool
  | exact kit_int_int
  | exact kit_int_str
  | exact kit_int_tuple
  | exact kit_int_list
  | exact kit_int_dict
  | exact kit_str_bool
  | exact kit_str_int
  | exact kit_str_str
  | exact kit_str_tuple
  | exact kit_str_list
  | exact kit_str_dict
  | exact kit_tuple_bool
  | exact kit_tuple_int
  | exact kit_tuple_str
  | exact kit_tuple_tuple
  | exact kit_tuple_list
  | exact kit_tuple_dict
  | exact kit_list_bool
  | exact kit_list_int
  | exact kit_list_str
  | exact kit_list_tuple
  | exact kit_list_list
  | exact kit_list_dict
  | exact kit_dict_bool
  | exact kit_dict_int
  | exact kit_dict_str
  | exact kit_dict_tuple
  | exact kit_dict_list
  | exact kit_dict_dict)
local macro_rules | `(tactic| walk_at "flen") => `(tactic| decide)
local macro_rules | `(tactic| walk_at "puts") => `(tactic| skip)

local macro_rules | `(tactic| walk_at "st1") => `(tactic| first
  | with_reducible refine st_dc ?_ | with_reducible refine st_dgetS ?_ | with_reducible refine st_dinS ?_ | with_reducible refine st_dninS ?_ | with_reducible refine st_dputS ?_ | with_reducible refine st_newT ?_ | with_reducible refine iteNN ?_ | with_reducible refine iteYN ?_
  | ((with_reducible refine' st_getT ?hq ?hk ?hv ?_); (case hq => walk_at "hp"); (case hk => walk_at "key"); (case hv => with_reducible assumption))
  | ((with_reducible refine' st_inT ?hq ?hk ?_); (case hq => walk_at "hp"); (case hk => walk_at "key"))
  | ((with_reducible refine' st_ninT ?hq ?hk ?_); (case hq => walk_at "hp"); (case hk => walk_at "key"))
  | ((with_reducible refine' st_putT ?hq ?hk ?hl ?_); (case hq => walk_at "hp"); (case hk => walk_at "key"); (case hl => walk_at "line"))
  | ((with_reducible refine' st_cputT ?hq ?hk ?hl ?_); (case hq => walk_at "hp"); (case hk => walk_at "key"); (case hl => walk_at "line"))
  | ((with_reducible refine' st_ixB ?hq ?he ?_); (case hq => first | assumption | exact Or.inl (by walk_at "sqL") | exact Or.inr (by walk_at "sqT")); (case he => walk_at "at")))
local macro_rules | `(tactic| walk_at "key") => `(tactic| with_reducible assumption)

section
variable {Z : Ads} {P : Program} {w : World} {K : PySem.W.Frag} {mg : Str → Option Value} {base : Heap}
/-! ### the small judges, of numbers and texts -/
def spIsInteger (K : PySem.W.Frag) : Sp := fun vs H Q _ => ∃ (i : Int), vs = [.int i] ∧ Q (.bl true) H
abbrev s_is_integer : Stmt := top 4
theorem sc_is_integer : FnScope ["thing"] ["thing"] (defScope s_is_integer) := ⟨rfl, rfl, rfl, by decide +kernel, rfl, by decide +kernel, by decide +kernel⟩
theorem ok_is_integer {f : Addr} {fd : FuncData} (F : Fun K "is_integer" "is_integer" s_is_integer f fd) (T : Txt K mg Z) : FnOk P w K mg base (L2.CX P w) 1 f fd ["thing"] (spIsInteger K) := by
  refine okN F sc_is_integer (fun vs H Q E h => ?_) (fun cdv A outer s H vs Q E hr h => ?_)
  · obtain ⟨i, rfl, _⟩ := h
    rfl
  · obtain ⟨i, rfl, k⟩ := h
    refine ⟨_, [some _], rfl, (pss_one (ps_ret (pe_and (pe_callB (kIsi (K := K)) (by rfl) T.n_isinstance (by decide +kernel) (pa_cons (pv 0) (pa_cons (pe_ty "int" (by rfl) T.n_int (by decide +kernel)) pa_nil))) (pe_one (pe_not (pe_callB (kIsi (K := K)) (by rfl) T.n_isinstance (by decide +kernel) (pa_cons (pv 0) (pa_cons (pe_ty "bool" (by rfl) T.n_bool (by decide +kernel)) pa_nil)))))))), ?_⟩
    walk_at "st"
    exact k
def spBetween : Sp := fun vs H Q _ => ∃ (i l m : Int), vs = [.int i, .int l, .int m] ∧ Q (.bl (decide (l ≤ i) && decide (i ≤ m))) H
abbrev s_is_between : Stmt := top 5
theorem sc_is_between : FnScope ["thing", "least", "most"] ["thing", "least", "most"] (defScope s_is_between) := ⟨rfl, rfl, rfl, by decide +kernel, rfl, by decide +kernel, by decide +kernel⟩
theorem ok_is_between {f : Addr} {fd : FuncData} (F : Fun K "is_between" "is_between" s_is_between f fd) (T : Txt K mg Z) (D_is_integer : Dn P w K mg base "is_integer" 1 ["thing"] (spIsInteger K)) : FnOk P w K mg base (L2.CX P w) 2 f fd ["thing", "least", "most"] spBetween := by
  refine okN F sc_is_between (fun vs H Q E h => ?_) (fun cdv A outer s0 H vs Q E hr h => ?_)
  · obtain ⟨i, l, m, rfl, _⟩ := h
    rfl
  · obtain ⟨i, l, m, rfl, k⟩ := h
    refine ⟨_, [some _, some _, some _], rfl, (pss_one (ps_ret (pe_and (pe_d D_is_integer E0 (hr.mono (by first | decide | omega)) (by rfl) passL (pa_cons (pv 0) pa_nil)) (pe_one (pe_chain op_le op_le (pv 1) (pv 0) (pv 2)))))), ?_⟩
    walk_at "st"
    refine ⟨i, rfl, ?_⟩
    walk_at "st"
    refine iteD (fun h => ?_) (fun h => ?_)
    · walk_at "st"
      rw [decide_eq_true h, Bool.true_and] at k
      exact k
    · rw [decide_eq_false h, Bool.false_and] at k
      exact k
def spWhole : Sp := fun vs H Q _ => ∃ (i : Int), vs = [.int i] ∧ -(10 : Int) ^ 18 ≤ i ∧ i ≤ (10 : Int) ^ 18 ∧ Q (.bl true) H
abbrev s_is_whole : Stmt := top 6
theorem sc_is_whole : FnScope ["thing"] ["thing"] (defScope s_is_whole) := ⟨rfl, rfl, rfl, by decide +kernel, rfl, by decide +kernel, by decide +kernel⟩
theorem ok_is_whole {f : Addr} {fd : FuncData} (F : Fun K "is_whole" "is_whole" s_is_whole f fd) (T : Txt K mg Z) (D_is_between : Dn P w K mg base "is_between" 2 ["thing", "least", "most"] spBetween) : FnOk P w K mg base (L2.CX P w) 3 f fd ["thing"] spWhole := by
  refine okN F sc_is_whole (fun vs H Q E h => ?_) (fun cdv A outer s0 H vs Q E hr h => ?_)
  · obtain ⟨i, rfl, _⟩ := h
    rfl
  · obtain ⟨i, rfl, h1, h2, k⟩ := h
    refine ⟨_, [some _], rfl, (pss_one (ps_ret (pe_d D_is_between E0 (hr.mono (by first | decide | omega)) (by rfl) passL (pa_cons (pv 0) (pa_cons (pe_un un_neg (pe_gl (by rfl) T.g_MOST_WHOLE)) (pa_cons (pe_gl (by rfl) T.g_MOST_WHOLE) pa_nil)))))), ?_⟩
    walk_at "st"
    refine ⟨i, _, _, rfl, ?_⟩
    rw [decide_eq_true h1, decide_eq_true h2]
    exact k
def spTuple : Sp := fun vs H Q _ => ∃ (a : Addr) (xs : List V) (l m : Int), vs = [.ref a, .int l, .int m] ∧ H a = some (.tup xs) ∧ xs.length ≤ 100000 ∧ Q (.bl (decide (l ≤ (xs.length : Int)) && decide ((xs.length : Int) ≤ m))) H
abbrev s_is_tuple : Stmt := top 8
theorem sc_is_tuple : FnScope ["thing", "least", "most"] ["thing", "least", "most"] (defScope s_is_tuple) := ⟨rfl, rfl, rfl, by decide +kernel, rfl, by decide +kernel, by decide +kernel⟩
theorem ok_is_tuple {f : Addr} {fd : FuncData} (F : Fun K "is_tuple" "is_tuple" s_is_tuple f fd) (T : Txt K mg Z) : FnOk P w K mg base (L2.CX P w) 1 f fd ["thing", "least", "most"] spTuple := by
  refine okN F sc_is_tuple (fun vs H Q E h => ?_) (fun cdv A outer s0 H vs Q E hr h => ?_)
  · obtain ⟨a, xs, l, m, rfl, _⟩ := h
    rfl
  · obtain ⟨a, xs, l, m, rfl, ha, hl, k⟩ := h
    refine ⟨_, [some _, some _, some _], rfl, (pss_one (ps_ret (pe_and (pe_callB (kIsi (K := K)) (by rfl) T.n_isinstance (by decide +kernel) (pa_cons (pv 0) (pa_cons (pe_ty "tuple" (by rfl) T.n_tuple (by decide +kernel)) pa_nil))) (pe_one (pe_chain op_le op_le (pv 1) (pe_callB (kLen (K := K)) (by rfl) T.n_len (by decide +kernel) (pa_cons (pv 0) pa_nil)) (pv 2)))))), ?_⟩
    walk_at "st"
    refine iteD (fun h => ?_) (fun h => ?_)
    · walk_at "st"
      rw [decide_eq_true h, Bool.true_and] at k
      exact k
    · rw [decide_eq_false h, Bool.false_and] at k
      exact k
/-- a name: one letter to eight -/
def nameOk (s : Str) : Bool := decide (1 ≤ s.length) && decide (s.length ≤ 8) && s.cps.toList.all fun c => decide (c ∈ LETT.cps.toList)
def spName : Sp := fun vs H Q _ => ∃ (s : Str), vs = [.str s] ∧ nameOk s = true ∧ ∀ H', Fr [] H H' → Q (.bl true) H'
theorem st_lenS {K : PySem.W.Frag} {H : Hp} {z : Str} {Q : VK} (h : z.length ≤ sizeLine) (q : Q (.int z.length) H) : (fun (xs : List V) (H : Hp) (Q : VK) => ∃ z, xs = [.str z] ∧ z.length ≤ sizeLine ∧ Q (.int z.length) H) [.str z] H Q := ⟨z, rfl, h, q⟩
theorem st_iStr {te : TE} {σ : L2.St} {H : Hp} {R : It → Hp → Prop} (q : te σ H fun v H1 => ∃ x, v = .str x ∧ R (Its x) H1) : iStr te σ H R := q
abbrev s_is_name : Stmt := top 7
theorem sc_is_name : FnScope ["thing", "sign"] ["thing"] (defScope s_is_name) := ⟨rfl, rfl, rfl, by decide +kernel, rfl, by decide +kernel, by decide +kernel⟩
theorem ok_is_name {f : Addr} {fd : FuncData} (F : Fun K "is_name" "is_name" s_is_name f fd) (T : Txt K mg Z) : FnOk P w K mg base (L2.CX P w) 1 f fd ["thing"] spName := by
  refine okN F sc_is_name (fun vs H Q E h => ?_) (fun cdv A outer s0 H vs Q E hr h => ?_)
  · obtain ⟨s, rfl, _⟩ := h
    rfl
  · obtain ⟨s, rfl, hn, k⟩ := h
    unfold nameOk at hn
    rw [Bool.and_eq_true, Bool.and_eq_true] at hn
    obtain ⟨⟨h1, h8⟩, hall⟩ := hn
    replace h1 := of_decide_eq_true h1
    replace h8 := of_decide_eq_true h8
    refine ⟨_, [some _, none], rfl, (pss_one (ps_ret (pe_and (pe_callB (kIsi (K := K)) (by rfl) T.n_isinstance (by decide +kernel) (pa_cons (pv 0) (pa_cons (pe_ty "str" (by rfl) T.n_str (by decide +kernel)) pa_nil))) (pe_and (pe_chain op_le op_le pe_int (pe_callB call_len_str (by rfl) T.n_len (by decide +kernel) (pa_cons (pv 0) pa_nil)) (pe_gl (by rfl) T.g_LONGEST)) (pe_one (pe_callB (kAll (K := K)) (by rfl) T.n_all (by decide +kernel) (pa_cons (pe_lc (own := [("sign", 1)]) (g := (gName 1)) (tt := tYes) rfl sc_is_name.nd (pi_str (pv 0)) (blkOk_by (N := ["thing", "sign"]) (sc := defScope s_is_name) (by decide +kernel)) (fun _ _ _ _ _ => (pg_name (i := 1) sc_is_name.nd rfl (by first | exact Or.inl rfl | exact Or.inr rfl))) (fun _ _ _ _ _ => pts_nil) (fun _ _ _ _ _ => (pe_cmpR op_in_sign (pv 1) (pe_gl (by rfl) T.g_LETTERS) (by first | exact nomark _ | rfl)))) pa_nil))))))), ?_⟩
    walk_at "st"
    refine ⟨s, rfl, Nat.le_of_lt (line_lt (by omega)), ?_⟩
    walk_at "st"
    rw [if_pos (decide_eq_true (show (1 : Int) ≤ (s.length : Nat) by omega))]
    walk_at "st"
    rw [if_pos (decide_eq_true (show ((s.length : Nat) : Int) ≤ 8 by omega))]
    walk_at "st"
    refine st_iStr ?_
    walk_at "st"
    refine ⟨s, rfl, fun D hD => ?_⟩
    refine lc_it (walk_str (z := s)) (fun i H' => Fr [] H H' ∧ H' D = some (.lst ((List.replicate i true).map V.bl))) ⟨Fr.up hD, upd_same⟩ (fun _ _ _ _ => trivial) ?_ ?_
    · rintro i x H1 H2 hi ⟨f1, e1⟩ ⟨rfl, c, hc, rfl⟩
      have hl : s.cps.size = s.length := rfl
      walk_at "st"
      refine ⟨c, LETT, rfl, rfl, ?_⟩
      have hcm : decide (c ∈ LETT.cps.toList) = true := List.all_eq_true.mp hall c (by
        have := List.mem_of_getElem? (l := s.cps.toList) (i := i) (by rw [Array.getElem?_toList]; exact hc)
        exact this)
      rw [hcm]
      refine ⟨_, e1, line_lt (by simp; omega), f1.wl e1 (.inr hD), ?_⟩
      rw [upd_same, List.replicate_succ', List.map_append]
      rfl
    · rintro H1 ⟨f1, e1⟩
      walk_at "st"
      refine st_all (SqL.of e1) ?_
      rw [show (List.replicate s.cps.size true).all id = true by simp]
      exact k _ f1
/-- a tuple of unlike names -/
def spAreNames : Sp := fun vs H Q _ => ∃ (a : Addr) (ss : List Str) (m : Int), vs = [.ref a, .int m] ∧ H a = some (.tup (ss.map V.str)) ∧ (∀ s ∈ ss, nameOk s = true) ∧ ss.Nodup ∧ ss.length ≤ 1000 ∧ (ss.length : Int) ≤ m ∧ ∀ H', Fr [] H H' → Q (.bl true) H'
theorem st_lsU {K : PySem.W.Frag} {ta : TE} {σ : L2.St} {H : Hp} {Q : VK} (q : ta σ H fun x H1 => ∃ (l : Addr) (xs : List Str), x = .ref l ∧ SqT K H1 l (xs.map V.str) ∧ xs.length ≤ 1000 ∧ xs.Nodup ∧ Q (.int xs.length) H1) : tLenSetU K ta σ H Q := q
abbrev s_are_names : Stmt := top 10
theorem sc_are_names : FnScope ["thing", "most", "name"] ["thing", "most"] (defScope s_are_names) := ⟨rfl, rfl, rfl, by decide +kernel, rfl, by decide +kernel, by decide +kernel⟩
theorem ok_are_names {f : Addr} {fd : FuncData} (F : Fun K "are_names" "are_names" s_are_names f fd) (T : Txt K mg Z) (D_is_name : Dn P w K mg base "is_name" 1 ["thing"] spName) (D_is_tuple : Dn P w K mg base "is_tuple" 1 ["thing", "least", "most"] spTuple) : FnOk P w K mg base (L2.CX P w) 2 f fd ["thing", "most"] spAreNames := by
  refine okN F sc_are_names (fun vs H Q E h => ?_) (fun cdv A outer s0 H vs Q E hr h => ?_)
  · obtain ⟨a, ss, m, rfl, _⟩ := h
    rfl
  · obtain ⟨a, ss, m, rfl, ha, hn, hd, hl, hm, k⟩ := h
    refine ⟨_, [some _, some _, none], rfl, (pss_one (ps_ret (pe_and (pe_d D_is_tuple E0 (hr.mono (by first | decide | omega)) (by rfl) passL (pa_cons (pv 0) (pa_cons pe_int (pa_cons (pv 1) pa_nil)))) (pe_and (pe_callB (kAll (K := K)) (by rfl) T.n_all (by decide +kernel) (pa_cons (pe_lc (own := [("name", 2)]) (g := (gName 2)) (tt := tYes) rfl sc_are_names.nd (kPiT (K := K) (pv 0)) (blkOk_by (N := ["thing", "most", "name"]) (sc := defScope s_are_names) (by decide +kernel)) (fun _ _ _ _ _ => (pg_name (i := 2) sc_are_names.nd rfl (by first | exact Or.inl rfl | exact Or.inr rfl))) (fun _ _ _ _ _ => pts_nil) (fun _ _ _ _ _ => (pe_d D_is_name E0 (hr.mono (by first | decide | omega)) (by rfl) passL (pa_cons (pv 2) pa_nil)))) pa_nil)) (pe_one (pe_cmpR op_eq (kLenSet (K := K) (by rfl) T.n_len (by rfl) T.n_set (pv 0)) (pe_callB (kLen (K := K)) (by rfl) T.n_len (by decide +kernel) (pa_cons (pv 0) pa_nil)) (by first | exact nomark _ | rfl))))))), ?_⟩
    walk_at "st"
    refine ⟨a, _, 0, m, rfl, ha, by rw [List.length_map]; omega, ?_⟩
    rw [decide_eq_true (by omega), decide_eq_true (by rw [List.length_map]; exact hm), Bool.and_self]
    walk_at "st"
    intro D hD
    refine lc_it (walk_tup (xs := ss.map V.str)) (fun i H' => Fr [] H H' ∧ H' D = some (.lst ((List.replicate i true).map V.bl))) ⟨Fr.up hD, upd_same⟩ (fun i H' _ h => SqT.of (h.1.tup _ _ ha)) ?_ ?_
    · rintro i x H1 H2 hi ⟨f1, e1⟩ ⟨rfl, hx⟩
      rw [List.getElem?_map] at hx
      obtain ⟨s, hs, rfl⟩ := Option.map_eq_some_iff.mp hx
      rw [List.length_map] at hi
      walk_at "st"
      refine ⟨s, rfl, hn s (List.mem_of_getElem? hs), fun H3 f3 => ?_⟩
      have e3 := f3.same _ _ e1
      refine ⟨_, e3, line_lt (by simp; omega), (f1.trans f3).wl e3 (.inr hD), ?_⟩
      rw [upd_same, List.replicate_succ', List.map_append]
      rfl
    · rintro H1 ⟨f1, e1⟩
      walk_at "st"
      refine st_all (SqL.of e1) ?_
      rw [show (List.replicate (ss.map V.str).length true).all id = true by simp]
      walk_at "st"
      refine st_lsU ?_
      walk_at "st"
      refine ⟨a, ss, rfl, SqT.of (f1.tup _ _ ha), hl, hd, ?_⟩
      have ha1 := f1.tup _ _ ha
      walk_at "st"
      rw [List.length_map, decide_eq_true rfl]
      exact k _ f1
/-- ascending by their letters -/
def Asc (ss : List Str) : Prop := ∀ i x y, ss[i]? = some x → ss[i + 1]? = some y → x.cps.toList < y.cps.toList
def spAscend : Sp := fun vs H Q _ => ∃ (a : Addr) (ss : List Str), vs = [.ref a] ∧ H a = some (.tup (ss.map V.str)) ∧ Asc ss ∧ ss.length ≤ 1000 ∧ ∀ H', Fr [] H H' → Q (.bl true) H'
abbrev s_does_ascend : Stmt := top 9
theorem sc_does_ascend : FnScope ["things", "at"] ["things"] (defScope s_does_ascend) := ⟨rfl, rfl, rfl, by decide +kernel, rfl, by decide +kernel, by decide +kernel⟩
theorem ok_does_ascend {f : Addr} {fd : FuncData} (F : Fun K "does_ascend" "does_ascend" s_does_ascend f fd) (T : Txt K mg Z) : FnOk P w K mg base (L2.CX P w) 1 f fd ["things"] spAscend := by
  refine okN F sc_does_ascend (fun vs H Q E h => ?_) (fun cdv A outer s0 H vs Q E hr h => ?_)
  · obtain ⟨a, ss, rfl, _⟩ := h
    rfl
  · obtain ⟨a, ss, rfl, ha, hA, hl, k⟩ := h
    have hlm : (ss.map V.str).length ≤ 1000 := by rw [List.length_map]; exact hl
    refine ⟨_, [some _, none], rfl, (pss_one (ps_ret (pe_callB (kAll (K := K)) (by rfl) T.n_all (by decide +kernel) (pa_cons (pe_lc (own := [("at", 1)]) (g := (gName 1)) (tt := tYes) rfl sc_does_ascend.nd (pi_range2 (by rfl) T.n_range (pa_cons pe_int (pa_cons (pe_callB (kLen (K := K)) (by rfl) T.n_len (by decide +kernel) (pa_cons (pv 0) pa_nil)) pa_nil))) (blkOk_by (N := ["things", "at"]) (sc := defScope s_does_ascend) (by decide +kernel)) (fun _ _ _ _ _ => (pg_name (i := 1) sc_does_ascend.nd rfl (by first | exact Or.inl rfl | exact Or.inr rfl))) (fun _ _ _ _ _ => pts_nil) (fun _ _ _ _ _ => (pe_cmpR op_lt_str (pe_ix (kIxT (K := K)) (pv 0) (pe_op op_sub (pv 1) pe_int) (fun _ _ => rfl)) (pe_ix (kIxT (K := K)) (pv 0) (pv 1) (fun _ _ => rfl)) (by first | exact nomark _ | rfl)))) pa_nil)))), ?_⟩
    walk_at "st"
    intro D hD
    refine lc_it walk_range (fun i H' => Fr [] H H' ∧ H' D = some (.lst ((List.replicate i true).map V.bl))) ⟨Fr.up hD, upd_same⟩ (fun _ _ _ _ => trivial) ?_ ?_
    · rintro i x H1 H2 hi ⟨f1, e1⟩ ⟨rfl, rfl⟩
      rw [List.length_map] at hi
      have hi1 : i + 1 < ss.length := by omega
      have ha1 := f1.tup _ _ ha
      have h1 : ss[i]? = some ss[i] := List.getElem?_eq_getElem (by omega)
      have h2 : ss[i + 1]? = some ss[i + 1] := List.getElem?_eq_getElem hi1
      have a1 : atI (ss.map V.str) (1 + (i : Int) - 1) = some (.str ss[i]) := by
        rw [show (1 + (i : Int) - 1) = ((i : Nat) : Int) by omega]
        exact atI_nat (by rw [List.getElem?_map, h1]; rfl)
      have a2 : atI (ss.map V.str) (1 + (i : Int)) = some (.str ss[i + 1]) := by
        rw [show (1 + (i : Int)) = ((i + 1 : Nat) : Int) by omega]
        exact atI_nat (by rw [List.getElem?_map, h2]; rfl)
      have lt := hA i _ _ h1 h2
      generalize ss[i] = x at a1 lt
      generalize ss[i + 1] = y at a2 lt
      walk_at "st"
      refine ⟨x, y, rfl, rfl, ?_⟩
      rw [decide_eq_true lt]
      refine ⟨_, e1, line_lt (by simp; omega), f1.wl e1 (.inr hD), ?_⟩
      rw [upd_same, List.replicate_succ', List.map_append]
      rfl
    · rintro H1 ⟨f1, e1⟩
      walk_at "st"
      refine st_all (SqL.of e1) ?_
      rw [show ∀ n, (List.replicate n true).all id = true from fun n => by simp]
      exact k _ f1
end

end K03

namespace K03
open PySem PySem.Spec PyProof.Rows L2 Hq
local macro_rules | `(tactic| walk_at "st1") => `(tactic| first
  | with_reducible refine st_seq ?_ | with_reducible refine st_ret ?_ | with_reducible refine st_ifS ?_ | with_reducible refine st_asg ?_ | with_reducible refine st_drop ?_
  | ((with_reducible refine' st_var ?hv ?_); (case hv => rfl)) | with_reducible refine st_c ?_ | with_reducible refine st_op ?_ | with_reducible refine st_un ?_
  | with_reducible refine st_I0 ?_ | with_reducible refine st_U ?_ | ((with_reducible refine' st_I ?hc ?_); (case hc => walk_at "side"))
  | ((with_reducible refine' st_eq ?hs ?_); (case hs => rfl)) | ((with_reducible refine' st_ne ?hs ?_); (case hs => rfl))
  | with_reducible refine st_test ?_ | with_reducible refine st_B ?_ | with_reducible refine st_bl ?_ | with_reducible refine st_isN ?_ | with_reducible refine st_notN ?_
  | with_reducible refine st_chain ?_ | with_reducible refine st_and ?_ | with_reducible refine st_or ?_ | with_reducible refine st_not ?_
  | with_reducible refine st_andV ?_ | with_reducible refine st_orV ?_ | with_reducible refine st_notV ?_ | with_reducible refine st_if ?_
  | with_reducible refine st_CB ?_ | with_reducible refine st_cons ?_ | with_reducible refine st_nil ?_ | with_reducible refine st_fld ?_
  | ((with_reducible refine st_tup ?_)) | ((with_reducible refine st_lst ?_))
  | with_reducible refine st_call ?_ | with_reducible refine st_meth ?_ | with_reducible refine st_make ?_
  | with_reducible refine st_sl ?_ | with_reducible refine st_noPart ?_ | with_reducible refine st_part ?_ | with_reducible refine st_int ?_
  | ((with_reducible refine' st_ixL ?hq ?he ?_); (case hq => walk_at "sqL"); (case he => walk_at "at"))
  | ((with_reducible refine' st_ixT ?hq ?he ?_); (case hq => walk_at "sqT"); (case he => walk_at "at"))
  | with_reducible refine st_bm ?_ | with_reducible refine st_app ?_
  | ((with_reducible refine' st_append ?hq ?hl ?_); (case hq => walk_at "hp"); (case hl => walk_at "line"))
  | ((with_reducible refine' st_len (n := 0) ?hq ?_); (case hq => first | exact Or.inl (by walk_at "sqL") | exact Or.inr (by walk_at "sqT")))
  | ((with_reducible refine' st_listOf ?hq ?_); (case hq => first | exact Or.inl (by walk_at "sqL") | exact Or.inr (by walk_at "sqT")))
  | ((with_reducible refine st_name ?_); (try dsimp only [List.set_cons_zero, List.set_cons_succ])) | with_reducible refine st_par ?_
  | with_reducible refine st_gcons ?_ | with_reducible refine st_gnil ?_ | with_reducible refine st_gsub ?_ | with_reducible refine st_sFld ?_
  | ((with_reducible refine' st_gtup ?hq ?hl ?_); (case hq => walk_at "sqT"); (case hl => rfl))
  | ((with_reducible refine' st_setL ?hq ?hl ?_); (case hq => walk_at "hp"); (case hl => first | rfl | exact ix0 | exact ixN_nat (by assumption)); (try simp only [Int.reduceToNat, List.set_cons_zero, List.set_cons_succ]))
  | with_reducible refine st_intI ?_ | with_reducible refine st_abs ?_
  | ((with_reducible refine' st_popAt ?hq ?hk ?hy ?_); (case hq => walk_at "hp"); (case hk => exact seq0); (case hy => rfl))
  | ((with_reducible refine' and_left ?ht ?_); (case ht => walk_at "ty"))
  | with_reducible refine st_lc ?_ | with_reducible refine st_for ?_ | with_reducible refine st_iL ?_ | with_reducible refine st_iT ?_ | with_reducible refine st_iR1 ?_ | with_reducible refine st_iR2 ?_ | with_reducible refine st_iZ ?_
  | ((with_reducible refine' st_refL ?hq ?_); (case hq => walk_at "sqL")) | ((with_reducible refine' st_refT ?hq ?_); (case hq => walk_at "sqT"))
  | ((with_reducible refine' st_rng1 ?hq ?_); (case hq => walk_at "side")) | ((with_reducible refine' st_rng2 ?hq ?_); (case hq => walk_at "side"))
  | ((with_reducible refine' st_zip ?hq ?hr ?_); (case hq => walk_at "sqb"); (case hr => walk_at "sqb"))
  | ((with_reducible refine' st_size ?hw ?_); (case hw => walk_at "line"))
  | ((with_reducible refine' st_sum ?hq ?_); (case hq => walk_at "sqL"))
  | with_reducible refine st_two ?_ | with_reducible refine st_yes ?_ | ((with_reducible refine' st_wipe ?hw ?_); (case hw => rfl))
  | ((with_reducible refine' st_slL ?hq ?_); (case hq => walk_at "sqL"))
  | ((with_reducible refine' st_cat ?hq ?hr ?hl ?_); (case hq => walk_at "hp"); (case hr => walk_at "hp"); (case hl => walk_at "line"))
  | ((with_reducible refine' st_isi ?hk ?he ?_); (case hk => walk_at "kd"); (case he => walk_at "kit"))
  | ((with_reducible refine' st_ins ?hq ?hc ?hn ?hl ?_); (case hq => walk_at "hp"); (case hc => with_reducible assumption); (case hn => with_reducible assumption); (case hl => walk_at "flen"); walk_at "puts")
  | ((with_reducible refine' st_att ?hq ?hc ?hn ?hl ?_); (case hq => walk_at "hp"); (case hc => with_reducible assumption); (case hn => with_reducible assumption); (case hl => walk_at "lk"))
  | ((with_reducible refine' st_mt ?hq ?hl ?_); (case hq => walk_at "hp"); (case hl => walk_at "lk"))
  | ((with_reducible refine' st_extend ?hq ?hr ?hl ?_); (case hq => walk_at "hp"); (case hr => walk_at "hp"); (case hl => walk_at "line"))
  | with_reducible refine st_next ?_ | with_reducible refine st_retN ?_ | (with_reducible refine iteNT ?_) | (with_reducible refine iteNF ?_) | (with_reducible refine iteT ?_) | (with_reducible refine iteF ?_))
local macro_rules | `(tactic| walk_at "side") => `(tactic| first | omega | decide | assumption | exact ⟨by omega, by omega⟩ | exact Or.inr ⟨by omega, by omega⟩ | exact Or.inl ⟨by omega, by omega⟩ | (simp only [List.length_map, List.length_cons, List.length_nil, List.length_append] at *; omega))
local macro_rules | `(tactic| walk_at "hp") => `(tactic| first | assumption | exact upd_same | ((with_reducible refine' upd_old ?ho ?hb); (case ho => assumption); (case hb => walk_at "hp")) | (rw [upd_ne (by first | assumption | exact Ne.symm (by assumption))]; walk_at "hp"))
local macro_rules | `(tactic| walk_at "sqL") => `(tactic| first | assumption | exact SqL.of (by walk_at "hp"))
local macro_rules | `(tactic| walk_at "sqT") => `(tactic| first | assumption | exact SqT.of (by walk_at "hp"))
local macro_rules | `(tactic| walk_at "sqb") => `(tactic| (unfold SqB; first | ((with_reducible change SqL _ _ _ _); walk_at "sqL") | ((with_reducible change SqT _ _ _ _); walk_at "sqT")))
local macro_rules | `(tactic| walk_at "line") => `(tactic| first | assumption | decide | (apply line_of; walk_at "side") | (apply line_lt; walk_at "side"))
local macro_rules | `(tactic| walk_at "ty") => `(tactic| ((with_reducible refine' ty_lst ?hq); (case hq => walk_at "hp")))
local macro_rules | `(tactic| walk_at "at") => `(tactic| with_reducible first | assumption | exact at0 | exact at1 | exact at2 | exact at3 | exact at4 | exact at5 | exact at6 | exact at7 | exact at8)
local macro_rules | `(tactic| walk_at "st") => `(tactic| (repeat walk_at "st1"))
local macro_rules | `(tactic| walk_at "lk") => `(tactic| first | with_reducible assumption | rfl)
local macro_rules | `(tactic| walk_at "kd") => `(tactic| first | exact .base (.int _) | exact .base .non | exact .base (.bl _) | exact .base (.str _) | exact .base (.tup (by walk_at "hp")) | exact .base (.lst (by walk_at "hp")) | exact .base (.dK (by walk_at "hp")) | exact .base (.dT (by walk_at "hp")))
local macro_rules | `(tactic| walk_at "kit") => `(tactic| with_reducible first
  | exact kit_NoneType_bool
  | exact kit_NoneType_int
  | exact kit_NoneType_str
  | exact kit_NoneType_tuple
  | exact kit_NoneType_list
  | exact kit_NoneType_dict
  | exact kit_bool_bool
  | exact kit_bool_int
  | exact kit_bool_str
  | exact kit_bool_tuple
  | exact kit_bool_list
  | exact kit_bool_dict
  | exact kit_int_bool
  | exact kit_int_int
  | exact kit_int_str
  | exact kit_int_tuple
  | exact kit_int_list
  | exact kit_int_dict
  | exact kit_str_bool
  | exact kit_str_int
  | exact kit_str_str
  | exact kit_str_tuple
  | exact kit_str_list
  | exact kit_str_dict
  | exact kit_tuple_bool
  | exact kit_tuple_int
  | exact kit_tuple_str
  | exact kit_tuple_tuple
  | exact kit_tuple_list
  | exact kit_tuple_dict
  | exact kit_list_bool
  | exact kit_list_int
  | exact kit_list_str
  | exact kit_list_tuple
  | exact kit_list_list
  | exact kit_list_dict
  | exact kit_dict_bool
  | exact kit_dict_int
  | exact kit_dict_str
  | exact kit_dict_tuple
  | exact kit_dict_list
  | exact kit_dict_dict)
local macro_rules | `(tactic| walk_at "flen") => `(tactic| decide)
local macro_rules | `(tactic| walk_at "puts") => `(tactic| skip)

local macro_rules | `(tactic| walk_at "st1") => `(tactic| first
  | with_reducible refine st_dc ?_ | with_reducible refine st_dgetS ?_ | with_reducible refine st_dinS ?_ | with_reducible refine st_dninS ?_ | with_reducible refine st_dputS ?_ | with_reducible refine st_newT ?_ | with_reducible refine iteNN ?_ | with_reducible refine iteYN ?_
  | ((with_reducible refine' st_getT ?hq ?hk ?hv ?_); (case hq => walk_at "hp"); (case hk => walk_at "key"); (case hv => with_reducible assumption))
  | ((with_reducible refine' st_inT ?hq ?hk ?_); (case hq => walk_at "hp"); (case hk => walk_at "key"))
  | ((with_reducible refine' st_ninT ?hq ?hk ?_); (case hq => walk_at "hp"); (case hk => walk_at "key"))
  | ((with_reducible refine' st_putT ?hq ?hk ?hl ?_); (case hq => walk_at "hp"); (case hk => walk_at "key"); (case hl => walk_at "line"))
  | ((with_reducible refine' st_cputT ?hq ?hk ?hl ?_); (case hq => walk_at "hp"); (case hk => walk_at "key"); (case hl => walk_at "line"))
  | ((with_reducible refine' st_ixB ?hq ?he ?_); (case hq => first | assumption | exact Or.inl (by walk_at "sqL") | exact Or.inr (by walk_at "sqT")); (case he => walk_at "at")))
local macro_rules | `(tactic| walk_at "key") => `(tactic| with_reducible assumption)

section
variable {Z : Ads} {P : Program} {w : World} {K : PySem.W.Frag} {mg : Str → Option Value} {base : Heap}
/-! ### expressions -/
/-- an expression over the names ns, of nesting below n -/
inductive GE (ns : List Str) : Nat → PyData → Prop
  | int {k : Nat} {n : Int} {x : Str} : x = "int" → -(10 : Int) ^ 18 ≤ n → n ≤ (10 : Int) ^ 18 → GE ns (k + 1) (.tuple [.str x, .int n])
  | name {k : Nat} {s x : Str} : x = "name" → s ∈ ns → GE ns (k + 1) (.tuple [.str x, .str s])
  | op {k : Nat} {x : Str} {a b : PyData} : x ∈ opsL → GE ns k a → GE ns k b → GE ns (k + 1) (.tuple [.str x, a, b])
theorem GE.mono {ns : List Str} {k : Nat} {d : PyData} (h : GE ns k d) : ∀ {j : Nat}, k ≤ j → GE ns j d := by
  induction h with
  | int e a b =>
    intro j hj
    obtain ⟨i, rfl⟩ : ∃ i, j = i + 1 := ⟨j - 1, by omega⟩
    exact .int e a b
  | name e a =>
    intro j hj
    obtain ⟨i, rfl⟩ : ∃ i, j = i + 1 := ⟨j - 1, by omega⟩
    exact .name e a
  | op e _ _ ia ib =>
    intro j hj
    obtain ⟨i, rfl⟩ : ∃ i, j = i + 1 := ⟨j - 1, by omega⟩
    exact .op e (ia (by omega)) (ib (by omega))
theorem GE.sub {ns ms : List Str} (hs : ∀ x ∈ ns, x ∈ ms) {k : Nat} {d : PyData} (h : GE ns k d) : GE ms k d := by
  induction h with
  | int e a b => exact .int e a b
  | name e a => exact .name e (hs _ a)
  | op e _ _ ia ib => exact .op e ia ib
theorem ops_ne {x : Str} (h : x ∈ opsL) : x ≠ "int" ∧ x ≠ "name" := by
  simp only [opsL, List.mem_cons, List.not_mem_nil, or_false] at h
  rcases h with rfl | rfl | rfl | rfl | rfl <;> exact ⟨by decide +kernel, by decide +kernel⟩
theorem ops_in {x : Str} (h : x ∈ opsL) : inV (V.str x) (opsL.map V.str) = true := by
  simp only [opsL, List.mem_cons, List.not_mem_nil, or_false] at h
  rcases h with rfl | rfl | rfl | rfl | rfl <;> decide +kernel
theorem ops_flat : (opsL.map V.str).all flatV = true := by decide +kernel
theorem Txt.ops (T : Txt K mg Z) (H : Hp) : SqT K H Z.OPS (opsL.map V.str) := .inr T.opsT
def spExpr (ns : List Str) (n : Nat) : Sp := fun vs H Q _ => ∃ (v : V) (d : PyData), vs = [v, .int (n : Nat)] ∧ TD H v d ∧ GE ns n d ∧ (∀ x ∈ ns, nameOk x = true) ∧ n ≤ 100 ∧ ∀ H', Fr [] H H' → Q (.bl true) H'
abbrev s_is_expression : Stmt := top 28
theorem sc_is_expression : FnScope ["thing", "deep"] ["thing", "deep"] (defScope s_is_expression) := ⟨rfl, rfl, rfl, by decide +kernel, rfl, by decide +kernel, by decide +kernel⟩
theorem step_is_expression {ns : List Str} {f : Addr} {fd : FuncData} (F : Fun K "is_expression" "is_expression" s_is_expression f fd) (T : Txt K mg Z) (D_is_whole : Dn P w K mg base "is_whole" 3 ["thing"] spWhole) (D_is_name : Dn P w K mg base "is_name" 1 ["thing"] spName) (n : Nat)
    (D_is_expression : Dn P w K mg base "is_expression" (3 + n) ["thing", "deep"] (fun vs H Q E => ∃ m, m < n ∧ spExpr ns m vs H Q E)) : FnOk P w K mg base (L2.CX P w) (3 + n + 1) f fd ["thing", "deep"] (spExpr ns n) := by
  refine okN F sc_is_expression (fun vs H Q E h => ?_) (fun cdv A outer s0 H vs Q E hr h => ?_)
  · obtain ⟨v, d, rfl, _⟩ := h
    rfl
  · obtain ⟨v, d, rfl, hv, hG, hns, hn, k⟩ := h
    refine ⟨_, [some _, some _], rfl, (pss_cons (ps_if (PW.pt (pw_or (pt_cmpR op_eq (pv 1) pe_int (by first | exact nomark _ | rfl)) (pw_or (pt_not (pt_val (pe_callB (kIsi (K := K)) (by rfl) T.n_isinstance (by decide +kernel) (pa_cons (pv 0) (pa_cons (pe_ty "tuple" (by rfl) T.n_tuple (by decide +kernel)) pa_nil))))) (pw_or (pt_cmpR op_eq (pe_callB (kLen (K := K)) (by rfl) T.n_len (by decide +kernel) (pa_cons (pv 0) pa_nil)) pe_int (by first | exact nomark _ | rfl)) (pw_or1 (pt_not (pt_val (pe_callB (kIsi (K := K)) (by rfl) T.n_isinstance (by decide +kernel) (pa_cons (pe_ix (kIxT (K := K)) (pv 0) pe_int (fun _ _ => rfl)) (pa_cons (pe_ty "str" (by rfl) T.n_str (by decide +kernel)) pa_nil)))))))))) (pss_one (ps_ret pe_bl)) pss_nil)
      (pss_cons (ps_if (pt_cmpR op_eq (pe_ix (kIxT (K := K)) (pv 0) pe_int (fun _ _ => rfl)) pe_str (by first | exact nomark _ | rfl)) (pss_one (ps_ret (pe_and (pe_cmpR op_eq (pe_callB (kLen (K := K)) (by rfl) T.n_len (by decide +kernel) (pa_cons (pv 0) pa_nil)) pe_int (by first | exact nomark _ | rfl)) (pe_one (pe_d D_is_whole E0 (hr.mono (by first | decide | omega)) (by rfl) passL (pa_cons (pe_ix (kIxT (K := K)) (pv 0) pe_int (fun _ _ => rfl)) pa_nil)))))) pss_nil)
      (pss_cons (ps_if (pt_cmpR op_eq (pe_ix (kIxT (K := K)) (pv 0) pe_int (fun _ _ => rfl)) pe_str (by first | exact nomark _ | rfl)) (pss_one (ps_ret (pe_and (pe_cmpR op_eq (pe_callB (kLen (K := K)) (by rfl) T.n_len (by decide +kernel) (pa_cons (pv 0) pa_nil)) pe_int (by first | exact nomark _ | rfl)) (pe_one (pe_d D_is_name E0 (hr.mono (by first | decide | omega)) (by rfl) passL (pa_cons (pe_ix (kIxT (K := K)) (pv 0) pe_int (fun _ _ => rfl)) pa_nil)))))) pss_nil)
      (pss_cons (ps_if (PW.pt (pw_or (pt_cmpR (kNotIn (K := K)) (pe_ix (kIxT (K := K)) (pv 0) pe_int (fun _ _ => rfl)) (pe_gl (by rfl) T.g_OPS) (by first | exact nomark _ | rfl)) (pw_or1 (pt_cmpR op_ne (pe_callB (kLen (K := K)) (by rfl) T.n_len (by decide +kernel) (pa_cons (pv 0) pa_nil)) pe_int (by first | exact nomark _ | rfl))))) (pss_one (ps_ret pe_bl)) pss_nil)
      (pss_one (ps_ret (pe_and (pe_d D_is_expression E0 (hr.mono (by first | decide | omega)) (by rfl) passL (pa_cons (pe_ix (kIxT (K := K)) (pv 0) pe_int (fun _ _ => rfl)) (pa_cons (pe_op op_sub (pv 1) pe_int) pa_nil))) (pe_one (pe_d D_is_expression E0 (hr.mono (by first | decide | omega)) (by rfl) passL (pa_cons (pe_ix (kIxT (K := K)) (pv 0) pe_int (fun _ _ => rfl)) (pa_cons (pe_op op_sub (pv 1) pe_int) pa_nil))))))))))), ?_⟩
    cases hG with
    | @int j i x hx h1 h2 =>
      cases hv with
      | @tup a zs _ ha hT =>
      cases hT with
      | @cons z1 _ _ _ t1 hT =>
      cases hT with
      | @cons z2 _ _ _ t2 hT =>
      cases hT
      cases t1
      cases t2
      walk_at "st"
      refine iteD (fun h => absurd (V.int.inj h) (by omega)) (fun _ => ?_)
      walk_at "st"
      refine iteD (fun h => absurd (V.int.inj h) (by simp)) (fun _ => ?_)
      walk_at "st"
      refine iteD (fun _ => ?_) (fun h => absurd (by rw [hx]) h)
      walk_at "st"
      refine iteD (fun _ => ?_) (fun h => absurd rfl h)
      walk_at "st"
      exact ⟨_, rfl, h1, h2, k _ (Fr.refl H)⟩
    | @name j s x hx hs =>
      cases hv with
      | @tup a zs _ ha hT =>
      cases hT with
      | @cons z1 _ _ _ t1 hT =>
      cases hT with
      | @cons z2 _ _ _ t2 hT =>
      cases hT
      cases t1
      cases t2
      walk_at "st"
      refine iteD (fun h => absurd (V.int.inj h) (by omega)) (fun _ => ?_)
      walk_at "st"
      refine iteD (fun h => absurd (V.int.inj h) (by simp)) (fun _ => ?_)
      walk_at "st"
      refine iteD (fun h => absurd (hx ▸ V.str.inj h) (by decide +kernel)) (fun _ => ?_)
      walk_at "st"
      refine iteD (fun _ => ?_) (fun h => absurd (by rw [hx]) h)
      walk_at "st"
      refine iteD (fun _ => ?_) (fun h => absurd rfl h)
      walk_at "st"
      exact ⟨_, rfl, hns _ hs, k⟩
    | @op j x a b hx ga gb =>
      have hne := ops_ne hx
      cases hv with
      | @tup a zs _ ha hT =>
      cases hT with
      | @cons z1 _ _ _ t1 hT =>
      cases hT with
      | @cons z2 _ _ _ t2 hT =>
      cases hT with
      | @cons z3 _ _ _ t3 hT =>
      cases hT
      cases t1
      walk_at "st"
      refine iteD (fun h => absurd (V.int.inj h) (by omega)) (fun _ => ?_)
      walk_at "st"
      refine iteD (fun h => absurd (V.int.inj h) (by simp)) (fun _ => ?_)
      walk_at "st"
      refine iteD (fun h => absurd (V.str.inj h) hne.1) (fun _ => ?_)
      walk_at "st"
      refine iteD (fun h => absurd (V.str.inj h) hne.2) (fun _ => ?_)
      walk_at "st"
      refine ⟨Z.OPS, _, rfl, .inr (T.ops H), rfl, ops_flat, ?_⟩
      rw [if_pos rfl, ops_in hx]
      walk_at "st"
      refine iteDN (fun _ => ?_) (fun h => absurd rfl h)
      walk_at "st"
      refine ⟨j, by omega, z2, _, by rw [show ((j + 1 : Nat) : Int) - 1 = (j : Nat) by omega]; rfl, t2, ga, hns, by omega, fun H1 f1 => ?_⟩
      have ha1 := f1.tup _ _ ha
      walk_at "st"
      refine ⟨j, by omega, z3, _, by rw [show ((j + 1 : Nat) : Int) - 1 = (j : Nat) by omega]; rfl, TD.mono f1.tup _ _ t3, gb, hns, by omega, fun H2 f2 => ?_⟩
      exact k _ (f1.trans f2)
def spRight (ns : List Str) : Sp := fun vs H Q _ => ∃ (v : V) (d : PyData), vs = [v] ∧ TD H v d ∧ GE ns 4 d ∧ (∀ x ∈ ns, nameOk x = true) ∧ ∀ H', Fr [] H H' → Q (.bl true) H'
abbrev s_is_right_part : Stmt := top 29
theorem sc_is_right_part : FnScope ["thing"] ["thing"] (defScope s_is_right_part) := ⟨rfl, rfl, rfl, by decide +kernel, rfl, by decide +kernel, by decide +kernel⟩
theorem ok_is_right_part {ns : List Str} {f : Addr} {fd : FuncData} (F : Fun K "is_right_part" "is_right_part" s_is_right_part f fd) (T : Txt K mg Z) (D_is_expression : Dn P w K mg base "is_expression" 8 ["thing", "deep"] (spExpr ns 4)) : FnOk P w K mg base (L2.CX P w) 9 f fd ["thing"] (spRight ns) := by
  refine okN F sc_is_right_part (fun vs H Q E h => ?_) (fun cdv A outer s0 H vs Q E hr h => ?_)
  · obtain ⟨v, d, rfl, _⟩ := h
    rfl
  · obtain ⟨v, d, rfl, hv, hG, hns, k⟩ := h
    refine ⟨_, [some _], rfl, (pss_one (ps_ret (pe_d D_is_expression E0 (hr.mono (by first | decide | omega)) (by rfl) passL (pa_cons (pv 0) (pa_cons (pe_gl (by rfl) T.g_MOST_DEEP) pa_nil))))), ?_⟩
    walk_at "st"
    exact ⟨v, d, rfl, hv, hG, hns, by decide, k⟩
def spRights (ns : List Str) : Sp := fun vs H Q _ => ∃ (v : V) (ds : List PyData) (l m : Int), vs = [v, .int l, .int m] ∧ TD H v (.tuple ds) ∧ (∀ d ∈ ds, GE ns 4 d) ∧ (∀ x ∈ ns, nameOk x = true) ∧ l ≤ ds.length ∧ (ds.length : Int) ≤ m ∧ ds.length ≤ 1000 ∧ ∀ H', Fr [] H H' → Q (.bl true) H'
abbrev s_are_right : Stmt := top 30
theorem sc_are_right : FnScope ["thing", "least", "most", "part"] ["thing", "least", "most"] (defScope s_are_right) := ⟨rfl, rfl, rfl, by decide +kernel, rfl, by decide +kernel, by decide +kernel⟩
theorem ok_are_right {ns : List Str} {f : Addr} {fd : FuncData} (F : Fun K "are_right" "are_right" s_are_right f fd) (T : Txt K mg Z) (D_is_tuple : Dn P w K mg base "is_tuple" 1 ["thing", "least", "most"] spTuple) (D_is_right_part : Dn P w K mg base "is_right_part" 9 ["thing"] (spRight ns)) : FnOk P w K mg base (L2.CX P w) 10 f fd ["thing", "least", "most"] (spRights ns) := by
  refine okN F sc_are_right (fun vs H Q E h => ?_) (fun cdv A outer s0 H vs Q E hr h => ?_)
  · obtain ⟨v, ds, l, m, rfl, _⟩ := h
    rfl
  · obtain ⟨v, ds, l, m, rfl, hv, hG, hns, h1, h2, hl, k⟩ := h
    cases hv with
    | @tup a xs _ ha hT =>
    have hx := hT.length
    refine ⟨_, [some _, some _, some _, none], rfl, (pss_one (ps_ret (pe_and (pe_d D_is_tuple E0 (hr.mono (by first | decide | omega)) (by rfl) passL (pa_cons (pv 0) (pa_cons (pv 1) (pa_cons (pv 2) pa_nil)))) (pe_one (pe_callB (kAll (K := K)) (by rfl) T.n_all (by decide +kernel) (pa_cons (pe_lc (own := [("part", 3)]) (g := (gName 3)) (tt := tYes) rfl sc_are_right.nd (kPiT (K := K) (pv 0)) (blkOk_by (N := ["thing", "least", "most", "part"]) (sc := defScope s_are_right) (by decide +kernel)) (fun _ _ _ _ _ => (pg_name (i := 3) sc_are_right.nd rfl (by first | exact Or.inl rfl | exact Or.inr rfl))) (fun _ _ _ _ _ => pts_nil) (fun _ _ _ _ _ => (pe_d D_is_right_part E0 (hr.mono (by first | decide | omega)) (by rfl) passL (pa_cons (pv 3) pa_nil)))) pa_nil)))))), ?_⟩
    walk_at "st"
    refine ⟨a, xs, l, m, rfl, ha, by omega, ?_⟩
    rw [decide_eq_true (by omega), decide_eq_true (by omega), Bool.and_self]
    walk_at "st"
    intro D hD
    refine lc_it (walk_tup (xs := xs)) (fun i H' => Fr [] H H' ∧ H' D = some (.lst ((List.replicate i true).map V.bl))) ⟨Fr.up hD, upd_same⟩ (fun i H' _ h => SqT.of (h.1.tup _ _ ha)) ?_ ?_
    · rintro i x H1 H2 hi ⟨f1, e1⟩ ⟨rfl, hxi⟩
      obtain ⟨d, hd, td⟩ := TDs.at_ (TDs.mono f1.tup _ _ hT) hxi
      walk_at "st"
      refine ⟨x, d, rfl, td, hG d (List.mem_of_getElem? hd), hns, fun H3 f3 => ?_⟩
      have e3 := f3.same _ _ e1
      refine ⟨_, e3, line_lt (by simp; omega), (f1.trans f3).wl e3 (.inr hD), ?_⟩
      rw [upd_same, List.replicate_succ', List.map_append]
      rfl
    · rintro H1 ⟨f1, e1⟩
      walk_at "st"
      refine st_all (SqL.of e1) ?_
      rw [show ∀ n, (List.replicate n true).all id = true from fun n => by simp]
      exact k _ f1
/-- the names in an expression, in their order -/
def namesE : Nat → PyData → List Str
  | _ + 1, .tuple [.str _, .str s] => [s]
  | n + 1, .tuple [.str _, a, b] => namesE n a ++ namesE n b
  | _, _ => []
theorem namesE_len : ∀ (n : Nat) (d : PyData) (ns : List Str), GE ns n d → (namesE n d).length ≤ 2 ^ n
  | 0, _, _, h => nomatch h
  | n + 1, _, ns, .int _ _ _ => Nat.zero_le _
  | n + 1, _, ns, .name _ _ => by
    show 1 ≤ 2 ^ (n + 1)
    exact Nat.one_le_two_pow
  | n + 1, _, ns, .op (x := x) (a := a) (b := b) _ ga gb => by
    have h1 := namesE_len n a ns ga
    have h2 := namesE_len n b ns gb
    have e : namesE (n + 1) (.tuple [.str x, a, b]) = namesE n a ++ namesE n b := by
      cases a <;> rfl
    rw [e, List.length_append, Nat.pow_succ]
    omega
def spNamesIn (ns : List Str) (n : Nat) : Sp := fun vs H Q _ => ∃ (v : V) (d : PyData), vs = [v] ∧ TD H v d ∧ GE ns n d ∧ n ≤ 10 ∧ ∀ (H' : Hp) (r : Addr), H r = none → H' r = some (.lst ((namesE n d).map V.str)) → Fr [] H H' → Q (.ref r) H'
abbrev s_names_in : Stmt := top 37
theorem sc_names_in : FnScope ["thing"] ["thing"] (defScope s_names_in) := ⟨rfl, rfl, rfl, by decide +kernel, rfl, by decide +kernel, by decide +kernel⟩
theorem step_names_in {ns : List Str} {f : Addr} {fd : FuncData} (F : Fun K "names_in" "names_in" s_names_in f fd) (T : Txt K mg Z) (n : Nat)
    (D_names_in : Dn P w K mg base "names_in" (0 + n) ["thing"] (fun vs H Q E => ∃ m, m < n ∧ spNamesIn ns m vs H Q E)) : FnOk P w K mg base (L2.CX P w) (0 + n + 1) f fd ["thing"] (spNamesIn ns n) := by
  refine okN F sc_names_in (fun vs H Q E h => ?_) (fun cdv A outer s0 H vs Q E hr h => ?_)
  · obtain ⟨v, d, rfl, _⟩ := h
    rfl
  · obtain ⟨v, d, rfl, hv, hG, hn, k⟩ := h
    refine ⟨_, [some _], rfl, (pss_cons (ps_if (pt_cmpR op_eq (pe_ix (kIxT (K := K)) (pv 0) pe_int (fun _ _ => rfl)) pe_str (by first | exact nomark _ | rfl)) (pss_one (ps_ret (pe_lst (pa_cons (pe_ix (kIxT (K := K)) (pv 0) pe_int (fun _ _ => rfl)) pa_nil)))) pss_nil)
      (pss_one (ps_ret (pe_ifExp (pt_cmpR (kIn (K := K)) (pe_ix (kIxT (K := K)) (pv 0) pe_int (fun _ _ => rfl)) (pe_gl (by rfl) T.g_OPS) (by first | exact nomark _ | rfl)) (pe_op op_cat (pe_d D_names_in E0 (hr.mono (by first | decide | omega)) (by rfl) passL (pa_cons (pe_ix (kIxT (K := K)) (pv 0) pe_int (fun _ _ => rfl)) pa_nil)) (pe_d D_names_in E0 (hr.mono (by first | decide | omega)) (by rfl) passL (pa_cons (pe_ix (kIxT (K := K)) (pv 0) pe_int (fun _ _ => rfl)) pa_nil))) (pe_lst pa_nil))))), ?_⟩
    cases hG with
    | @int j i x hx h1 h2 =>
      cases hv with
      | @tup a zs _ ha hT =>
      cases hT with
      | @cons z1 _ _ _ t1 hT =>
      cases hT with
      | @cons z2 _ _ _ t2 hT =>
      cases hT
      cases t1
      cases t2
      walk_at "st"
      refine iteD (fun h => absurd (hx ▸ V.str.inj h) (by decide +kernel)) (fun _ => ?_)
      walk_at "st"
      refine ⟨Z.OPS, _, rfl, .inr (T.ops H), rfl, ops_flat, ?_⟩
      rw [if_neg Bool.false_ne_true, show inV (V.str x) (opsL.map V.str) = false by rw [hx]; decide +kernel]
      walk_at "st"
      intro u hu
      exact k _ u hu upd_same (Fr.up hu)
    | @name j s x hx hs =>
      cases hv with
      | @tup a zs _ ha hT =>
      cases hT with
      | @cons z1 _ _ _ t1 hT =>
      cases hT with
      | @cons z2 _ _ _ t2 hT =>
      cases hT
      cases t1
      cases t2
      walk_at "st"
      refine iteD (fun _ => ?_) (fun h => absurd (by rw [hx]) h)
      walk_at "st"
      intro u hu
      exact k _ u hu upd_same (Fr.up hu)
    | @op j x a b hx ga gb =>
      have hne := ops_ne hx
      have l1 := namesE_len _ _ _ ga
      have l2 := namesE_len _ _ _ gb
      have lj : 2 ^ j ≤ 2 ^ 10 := Nat.pow_le_pow_right (by decide) (by omega)
      have e : namesE (j + 1) (.tuple [.str x, a, b]) = namesE j a ++ namesE j b := by
        cases a <;> rfl
      rw [e] at k
      cases hv with
      | @tup a' zs _ ha hT =>
      cases hT with
      | @cons z1 _ _ _ t1 hT =>
      cases hT with
      | @cons z2 _ _ _ t2 hT =>
      cases hT with
      | @cons z3 _ _ _ t3 hT =>
      cases hT
      cases t1
      walk_at "st"
      refine iteD (fun h => absurd (V.str.inj h) hne.2) (fun _ => ?_)
      walk_at "st"
      refine ⟨Z.OPS, _, rfl, .inr (T.ops H), rfl, ops_flat, ?_⟩
      rw [if_neg Bool.false_ne_true, ops_in hx]
      walk_at "st"
      refine ⟨j, by omega, z2, _, rfl, t2, ga, by omega, fun H1 r1 hr10 hr1 f1 => ?_⟩
      have ha1 := f1.tup _ _ ha
      walk_at "st"
      refine ⟨j, by omega, z3, _, rfl, TD.mono f1.tup _ _ t3, gb, by omega, fun H2 r2 hr20 hr2 f2 => ?_⟩
      have hr1' := f2.same _ _ hr1
      generalize ex : namesE j a = xs at *
      generalize ey : namesE j b = ys at *
      have hz : (xs.map V.str).length + (ys.map V.str).length ≤ 100000 := by
        rw [List.length_map, List.length_map]
        have : (2 : Nat) ^ 10 = 1024 := rfl
        omega
      walk_at "st"
      intro u hu
      rw [← List.map_append]
      exact k _ u ((f1.trans f2).free hu) upd_same ((f1.trans f2).new hu)
end

end K03

namespace K03
open PySem PySem.Spec PyProof.Rows L2 Hq
local macro_rules | `(tactic| walk_at "st1") => `(tactic| first
  | with_reducible refine st_seq ?_ | with_reducible refine st_ret ?_ | with_reducible refine st_ifS ?_ | with_reducible refine st_asg ?_ | with_reducible refine st_drop ?_
  | ((with_reducible refine' st_var ?hv ?_); (case hv => rfl)) | with_reducible refine st_c ?_ | with_reducible refine st_op ?_ | with_reducible refine st_un ?_
  | with_reducible refine st_I0 ?_ | with_reducible refine st_U ?_ | ((with_reducible refine' st_I ?hc ?_); (case hc => walk_at "side"))
  | ((with_reducible refine' st_eq ?hs ?_); (case hs => rfl)) | ((with_reducible refine' st_ne ?hs ?_); (case hs => rfl))
  | with_reducible refine st_test ?_ | with_reducible refine st_B ?_ | with_reducible refine st_bl ?_ | with_reducible refine st_isN ?_ | with_reducible refine st_notN ?_
  | with_reducible refine st_chain ?_ | with_reducible refine st_and ?_ | with_reducible refine st_or ?_ | with_reducible refine st_not ?_
  | with_reducible refine st_andV ?_ | with_reducible refine st_orV ?_ | with_reducible refine st_notV ?_ | with_reducible refine st_if ?_
  | with_reducible refine st_CB ?_ | with_reducible refine st_cons ?_ | with_reducible refine st_nil ?_ | with_reducible refine st_fld ?_
  | ((with_reducible refine st_tup ?_)) | ((with_reducible refine st_lst ?_))
  | with_reducible refine st_call ?_ | with_reducible refine st_meth ?_ | with_reducible refine st_make ?_
  | with_reducible refine st_sl ?_ | with_reducible refine st_noPart ?_ | with_reducible refine st_part ?_ | with_reducible refine st_int ?_
  | ((with_reducible refine' st_ixL ?hq ?he ?_); (case hq => walk_at "sqL"); (case he => walk_at "at"))
  | ((with_reducible refine' st_ixT ?hq ?he ?_); (case hq => walk_at "sqT"); (case he => walk_at "at"))
  | with_reducible refine st_bm ?_ | with_reducible refine st_app ?_
  | ((with_reducible refine' st_append ?hq ?hl ?_); (case hq => walk_at "hp"); (case hl => walk_at "line"))
  | ((with_reducible refine' st_len (n := 0) ?hq ?_); (case hq => first | exact Or.inl (by walk_at "sqL") | exact Or.inr (by walk_at "sqT")))
  | ((with_reducible refine' st_listOf ?hq ?_); (case hq => first | exact Or.inl (by walk_at "sqL") | exact Or.inr (by walk_at "sqT")))
  | ((with_reducible refine st_name ?_); (try dsimp only [List.set_cons_zero, List.set_cons_succ])) | with_reducible refine st_par ?_
  | with_reducible refine st_gcons ?_ | with_reducible refine st_gnil ?_ | with_reducible refine st_gsub ?_ | with_reducible refine st_sFld ?_
  | ((with_reducible refine' st_gtup ?hq ?hl ?_); (case hq => walk_at "sqT"); (case hl => rfl))
  | ((with_reducible refine' st_setL ?hq ?hl ?_); (case hq => walk_at "hp"); (case hl => first | rfl | exact ix0 | exact ixN_nat (by assumption)); (try simp only [Int.reduceToNat, List.set_cons_zero, List.set_cons_succ]))
  | with_reducible refine st_intI ?_ | with_reducible refine st_abs ?_
  | ((with_reducible refine' st_popAt ?hq ?hk ?hy ?_); (case hq => walk_at "hp"); (case hk => exact seq0); (case hy => rfl))
  | ((with_reducible refine' and_left ?ht ?_); (case ht => walk_at "ty"))
  | with_reducible refine st_lc ?_ | with_reducible refine st_for ?_ | with_reducible refine st_iL ?_ | with_reducible refine st_iT ?_ | with_reducible refine st_iR1 ?_ | with_reducible refine st_iR2 ?_ | with_reducible refine st_iZ ?_
  | ((with_reducible refine' st_refL ?hq ?_); (case hq => walk_at "sqL")) | ((with_reducible refine' st_refT ?hq ?_); (case hq => walk_at "sqT"))
  | ((with_reducible refine' st_rng1 ?hq ?_); (case hq => walk_at "side")) | ((with_reducible refine' st_rng2 ?hq ?_); (case hq => walk_at "side"))
  | ((with_reducible refine' st_zip ?hq ?hr ?_); (case hq => walk_at "sqb"); (case hr => walk_at "sqb"))
  | ((with_reducible refine' st_size ?hw ?_); (case hw => walk_at "line"))
  | ((with_reducible refine' st_sum ?hq ?_); (case hq => walk_at "sqL"))
  | with_reducible refine st_two ?_ | with_reducible refine st_yes ?_ | ((with_reducible refine' st_wipe ?hw ?_); (case hw => rfl))
  | ((with_reducible refine' st_slL ?hq ?_); (case hq => walk_at "sqL"))
  | ((with_reducible refine' st_cat ?hq ?hr ?hl ?_); (case hq => walk_at "hp"); (case hr => walk_at "hp"); (case hl => walk_at "line"))
  | ((with_reducible refine' st_isi ?hk ?he ?_); (case hk => walk_at "kd"); (case he => walk_at "kit"))
  | ((with_reducible refine' st_ins ?hq ?hc ?hn ?hl ?_); (case hq => walk_at "hp"); (case hc => with_reducible assumption); (case hn => with_reducible assumption); (case hl => walk_at "flen"); walk_at "puts")
  | ((with_reducible refine' st_att ?hq ?hc ?hn ?hl ?_); (case hq => walk_at "hp"); (case hc => with_reducible assumption); (case hn => with_reducible assumption); (case hl => walk_at "lk"))
  | ((with_reducible refine' st_mt ?hq ?hl ?_); (case hq => walk_at "hp"); (case hl => walk_at "lk"))
  | ((with_reducible refine' st_extend ?hq ?hr ?hl ?_); (case hq => walk_at "hp"); (case hr => walk_at "hp"); (case hl => walk_at "line"))
  | with_reducible refine st_next ?_ | with_reducible refine st_retN ?_ | (with_reducible refine iteNT ?_) | (with_reducible refine iteNF ?_) | (with_reducible refine iteT ?_) | (with_reducible refine iteF ?_))
local macro_rules | `(tactic| walk_at "side") => `(tactic| first | omega | decide | assumption | exact ⟨by omega, by omega⟩ | exact Or.inr ⟨by omega, by omega⟩ | exact Or.inl ⟨by omega, by omega⟩ | (simp only [List.length_map, List.length_cons, List.length_nil, List.length_append] at *; omega))
local macro_rules | `(tactic| walk_at "hp") => `(tactic| first | assumption | exact upd_same | ((with_reducible refine' upd_old ?ho ?hb); (case ho => assumption); (case hb => walk_at "hp")) | (rw [upd_ne (by first | assumption | exact Ne.symm (by assumption))]; walk_at "hp"))
local macro_rules | `(tactic| walk_at "sqL") => `(tactic| first | assumption | exact SqL.of (by walk_at "hp"))
local macro_rules | `(tactic| walk_at "sqT") => `(tactic| first | assumption | exact SqT.of (by walk_at "hp"))
local macro_rules | `(tactic| walk_at "sqb") => `(tactic| (unfold SqB; first | ((with_reducible change SqL _ _ _ _); walk_at "sqL") | ((with_reducible change SqT _ _ _ _); walk_at "sqT")))
local macro_rules | `(tactic| walk_at "line") => `(tactic| first | assumption | decide | (apply line_of; walk_at "side") | (apply line_lt; walk_at "side"))
local macro_rules | `(tactic| walk_at "ty") => `(tactic| ((with_reducible refine' ty_lst ?hq); (case hq => walk_at "hp")))
local macro_rules | `(tactic| walk_at "at") => `(tactic| with_reducible first | assumption | exact at0 | exact at1 | exact at2 | exact at3 | exact at4 | exact at5 | exact at6 | exact at7 | exact at8)
local macro_rules | `(tactic| walk_at "st") => `(tactic| (repeat walk_at "st1"))
local macro_rules | `(tactic| walk_at "lk") => `(tactic| first | with_reducible assumption | rfl)
local macro_rules | `(tactic| walk_at "kd") => `(tactic| first | exact .base (.int _) | exact .base .non | exact .base (.bl _) | exact .base (.str _) | exact .base (.tup (by walk_at "hp")) | exact .base (.lst (by walk_at "hp")) | exact .base (.dK (by walk_at "hp")) | exact .base (.dT (by walk_at "hp")))
local macro_rules | `(tactic| walk_at "kit") => `(tactic| with_reducible first
  | exact kit_NoneType_bool
  | exact kit_NoneType_int
  | exact kit_NoneType_str
  | exact kit_NoneType_tuple
  | exact kit_NoneType_list
  | exact kit_NoneType_dict
  | exact kit_bool_bool
  | exact kit_bool_int
  | exact kit_bool_str
  | exact kit_bool_tuple
  | exact kit_bool_list
  | exact kit_bool_dict
  | exact kit_int_bool
  | exact kit_int_int
  | exact kit_int_str
  | exact kit_int_tuple
  | exact kit_int_list
  | exact kit_int_dict
  | exact kit_str_bool
  | exact kit_str_int
  | exact kit_str_str
  | exact kit_str_tuple
  | exact kit_str_list
  | exact kit_str_dict
  | exact kit_tuple_bool
  | exact kit_tuple_int
  | exact kit_tuple_str
  | exact kit_tuple_tuple
  | exact kit_tuple_list
  | exact kit_tuple_dict
  | exact kit_list_bool
  | exact kit_list_int
  | exact kit_list_str
  | exact kit_list_tuple
  | exact kit_list_list
  | exact kit_list_dict
  | exact kit_dict_bool
  | exact kit_dict_int
  | exact kit_dict_str
  | exact kit_dict_tuple
  | exact kit_dict_list
  | exact kit_dict_dict)
local macro_rules | `(tactic| walk_at "flen") => `(tactic| decide)
local macro_rules | `(tactic| walk_at "puts") => `(tactic| skip)

local macro_rules | `(tactic| walk_at "st1") => `(tactic| first
  | with_reducible refine st_dc ?_ | with_reducible refine st_dgetS ?_ | with_reducible refine st_dinS ?_ | with_reducible refine st_dninS ?_ | with_reducible refine st_dputS ?_ | with_reducible refine st_newT ?_ | with_reducible refine iteNN ?_ | with_reducible refine iteYN ?_
  | ((with_reducible refine' st_getT ?hq ?hk ?hv ?_); (case hq => walk_at "hp"); (case hk => walk_at "key"); (case hv => with_reducible assumption))
  | ((with_reducible refine' st_inT ?hq ?hk ?_); (case hq => walk_at "hp"); (case hk => walk_at "key"))
  | ((with_reducible refine' st_ninT ?hq ?hk ?_); (case hq => walk_at "hp"); (case hk => walk_at "key"))
  | ((with_reducible refine' st_putT ?hq ?hk ?hl ?_); (case hq => walk_at "hp"); (case hk => walk_at "key"); (case hl => walk_at "line"))
  | ((with_reducible refine' st_cputT ?hq ?hk ?hl ?_); (case hq => walk_at "hp"); (case hk => walk_at "key"); (case hl => walk_at "line"))
  | ((with_reducible refine' st_ixB ?hq ?he ?_); (case hq => first | assumption | exact Or.inl (by walk_at "sqL") | exact Or.inr (by walk_at "sqT")); (case he => walk_at "at")))
local macro_rules | `(tactic| walk_at "key") => `(tactic| with_reducible assumption)

section
variable {Z : Ads} {P : Program} {w : World} {K : PySem.W.Frag} {mg : Str → Option Value} {base : Heap}
/-! ### statements -/
/-- a statement without blocks: names ns, tables ts, functions os with their many params -/
inductive GP (ns ts : List Str) (os : List (Str × Nat)) : PyData → Prop
  | let_ {x s : Str} {e : PyData} : (x = "let" ∨ x = "wait") → s ∈ ns → GE ns 4 e → GP ns ts os (.tuple [.str x, .str s, e])
  | make {x s : Str} {es : List PyData} : x = "make" → s ∈ ns → 1 ≤ es.length → es.length ≤ 4 → (∀ e ∈ es, GE ns 4 e) → GP ns ts os (.tuple [.str x, .str s, .tuple es])
  | get {x s : Str} {e : PyData} {i : Int} : x = "get" → s ∈ ns → GE ns 4 e → 0 ≤ i → i ≤ 3 → GP ns ts os (.tuple [.str x, .str s, e, .int i])
  | put {x : Str} {e e' : PyData} {i : Int} : x = "put" → GE ns 4 e → 0 ≤ i → i ≤ 3 → GE ns 4 e' → GP ns ts os (.tuple [.str x, e, .int i, e'])
  | read {x s t : Str} : x = "read" → s ∈ ns → t ∈ ts → GP ns ts os (.tuple [.str x, .str s, .str t])
  | write {x t : Str} {e : PyData} : x = "write" → t ∈ ts → GE ns 4 e → GP ns ts os (.tuple [.str x, .str t, e])
  | call {x s f : Str} {es : List PyData} : x = "call" → s ∈ ns → (f, es.length) ∈ os → es.length ≤ 4 → (∀ e ∈ es, GE ns 4 e) → GP ns ts os (.tuple [.str x, .str s, .str f, .tuple es])
  | end_ {x : Str} {e : PyData} : x = "end" → GE ns 4 e → GP ns ts os (.tuple [.str x, e])
/-- all names are names -/
structure Nms (ns ts : List Str) (os : List (Str × Nat)) : Prop where
  n : ∀ x ∈ ns, nameOk x = true
  t : ∀ x ∈ ts, nameOk x = true
  o : ∀ p ∈ os, nameOk p.1 = true
def spPlain (ns ts : List Str) (os : List (Str × Nat)) : Sp := fun vs H Q _ => ∃ (v : V) (d : PyData), vs = [v] ∧ TD H v d ∧ GP ns ts os d ∧ ∀ H', Fr [] H H' → Q (.bl true) H'
theorem str_ne {x a b : Str} (hx : x = a) (h : a ≠ b) : ¬ x = b := hx ▸ h
abbrev s_is_plain_statement : Stmt := top 31
theorem sc_is_plain_statement : FnScope ["thing", "word"] ["thing"] (defScope s_is_plain_statement) := ⟨rfl, rfl, rfl, by decide +kernel, rfl, by decide +kernel, by decide +kernel⟩
theorem ok_is_plain_statement {ns ts : List Str} {os : List (Str × Nat)} {f : Addr} {fd : FuncData} (F : Fun K "is_plain_statement" "is_plain_statement" s_is_plain_statement f fd) (T : Txt K mg Z) (N : Nms ns ts os) (D_is_name : Dn P w K mg base "is_name" 1 ["thing"] spName) (D_is_between : Dn P w K mg base "is_between" 2 ["thing", "least", "most"] spBetween)
    (D_is_right_part : Dn P w K mg base "is_right_part" 9 ["thing"] (spRight ns)) (D_are_right : Dn P w K mg base "are_right" 10 ["thing", "least", "most"] (spRights ns)) : FnOk P w K mg base (L2.CX P w) 11 f fd ["thing"] (spPlain ns ts os) := by
  refine okN F sc_is_plain_statement (fun vs H Q E h => ?_) (fun cdv A outer s0 H vs Q E hr h => ?_)
  · obtain ⟨v, d, rfl, _⟩ := h
    rfl
  · obtain ⟨v, d, rfl, hv, hG, k⟩ := h
    refine ⟨_, [some _, none], rfl, (pss_cons (ps_set (i := 1) sc_is_plain_statement.nd rfl (by first | exact Or.inl rfl | exact Or.inr rfl) (pe_ix (kIxT (K := K)) (pv 0) pe_int (fun _ _ => rfl)))
      (pss_cons (ps_if (PW.pt (pw_or (pt_cmpR op_eq (pv 1) pe_str (by first | exact nomark _ | rfl)) (pw_or1 (pt_cmpR op_eq (pv 1) pe_str (by first | exact nomark _ | rfl))))) (pss_one (ps_ret (pe_and (pe_d D_is_name E0 (hr.mono (by first | decide | omega)) (by rfl) passL (pa_cons (pe_ix (kIxT (K := K)) (pv 0) pe_int (fun _ _ => rfl)) pa_nil)) (pe_one (pe_d D_is_right_part E0 (hr.mono (by first | decide | omega)) (by rfl) passL (pa_cons (pe_ix (kIxT (K := K)) (pv 0) pe_int (fun _ _ => rfl)) pa_nil)))))) pss_nil)
      (pss_cons (ps_if (pt_cmpR op_eq (pv 1) pe_str (by first | exact nomark _ | rfl)) (pss_one (ps_ret (pe_and (pe_d D_is_name E0 (hr.mono (by first | decide | omega)) (by rfl) passL (pa_cons (pe_ix (kIxT (K := K)) (pv 0) pe_int (fun _ _ => rfl)) pa_nil)) (pe_one (pe_d D_are_right E0 (hr.mono (by first | decide | omega)) (by rfl) passL (pa_cons (pe_ix (kIxT (K := K)) (pv 0) pe_int (fun _ _ => rfl)) (pa_cons pe_int (pa_cons (pe_gl (by rfl) T.g_MOST_FIELDS) pa_nil)))))))) pss_nil)
      (pss_cons (ps_if (pt_cmpR op_eq (pv 1) pe_str (by first | exact nomark _ | rfl)) (pss_one (ps_ret (pe_and (pe_d D_is_name E0 (hr.mono (by first | decide | omega)) (by rfl) passL (pa_cons (pe_ix (kIxT (K := K)) (pv 0) pe_int (fun _ _ => rfl)) pa_nil)) (pe_and (pe_d D_is_right_part E0 (hr.mono (by first | decide | omega)) (by rfl) passL (pa_cons (pe_ix (kIxT (K := K)) (pv 0) pe_int (fun _ _ => rfl)) pa_nil)) (pe_one (pe_d D_is_between E0 (hr.mono (by first | decide | omega)) (by rfl) passL (pa_cons (pe_ix (kIxT (K := K)) (pv 0) pe_int (fun _ _ => rfl)) (pa_cons pe_int (pa_cons (pe_op op_sub (pe_gl (by rfl) T.g_MOST_FIELDS) pe_int) pa_nil))))))))) pss_nil)
      (pss_cons (ps_if (pt_cmpR op_eq (pv 1) pe_str (by first | exact nomark _ | rfl)) (pss_one (ps_ret (pe_and (pe_d D_is_right_part E0 (hr.mono (by first | decide | omega)) (by rfl) passL (pa_cons (pe_ix (kIxT (K := K)) (pv 0) pe_int (fun _ _ => rfl)) pa_nil)) (pe_and (pe_d D_is_between E0 (hr.mono (by first | decide | omega)) (by rfl) passL (pa_cons (pe_ix (kIxT (K := K)) (pv 0) pe_int (fun _ _ => rfl)) (pa_cons pe_int (pa_cons (pe_op op_sub (pe_gl (by rfl) T.g_MOST_FIELDS) pe_int) pa_nil)))) (pe_one (pe_d D_is_right_part E0 (hr.mono (by first | decide | omega)) (by rfl) passL (pa_cons (pe_ix (kIxT (K := K)) (pv 0) pe_int (fun _ _ => rfl)) pa_nil))))))) pss_nil)
      (pss_cons (ps_if (pt_cmpR op_eq (pv 1) pe_str (by first | exact nomark _ | rfl)) (pss_one (ps_ret (pe_and (pe_d D_is_name E0 (hr.mono (by first | decide | omega)) (by rfl) passL (pa_cons (pe_ix (kIxT (K := K)) (pv 0) pe_int (fun _ _ => rfl)) pa_nil)) (pe_one (pe_d D_is_name E0 (hr.mono (by first | decide | omega)) (by rfl) passL (pa_cons (pe_ix (kIxT (K := K)) (pv 0) pe_int (fun _ _ => rfl)) pa_nil)))))) pss_nil)
      (pss_cons (ps_if (pt_cmpR op_eq (pv 1) pe_str (by first | exact nomark _ | rfl)) (pss_one (ps_ret (pe_and (pe_d D_is_name E0 (hr.mono (by first | decide | omega)) (by rfl) passL (pa_cons (pe_ix (kIxT (K := K)) (pv 0) pe_int (fun _ _ => rfl)) pa_nil)) (pe_one (pe_d D_is_right_part E0 (hr.mono (by first | decide | omega)) (by rfl) passL (pa_cons (pe_ix (kIxT (K := K)) (pv 0) pe_int (fun _ _ => rfl)) pa_nil)))))) pss_nil)
      (pss_cons (ps_if (pt_cmpR op_eq (pv 1) pe_str (by first | exact nomark _ | rfl)) (pss_one (ps_ret (pe_and (pe_d D_is_name E0 (hr.mono (by first | decide | omega)) (by rfl) passL (pa_cons (pe_ix (kIxT (K := K)) (pv 0) pe_int (fun _ _ => rfl)) pa_nil)) (pe_and (pe_d D_is_name E0 (hr.mono (by first | decide | omega)) (by rfl) passL (pa_cons (pe_ix (kIxT (K := K)) (pv 0) pe_int (fun _ _ => rfl)) pa_nil)) (pe_one (pe_d D_are_right E0 (hr.mono (by first | decide | omega)) (by rfl) passL (pa_cons (pe_ix (kIxT (K := K)) (pv 0) pe_int (fun _ _ => rfl)) (pa_cons pe_int (pa_cons (pe_gl (by rfl) T.g_MOST_PARAMS) pa_nil))))))))) pss_nil)
      (pss_one (ps_ret (pe_and (pe_cmpR op_eq (pv 1) pe_str (by first | exact nomark _ | rfl)) (pe_one (pe_d D_is_right_part E0 (hr.mono (by first | decide | omega)) (by rfl) passL (pa_cons (pe_ix (kIxT (K := K)) (pv 0) pe_int (fun _ _ => rfl)) pa_nil)))))))))))))), ?_⟩
    cases hG with
    | @let_ x s e hx hs ge =>
      cases hv with
      | @tup a zs _ ha hT =>
      cases hT with
      | @cons z1 _ _ _ t1 hT =>
      cases hT with
      | @cons z2 _ _ _ t2 hT =>
      cases hT with
      | @cons z3 _ _ _ t3 hT =>
      cases hT
      cases t1
      cases t2
      have rest : tAndV (tCall spName [] E0 (tCons (tOp (rIxT K) (tVar 0) (tC (V.int 1))) tNil)) (tCall (spRight ns) [] E0 (tCons (tOp (rIxT K) (tVar 0) (tC (V.int 2))) tNil)) [some (V.ref a), some (V.str x)] H Q := by
        walk_at "st"
        refine ⟨s, rfl, N.n _ hs, fun H1 f1 => ?_⟩
        have ha1 := f1.tup _ _ ha
        walk_at "st"
        exact ⟨z3, e, rfl, TD.mono f1.tup _ _ t3, ge, N.n, fun H2 f2 => k _ (f1.trans f2)⟩
      rcases hx with hx | hx
      · walk_at "st"
        refine iteD (fun _ => ?_) (fun h => absurd (by rw [hx]) h)
        exact rest
      · walk_at "st"
        refine iteD (fun h => absurd (V.str.inj h) (str_ne hx (by decide +kernel))) (fun _ => ?_)
        walk_at "st"
        refine iteD (fun _ => ?_) (fun h => absurd (by rw [hx]) h)
        exact rest
    | @make x s es hx hs h1 h4 ge =>
      cases hv with
      | @tup a zs _ ha hT =>
      cases hT with
      | @cons z1 _ _ _ t1 hT =>
      cases hT with
      | @cons z2 _ _ _ t2 hT =>
      cases hT with
      | @cons z3 _ _ _ t3 hT =>
      cases hT
      cases t1
      cases t2
      walk_at "st"
      refine iteD (fun h => absurd (V.str.inj h) (str_ne hx (by decide +kernel))) (fun _ => ?_)
      walk_at "st"
      refine iteD (fun h => absurd (V.str.inj h) (str_ne hx (by decide +kernel))) (fun _ => ?_)
      walk_at "st"
      refine iteD (fun _ => ?_) (fun h => absurd (by rw [hx]) h)
      walk_at "st"
      refine ⟨s, rfl, N.n _ hs, fun H1 f1 => ?_⟩
      have ha1 := f1.tup _ _ ha
      walk_at "st"
      exact ⟨z3, es, 1, 4, rfl, TD.mono f1.tup _ _ t3, ge, N.n, by omega, by omega, by omega, fun H2 f2 => k _ (f1.trans f2)⟩
    | @get x s e i hx hs ge h0 h3 =>
      cases hv with
      | @tup a zs _ ha hT =>
      cases hT with
      | @cons z1 _ _ _ t1 hT =>
      cases hT with
      | @cons z2 _ _ _ t2 hT =>
      cases hT with
      | @cons z3 _ _ _ t3 hT =>
      cases hT with
      | @cons z4 _ _ _ t4 hT =>
      cases hT
      cases t1
      cases t2
      cases t4
      walk_at "st"
      refine iteD (fun h => absurd (V.str.inj h) (str_ne hx (by decide +kernel))) (fun _ => ?_)
      walk_at "st"
      refine iteD (fun h => absurd (V.str.inj h) (str_ne hx (by decide +kernel))) (fun _ => ?_)
      walk_at "st"
      refine iteD (fun h => absurd (V.str.inj h) (str_ne hx (by decide +kernel))) (fun _ => ?_)
      walk_at "st"
      refine iteD (fun _ => ?_) (fun h => absurd (by rw [hx]) h)
      walk_at "st"
      refine ⟨s, rfl, N.n _ hs, fun H1 f1 => ?_⟩
      have ha1 := f1.tup _ _ ha
      walk_at "st"
      refine ⟨z3, e, rfl, TD.mono f1.tup _ _ t3, ge, N.n, fun H2 f2 => ?_⟩
      have ha2 := f2.tup _ _ ha1
      walk_at "st"
      refine ⟨i, 0, _, rfl, ?_⟩
      rw [decide_eq_true h0, decide_eq_true (show i ≤ 4 - 1 by omega)]
      exact k _ (f1.trans f2)
    | @put x e e' i hx ge h0 h3 ge' =>
      cases hv with
      | @tup a zs _ ha hT =>
      cases hT with
      | @cons z1 _ _ _ t1 hT =>
      cases hT with
      | @cons z2 _ _ _ t2 hT =>
      cases hT with
      | @cons z3 _ _ _ t3 hT =>
      cases hT with
      | @cons z4 _ _ _ t4 hT =>
      cases hT
      cases t1
      cases t3
      walk_at "st"
      refine iteD (fun h => absurd (V.str.inj h) (str_ne hx (by decide +kernel))) (fun _ => ?_)
      walk_at "st"
      refine iteD (fun h => absurd (V.str.inj h) (str_ne hx (by decide +kernel))) (fun _ => ?_)
      walk_at "st"
      refine iteD (fun h => absurd (V.str.inj h) (str_ne hx (by decide +kernel))) (fun _ => ?_)
      walk_at "st"
      refine iteD (fun h => absurd (V.str.inj h) (str_ne hx (by decide +kernel))) (fun _ => ?_)
      walk_at "st"
      refine iteD (fun _ => ?_) (fun h => absurd (by rw [hx]) h)
      walk_at "st"
      refine ⟨z2, e, rfl, t2, ge, N.n, fun H1 f1 => ?_⟩
      have ha1 := f1.tup _ _ ha
      walk_at "st"
      refine ⟨i, 0, _, rfl, ?_⟩
      rw [decide_eq_true h0, decide_eq_true (show i ≤ 4 - 1 by omega), Bool.and_self]
      walk_at "st"
      exact ⟨z4, e', rfl, TD.mono f1.tup _ _ t4, ge', N.n, fun H2 f2 => k _ (f1.trans f2)⟩
    | @read x s t hx hs ht =>
      cases hv with
      | @tup a zs _ ha hT =>
      cases hT with
      | @cons z1 _ _ _ t1 hT =>
      cases hT with
      | @cons z2 _ _ _ t2 hT =>
      cases hT with
      | @cons z3 _ _ _ t3 hT =>
      cases hT
      cases t1
      cases t2
      cases t3
      walk_at "st"
      refine iteD (fun h => absurd (V.str.inj h) (str_ne hx (by decide +kernel))) (fun _ => ?_)
      walk_at "st"
      refine iteD (fun h => absurd (V.str.inj h) (str_ne hx (by decide +kernel))) (fun _ => ?_)
      walk_at "st"
      refine iteD (fun h => absurd (V.str.inj h) (str_ne hx (by decide +kernel))) (fun _ => ?_)
      walk_at "st"
      refine iteD (fun h => absurd (V.str.inj h) (str_ne hx (by decide +kernel))) (fun _ => ?_)
      walk_at "st"
      refine iteD (fun h => absurd (V.str.inj h) (str_ne hx (by decide +kernel))) (fun _ => ?_)
      walk_at "st"
      refine iteD (fun _ => ?_) (fun h => absurd (by rw [hx]) h)
      walk_at "st"
      refine ⟨s, rfl, N.n _ hs, fun H1 f1 => ?_⟩
      have ha1 := f1.tup _ _ ha
      walk_at "st"
      exact ⟨t, rfl, N.t _ ht, fun H2 f2 => k _ (f1.trans f2)⟩
    | @write x t e hx ht ge =>
      cases hv with
      | @tup a zs _ ha hT =>
      cases hT with
      | @cons z1 _ _ _ t1 hT =>
      cases hT with
      | @cons z2 _ _ _ t2 hT =>
      cases hT with
      | @cons z3 _ _ _ t3 hT =>
      cases hT
      cases t1
      cases t2
      walk_at "st"
      refine iteD (fun h => absurd (V.str.inj h) (str_ne hx (by decide +kernel))) (fun _ => ?_)
      walk_at "st"
      refine iteD (fun h => absurd (V.str.inj h) (str_ne hx (by decide +kernel))) (fun _ => ?_)
      walk_at "st"
      refine iteD (fun h => absurd (V.str.inj h) (str_ne hx (by decide +kernel))) (fun _ => ?_)
      walk_at "st"
      refine iteD (fun h => absurd (V.str.inj h) (str_ne hx (by decide +kernel))) (fun _ => ?_)
      walk_at "st"
      refine iteD (fun h => absurd (V.str.inj h) (str_ne hx (by decide +kernel))) (fun _ => ?_)
      walk_at "st"
      refine iteD (fun h => absurd (V.str.inj h) (str_ne hx (by decide +kernel))) (fun _ => ?_)
      walk_at "st"
      refine iteD (fun _ => ?_) (fun h => absurd (by rw [hx]) h)
      walk_at "st"
      refine ⟨t, rfl, N.t _ ht, fun H1 f1 => ?_⟩
      have ha1 := f1.tup _ _ ha
      walk_at "st"
      exact ⟨z3, e, rfl, TD.mono f1.tup _ _ t3, ge, N.n, fun H2 f2 => k _ (f1.trans f2)⟩
    | @call x s f' es hx hs ho h4 ge =>
      cases hv with
      | @tup a zs _ ha hT =>
      cases hT with
      | @cons z1 _ _ _ t1 hT =>
      cases hT with
      | @cons z2 _ _ _ t2 hT =>
      cases hT with
      | @cons z3 _ _ _ t3 hT =>
      cases hT with
      | @cons z4 _ _ _ t4 hT =>
      cases hT
      cases t1
      cases t2
      cases t3
      walk_at "st"
      refine iteD (fun h => absurd (V.str.inj h) (str_ne hx (by decide +kernel))) (fun _ => ?_)
      walk_at "st"
      refine iteD (fun h => absurd (V.str.inj h) (str_ne hx (by decide +kernel))) (fun _ => ?_)
      walk_at "st"
      refine iteD (fun h => absurd (V.str.inj h) (str_ne hx (by decide +kernel))) (fun _ => ?_)
      walk_at "st"
      refine iteD (fun h => absurd (V.str.inj h) (str_ne hx (by decide +kernel))) (fun _ => ?_)
      walk_at "st"
      refine iteD (fun h => absurd (V.str.inj h) (str_ne hx (by decide +kernel))) (fun _ => ?_)
      walk_at "st"
      refine iteD (fun h => absurd (V.str.inj h) (str_ne hx (by decide +kernel))) (fun _ => ?_)
      walk_at "st"
      refine iteD (fun h => absurd (V.str.inj h) (str_ne hx (by decide +kernel))) (fun _ => ?_)
      walk_at "st"
      refine iteD (fun _ => ?_) (fun h => absurd (by rw [hx]) h)
      walk_at "st"
      refine ⟨s, rfl, N.n _ hs, fun H1 f1 => ?_⟩
      have ha1 := f1.tup _ _ ha
      walk_at "st"
      refine ⟨f', rfl, N.o _ ho, fun H2 f2 => ?_⟩
      have ha2 := f2.tup _ _ ha1
      walk_at "st"
      exact ⟨z4, es, 0, 4, rfl, TD.mono (f1.trans f2).tup _ _ t4, ge, N.n, by omega, by omega, by omega, fun H3 f3 => k _ ((f1.trans f2).trans f3)⟩
    | @end_ x e hx ge =>
      cases hv with
      | @tup a zs _ ha hT =>
      cases hT with
      | @cons z1 _ _ _ t1 hT =>
      cases hT with
      | @cons z2 _ _ _ t2 hT =>
      cases hT
      cases t1
      walk_at "st"
      refine iteD (fun h => absurd (V.str.inj h) (str_ne hx (by decide +kernel))) (fun _ => ?_)
      walk_at "st"
      refine iteD (fun h => absurd (V.str.inj h) (str_ne hx (by decide +kernel))) (fun _ => ?_)
      walk_at "st"
      refine iteD (fun h => absurd (V.str.inj h) (str_ne hx (by decide +kernel))) (fun _ => ?_)
      walk_at "st"
      refine iteD (fun h => absurd (V.str.inj h) (str_ne hx (by decide +kernel))) (fun _ => ?_)
      walk_at "st"
      refine iteD (fun h => absurd (V.str.inj h) (str_ne hx (by decide +kernel))) (fun _ => ?_)
      walk_at "st"
      refine iteD (fun h => absurd (V.str.inj h) (str_ne hx (by decide +kernel))) (fun _ => ?_)
      walk_at "st"
      refine iteD (fun h => absurd (V.str.inj h) (str_ne hx (by decide +kernel))) (fun _ => ?_)
      walk_at "st"
      refine iteD (fun h => absurd (V.str.inj h) (str_ne hx (by decide +kernel))) (fun _ => ?_)
      walk_at "st"
      refine iteD (fun _ => ?_) (fun h => absurd (by rw [hx]) h)
      walk_at "st"
      exact ⟨z2, e, rfl, t2, ge, N.n, k⟩
end

end K03

namespace K03
open PySem PySem.Spec PyProof.Rows L2 Hq
local macro_rules | `(tactic| walk_at "st1") => `(tactic| first
  | with_reducible refine st_seq ?_ | with_reducible refine st_ret ?_ | with_reducible refine st_ifS ?_ | with_reducible refine st_asg ?_ | with_reducible refine st_drop ?_
  | ((with_reducible refine' st_var ?hv ?_); (case hv => rfl)) | with_reducible refine st_c ?_ | with_reducible refine st_op ?_ | with_reducible refine st_un ?_
  | with_reducible refine st_I0 ?_ | with_reducible refine st_U ?_ | ((with_reducible refine' st_I ?hc ?_); (case hc => walk_at "side"))
  | ((with_reducible refine' st_eq ?hs ?_); (case hs => rfl)) | ((with_reducible refine' st_ne ?hs ?_); (case hs => rfl))
  | with_reducible refine st_test ?_ | with_reducible refine st_B ?_ | with_reducible refine st_bl ?_ | with_reducible refine st_isN ?_ | with_reducible refine st_notN ?_
  | with_reducible refine st_chain ?_ | with_reducible refine st_and ?_ | with_reducible refine st_or ?_ | with_reducible refine st_not ?_
  | with_reducible refine st_andV ?_ | with_reducible refine st_orV ?_ | with_reducible refine st_notV ?_ | with_reducible refine st_if ?_
  | with_reducible refine st_CB ?_ | with_reducible refine st_cons ?_ | with_reducible refine st_nil ?_ | with_reducible refine st_fld ?_
  | ((with_reducible refine st_tup ?_)) | ((with_reducible refine st_lst ?_))
  | with_reducible refine st_call ?_ | with_reducible refine st_meth ?_ | with_reducible refine st_make ?_
  | with_reducible refine st_sl ?_ | with_reducible refine st_noPart ?_ | with_reducible refine st_part ?_ | with_reducible refine st_int ?_
  | ((with_reducible refine' st_ixL ?hq ?he ?_); (case hq => walk_at "sqL"); (case he => walk_at "at"))
  | ((with_reducible refine' st_ixT ?hq ?he ?_); (case hq => walk_at "sqT"); (case he => walk_at "at"))
  | with_reducible refine st_bm ?_ | with_reducible refine st_app ?_
  | ((with_reducible refine' st_append ?hq ?hl ?_); (case hq => walk_at "hp"); (case hl => walk_at "line"))
  | ((with_reducible refine' st_len (n := 0) ?hq ?_); (case hq => first | exact Or.inl (by walk_at "sqL") | exact Or.inr (by walk_at "sqT")))
  | ((with_reducible refine' st_listOf ?hq ?_); (case hq => first | exact Or.inl (by walk_at "sqL") | exact Or.inr (by walk_at "sqT")))
  | ((with_reducible refine st_name ?_); (try dsimp only [List.set_cons_zero, List.set_cons_succ])) | with_reducible refine st_par ?_
  | with_reducible refine st_gcons ?_ | with_reducible refine st_gnil ?_ | with_reducible refine st_gsub ?_ | with_reducible refine st_sFld ?_
  | ((with_reducible refine' st_gtup ?hq ?hl ?_); (case hq => walk_at "sqT"); (case hl => rfl))
  | ((with_reducible refine' st_setL ?hq ?hl ?_); (case hq => walk_at "hp"); (case hl => first | rfl | exact ix0 | exact ixN_nat (by assumption)); (try simp only [Int.reduceToNat, List.set_cons_zero, List.set_cons_succ]))
  | with_reducible refine st_intI ?_ | with_reducible refine st_abs ?_
  | ((with_reducible refine' st_popAt ?hq ?hk ?hy ?_); (case hq => walk_at "hp"); (case hk => exact seq0); (case hy => rfl))
  | ((with_reducible refine' and_left ?ht ?_); (case ht => walk_at "ty"))
  | with_reducible refine st_lc ?_ | with_reducible refine st_for ?_ | with_reducible refine st_iL ?_ | with_reducible refine st_iT ?_ | with_reducible refine st_iR1 ?_ | with_reducible refine st_iR2 ?_ | with_reducible refine st_iZ ?_
  | ((with_reducible refine' st_refL ?hq ?_); (case hq => walk_at "sqL")) | ((with_reducible refine' st_refT ?hq ?_); (case hq => walk_at "sqT"))
  | ((with_reducible refine' st_rng1 ?hq ?_); (case hq => walk_at "side")) | ((with_reducible refine' st_rng2 ?hq ?_); (case hq => walk_at "side"))
  | ((with_reducible refine' st_zip ?hq ?hr ?_); (case hq => walk_at "sqb"); (case hr => walk_at "sqb"))
  | ((with_reducible refine' st_size ?hw ?_); (case hw => walk_at "line"))
  | ((with_reducible refine' st_sum ?hq ?_); (case hq => walk_at "sqL"))
  | with_reducible refine st_two ?_ | with_reducible refine st_yes ?_ | ((with_reducible refine' st_wipe ?hw ?_); (case hw => rfl))
  | ((with_reducible refine' st_slL ?hq ?_); (case hq => walk_at "sqL"))
  | ((with_reducible refine' st_cat ?hq ?hr ?hl ?_); (case hq => walk_at "hp"); (case hr => walk_at "hp"); (case hl => walk_at "line"))
  | ((with_reducible refine' st_isi ?hk ?he ?_); (case hk => walk_at "kd"); (case he => walk_at "kit"))
  | ((with_reducible refine' st_ins ?hq ?hc ?hn ?hl ?_); (case hq => walk_at "hp"); (case hc => with_reducible assumption); (case hn => with_reducible assumption); (case hl => walk_at "flen"); walk_at "puts")
  | ((with_reducible refine' st_att ?hq ?hc ?hn ?hl ?_); (case hq => walk_at "hp"); (case hc => with_reducible assumption); (case hn => with_reducible assumption); (case hl => walk_at "lk"))
  | ((with_reducible refine' st_mt ?hq ?hl ?_); (case hq => walk_at "hp"); (case hl => walk_at "lk"))
  | ((with_reducible refine' st_extend ?hq ?hr ?hl ?_); (case hq => walk_at "hp"); (case hr => walk_at "hp"); (case hl => walk_at "line"))
  | with_reducible refine st_next ?_ | with_reducible refine st_retN ?_ | (with_reducible refine iteNT ?_) | (with_reducible refine iteNF ?_) | (with_reducible refine iteT ?_) | (with_reducible refine iteF ?_))
local macro_rules | `(tactic| walk_at "side") => `(tactic| first | omega | decide | assumption | exact ⟨by omega, by omega⟩ | exact Or.inr ⟨by omega, by omega⟩ | exact Or.inl ⟨by omega, by omega⟩ | (simp only [List.length_map, List.length_cons, List.length_nil, List.length_append] at *; omega))
local macro_rules | `(tactic| walk_at "hp") => `(tactic| first | assumption | exact upd_same | ((with_reducible refine' upd_old ?ho ?hb); (case ho => assumption); (case hb => walk_at "hp")) | (rw [upd_ne (by first | assumption | exact Ne.symm (by assumption))]; walk_at "hp"))
local macro_rules | `(tactic| walk_at "sqL") => `(tactic| first | assumption | exact SqL.of (by walk_at "hp"))
local macro_rules | `(tactic| walk_at "sqT") => `(tactic| first | assumption | exact SqT.of (by walk_at "hp"))
local macro_rules | `(tactic| walk_at "sqb") => `(tactic| (unfold SqB; first | ((with_reducible change SqL _ _ _ _); walk_at "sqL") | ((with_reducible change SqT _ _ _ _); walk_at "sqT")))
local macro_rules | `(tactic| walk_at "line") => `(tactic| first | assumption | decide | (apply line_of; walk_at "side") | (apply line_lt; walk_at "side"))
local macro_rules | `(tactic| walk_at "ty") => `(tactic| ((with_reducible refine' ty_lst ?hq); (case hq => walk_at "hp")))
local macro_rules | `(tactic| walk_at "at") => `(tactic| with_reducible first | assumption | exact at0 | exact at1 | exact at2 | exact at3 | exact at4 | exact at5 | exact at6 | exact at7 | exact at8)
local macro_rules | `(tactic| walk_at "st") => `(tactic| (repeat walk_at "st1"))
local macro_rules | `(tactic| walk_at "lk") => `(tactic| first | with_reducible assumption | rfl)
local macro_rules | `(tactic| walk_at "kd") => `(tactic| first | exact .base (.int _) | exact .base .non | exact .base (.bl _) | exact .base (.str _) | exact .base (.tup (by walk_at "hp")) | exact .base (.lst (by walk_at "hp")) | exact .base (.dK (by walk_at "hp")) | exact .base (.dT (by walk_at "hp")))
local macro_rules | `(tactic| walk_at "kit") => `(tactic| with_reducible first
  | exact kit_NoneType_bool
  | exact kit_NoneType_int
  | exact kit_NoneType_str
  | exact kit_NoneType_tuple
  | exact kit_NoneType_list
  | exact kit_NoneType_dict
  | exact kit_bool_bool
  | exact kit_bool_int
  | exact kit_bool_str
  | exact kit_bool_tuple
  | exact kit_bool_list
  | exact kit_bool_dict
  | exact kit_int_bool
  | exact kit_int_int
  | exact kit_int_str
  | exact kit_int_tuple
  | exact kit_int_list
  | exact kit_int_dict
  | exact kit_str_bool
  | exact kit_str_int
  | exact kit_str_str
  | exact kit_str_tuple
  | exact kit_str_list
  | exact kit_str_dict
  | exact kit_tuple_bool
  | exact kit_tuple_int
  | exact kit_tuple_str
  | exact kit_tuple_tuple
  | exact kit_tuple_list
  | exact kit_tuple_dict
  | exact kit_list_bool
  | exact kit_list_int
  | exact kit_list_str
  | exact kit_list_tuple
  | exact kit_list_list
  | exact kit_list_dict
  | exact kit_dict_bool
  | exact kit_dict_int
  | exact kit_dict_str
  | exact kit_dict_tuple
  | exact kit_dict_list
  | exact kit_dict_dict)
local macro_rules | `(tactic| walk_at "flen") => `(tactic| decide)
local macro_rules | `(tactic| walk_at "puts") => `(tactic| skip)

local macro_rules | `(tactic| walk_at "st1") => `(tactic| first
  | with_reducible refine st_dc ?_ | with_reducible refine st_dgetS ?_ | with_reducible refine st_dinS ?_ | with_reducible refine st_dninS ?_ | with_reducible refine st_dputS ?_ | with_reducible refine st_newT ?_ | with_reducible refine iteNN ?_ | with_reducible refine iteYN ?_
  | ((with_reducible refine' st_getT ?hq ?hk ?hv ?_); (case hq => walk_at "hp"); (case hk => walk_at "key"); (case hv => with_reducible assumption))
  | ((with_reducible refine' st_inT ?hq ?hk ?_); (case hq => walk_at "hp"); (case hk => walk_at "key"))
  | ((with_reducible refine' st_ninT ?hq ?hk ?_); (case hq => walk_at "hp"); (case hk => walk_at "key"))
  | ((with_reducible refine' st_putT ?hq ?hk ?hl ?_); (case hq => walk_at "hp"); (case hk => walk_at "key"); (case hl => walk_at "line"))
  | ((with_reducible refine' st_cputT ?hq ?hk ?hl ?_); (case hq => walk_at "hp"); (case hk => walk_at "key"); (case hl => walk_at "line"))
  | ((with_reducible refine' st_ixB ?hq ?he ?_); (case hq => first | assumption | exact Or.inl (by walk_at "sqL") | exact Or.inr (by walk_at "sqT")); (case he => walk_at "at")))
local macro_rules | `(tactic| walk_at "key") => `(tactic| with_reducible assumption)

section
variable {Z : Ads} {P : Program} {w : World} {K : PySem.W.Frag} {mg : Str → Option Value} {base : Heap}
/-! ### statements with blocks -/
inductive GS (ns ts : List Str) (os : List (Str × Nat)) : Nat → PyData → Prop
  | plain {k : Nat} {d : PyData} : GP ns ts os d → GS ns ts os k d
  | if_ {k : Nat} {x : Str} {e : PyData} {b c : List PyData} : x = "if" → GE ns 4 e → b.length ≤ 40 → c.length ≤ 40 → (∀ s ∈ b, GS ns ts os k s) → (∀ s ∈ c, GS ns ts os k s) → GS ns ts os (k + 1) (.tuple [.str x, e, .tuple b, .tuple c])
  | while_ {k : Nat} {x : Str} {e : PyData} {b : List PyData} : x = "while" → GE ns 4 e → b.length ≤ 40 → (∀ s ∈ b, GS ns ts os k s) → GS ns ts os (k + 1) (.tuple [.str x, e, .tuple b])
def sizesL : List (Str × Int) := [("let", 3), ("make", 3), ("get", 4), ("put", 4), ("read", 3), ("write", 3), ("call", 4), ("wait", 3), ("if", 4), ("while", 3), ("end", 2)]
/-- the dict of the sizes -/
structure TxS (K : PySem.W.Frag) (w : World) (Z : Ads) : Prop where
  d : ∃ es n, KDict K w Z.SIZES es n
  v : ∀ p ∈ sizesL, ∃ t, PySem.W.nsIn K Z.SIZES p.1 = some (some (.int p.2 t))
theorem TxS.ix {x : Str} {n : Int} (S : TxS K w Z) (h : (x, n) ∈ sizesL) : KDct K w Z.SIZES x (.int n) := by
  obtain ⟨es, m, D⟩ := S.d
  obtain ⟨t, e⟩ := S.v _ h
  exact ⟨es, m, _, D.at_, D.lit, e, ⟨t, rfl⟩⟩
theorem kIxD {X : Cx} {K : PySem.W.Frag} (h : X.K = K := by rfl) : IxR X (rIxD K X.w) := by cases h; exact ix_kdict
/-- a plain statement's word and size -/
theorem GP.word {ns ts : List Str} {os : List (Str × Nat)} {d : PyData} (h : GP ns ts os d) : ∃ (x : Str) (ds : List PyData), d = .tuple (.str x :: ds) ∧ (x, ((ds.length + 1 : Nat) : Int)) ∈ sizesL ∧ x ≠ "if" ∧ x ≠ "while" := by
  cases h with
  | let_ hx _ _ =>
    rcases hx with rfl | rfl
    · exact ⟨_, _, rfl, (show (("let" : Str), (3 : Int)) ∈ sizesL by decide +kernel), by decide +kernel, by decide +kernel⟩
    · exact ⟨_, _, rfl, (show (("wait" : Str), (3 : Int)) ∈ sizesL by decide +kernel), by decide +kernel, by decide +kernel⟩
  | make hx _ _ _ _ => subst hx; exact ⟨_, _, rfl, (show (("make" : Str), (3 : Int)) ∈ sizesL by decide +kernel), by decide +kernel, by decide +kernel⟩
  | get hx _ _ _ _ => subst hx; exact ⟨_, _, rfl, (show (("get" : Str), (4 : Int)) ∈ sizesL by decide +kernel), by decide +kernel, by decide +kernel⟩
  | put hx _ _ _ _ => subst hx; exact ⟨_, _, rfl, (show (("put" : Str), (4 : Int)) ∈ sizesL by decide +kernel), by decide +kernel, by decide +kernel⟩
  | read hx _ _ => subst hx; exact ⟨_, _, rfl, (show (("read" : Str), (3 : Int)) ∈ sizesL by decide +kernel), by decide +kernel, by decide +kernel⟩
  | write hx _ _ => subst hx; exact ⟨_, _, rfl, (show (("write" : Str), (3 : Int)) ∈ sizesL by decide +kernel), by decide +kernel, by decide +kernel⟩
  | call hx _ _ _ _ => subst hx; exact ⟨_, _, rfl, (show (("call" : Str), (4 : Int)) ∈ sizesL by decide +kernel), by decide +kernel, by decide +kernel⟩
  | end_ hx _ => subst hx; exact ⟨_, _, rfl, (show (("end" : Str), (2 : Int)) ∈ sizesL by decide +kernel), by decide +kernel, by decide +kernel⟩
def spStmt (ns ts : List Str) (os : List (Str × Nat)) (n : Nat) : Sp := fun vs H Q _ => ∃ (v : V) (d : PyData), vs = [v, .int (n : Nat)] ∧ TD H v d ∧ GS ns ts os n d ∧ ∀ H', Fr [] H H' → Q (.bl true) H'
def spBlock (ns ts : List Str) (os : List (Str × Nat)) (n : Nat) : Sp := fun vs H Q _ => ∃ (v : V) (b : List PyData) (j : Nat), vs = [v, .int (n : Nat)] ∧ n = j + 1 ∧ TD H v (.tuple b) ∧ b.length ≤ 40 ∧ (∀ s ∈ b, GS ns ts os j s) ∧ ∀ H', Fr [] H H' → Q (.bl true) H'
abbrev s_is_block : Stmt := top 33
theorem sc_is_block : FnScope ["thing", "deep", "part"] ["thing", "deep"] (defScope s_is_block) := ⟨rfl, rfl, rfl, by decide +kernel, rfl, by decide +kernel, by decide +kernel⟩
theorem step_is_block {ns ts : List Str} {os : List (Str × Nat)} {f : Addr} {fd : FuncData} (F : Fun K "is_block" "is_block" s_is_block f fd) (T : Txt K mg Z) (D_is_tuple : Dn P w K mg base "is_tuple" 1 ["thing", "least", "most"] spTuple) (k j : Nat) (hk : 1 ≤ k)
    (D_is_statement : Dn P w K mg base "is_statement" k ["thing", "deep"] (spStmt ns ts os j)) : FnOk P w K mg base (L2.CX P w) (k + 1) f fd ["thing", "deep"] (spBlock ns ts os (j + 1)) := by
  refine okN F sc_is_block (fun vs H Q E h => ?_) (fun cdv A outer s0 H vs Q E hr h => ?_)
  · obtain ⟨v, b, j, rfl, _⟩ := h
    rfl
  · obtain ⟨v, b, j', rfl, hj, hv, hl, hb, q⟩ := h
    obtain rfl : j = j' := by omega
    cases hv with
    | @tup a xs _ ha hT =>
    have hx := hT.length
    refine ⟨_, [some _, some _, none], rfl, (pss_cons (ps_if (PW.pt (pw_or (pt_cmpR op_eq (pv 1) pe_int (by first | exact nomark _ | rfl)) (pw_or1 (pt_not (pt_val (pe_d D_is_tuple E0 (hr.mono (by first | decide | omega)) (by rfl) passL (pa_cons (pv 0) (pa_cons pe_int (pa_cons (pe_gl (by rfl) T.g_MOST_STATEMENTS) pa_nil))))))))) (pss_one (ps_ret pe_bl)) pss_nil)
      (pss_one (ps_ret (pe_callB (kAll (K := K)) (by rfl) T.n_all (by decide +kernel) (pa_cons (pe_lc (own := [("part", 2)]) (g := (gName 2)) (tt := tYes) rfl sc_is_block.nd (kPiT (K := K) (pv 0)) (blkOk_by (N := ["thing", "deep", "part"]) (sc := defScope s_is_block) (by decide +kernel)) (fun _ _ _ _ _ => (pg_name (i := 2) sc_is_block.nd rfl (by first | exact Or.inl rfl | exact Or.inr rfl))) (fun _ _ _ _ _ => pts_nil) (fun _ _ _ _ _ => (pe_d D_is_statement E0 (hr.mono (by first | decide | omega)) (by rfl) passL (pa_cons (pv 2) (pa_cons (pe_op op_sub (pv 1) pe_int) pa_nil))))) pa_nil))))), ?_⟩
    walk_at "st"
    refine iteD (fun h => absurd (V.int.inj h) (by omega)) (fun _ => ?_)
    walk_at "st"
    refine ⟨a, xs, 0, 40, rfl, ha, by omega, ?_⟩
    rw [decide_eq_true (by omega), decide_eq_true (by omega), Bool.and_self]
    walk_at "st"
    intro D hD
    refine lc_it (walk_tup (xs := xs)) (fun i H' => Fr [] H H' ∧ H' D = some (.lst ((List.replicate i true).map V.bl))) ⟨Fr.up hD, upd_same⟩ (fun i H' _ h => SqT.of (h.1.tup _ _ ha)) ?_ ?_
    · rintro i x H1 H2 hi ⟨f1, e1⟩ ⟨rfl, hxi⟩
      obtain ⟨d, hd, td⟩ := TDs.at_ (TDs.mono f1.tup _ _ hT) hxi
      walk_at "st"
      refine ⟨x, d, by rw [show ((j + 1 : Nat) : Int) - 1 = (j : Nat) by omega]; rfl, td, hb d (List.mem_of_getElem? hd), fun H3 f3 => ?_⟩
      have e3 := f3.same _ _ e1
      refine ⟨_, e3, line_lt (by simp; omega), (f1.trans f3).wl e3 (.inr hD), ?_⟩
      rw [upd_same, List.replicate_succ', List.map_append]
      rfl
    · rintro H1 ⟨f1, e1⟩
      walk_at "st"
      refine st_all (SqL.of e1) ?_
      rw [show ∀ n, (List.replicate n true).all id = true from fun n => by simp]
      exact q _ f1
abbrev s_is_statement : Stmt := top 32
theorem sc_is_statement : FnScope ["thing", "deep", "block"] ["thing", "deep"] (defScope s_is_statement) := ⟨rfl, rfl, rfl, by decide +kernel, rfl, by decide +kernel, by decide +kernel⟩
theorem step_is_statement {ns ts : List Str} {os : List (Str × Nat)} {f : Addr} {fd : FuncData} (F : Fun K "is_statement" "is_statement" s_is_statement f fd) (T : Txt K mg Z) (S : TxS K w Z) (N : Nms ns ts os) (k n : Nat) (hk : 11 ≤ k)
    (D_is_right_part : Dn P w K mg base "is_right_part" 9 ["thing"] (spRight ns)) (D_is_plain_statement : Dn P w K mg base "is_plain_statement" 11 ["thing"] (spPlain ns ts os)) (D_is_block : Dn P w K mg base "is_block" k ["thing", "deep"] (spBlock ns ts os n)) : FnOk P w K mg base (L2.CX P w) (k + 1) f fd ["thing", "deep"] (spStmt ns ts os n) := by
  obtain ⟨es, sn, hDS⟩ := S.d
  refine okN F sc_is_statement (fun vs H Q E h => ?_) (fun cdv A outer s0 H vs Q E hr h => ?_)
  · obtain ⟨v, d, rfl, _⟩ := h
    rfl
  · obtain ⟨v, d, rfl, hv, hG, q⟩ := h
    refine ⟨_, [some _, some _, none], rfl, (pss_cons (ps_if (PW.pt (pw_or (pt_not (pt_val (pe_callB (kIsi (K := K)) (by rfl) T.n_isinstance (by decide +kernel) (pa_cons (pv 0) (pa_cons (pe_ty "tuple" (by rfl) T.n_tuple (by decide +kernel)) pa_nil))))) (pw_or (pt_cmpR op_eq (pe_callB (kLen (K := K)) (by rfl) T.n_len (by decide +kernel) (pa_cons (pv 0) pa_nil)) pe_int (by first | exact nomark _ | rfl)) (pw_or1 (pt_not (pt_val (pe_callB (kIsi (K := K)) (by rfl) T.n_isinstance (by decide +kernel) (pa_cons (pe_ix (kIxT (K := K)) (pv 0) pe_int (fun _ _ => rfl)) (pa_cons (pe_ty "str" (by rfl) T.n_str (by decide +kernel)) pa_nil))))))))) (pss_one (ps_ret pe_bl)) pss_nil)
      (pss_cons (ps_if (PW.pt (pw_or (pt_cmpR (op_notIn_kd hDS) (pe_ix (kIxT (K := K)) (pv 0) pe_int (fun _ _ => rfl)) (pe_gl (by rfl) T.g_SIZES) (by first | exact nomark _ | rfl)) (pw_or1 (pt_cmpR op_ne (pe_callB (kLen (K := K)) (by rfl) T.n_len (by decide +kernel) (pa_cons (pv 0) pa_nil)) (pe_ix (kIxD (K := K)) (pe_gl (by rfl) T.g_SIZES) (pe_ix (kIxT (K := K)) (pv 0) pe_int (fun _ _ => rfl)) (fun _ _ => rfl)) (by first | exact nomark _ | rfl))))) (pss_one (ps_ret pe_bl)) pss_nil)
      (pss_cons (ps_if (pt_cmpR (kIn (K := K)) (pe_ix (kIxT (K := K)) (pv 0) pe_int (fun _ _ => rfl)) (pe_tup (pa_cons pe_str (pa_cons pe_str pa_nil))) (by first | exact nomark _ | rfl)) (pss_one (ps_ret (pe_and (pe_d D_is_right_part E0 (hr.mono (by first | decide | omega)) (by rfl) passL (pa_cons (pe_ix (kIxT (K := K)) (pv 0) pe_int (fun _ _ => rfl)) pa_nil)) (pe_one (pe_callB (kAll (K := K)) (by rfl) T.n_all (by decide +kernel) (pa_cons (pe_lc (own := [("block", 2)]) (g := (gName 2)) (tt := tYes) rfl sc_is_statement.nd (kPiT (K := K) (pe_slice (kSlT (K := K)) (pv 0) (po_some pe_int) po_none)) (blkOk_by (N := ["thing", "deep", "block"]) (sc := defScope s_is_statement) (by decide +kernel)) (fun _ _ _ _ _ => (pg_name (i := 2) sc_is_statement.nd rfl (by first | exact Or.inl rfl | exact Or.inr rfl))) (fun _ _ _ _ _ => pts_nil) (fun _ _ _ _ _ => (pe_d D_is_block E0 (hr.mono (by first | decide | omega)) (by rfl) passL (pa_cons (pv 2) (pa_cons (pv 1) pa_nil))))) pa_nil)))))) pss_nil)
      (pss_one (ps_ret (pe_d D_is_plain_statement E0 (hr.mono (by first | decide | omega)) (by rfl) passL (pa_cons (pv 0) pa_nil))))))), ?_⟩
    have shape : ∃ (x : Str) (ds : List PyData), d = .tuple (.str x :: ds) ∧ (x, ((ds.length + 1 : Nat) : Int)) ∈ sizesL := by
      cases hG with
      | plain hp =>
        obtain ⟨x, ds, rfl, h, _⟩ := hp.word
        exact ⟨x, ds, rfl, h⟩
      | if_ hx _ _ _ _ _ => subst hx; exact ⟨_, _, rfl, show (("if" : Str), (4 : Int)) ∈ sizesL by decide +kernel⟩
      | while_ hx _ _ _ => subst hx; exact ⟨_, _, rfl, show (("while" : Str), (3 : Int)) ∈ sizesL by decide +kernel⟩
    obtain ⟨x, ds, rfl, hsz⟩ := shape
    obtain ⟨tz, hz⟩ := S.v _ hsz
    cases hv with
    | @tup a zs _ ha hT =>
    cases hT with
    | @cons z1 zs' _ _ t1 hT =>
    cases t1
    have hl := hT.length
    walk_at "st"
    refine iteD (fun h => absurd (V.int.inj h) (by simp; omega)) (fun _ => ?_)
    walk_at "st"
    refine ⟨x, _, rfl, rfl, hz, ?_⟩
    walk_at "st"
    rw [if_neg (show ¬ (!(some (Value.int (((ds.length + 1 : Nat) : Int)) tz)).isSome) = true from Bool.false_ne_true)]
    walk_at "st"
    refine ⟨Z.SIZES, x, _, rfl, rfl, S.ix hsz, ?_⟩
    walk_at "st"
    refine iteDN (fun _ => ?_) (fun h => absurd (by rw [List.length_cons, hl]) h)
    walk_at "st"
    intro u hu
    have fu : Fr [] H (upd H u (.tup [.str "if", .str "while"])) := Fr.up hu
    have ha1 := fu.tup _ _ ha
    walk_at "st"
    refine ⟨u, _, rfl, .inr (SqT.of upd_same), rfl, rfl, ?_⟩
    rw [if_neg Bool.false_ne_true]
    have two : GP ns ts os (.tuple (.str x :: ds)) ∨ ∃ e bs, ds = e :: bs ∧ 1 ≤ bs.length ∧ bs.length ≤ 2 ∧ (x = "if" ∨ x = "while") ∧ GE ns 4 e ∧ ∀ b ∈ bs, ∃ ss j, b = .tuple ss ∧ n = j + 1 ∧ ss.length ≤ 40 ∧ ∀ s ∈ ss, GS ns ts os j s := by
      cases hG with
      | plain hp => exact .inl hp
      | @if_ j _ e b c hx ge hb hc gb gc =>
        refine .inr ⟨e, _, rfl, by simp, by simp, .inl hx, ge, fun y hy => ?_⟩
        simp only [List.mem_cons, List.not_mem_nil, or_false] at hy
        rcases hy with rfl | rfl
        · exact ⟨b, j, rfl, rfl, hb, gb⟩
        · exact ⟨c, j, rfl, rfl, hc, gc⟩
      | @while_ j _ e b hx ge hb gb =>
        refine .inr ⟨e, _, rfl, by simp, by simp, .inr hx, ge, fun y hy => ?_⟩
        rw [List.mem_singleton.mp hy]
        exact ⟨b, j, rfl, rfl, hb, gb⟩
    rcases two with hp | ⟨e, bs, rfl, hb1, hb2, hx, ge, hbs⟩
    · obtain ⟨x', ds', e', _, n1, n2⟩ := hp.word
      injection e' with e'
      injection e' with e1 _
      injection e1 with e1
      subst e1
      rw [show inV (V.str x) [V.str "if", V.str "while"] = false by simp [inV, eqV, n1.symm, n2.symm]]
      walk_at "st"
      exact ⟨_, _, rfl, TD.mono fu.tup _ _ (.tup ha (.cons (.str _) hT)), hp, fun H1 f1 => q _ (fu.trans f1)⟩
    · rw [show inV (V.str x) [V.str "if", V.str "while"] = true by rcases hx with rfl | rfl <;> decide +kernel]
      cases hT with
      | @cons z2 zs2 _ _ t2 hT =>
      have hl2 := hT.length
      walk_at "st"
      refine ⟨z2, e, rfl, TD.mono fu.tup _ _ t2, ge, N.n, fun H1 f1 => ?_⟩
      have ha2 := f1.tup _ _ ha1
      have f01 := fu.trans f1
      walk_at "st"
      refine st_slT_drop (k := 2) (SqT.of ha2) (by decide) (by simp) fun p hp => ?_
      have f2 : Fr [] H1 (upd H1 p (.tup ((V.str x :: z2 :: zs2).drop 2))) := Fr.up hp
      have f02 := f01.trans f2
      have hp2 : upd H1 p (.tup ((V.str x :: z2 :: zs2).drop 2)) p = some (.tup zs2) := upd_same
      generalize upd H1 p (.tup ((V.str x :: z2 :: zs2).drop 2)) = H2 at f2 f02 hp2 ⊢
      walk_at "st"
      intro D hD
      refine lc_it (walk_tup (xs := zs2)) (fun i H' => Fr [] H2 H' ∧ H' D = some (.lst ((List.replicate i true).map V.bl))) ⟨Fr.up hD, upd_same⟩ (fun i H' _ h => SqT.of (h.1.tup _ _ hp2)) ?_ ?_
      · rintro i y H3 H4 hi ⟨f3, e3⟩ ⟨rfl, hyi⟩
        obtain ⟨d, hd, td⟩ := TDs.at_ (TDs.mono (f02.trans f3).tup _ _ hT) hyi
        obtain ⟨ss, j, rfl, hj, hss, hgs⟩ := hbs d (List.mem_of_getElem? hd)
        walk_at "st"
        refine ⟨y, ss, j, rfl, hj, td, hss, hgs, fun H5 f5 => ?_⟩
        have e5 := f5.same _ _ e3
        refine ⟨_, e5, line_lt (by simp; omega), (f3.trans f5).wl e5 (.inr hD), ?_⟩
        rw [upd_same, List.replicate_succ', List.map_append]
        rfl
      · rintro H3 ⟨f3, e3⟩
        walk_at "st"
        refine st_all (SqL.of e3) ?_
        rw [show ∀ n, (List.replicate n true).all id = true from fun n => by simp]
        exact q _ (f02.trans f3)
end

end K03

namespace K03
open PySem PySem.Spec PyProof.Rows L2 Hq
local macro_rules | `(tactic| walk_at "st1") => `(tactic| first
  | with_reducible refine st_seq ?_ | with_reducible refine st_ret ?_ | with_reducible refine st_ifS ?_ | with_reducible refine st_asg ?_ | with_reducible refine st_drop ?_
  | ((with_reducible refine' st_var ?hv ?_); (case hv => rfl)) | with_reducible refine st_c ?_ | with_reducible refine st_op ?_ | with_reducible refine st_un ?_
  | with_reducible refine st_I0 ?_ | with_reducible refine st_U ?_ | ((with_reducible refine' st_I ?hc ?_); (case hc => walk_at "side"))
  | ((with_reducible refine' st_eq ?hs ?_); (case hs => rfl)) | ((with_reducible refine' st_ne ?hs ?_); (case hs => rfl))
  | with_reducible refine st_test ?_ | with_reducible refine st_B ?_ | with_reducible refine st_bl ?_ | with_reducible refine st_isN ?_ | with_reducible refine st_notN ?_
  | with_reducible refine st_chain ?_ | with_reducible refine st_and ?_ | with_reducible refine st_or ?_ | with_reducible refine st_not ?_
  | with_reducible refine st_andV ?_ | with_reducible refine st_orV ?_ | with_reducible refine st_notV ?_ | with_reducible refine st_if ?_
  | with_reducible refine st_CB ?_ | with_reducible refine st_cons ?_ | with_reducible refine st_nil ?_ | with_reducible refine st_fld ?_
  | ((with_reducible refine st_tup ?_)) | ((with_reducible refine st_lst ?_))
  | with_reducible refine st_call ?_ | with_reducible refine st_meth ?_ | with_reducible refine st_make ?_
  | with_reducible refine st_sl ?_ | with_reducible refine st_noPart ?_ | with_reducible refine st_part ?_ | with_reducible refine st_int ?_
  | ((with_reducible refine' st_ixL ?hq ?he ?_); (case hq => walk_at "sqL"); (case he => walk_at "at"))
  | ((with_reducible refine' st_ixT ?hq ?he ?_); (case hq => walk_at "sqT"); (case he => walk_at "at"))
  | with_reducible refine st_bm ?_ | with_reducible refine st_app ?_
  | ((with_reducible refine' st_append ?hq ?hl ?_); (case hq => walk_at "hp"); (case hl => walk_at "line"))
  | ((with_reducible refine' st_len (n := 0) ?hq ?_); (case hq => first | exact Or.inl (by walk_at "sqL") | exact Or.inr (by walk_at "sqT")))
  | ((with_reducible refine' st_listOf ?hq ?_); (case hq => first | exact Or.inl (by walk_at "sqL") | exact Or.inr (by walk_at "sqT")))
  | ((with_reducible refine st_name ?_); (try dsimp only [List.set_cons_zero, List.set_cons_succ])) | with_reducible refine st_par ?_
  | with_reducible refine st_gcons ?_ | with_reducible refine st_gnil ?_ | with_reducible refine st_gsub ?_ | with_reducible refine st_sFld ?_
  | ((with_reducible refine' st_gtup ?hq ?hl ?_); (case hq => walk_at "sqT"); (case hl => rfl))
  | ((with_reducible refine' st_setL ?hq ?hl ?_); (case hq => walk_at "hp"); (case hl => first | rfl | exact ix0 | exact ixN_nat (by assumption)); (try simp only [Int.reduceToNat, List.set_cons_zero, List.set_cons_succ]))
  | with_reducible refine st_intI ?_ | with_reducible refine st_abs ?_
  | ((with_reducible refine' st_popAt ?hq ?hk ?hy ?_); (case hq => walk_at "hp"); (case hk => exact seq0); (case hy => rfl))
  | ((with_reducible refine' and_left ?ht ?_); (case ht => walk_at "ty"))
  | with_reducible refine st_lc ?_ | with_reducible refine st_for ?_ | with_reducible refine st_iL ?_ | with_reducible refine st_iT ?_ | with_reducible refine st_iR1 ?_ | with_reducible refine st_iR2 ?_ | with_reducible refine st_iZ ?_
  | ((with_reducible refine' st_refL ?hq ?_); (case hq => walk_at "sqL")) | ((with_reducible refine' st_refT ?hq ?_); (case hq => walk_at "sqT"))
  | ((with_reducible refine' st_rng1 ?hq ?_); (case hq => walk_at "side")) | ((with_reducible refine' st_rng2 ?hq ?_); (case hq => walk_at "side"))
  | ((with_reducible refine' st_zip ?hq ?hr ?_); (case hq => walk_at "sqb"); (case hr => walk_at "sqb"))
  | ((with_reducible refine' st_size ?hw ?_); (case hw => walk_at "line"))
  | ((with_reducible refine' st_sum ?hq ?_); (case hq => walk_at "sqL"))
  | with_reducible refine st_two ?_ | with_reducible refine st_yes ?_ | ((with_reducible refine' st_wipe ?hw ?_); (case hw => rfl))
  | ((with_reducible refine' st_slL ?hq ?_); (case hq => walk_at "sqL"))
  | ((with_reducible refine' st_cat ?hq ?hr ?hl ?_); (case hq => walk_at "hp"); (case hr => walk_at "hp"); (case hl => walk_at "line"))
  | ((with_reducible refine' st_isi ?hk ?he ?_); (case hk => walk_at "kd"); (case he => walk_at "kit"))
  | ((with_reducible refine' st_ins ?hq ?hc ?hn ?hl ?_); (case hq => walk_at "hp"); (case hc => with_reducible assumption); (case hn => with_reducible assumption); (case hl => walk_at "flen"); walk_at "puts")
  | ((with_reducible refine' st_att ?hq ?hc ?hn ?hl ?_); (case hq => walk_at "hp"); (case hc => with_reducible assumption); (case hn => with_reducible assumption); (case hl => walk_at "lk"))
  | ((with_reducible refine' st_mt ?hq ?hl ?_); (case hq => walk_at "hp"); (case hl => walk_at "lk"))
  | ((with_reducible refine' st_extend ?hq ?hr ?hl ?_); (case hq => walk_at "hp"); (case hr => walk_at "hp"); (case hl => walk_at "line"))
  | with_reducible refine st_next ?_ | with_reducible refine st_retN ?_ | (with_reducible refine iteNT ?_) | (with_reducible refine iteNF ?_) | (with_reducible refine iteT ?_) | (with_reducible refine iteF ?_))
local macro_rules | `(tactic| walk_at "side") => `(tactic| first | omega | decide | assumption | exact ⟨by omega, by omega⟩ | exact Or.inr ⟨by omega, by omega⟩ | exact Or.inl ⟨by omega, by omega⟩ | (simp only [List.length_map, List.length_cons, List.length_nil, List.length_append] at *; omega))
local macro_rules | `(tactic| walk_at "hp") => `(tactic| first | assumption | exact upd_same | ((with_reducible refine' upd_old ?ho ?hb); (case ho => assumption); (case hb => walk_at "hp")) | (rw [upd_ne (by first | assumption | exact Ne.symm (by assumption))]; walk_at "hp"))
local macro_rules | `(tactic| walk_at "sqL") => `(tactic| first | assumption | exact SqL.of (by walk_at "hp"))
local macro_rules | `(tactic| walk_at "sqT") => `(tactic| first | assumption | exact SqT.of (by walk_at "hp"))
local macro_rules | `(tactic| walk_at "sqb") => `(tactic| (unfold SqB; first | ((with_reducible change SqL _ _ _ _); walk_at "sqL") | ((with_reducible change SqT _ _ _ _); walk_at "sqT")))
local macro_rules | `(tactic| walk_at "line") => `(tactic| first | assumption | decide | (apply line_of; walk_at "side") | (apply line_lt; walk_at "side"))
local macro_rules | `(tactic| walk_at "ty") => `(tactic| ((with_reducible refine' ty_lst ?hq); (case hq => walk_at "hp")))
local macro_rules | `(tactic| walk_at "at") => `(tactic| with_reducible first | assumption | exact at0 | exact at1 | exact at2 | exact at3 | exact at4 | exact at5 | exact at6 | exact at7 | exact at8)
local macro_rules | `(tactic| walk_at "st") => `(tactic| (repeat walk_at "st1"))
local macro_rules | `(tactic| walk_at "lk") => `(tactic| first | with_reducible assumption | rfl)
local macro_rules | `(tactic| walk_at "kd") => `(tactic| first | exact .base (.int _) | exact .base .non | exact .base (.bl _) | exact .base (.str _) | exact .base (.tup (by walk_at "hp")) | exact .base (.lst (by walk_at "hp")) | exact .base (.dK (by walk_at "hp")) | exact .base (.dT (by walk_at "hp")))
local macro_rules | `(tactic| walk_at "kit") => `(tactic| with_reducible first
  | exact kit_NoneType_bool
  | exact kit_NoneType_int
  | exact kit_NoneType_str
  | exact kit_NoneType_tuple
  | exact kit_NoneType_list
  | exact kit_NoneType_dict
  | exact kit_bool_bool
  | exact kit_bool_int
  | exact kit_bool_str
  | exact kit_bool_tuple
  | exact kit_bool_list
  | exact kit_bool_dict
  | exact kit_int_bool
  | exact kit_int_int
  | exact kit_int_str
  | exact kit_int_tuple
  | exact kit_int_list
  | exact kit_int_dict
  | exact kit_str_bool
  | exact kit_str_int
  | exact kit_str_str
  | exact kit_str_tuple
  | exact kit_str_list
  | exact kit_str_dict
  | exact kit_tuple_bool
  | exact kit_tuple_int
  | exact kit_tuple_str
  | exact kit_tuple_tuple
  | exact kit_tuple_list
  | exact kit_tuple_dict
  | exact kit_list_bool
  | exact kit_list_int
  | exact kit_list_str
  | exact kit_list_tuple
  | exact kit_list_list
  | exact kit_list_dict
  | exact kit_dict_bool
  | exact kit_dict_int
  | exact kit_dict_str
  | exact kit_dict_tuple
  | exact kit_dict_list
  | exact kit_dict_dict)
local macro_rules | `(tactic| walk_at "flen") => `(tactic| decide)
local macro_rules | `(tactic| walk_at "puts") => `(tactic| skip)

local macro_rules | `(tactic| walk_at "st1") => `(tactic| first
  | with_reducible refine st_dc ?_ | with_reducible refine st_dgetS ?_ | with_reducible refine st_dinS ?_ | with_reducible refine st_dninS ?_ | with_reducible refine st_dputS ?_ | with_reducible refine st_newT ?_ | with_reducible refine iteNN ?_ | with_reducible refine iteYN ?_
  | ((with_reducible refine' st_getT ?hq ?hk ?hv ?_); (case hq => walk_at "hp"); (case hk => walk_at "key"); (case hv => with_reducible assumption))
  | ((with_reducible refine' st_inT ?hq ?hk ?_); (case hq => walk_at "hp"); (case hk => walk_at "key"))
  | ((with_reducible refine' st_ninT ?hq ?hk ?_); (case hq => walk_at "hp"); (case hk => walk_at "key"))
  | ((with_reducible refine' st_putT ?hq ?hk ?hl ?_); (case hq => walk_at "hp"); (case hk => walk_at "key"); (case hl => walk_at "line"))
  | ((with_reducible refine' st_cputT ?hq ?hk ?hl ?_); (case hq => walk_at "hp"); (case hk => walk_at "key"); (case hl => walk_at "line"))
  | ((with_reducible refine' st_ixB ?hq ?he ?_); (case hq => first | assumption | exact Or.inl (by walk_at "sqL") | exact Or.inr (by walk_at "sqT")); (case he => walk_at "at")))
local macro_rules | `(tactic| walk_at "key") => `(tactic| with_reducible assumption)

section
variable {Z : Ads} {P : Program} {w : World} {K : PySem.W.Frag} {mg : Str → Option Value} {base : Heap}
/-! ### all statements of a block -/
def isComp (x : Str) : Bool := decide (x = "if") || decide (x = "while")
def blocksOf : PyData → List PyData
  | .tuple (.str x :: _ :: bs) => if isComp x = true then bs else []
  | _ => []
def stmtsOf : PyData → List PyData
  | .tuple ss => ss
  | _ => []
/-- what stands within, of nesting below n -/
def allIn : Nat → List PyData → List PyData
  | 0, ss => ss
  | k + 1, ss => ss.flatMap fun s => s :: (blocksOf s).flatMap fun b => allIn k (stmtsOf b)
/-- a statement's shape: its word, what stands behind, its blocks -/
structure Shp (ns ts : List Str) (os : List (Str × Nat)) (n : Nat) (d : PyData) : Prop where
  ok : ∃ (x : Str) (e : PyData) (bs : List PyData), d = .tuple (.str x :: e :: bs) ∧ bs.length ≤ 3 ∧ (isComp x = true → ∀ b ∈ bs, ∃ ss j, b = .tuple ss ∧ n = j + 1 ∧ ss.length ≤ 40 ∧ ∀ s ∈ ss, GS ns ts os j s)
theorem GS.shp {ns ts : List Str} {os : List (Str × Nat)} {n : Nat} {d : PyData} (h : GS ns ts os n d) : Shp ns ts os n d := by
  cases h with
  | plain hp =>
    have no : ∀ x : Str, x ≠ "if" → x ≠ "while" → isComp x = true → False := fun x a b h => by
      unfold isComp at h
      rw [decide_eq_false a, decide_eq_false b] at h
      exact nomatch h
    obtain ⟨x, ds, e', _, n1, n2⟩ := hp.word
    cases hp <;> (injection e' with e'; injection e' with e1 _; injection e1 with e1; refine ⟨⟨_, _, _, rfl, by simp, fun h => (no _ (e1 ▸ n1) (e1 ▸ n2) h).elim⟩⟩)
  | @if_ j x e b c hx ge hb hc gb gc =>
    refine ⟨⟨_, _, _, rfl, by simp, fun _ y hy => ?_⟩⟩
    simp only [List.mem_cons, List.not_mem_nil, or_false] at hy
    rcases hy with rfl | rfl
    · exact ⟨b, j, rfl, rfl, hb, gb⟩
    · exact ⟨c, j, rfl, rfl, hc, gc⟩
  | @while_ j x e b hx ge hb gb =>
    refine ⟨⟨_, _, _, rfl, by simp, fun _ y hy => ?_⟩⟩
    rw [List.mem_singleton.mp hy]
    exact ⟨b, j, rfl, rfl, hb, gb⟩
def spBlocksIn (ns ts : List Str) (os : List (Str × Nat)) (n : Nat) : Sp := fun vs H Q _ => ∃ (v : V) (d : PyData), vs = [v] ∧ TD H v d ∧ GS ns ts os n d ∧ ∀ (H' : Hp) (r : Addr) (xs : List V), H' r = some (.tup xs) → TDs H' xs (blocksOf d) → Fr [] H H' → Q (.ref r) H'
abbrev s_blocks_in : Stmt := top 34
theorem sc_blocks_in : FnScope ["statement"] ["statement"] (defScope s_blocks_in) := ⟨rfl, rfl, rfl, by decide +kernel, rfl, by decide +kernel, by decide +kernel⟩
theorem ok_blocks_in {ns ts : List Str} {os : List (Str × Nat)} {n : Nat} {f : Addr} {fd : FuncData} (F : Fun K "blocks_in" "blocks_in" s_blocks_in f fd) (T : Txt K mg Z) : FnOk P w K mg base (L2.CX P w) 1 f fd ["statement"] (spBlocksIn ns ts os n) := by
  refine okN F sc_blocks_in (fun vs H Q E h => ?_) (fun cdv A outer s0 H vs Q E hr h => ?_)
  · obtain ⟨v, d, rfl, _⟩ := h
    rfl
  · obtain ⟨v, d, rfl, hv, hG, q⟩ := h
    obtain ⟨x, e, bs, rfl, hb3, _⟩ := hG.shp.ok
    cases hv with
    | @tup a zs _ ha hT =>
    cases hT with
    | @cons z1 _ _ _ t1 hT =>
    cases hT with
    | @cons z2 zs2 _ _ t2 hT =>
    cases t1
    refine ⟨_, [some _], rfl, (pss_one (ps_ret (pe_ifExp (pt_cmpR (kIn (K := K)) (pe_ix (kIxT (K := K)) (pv 0) pe_int (fun _ _ => rfl)) (pe_tup (pa_cons pe_str (pa_cons pe_str pa_nil))) (by first | exact nomark _ | rfl)) (pe_slice (kSlT (K := K)) (pv 0) (po_some pe_int) po_none) (pe_tup pa_nil)))), ?_⟩
    walk_at "st"
    intro u hu
    have fu : Fr [] H (upd H u (.tup [.str "if", .str "while"])) := Fr.up hu
    have ha1 := fu.tup _ _ ha
    walk_at "st"
    refine ⟨u, _, rfl, .inr (SqT.of upd_same), rfl, rfl, ?_⟩
    rw [if_neg Bool.false_ne_true]
    have hin : inV (V.str x) [V.str "if", V.str "while"] = isComp x := by
      unfold isComp
      by_cases a : x = "if"
      · rw [a]; decide +kernel
      · by_cases b : x = "while"
        · rw [b]; decide +kernel
        · simp [inV, eqV, a, b, Ne.symm a, Ne.symm b]
    rw [hin]
    have hbl : blocksOf (.tuple (.str x :: e :: bs)) = if isComp x = true then bs else [] := rfl
    rw [hbl] at q
    cases hc : isComp x with
    | true =>
      rw [hc, if_pos rfl] at q
      walk_at "st"
      refine st_slT_drop (k := 2) (SqT.of ha1) (by decide) (by simp) fun p hp => ?_
      have f2 := fu.new (o := .tup ((V.str x :: z2 :: zs2).drop 2)) hp
      exact q _ p zs2 upd_same (TDs.mono f2.tup _ _ hT) f2
    | false =>
      rw [hc, if_neg Bool.false_ne_true] at q
      walk_at "st"
      intro p hp
      exact q _ p [] upd_same .nil (fu.new hp)
end

end K03

namespace K03
open PySem PySem.Spec PyProof.Rows L2 Hq
local macro_rules | `(tactic| walk_at "st1") => `(tactic| first
  | with_reducible refine st_seq ?_ | with_reducible refine st_ret ?_ | with_reducible refine st_ifS ?_ | with_reducible refine st_asg ?_ | with_reducible refine st_drop ?_
  | ((with_reducible refine' st_var ?hv ?_); (case hv => rfl)) | with_reducible refine st_c ?_ | with_reducible refine st_op ?_ | with_reducible refine st_un ?_
  | with_reducible refine st_I0 ?_ | with_reducible refine st_U ?_ | ((with_reducible refine' st_I ?hc ?_); (case hc => walk_at "side"))
  | ((with_reducible refine' st_eq ?hs ?_); (case hs => rfl)) | ((with_reducible refine' st_ne ?hs ?_); (case hs => rfl))
  | with_reducible refine st_test ?_ | with_reducible refine st_B ?_ | with_reducible refine st_bl ?_ | with_reducible refine st_isN ?_ | with_reducible refine st_notN ?_
  | with_reducible refine st_chain ?_ | with_reducible refine st_and ?_ | with_reducible refine st_or ?_ | with_reducible refine st_not ?_
  | with_reducible refine st_andV ?_ | with_reducible refine st_orV ?_ | with_reducible refine st_notV ?_ | with_reducible refine st_if ?_
  | with_reducible refine st_CB ?_ | with_reducible refine st_cons ?_ | with_reducible refine st_nil ?_ | with_reducible refine st_fld ?_
  | ((with_reducible refine st_tup ?_)) | ((with_reducible refine st_lst ?_))
  | with_reducible refine st_call ?_ | with_reducible refine st_meth ?_ | with_reducible refine st_make ?_
  | with_reducible refine st_sl ?_ | with_reducible refine st_noPart ?_ | with_reducible refine st_part ?_ | with_reducible refine st_int ?_
  | ((with_reducible refine' st_ixL ?hq ?he ?_); (case hq => walk_at "sqL"); (case he => walk_at "at"))
  | ((with_reducible refine' st_ixT ?hq ?he ?_); (case hq => walk_at "sqT"); (case he => walk_at "at"))
  | with_reducible refine st_bm ?_ | with_reducible refine st_app ?_
  | ((with_reducible refine' st_append ?hq ?hl ?_); (case hq => walk_at "hp"); (case hl => walk_at "line"))
  | ((with_reducible refine' st_len (n := 0) ?hq ?_); (case hq => first | exact Or.inl (by walk_at "sqL") | exact Or.inr (by walk_at "sqT")))
  | ((with_reducible refine' st_listOf ?hq ?_); (case hq => first | exact Or.inl (by walk_at "sqL") | exact Or.inr (by walk_at "sqT")))
  | ((with_reducible refine st_name ?_); (try dsimp only [List.set_cons_zero, List.set_cons_succ])) | with_reducible refine st_par ?_
  | with_reducible refine st_gcons ?_ | with_reducible refine st_gnil ?_ | with_reducible refine st_gsub ?_ | with_reducible refine st_sFld ?_
  | ((with_reducible refine' st_gtup ?hq ?hl ?_); (case hq => walk_at "sqT"); (case hl => rfl))
  | ((with_reducible refine' st_setL ?hq ?hl ?_); (case hq => walk_at "hp"); (case hl => first | rfl | exact ix0 | exact ixN_nat (by assumption)); (try simp only [Int.reduceToNat, List.set_cons_zero, List.set_cons_succ]))
  | with_reducible refine st_intI ?_ | with_reducible refine st_abs ?_
  | ((with_reducible refine' st_popAt ?hq ?hk ?hy ?_); (case hq => walk_at "hp"); (case hk => exact seq0); (case hy => rfl))
  | ((with_reducible refine' and_left ?ht ?_); (case ht => walk_at "ty"))
  | with_reducible refine st_lc ?_ | with_reducible refine st_for ?_ | with_reducible refine st_iL ?_ | with_reducible refine st_iT ?_ | with_reducible refine st_iR1 ?_ | with_reducible refine st_iR2 ?_ | with_reducible refine st_iZ ?_
  | ((with_reducible refine' st_refL ?hq ?_); (case hq => walk_at "sqL")) | ((with_reducible refine' st_refT ?hq ?_); (case hq => walk_at "sqT"))
  | ((with_reducible refine' st_rng1 ?hq ?_); (case hq => walk_at "side")) | ((with_reducible refine' st_rng2 ?hq ?_); (case hq => walk_at "side"))
  | ((with_reducible refine' st_zip ?hq ?hr ?_); (case hq => walk_at "sqb"); (case hr => walk_at "sqb"))
  | ((with_reducible refine' st_size ?hw ?_); (case hw => walk_at "line"))
  | ((with_reducible refine' st_sum ?hq ?_); (case hq => walk_at "sqL"))
  | with_reducible refine st_two ?_ | with_reducible refine st_yes ?_ | ((with_reducible refine' st_wipe ?hw ?_); (case hw => rfl))
  | ((with_reducible refine' st_slL ?hq ?_); (case hq => walk_at "sqL"))
  | ((with_reducible refine' st_cat ?hq ?hr ?hl ?_); (case hq => walk_at "hp"); (case hr => walk_at "hp"); (case hl => walk_at "line"))
  | ((with_reducible refine' st_isi ?hk ?he ?_); (case hk => walk_at "kd"); (case he => walk_at "kit"))
  | ((with_reducible refine' st_ins ?hq ?hc ?hn ?hl ?_); (case hq => walk_at "hp"); (case hc => with_reducible assumption); (case hn => with_reducible assumption); (case hl => walk_at "flen"); walk_at "puts")
  | ((with_reducible refine' st_att ?hq ?hc ?hn ?hl ?_); (case hq => walk_at "hp"); (case hc => with_reducible assumption); (case hn => with_reducible assumption); (case hl => walk_at "lk"))
  | ((with_reducible refine' st_mt ?hq ?hl ?_); (case hq => walk_at "hp"); (case hl => walk_at "lk"))
  | ((with_reducible refine' st_extend ?hq ?hr ?hl ?_); (case hq => walk_at "hp"); (case hr => walk_at "hp"); (case hl => walk_at "line"))
  | with_reducible refine st_next ?_ | with_reducible refine st_retN ?_ | (with_reducible refine iteNT ?_) | (with_reducible refine iteNF ?_) | (with_reducible refine iteT ?_) | (with_reducible refine iteF ?_))
local macro_rules | `(tactic| walk_at "side") => `(tactic| first | omega | decide | assumption | exact ⟨by omega, by omega⟩ | exact Or.inr ⟨by omega, by omega⟩ | exact Or.inl ⟨by omega, by omega⟩ | (simp only [List.length_map, List.length_cons, List.length_nil, List.length_append] at *; omega))
local macro_rules | `(tactic| walk_at "hp") => `(tactic| first | assumption | exact upd_same | ((with_reducible refine' upd_old ?ho ?hb); (case ho => assumption); (case hb => walk_at "hp")) | (rw [upd_ne (by first | assumption | exact Ne.symm (by assumption))]; walk_at "hp"))
local macro_rules | `(tactic| walk_at "sqL") => `(tactic| first | assumption | exact SqL.of (by walk_at "hp"))
local macro_rules | `(tactic| walk_at "sqT") => `(tactic| first | assumption | exact SqT.of (by walk_at "hp"))
local macro_rules | `(tactic| walk_at "sqb") => `(tactic| (unfold SqB; first | ((with_reducible change SqL _ _ _ _); walk_at "sqL") | ((with_reducible change SqT _ _ _ _); walk_at "sqT")))
local macro_rules | `(tactic| walk_at "line") => `(tactic| first | assumption | decide | (apply line_of; walk_at "side") | (apply line_lt; walk_at "side"))
local macro_rules | `(tactic| walk_at "ty") => `(tactic| ((with_reducible refine' ty_lst ?hq); (case hq => walk_at "hp")))
local macro_rules | `(tactic| walk_at "at") => `(tactic| with_reducible first | assumption | exact at0 | exact at1 | exact at2 | exact at3 | exact at4 | exact at5 | exact at6 | exact at7 | exact at8)
local macro_rules | `(tactic| walk_at "st") => `(tactic| (repeat walk_at "st1"))
local macro_rules | `(tactic| walk_at "lk") => `(tactic| first | with_reducible assumption | rfl)
local macro_rules | `(tactic| walk_at "kd") => `(tactic| first | exact .base (.int _) | exact .base .non | exact .base (.bl _) | exact .base (.str _) | exact .base (.tup (by walk_at "hp")) | exact .base (.lst (by walk_at "hp")) | exact .base (.dK (by walk_at "hp")) | exact .base (.dT (by walk_at "hp")))
local macro_rules | `(tactic| walk_at "kit") => `(tactic| with_reducible first
  | exact kit_NoneType_bool
  | exact kit_NoneType_int
  | exact kit_NoneType_str
  | exact kit_NoneType_tuple
  | exact kit_NoneType_list
  | exact kit_NoneType_dict
  | exact kit_bool_bool
  | exact kit_bool_int
  | exact kit_bool_str
  | exact kit_bool_tuple
  | exact kit_bool_list
  | exact kit_bool_dict
  | exact kit_int_bool
  | exact kit_int_int
  | exact kit_int_str
  | exact kit_int_tuple
  | exact kit_int_list
  | exact kit_int_dict
  | exact kit_str_bool
  | exact kit_str_int
  | exact kit_str_str
  | exact kit_str_tuple
  | exact kit_str_list
  | exact kit_str_dict
  | exact kit_tuple_bool
  | exact kit_tuple_int
  | exact kit_tuple_str
  | exact kit_tuple_tuple
  | exact kit_tuple_list
  | exact kit_tuple_dict
  | exact kit_list_bool
  | exact kit_list_int
  | exact kit_list_str
  | exact kit_list_tuple
  | exact kit_list_list
  | exact kit_list_dict
  | exact kit_dict_bool
  | exact kit_dict_int
  | exact kit_dict_str
  | exact kit_dict_tuple
  | exact kit_dict_list
  | exact kit_dict_dict)
local macro_rules | `(tactic| walk_at "flen") => `(tactic| decide)
local macro_rules | `(tactic| walk_at "puts") => `(tactic| skip)

local macro_rules | `(tactic| walk_at "st1") => `(tactic| first
  | with_reducible refine st_dc ?_ | with_reducible refine st_dgetS ?_ | with_reducible refine st_dinS ?_ | with_reducible refine st_dninS ?_ | with_reducible refine st_dputS ?_ | with_reducible refine st_newT ?_ | with_reducible refine iteNN ?_ | with_reducible refine iteYN ?_
  | ((with_reducible refine' st_getT ?hq ?hk ?hv ?_); (case hq => walk_at "hp"); (case hk => walk_at "key"); (case hv => with_reducible assumption))
  | ((with_reducible refine' st_inT ?hq ?hk ?_); (case hq => walk_at "hp"); (case hk => walk_at "key"))
  | ((with_reducible refine' st_ninT ?hq ?hk ?_); (case hq => walk_at "hp"); (case hk => walk_at "key"))
  | ((with_reducible refine' st_putT ?hq ?hk ?hl ?_); (case hq => walk_at "hp"); (case hk => walk_at "key"); (case hl => walk_at "line"))
  | ((with_reducible refine' st_cputT ?hq ?hk ?hl ?_); (case hq => walk_at "hp"); (case hk => walk_at "key"); (case hl => walk_at "line"))
  | ((with_reducible refine' st_ixB ?hq ?he ?_); (case hq => first | assumption | exact Or.inl (by walk_at "sqL") | exact Or.inr (by walk_at "sqT")); (case he => walk_at "at")))
local macro_rules | `(tactic| walk_at "key") => `(tactic| with_reducible assumption)

section
variable {Z : Ads} {P : Program} {w : World} {K : PySem.W.Frag} {mg : Str → Option Value} {base : Heap}
def innerOf : Nat → PyData → List PyData
  | 0, _ => []
  | k + 1, s => (blocksOf s).flatMap fun b => allIn k (stmtsOf b)
/-- what stands within one block of a statement of nesting below n -/
def innerB : Nat → PyData → List PyData
  | 0, _ => []
  | k + 1, b => allIn k (stmtsOf b)
theorem innerOf_eq (n : Nat) (s : PyData) : innerOf n s = (blocksOf s).flatMap fun b => innerB n b := by
  cases n with
  | zero =>
    show [] = _
    induction blocksOf s with
    | nil => rfl
    | cons b bs ih => rw [List.flatMap_cons, ← ih]; rfl
  | succ k => rfl
theorem allIn_eq (n : Nat) (ss : List PyData) : allIn n ss = ss.flatMap fun s => s :: innerOf n s := by
  cases n with
  | zero =>
    show ss = _
    induction ss with
    | nil => rfl
    | cons s ss ih => rw [List.flatMap_cons, ← ih]; rfl
  | succ k => rfl
theorem flatSnoc {α β : Type} {g : α → List β} {xs : List α} {i : Nat} {e : α} (h : xs[i]? = some e) : (xs.take (i + 1)).flatMap g = (xs.take i).flatMap g ++ g e := by
  rw [List.take_add_one, h, List.flatMap_append]
  simp
theorem flatLe {α β : Type} {g : α → List β} (xs : List α) (i : Nat) : ((xs.take i).flatMap g).length ≤ (xs.flatMap g).length := by
  have h : (xs.flatMap g) = (xs.take i).flatMap g ++ (xs.drop i).flatMap g := by rw [← List.flatMap_append, List.take_append_drop]
  rw [h, List.length_append]
  omega
theorem flatIn {α β : Type} {g : α → List β} {xs : List α} {e : α} (h : e ∈ xs) : (g e).length ≤ (xs.flatMap g).length := by
  obtain ⟨i, hi⟩ := List.getElem?_of_mem h
  have h1 := flatLe (g := g) xs (i + 1)
  rw [flatSnoc hi, List.length_append] at h1
  omega
theorem GS.blk {ns ts : List Str} {os : List (Str × Nat)} {n : Nat} {d : PyData} (h : GS ns ts os n d) (b : PyData) (hb : b ∈ blocksOf d) : ∃ ss j, b = .tuple ss ∧ n = j + 1 ∧ ss.length ≤ 40 ∧ ∀ s ∈ ss, GS ns ts os j s := by
  obtain ⟨x, e, bs, rfl, _, k⟩ := h.shp.ok
  have eb : blocksOf (.tuple (.str x :: e :: bs)) = if isComp x = true then bs else [] := rfl
  rw [eb] at hb
  by_cases hc : isComp x = true
  · rw [if_pos hc] at hb
    exact k hc b hb
  · rw [if_neg hc] at hb
    exact nomatch hb
def spAllIn (ns ts : List Str) (os : List (Str × Nat)) (n : Nat) : Sp := fun vs H Q _ => ∃ (v : V) (ss : List PyData), vs = [v] ∧ TD H v (.tuple ss) ∧ (∀ s ∈ ss, GS ns ts os n s) ∧ (allIn n ss).length ≤ 1000 ∧ ∀ (H' : Hp) (r : Addr) (xs : List V), H r = none → H' r = some (.lst xs) → TDs H' xs (allIn n ss) → Fr [] H H' → Q (.ref r) H'
abbrev s_all_in : Stmt := top 36
theorem sc_all_in : FnScope ["block", "found", "statement", "inner"] ["block"] (defScope s_all_in) := ⟨rfl, rfl, rfl, by decide +kernel, rfl, by decide +kernel, by decide +kernel⟩
theorem step_all_in {ns ts : List Str} {os : List (Str × Nat)} {f : Addr} {fd : FuncData} (F : Fun K "all_in" "all_in" s_all_in f fd) (T : Txt K mg Z) (n : Nat) (D_blocks_in : Dn P w K mg base "blocks_in" 1 ["statement"] (spBlocksIn ns ts os n))
    (D_all_in : Dn P w K mg base "all_in" (1 + n) ["block"] (fun vs H Q E => ∃ m, m < n ∧ spAllIn ns ts os m vs H Q E)) : FnOk P w K mg base (L2.CX P w) (1 + n + 1) f fd ["block"] (spAllIn ns ts os n) := by
  refine okN F sc_all_in (fun vs H Q E h => ?_) (fun cdv A outer s0 H vs Q E hr h => ?_)
  · obtain ⟨v, ss, rfl, _⟩ := h
    rfl
  · obtain ⟨v, ss, rfl, hv, hG, hsz, q⟩ := h
    rw [allIn_eq] at hsz q
    cases hv with
    | @tup a zs _ ha hT =>
    have hl := hT.length
    refine ⟨_, [some _, none, none, none], rfl, (pss_cons (ps_set (i := 1) sc_all_in.nd rfl (by first | exact Or.inl rfl | exact Or.inr rfl) (pe_lst pa_nil))
      (pss_cons (ps_for PassesOwn.never rfl (kPiT (K := K) (pv 0)) (pg_name (i := 2) sc_all_in.nd rfl (by first | exact Or.inl rfl | exact Or.inr rfl))
      (pss_cons (ps_expr (kApp (K := K) (pv 1) (pv 2)))
      (pss_one (ps_for PassesOwn.never rfl (kPiT (K := K) (pe_d D_blocks_in E0 (hr.mono (by first | decide | omega)) (by rfl) passL (pa_cons (pv 2) pa_nil))) (pg_name (i := 3) sc_all_in.nd rfl (by first | exact Or.inl rfl | exact Or.inr rfl))
      (pss_one (ps_expr (kBm (K := K) PySem.F.plainAttrs_list PySem.F.slot_list_extend PySem.F.type_list_extend mt_extend (pv 1) (pa_cons (pe_d D_all_in E0 (hr.mono (by first | decide | omega)) (by rfl) passL (pa_cons (pv 3) pa_nil)) pa_nil))))))))
      (pss_one (ps_ret (pv 1))))), ?_⟩
    walk_at "st"
    intro u hu
    walk_at "st"
    refine for_it (walk_tup (xs := zs)) (fun i σ H' => ∃ xs o1 o2, σ = [some (.ref a), some (.ref u), o1, o2] ∧ Fr [] H H' ∧ H' u = some (.lst xs) ∧ TDs H' xs ((ss.take i).flatMap fun s => s :: innerOf n s)) ⟨[], none, none, rfl, Fr.up hu, upd_same, .nil⟩ (fun i σ H' _ ⟨_, _, _, _, f, _⟩ => SqT.of (f.tup _ _ ha)) ?_ ?_
    · rintro i x σ H1 H2 hi ⟨xs, o1, o2, rfl, f1, e1, t1⟩ ⟨rfl, hxi⟩
      obtain ⟨s, hs, ts'⟩ := TDs.at_ (TDs.mono f1.tup _ _ hT) hxi
      have gs := hG s (List.mem_of_getElem? hs)
      have b1 := flatLe (g := fun s => s :: innerOf n s) ss (i + 1)
      rw [flatSnoc hs] at b1 ⊢
      rw [List.length_append, List.length_cons] at b1
      have lx := t1.length
      walk_at "st"
      have f2 : Fr [u] H2 (upd H2 u (.lst (xs ++ [x]))) := (Fr.refl H2).wl e1 (.inl (by simp))
      have g2 : Fr [] H (upd H2 u (.lst (xs ++ [x]))) := f1.wl e1 (.inr hu)
      have e2 : upd H2 u (.lst (xs ++ [x])) u = some (.lst (xs ++ [x])) := upd_same
      have t2 : TDs (upd H2 u (.lst (xs ++ [x]))) (xs ++ [x]) ((ss.take i).flatMap (fun s => s :: innerOf n s) ++ [s]) := TDs.snoc (TDs.mono f2.tup _ _ t1) (TD.mono f2.tup _ _ ts')
      have ts2 := TD.mono f2.tup _ _ ts'
      generalize upd H2 u (.lst (xs ++ [x])) = H3 at f2 g2 e2 t2 ts2 ⊢
      walk_at "st"
      refine ⟨x, s, rfl, ts2, gs, fun H4 r bs hr tb f4 => ?_⟩
      have lb := tb.length
      have g4 := g2.trans f4
      have e4 := f4.same _ _ e2
      have t4 := TDs.mono f4.tup _ _ t2
      walk_at "st"
      refine for_it (walk_tup (xs := bs)) (fun j σ H' => ∃ ys o2, σ = [some (.ref a), some (.ref u), some x, o2] ∧ Fr [] H H' ∧ H' u = some (.lst ys) ∧ Tp H4 H' ∧ TDs H' ys (((ss.take i).flatMap (fun s => s :: innerOf n s) ++ [s]) ++ ((blocksOf s).take j).flatMap fun b => innerB n b)) ⟨_, _, rfl, g4, e4, Tp.refl _, by simpa using t4⟩ (fun j σ H' _ ⟨_, _, _, _, _, tp, _⟩ => SqT.of (tp _ _ hr)) ?_ ?_
      · rintro j y σ H5 H6 hj ⟨ys, o2', rfl, g5, e5, tp5, t5⟩ ⟨rfl, hyj⟩
        obtain ⟨b, hb, td⟩ := TDs.at_ (TDs.mono tp5 _ _ tb) hyj
        have hbm := List.mem_of_getElem? hb
        obtain ⟨ss', k, hbe, rfl, hss', hgs'⟩ := gs.blk b hbm
        subst hbe
        have b2 := flatIn (g := fun b => innerB (k + 1) b) hbm
        have b3 := flatLe (g := fun b => innerB (k + 1) b) (blocksOf s) (j + 1)
        rw [flatSnoc hb] at b3 ⊢
        rw [← innerOf_eq] at b2 b3
        rw [List.length_append] at b3
        have l5 := t5.length
        have l0 : ((ss.take i).flatMap (fun s => s :: innerOf (k + 1) s) ++ [s]).length = ((ss.take i).flatMap (fun s => s :: innerOf (k + 1) s)).length + 1 := by rw [List.length_append]; rfl
        rw [List.length_append, l0] at l5
        walk_at "st"
        refine ⟨k, by omega, y, ss', rfl, td, hgs', ?_, fun H7 r7 zs7 hr70 hr7 t7 f7 => ?_⟩
        · exact Nat.le_trans b2 (by omega)
        have e7 := f7.same _ _ e5
        have l7 := t7.length
        have l8 : (innerB (k + 1) (.tuple ss')).length = (allIn k ss').length := rfl
        have t57 := TDs.mono f7.tup _ _ t5
        walk_at "st"
        have f8 : Fr [u] H7 (upd H7 u (.lst (ys ++ zs7))) := (Fr.refl H7).wl e7 (.inl (by simp))
        refine ⟨_, _, rfl, (g5.trans f7).wl e7 (.inr hu), upd_same, fun p o e => f8.tup _ _ (f7.tup _ _ (tp5 _ _ e)), ?_⟩
        rw [← List.append_assoc]
        exact TDs.app (TDs.mono f8.tup _ _ t57) (TDs.mono f8.tup _ _ t7)
      · rintro σ H5 ⟨ys, o2', rfl, g5, e5, tp5, t5⟩
        rw [show (blocksOf s).take bs.length = blocksOf s from List.take_of_length_le (by omega), ← innerOf_eq, List.append_assoc] at t5
        exact ⟨ys, _, _, rfl, g5, e5, t5⟩
    · rintro σ H1 ⟨xs, o1, o2, rfl, f1, e1, t1⟩
      rw [List.take_of_length_le (by omega)] at t1
      walk_at "st"
      exact q _ u xs hu e1 t1 f1
end

end K03

namespace K03
open PySem PySem.Spec PyProof.Rows L2 Hq
local macro_rules | `(tactic| walk_at "st1") => `(tactic| first
  | with_reducible refine st_seq ?_ | with_reducible refine st_ret ?_ | with_reducible refine st_ifS ?_ | with_reducible refine st_asg ?_ | with_reducible refine st_drop ?_
  | ((with_reducible refine' st_var ?hv ?_); (case hv => rfl)) | with_reducible refine st_c ?_ | with_reducible refine st_op ?_ | with_reducible refine st_un ?_
  | with_reducible refine st_I0 ?_ | with_reducible refine st_U ?_ | ((with_reducible refine' st_I ?hc ?_); (case hc => walk_at "side"))
  | ((with_reducible refine' st_eq ?hs ?_); (case hs => rfl)) | ((with_reducible refine' st_ne ?hs ?_); (case hs => rfl))
  | with_reducible refine st_test ?_ | with_reducible refine st_B ?_ | with_reducible refine st_bl ?_ | with_reducible refine st_isN ?_ | with_reducible refine st_notN ?_
  | with_reducible refine st_chain ?_ | with_reducible refine st_and ?_ | with_reducible refine st_or ?_ | with_reducible refine st_not ?_
  | with_reducible refine st_andV ?_ | with_reducible refine st_orV ?_ | with_reducible refine st_notV ?_ | with_reducible refine st_if ?_
  | with_reducible refine st_CB ?_ | with_reducible refine st_cons ?_ | with_reducible refine st_nil ?_ | with_reducible refine st_fld ?_
  | ((with_reducible refine st_tup ?_)) | ((with_reducible refine st_lst ?_))
  | with_reducible refine st_call ?_ | with_reducible refine st_meth ?_ | with_reducible refine st_make ?_
  | with_reducible refine st_sl ?_ | with_reducible refine st_noPart ?_ | with_reducible refine st_part ?_ | with_reducible refine st_int ?_
  | ((with_reducible refine' st_ixL ?hq ?he ?_); (case hq => walk_at "sqL"); (case he => walk_at "at"))
  | ((with_reducible refine' st_ixT ?hq ?he ?_); (case hq => walk_at "sqT"); (case he => walk_at "at"))
  | with_reducible refine st_bm ?_ | with_reducible refine st_app ?_
  | ((with_reducible refine' st_append ?hq ?hl ?_); (case hq => walk_at "hp"); (case hl => walk_at "line"))
  | ((with_reducible refine' st_len (n := 0) ?hq ?_); (case hq => first | exact Or.inl (by walk_at "sqL") | exact Or.inr (by walk_at "sqT")))
  | ((with_reducible refine' st_listOf ?hq ?_); (case hq => first | exact Or.inl (by walk_at "sqL") | exact Or.inr (by walk_at "sqT")))
  | ((with_reducible refine st_name ?_); (try dsimp only [List.set_cons_zero, List.set_cons_succ])) | with_reducible refine st_par ?_
  | with_reducible refine st_gcons ?_ | with_reducible refine st_gnil ?_ | with_reducible refine st_gsub ?_ | with_reducible refine st_sFld ?_
  | ((with_reducible refine' st_gtup ?hq ?hl ?_); (case hq => walk_at "sqT"); (case hl => rfl))
  | ((with_reducible refine' st_setL ?hq ?hl ?_); (case hq => walk_at "hp"); (case hl => first | rfl | exact ix0 | exact ixN_nat (by assumption)); (try simp only [Int.reduceToNat, List.set_cons_zero, List.set_cons_succ]))
  | with_reducible refine st_intI ?_ | with_reducible refine st_abs ?_
  | ((with_reducible refine' st_popAt ?hq ?hk ?hy ?_); (case hq => walk_at "hp"); (case hk => exact seq0); (case hy => rfl))
  | ((with_reducible refine' and_left ?ht ?_); (case ht => walk_at "ty"))
  | with_reducible refine st_lc ?_ | with_reducible refine st_for ?_ | with_reducible refine st_iL ?_ | with_reducible refine st_iT ?_ | with_reducible refine st_iR1 ?_ | with_reducible refine st_iR2 ?_ | with_reducible refine st_iZ ?_
  | ((with_reducible refine' st_refL ?hq ?_); (case hq => walk_at "sqL")) | ((with_reducible refine' st_refT ?hq ?_); (case hq => walk_at "sqT"))
  | ((with_reducible refine' st_rng1 ?hq ?_); (case hq => walk_at "side")) | ((with_reducible refine' st_rng2 ?hq ?_); (case hq => walk_at "side"))
  | ((with_reducible refine' st_zip ?hq ?hr ?_); (case hq => walk_at "sqb"); (case hr => walk_at "sqb"))
  | ((with_reducible refine' st_size ?hw ?_); (case hw => walk_at "line"))
  | ((with_reducible refine' st_sum ?hq ?_); (case hq => walk_at "sqL"))
  | with_reducible refine st_two ?_ | with_reducible refine st_yes ?_ | ((with_reducible refine' st_wipe ?hw ?_); (case hw => rfl))
  | ((with_reducible refine' st_slL ?hq ?_); (case hq => walk_at "sqL"))
  | ((with_reducible refine' st_cat ?hq ?hr ?hl ?_); (case hq => walk_at "hp"); (case hr => walk_at "hp"); (case hl => walk_at "line"))
  | ((with_reducible refine' st_isi ?hk ?he ?_); (case hk => walk_at "kd"); (case he => walk_at "kit"))
  | ((with_reducible refine' st_ins ?hq ?hc ?hn ?hl ?_); (case hq => walk_at "hp"); (case hc => with_reducible assumption); (case hn => with_reducible assumption); (case hl => walk_at "flen"); walk_at "puts")
  | ((with_reducible refine' st_att ?hq ?hc ?hn ?hl ?_); (case hq => walk_at "hp"); (case hc => with_reducible assumption); (case hn => with_reducible assumption); (case hl => walk_at "lk"))
  | ((with_reducible refine' st_mt ?hq ?hl ?_); (case hq => walk_at "hp"); (case hl => walk_at "lk"))
  | ((with_reducible refine' st_extend ?hq ?hr ?hl ?_); (case hq => walk_at "hp"); (case hr => walk_at "hp"); (case hl => walk_at "line"))
  | with_reducible refine st_next ?_ | with_reducible refine st_retN ?_ | (with_reducible refine iteNT ?_) | (with_reducible refine iteNF ?_) | (with_reducible refine iteT ?_) | (with_reducible refine iteF ?_))
local macro_rules | `(tactic| walk_at "side") => `(tactic| first | omega | decide | assumption | exact ⟨by omega, by omega⟩ | exact Or.inr ⟨by omega, by omega⟩ | exact Or.inl ⟨by omega, by omega⟩ | (simp only [List.length_map, List.length_cons, List.length_nil, List.length_append] at *; omega))
local macro_rules | `(tactic| walk_at "hp") => `(tactic| first | assumption | exact upd_same | ((with_reducible refine' upd_old ?ho ?hb); (case ho => assumption); (case hb => walk_at "hp")) | (rw [upd_ne (by first | assumption | exact Ne.symm (by assumption))]; walk_at "hp"))
local macro_rules | `(tactic| walk_at "sqL") => `(tactic| first | assumption | exact SqL.of (by walk_at "hp"))
local macro_rules | `(tactic| walk_at "sqT") => `(tactic| first | assumption | exact SqT.of (by walk_at "hp"))
local macro_rules | `(tactic| walk_at "sqb") => `(tactic| (unfold SqB; first | ((with_reducible change SqL _ _ _ _); walk_at "sqL") | ((with_reducible change SqT _ _ _ _); walk_at "sqT")))
local macro_rules | `(tactic| walk_at "line") => `(tactic| first | assumption | decide | (apply line_of; walk_at "side") | (apply line_lt; walk_at "side"))
local macro_rules | `(tactic| walk_at "ty") => `(tactic| ((with_reducible refine' ty_lst ?hq); (case hq => walk_at "hp")))
local macro_rules | `(tactic| walk_at "at") => `(tactic| with_reducible first | assumption | exact at0 | exact at1 | exact at2 | exact at3 | exact at4 | exact at5 | exact at6 | exact at7 | exact at8)
local macro_rules | `(tactic| walk_at "st") => `(tactic| (repeat walk_at "st1"))
local macro_rules | `(tactic| walk_at "lk") => `(tactic| first | with_reducible assumption | rfl)
local macro_rules | `(tactic| walk_at "kd") => `(tactic| first | exact .base (.int _) | exact .base .non | exact .base (.bl _) | exact .base (.str _) | exact .base (.tup (by walk_at "hp")) | exact .base (.lst (by walk_at "hp")) | exact .base (.dK (by walk_at "hp")) | exact .base (.dT (by walk_at "hp")))
local macro_rules | `(tactic| walk_at "kit") => `(tactic| with_reducible first
  | exact kit_NoneType_bool
  | exact kit_NoneType_int
  | exact kit_NoneType_str
  | exact kit_NoneType_tuple
  | exact kit_NoneType_list
  | exact kit_NoneType_dict
  | exact kit_bool_bool
  | exact kit_bool_int
  | exact kit_bool_str
  | exact kit_bool_tuple
  | exact kit_bool_list
  | exact kit_bool_dict
  | exact kit_int_bool
  | exact kit_int_int
  | exact kit_int_str
  | exact kit_int_tuple
  | exact kit_int_list
  | exact kit_int_dict
  | exact kit_str_bool
  | exact kit_str_int
  | exact kit_str_str
  | exact kit_str_tuple
  | exact kit_str_list
  | exact kit_str_dict
  | exact kit_tuple_bool
  | exact kit_tuple_int
  | exact kit_tuple_str
  | exact kit_tuple_tuple
  | exact kit_tuple_list
  | exact kit_tuple_dict
  | exact kit_list_bool
  | exact kit_list_int
  | exact kit_list_str
  | exact kit_list_tuple
  | exact kit_list_list
  | exact kit_list_dict
  | exact kit_dict_bool
  | exact kit_dict_int
  | exact kit_dict_str
  | exact kit_dict_tuple
  | exact kit_dict_list
  | exact kit_dict_dict)
local macro_rules | `(tactic| walk_at "flen") => `(tactic| decide)
local macro_rules | `(tactic| walk_at "puts") => `(tactic| skip)

local macro_rules | `(tactic| walk_at "st1") => `(tactic| first
  | with_reducible refine st_dc ?_ | with_reducible refine st_dgetS ?_ | with_reducible refine st_dinS ?_ | with_reducible refine st_dninS ?_ | with_reducible refine st_dputS ?_ | with_reducible refine st_newT ?_ | with_reducible refine iteNN ?_ | with_reducible refine iteYN ?_
  | ((with_reducible refine' st_getT ?hq ?hk ?hv ?_); (case hq => walk_at "hp"); (case hk => walk_at "key"); (case hv => with_reducible assumption))
  | ((with_reducible refine' st_inT ?hq ?hk ?_); (case hq => walk_at "hp"); (case hk => walk_at "key"))
  | ((with_reducible refine' st_ninT ?hq ?hk ?_); (case hq => walk_at "hp"); (case hk => walk_at "key"))
  | ((with_reducible refine' st_putT ?hq ?hk ?hl ?_); (case hq => walk_at "hp"); (case hk => walk_at "key"); (case hl => walk_at "line"))
  | ((with_reducible refine' st_cputT ?hq ?hk ?hl ?_); (case hq => walk_at "hp"); (case hk => walk_at "key"); (case hl => walk_at "line"))
  | ((with_reducible refine' st_ixB ?hq ?he ?_); (case hq => first | assumption | exact Or.inl (by walk_at "sqL") | exact Or.inr (by walk_at "sqT")); (case he => walk_at "at")))
local macro_rules | `(tactic| walk_at "key") => `(tactic| with_reducible assumption)

section
variable {Z : Ads} {P : Program} {w : World} {K : PySem.W.Frag} {mg : Str → Option Value} {base : Heap}
/-! ### the names of a function -/
def W4 : List Str := ["let", "get", "wait", "write"]
def W3 : List Str := ["if", "while", "end"]
def W6 : List Str := ["let", "make", "get", "read", "call", "wait"]
def tupItems : PyData → List PyData
  | .tuple es => es
  | _ => []
def exprsOf : PyData → List PyData
  | .tuple (.str x :: ds) =>
    if x = "make" then ((ds.drop 1).take 1).flatMap tupItems
    else if x = "put" then ds.take 1 ++ (ds.drop 2).take 1
    else if x = "call" then ((ds.drop 2).take 1).flatMap tupItems
    else if x ∈ W3 then ds.take 1
    else if x = "read" then []
    else (ds.drop 1).take 1
  | _ => []
def strOf1 : PyData → List Str
  | .str s => [s]
  | _ => []
def placeOf : PyData → List Str
  | .tuple (.str x :: ds) => if x ∈ W6 then (ds.take 1).flatMap strOf1 else []
  | _ => []
/-- a statement's shape by its word -/
inductive ExS (x : Str) (ds : List PyData) (es : List PyData) : Prop
  | w4 {a b : PyData} {r : List PyData} : x ∈ W4 → ds = a :: b :: r → es = [b] → ExS x ds es
  | make {a : PyData} : x = "make" → ds = [a, .tuple es] → ExS x ds es
  | put {a b c : PyData} : x = "put" → ds = [a, b, c] → es = [a, c] → ExS x ds es
  | call {a b : PyData} : x = "call" → ds = [a, b, .tuple es] → ExS x ds es
  | w3 {a : PyData} {r : List PyData} : x ∈ W3 → ds = a :: r → es = [a] → ExS x ds es
  | read {a b : PyData} : x = "read" → ds = [a, b] → es = [] → ExS x ds es
structure StS (ns : List Str) (d : PyData) (x : Str) (ds : List PyData) : Prop where
  e : d = .tuple (.str x :: ds)
  s : ExS x ds (exprsOf d)
  g : ∀ e ∈ exprsOf d, GE ns 4 e
  l : (exprsOf d).length ≤ 4
  p : (x ∈ W6 ∧ ∃ s r, ds = .str s :: r ∧ placeOf d = [s] ∧ s ∈ ns) ∨ (x ∉ W6 ∧ placeOf d = [])
theorem GS.sts {ns ts : List Str} {os : List (Str × Nat)} {n : Nat} {d : PyData} (h : GS ns ts os n d) : ∃ x ds, StS ns d x ds := by
  cases h with
  | plain hp =>
    cases hp with
    | @let_ x s e hx hs ge =>
      rcases hx with rfl | rfl <;> exact ⟨_, _, rfl, .w4 (by decide +kernel) rfl rfl, fun e' he => (List.mem_singleton.mp he) ▸ ge, (by decide : (1 : Nat) ≤ 4), .inl ⟨by decide +kernel, _, _, rfl, rfl, hs⟩⟩
    | @make x s es hx hs h1 h4 ge =>
      subst hx
      have e : exprsOf (.tuple [.str "make", .str s, .tuple es]) = es := by
        show ([PyData.tuple es].flatMap tupItems) = es
        simp [tupItems]
      exact ⟨_, _, rfl, .make rfl (by rw [e]), by rw [e]; exact ge, by rw [e]; exact h4, .inl ⟨by decide +kernel, _, _, rfl, rfl, hs⟩⟩
    | @get x s e i hx hs ge h0 h3 =>
      subst hx
      exact ⟨_, _, rfl, .w4 (by decide +kernel) rfl rfl, fun e' he => (List.mem_singleton.mp he) ▸ ge, (by decide : (1 : Nat) ≤ 4), .inl ⟨by decide +kernel, _, _, rfl, rfl, hs⟩⟩
    | @put x e e' i hx ge h0 h3 ge' =>
      subst hx
      refine ⟨_, _, rfl, .put rfl rfl rfl, fun y hy => ?_, (by decide : (2 : Nat) ≤ 4), .inr ⟨by decide +kernel, rfl⟩⟩
      rcases List.mem_cons.mp hy with rfl | hy
      · exact ge
      · exact (List.mem_singleton.mp hy) ▸ ge'
    | @read x s t hx hs ht =>
      subst hx
      exact ⟨_, _, rfl, .read rfl rfl rfl, fun e' he => (nomatch he), (by decide : (0 : Nat) ≤ 4), .inl ⟨by decide +kernel, _, _, rfl, rfl, hs⟩⟩
    | @write x t e hx ht ge =>
      subst hx
      exact ⟨_, _, rfl, .w4 (by decide +kernel) rfl rfl, fun e' he => (List.mem_singleton.mp he) ▸ ge, (by decide : (1 : Nat) ≤ 4), .inr ⟨by decide +kernel, rfl⟩⟩
    | @call x s f es hx hs ho h4 ge =>
      subst hx
      have e : exprsOf (.tuple [.str "call", .str s, .str f, .tuple es]) = es := by
        show ([PyData.tuple es].flatMap tupItems) = es
        simp [tupItems]
      exact ⟨_, _, rfl, .call rfl (by rw [e]), by rw [e]; exact ge, by rw [e]; exact h4, .inl ⟨by decide +kernel, _, _, rfl, rfl, hs⟩⟩
    | @end_ x e hx ge =>
      subst hx
      exact ⟨_, _, rfl, .w3 (by decide +kernel) rfl rfl, fun e' he => (List.mem_singleton.mp he) ▸ ge, (by decide : (1 : Nat) ≤ 4), .inr ⟨by decide +kernel, rfl⟩⟩
  | @if_ j x e b c hx ge hb hc gb gc =>
    subst hx
    exact ⟨_, _, rfl, .w3 (by decide +kernel) rfl rfl, fun e' he => (List.mem_singleton.mp he) ▸ ge, (by decide : (1 : Nat) ≤ 4), .inr ⟨by decide +kernel, rfl⟩⟩
  | @while_ j x e b hx ge hb gb =>
    subst hx
    exact ⟨_, _, rfl, .w3 (by decide +kernel) rfl rfl, fun e' he => (List.mem_singleton.mp he) ▸ ge, (by decide : (1 : Nat) ≤ 4), .inr ⟨by decide +kernel, rfl⟩⟩
theorem up_tp {H : Hp} {p : Addr} {o : HO} (hp : H p = none) : Tp H (upd H p o) := (Fr.up (ms := []) hp).tup
def spExprsIn (ns ts : List Str) (os : List (Str × Nat)) (n : Nat) : Sp := fun vs H Q _ => ∃ (v : V) (d : PyData), vs = [v] ∧ TD H v d ∧ GS ns ts os n d ∧ ∀ (H' : Hp) (r : Addr) (xs : List V), H r = none → H' r = some (.lst xs) → TDs H' xs (exprsOf d) → Fr [] H H' → Q (.ref r) H'
theorem in4 {x : Str} : inV (V.str x) [V.str "let", V.str "get", V.str "wait", V.str "write"] = decide (x ∈ W4) := inV_strs x W4
theorem in3 {x : Str} : inV (V.str x) [V.str "if", V.str "while", V.str "end"] = decide (x ∈ W3) := inV_strs x W3
theorem in6 {x : Str} : inV (V.str x) [V.str "let", V.str "make", V.str "get", V.str "read", V.str "call", V.str "wait"] = decide (x ∈ W6) := inV_strs x W6
theorem flat4 : [V.str "let", V.str "get", V.str "wait", V.str "write"].all flatV = true := rfl
theorem w3_no {x : Str} (h : x ∈ W3) : x ∉ W4 ∧ x ≠ "make" ∧ x ≠ "put" ∧ x ≠ "call" := by
  simp only [W3, List.mem_cons, List.not_mem_nil, or_false] at h
  rcases h with rfl | rfl | rfl <;> decide +kernel
abbrev s_expressions_in : Stmt := top 38
theorem sc_expressions_in : FnScope ["statement", "word"] ["statement"] (defScope s_expressions_in) := ⟨rfl, rfl, rfl, by decide +kernel, rfl, by decide +kernel, by decide +kernel⟩
theorem ok_expressions_in {ns ts : List Str} {os : List (Str × Nat)} {n : Nat} {f : Addr} {fd : FuncData} (F : Fun K "expressions_in" "expressions_in" s_expressions_in f fd) (T : Txt K mg Z) : FnOk P w K mg base (L2.CX P w) 1 f fd ["statement"] (spExprsIn ns ts os n) := by
  refine okN F sc_expressions_in (fun vs H Q E h => ?_) (fun cdv A outer s0 H vs Q E hr h => ?_)
  · obtain ⟨v, d, rfl, _⟩ := h
    rfl
  · obtain ⟨v, d, rfl, hv, hG, q⟩ := h
    obtain ⟨x, ds, hS⟩ := hG.sts
    obtain ⟨rfl, hE, hg, hl4, _⟩ := hS
    generalize exprsOf (.tuple (.str x :: ds)) = es at hE hg hl4 q
    cases hv with
    | @tup a zs _ ha hT =>
    cases hT with
    | @cons z1 zs' _ _ t1 hT =>
    cases t1
    refine ⟨_, [some _, none], rfl, (pss_cons (ps_set (i := 1) sc_expressions_in.nd rfl (by first | exact Or.inl rfl | exact Or.inr rfl) (pe_ix (kIxT (K := K)) (pv 0) pe_int (fun _ _ => rfl)))
      (pss_cons (ps_if (pt_cmpR (kIn (K := K)) (pv 1) (pe_tup (pa_cons pe_str (pa_cons pe_str (pa_cons pe_str (pa_cons pe_str pa_nil))))) (by first | exact nomark _ | rfl)) (pss_one (ps_ret (pe_lst (pa_cons (pe_ix (kIxT (K := K)) (pv 0) pe_int (fun _ _ => rfl)) pa_nil)))) pss_nil)
      (pss_cons (ps_if (pt_cmpR op_eq (pv 1) pe_str (by first | exact nomark _ | rfl)) (pss_one (ps_ret (pe_callTy (kListOf (K := K)) (by rfl) T.n_list (by decide +kernel) (pa_cons (pe_ix (kIxT (K := K)) (pv 0) pe_int (fun _ _ => rfl)) pa_nil)))) pss_nil)
      (pss_cons (ps_if (pt_cmpR op_eq (pv 1) pe_str (by first | exact nomark _ | rfl)) (pss_one (ps_ret (pe_lst (pa_cons (pe_ix (kIxT (K := K)) (pv 0) pe_int (fun _ _ => rfl)) (pa_cons (pe_ix (kIxT (K := K)) (pv 0) pe_int (fun _ _ => rfl)) pa_nil))))) pss_nil)
      (pss_cons (ps_if (pt_cmpR op_eq (pv 1) pe_str (by first | exact nomark _ | rfl)) (pss_one (ps_ret (pe_callTy (kListOf (K := K)) (by rfl) T.n_list (by decide +kernel) (pa_cons (pe_ix (kIxT (K := K)) (pv 0) pe_int (fun _ _ => rfl)) pa_nil)))) pss_nil)
      (pss_one (ps_ret (pe_ifExp (pt_cmpR (kIn (K := K)) (pv 1) (pe_tup (pa_cons pe_str (pa_cons pe_str (pa_cons pe_str pa_nil)))) (by first | exact nomark _ | rfl)) (pe_lst (pa_cons (pe_ix (kIxT (K := K)) (pv 0) pe_int (fun _ _ => rfl)) pa_nil)) (pe_lst pa_nil))))))))), ?_⟩
    walk_at "st"
    intro u hu
    have fu : Fr [] H (upd H u (.tup [.str "let", .str "get", .str "wait", .str "write"])) := Fr.up hu
    have ha1 := fu.tup _ _ ha
    have hT1 := TDs.mono fu.tup _ _ hT
    walk_at "st"
    refine ⟨u, _, rfl, .inr (SqT.of upd_same), rfl, flat4, ?_⟩
    rw [if_neg Bool.false_ne_true, in4]
    generalize upd H u (.tup [.str "let", .str "get", .str "wait", .str "write"]) = H1 at fu ha1 hT1 ⊢
    cases hE with
    | w4 hx e1 e2 =>
      subst e1
      subst e2
      cases hT1 with
      | @cons z2 _ _ _ t2 hT1 =>
      cases hT1 with
      | @cons z3 _ _ _ t3 hT1 =>
      rw [decide_eq_true hx]
      walk_at "st"
      intro p hp
      exact q _ p _ (fu.free hp) upd_same (.cons (TD.mono (up_tp hp) _ _ t3) .nil) (fu.new hp)
    | make hx e1 =>
      subst e1
      cases hT1 with
      | @cons z2 _ _ _ t2 hT1 =>
      cases hT1 with
      | @cons z3 _ _ _ t3 hT1 =>
      cases hT1
      cases t3 with
      | @tup b xs _ hb hX =>
      rw [decide_eq_false (by rw [hx]; decide +kernel)]
      walk_at "st"
      refine iteD (fun _ => ?_) (fun h => absurd (by rw [hx]) h)
      walk_at "st"
      intro p hp
      exact q _ p _ (fu.free hp) upd_same (TDs.mono (up_tp hp) _ _ hX) (fu.new hp)
    | put hx e1 e2 =>
      subst e1
      subst e2
      cases hT1 with
      | @cons z2 _ _ _ t2 hT1 =>
      cases hT1 with
      | @cons z3 _ _ _ t3 hT1 =>
      cases hT1 with
      | @cons z4 _ _ _ t4 hT1 =>
      rw [decide_eq_false (by rw [hx]; decide +kernel)]
      walk_at "st"
      refine iteD (fun h => absurd (V.str.inj h) (str_ne hx (by decide +kernel))) (fun _ => ?_)
      walk_at "st"
      refine iteD (fun _ => ?_) (fun h => absurd (by rw [hx]) h)
      walk_at "st"
      intro p hp
      exact q _ p _ (fu.free hp) upd_same (.cons (TD.mono (up_tp hp) _ _ t2) (.cons (TD.mono (up_tp hp) _ _ t4) .nil)) (fu.new hp)
    | call hx e1 =>
      subst e1
      cases hT1 with
      | @cons z2 _ _ _ t2 hT1 =>
      cases hT1 with
      | @cons z3 _ _ _ t3 hT1 =>
      cases hT1 with
      | @cons z4 _ _ _ t4 hT1 =>
      cases hT1
      cases t4 with
      | @tup b xs _ hb hX =>
      rw [decide_eq_false (by rw [hx]; decide +kernel)]
      walk_at "st"
      refine iteD (fun h => absurd (V.str.inj h) (str_ne hx (by decide +kernel))) (fun _ => ?_)
      walk_at "st"
      refine iteD (fun h => absurd (V.str.inj h) (str_ne hx (by decide +kernel))) (fun _ => ?_)
      walk_at "st"
      refine iteD (fun _ => ?_) (fun h => absurd (by rw [hx]) h)
      walk_at "st"
      intro p hp
      exact q _ p _ (fu.free hp) upd_same (TDs.mono (up_tp hp) _ _ hX) (fu.new hp)
    | w3 hx e1 e2 =>
      subst e1
      subst e2
      obtain ⟨n1, n2, n3, n4⟩ := w3_no hx
      cases hT1 with
      | @cons z2 _ _ _ t2 hT1 =>
      rw [decide_eq_false n1]
      walk_at "st"
      refine iteD (fun h => absurd (V.str.inj h) n2) (fun _ => ?_)
      walk_at "st"
      refine iteD (fun h => absurd (V.str.inj h) n3) (fun _ => ?_)
      walk_at "st"
      refine iteD (fun h => absurd (V.str.inj h) n4) (fun _ => ?_)
      walk_at "st"
      intro u2 hu2
      have f2 : Fr [] H1 (upd H1 u2 (.tup [.str "if", .str "while", .str "end"])) := Fr.up hu2
      have ha2 := f2.tup _ _ ha1
      have t22 := TD.mono f2.tup _ _ t2
      walk_at "st"
      refine ⟨u2, _, rfl, .inr (SqT.of upd_same), rfl, rfl, ?_⟩
      rw [if_neg Bool.false_ne_true, in3, decide_eq_true hx]
      walk_at "st"
      intro p hp
      exact q _ p _ ((fu.trans f2).free hp) upd_same (.cons (TD.mono (up_tp hp) _ _ t22) .nil) ((fu.trans f2).new hp)
    | read hx e1 e2 =>
      subst e1
      subst e2
      rw [decide_eq_false (by rw [hx]; decide +kernel)]
      walk_at "st"
      refine iteD (fun h => absurd (V.str.inj h) (str_ne hx (by decide +kernel))) (fun _ => ?_)
      walk_at "st"
      refine iteD (fun h => absurd (V.str.inj h) (str_ne hx (by decide +kernel))) (fun _ => ?_)
      walk_at "st"
      refine iteD (fun h => absurd (V.str.inj h) (str_ne hx (by decide +kernel))) (fun _ => ?_)
      walk_at "st"
      intro u2 hu2
      have f2 : Fr [] H1 (upd H1 u2 (.tup [.str "if", .str "while", .str "end"])) := Fr.up hu2
      have ha2 := f2.tup _ _ ha1
      walk_at "st"
      refine ⟨u2, _, rfl, .inr (SqT.of upd_same), rfl, rfl, ?_⟩
      rw [if_neg Bool.false_ne_true, in3, decide_eq_false (by rw [hx]; decide +kernel)]
      walk_at "st"
      intro p hp
      exact q _ p _ ((fu.trans f2).free hp) upd_same .nil ((fu.trans f2).new hp)
end

end K03

namespace K03
open PySem PySem.Spec PyProof.Rows L2 Hq
local macro_rules | `(tactic| walk_at "st1") => `(tactic| first
  | with_reducible refine st_seq ?_ | with_reducible refine st_ret ?_ | with_reducible refine st_ifS ?_ | with_reducible refine st_asg ?_ | with_reducible refine st_drop ?_
  | ((with_reducible refine' st_var ?hv ?_); (case hv => rfl)) | with_reducible refine st_c ?_ | with_reducible refine st_op ?_ | with_reducible refine st_un ?_
  | with_reducible refine st_I0 ?_ | with_reducible refine st_U ?_ | ((with_reducible refine' st_I ?hc ?_); (case hc => walk_at "side"))
  | ((with_reducible refine' st_eq ?hs ?_); (case hs => rfl)) | ((with_reducible refine' st_ne ?hs ?_); (case hs => rfl))
  | with_reducible refine st_test ?_ | with_reducible refine st_B ?_ | with_reducible refine st_bl ?_ | with_reducible refine st_isN ?_ | with_reducible refine st_notN ?_
  | with_reducible refine st_chain ?_ | with_reducible refine st_and ?_ | with_reducible refine st_or ?_ | with_reducible refine st_not ?_
  | with_reducible refine st_andV ?_ | with_reducible refine st_orV ?_ | with_reducible refine st_notV ?_ | with_reducible refine st_if ?_
  | with_reducible refine st_CB ?_ | with_reducible refine st_cons ?_ | with_reducible refine st_nil ?_ | with_reducible refine st_fld ?_
  | ((with_reducible refine st_tup ?_)) | ((with_reducible refine st_lst ?_))
  | with_reducible refine st_call ?_ | with_reducible refine st_meth ?_ | with_reducible refine st_make ?_
  | with_reducible refine st_sl ?_ | with_reducible refine st_noPart ?_ | with_reducible refine st_part ?_ | with_reducible refine st_int ?_
  | ((with_reducible refine' st_ixL ?hq ?he ?_); (case hq => walk_at "sqL"); (case he => walk_at "at"))
  | ((with_reducible refine' st_ixT ?hq ?he ?_); (case hq => walk_at "sqT"); (case he => walk_at "at"))
  | with_reducible refine st_bm ?_ | with_reducible refine st_app ?_
  | ((with_reducible refine' st_append ?hq ?hl ?_); (case hq => walk_at "hp"); (case hl => walk_at "line"))
  | ((with_reducible refine' st_len (n := 0) ?hq ?_); (case hq => first | exact Or.inl (by walk_at "sqL") | exact Or.inr (by walk_at "sqT")))
  | ((with_reducible refine' st_listOf ?hq ?_); (case hq => first | exact Or.inl (by walk_at "sqL") | exact Or.inr (by walk_at "sqT")))
  | ((with_reducible refine st_name ?_); (try dsimp only [List.set_cons_zero, List.set_cons_succ])) | with_reducible refine st_par ?_
  | with_reducible refine st_gcons ?_ | with_reducible refine st_gnil ?_ | with_reducible refine st_gsub ?_ | with_reducible refine st_sFld ?_
  | ((with_reducible refine' st_gtup ?hq ?hl ?_); (case hq => walk_at "sqT"); (case hl => rfl))
  | ((with_reducible refine' st_setL ?hq ?hl ?_); (case hq => walk_at "hp"); (case hl => first | rfl | exact ix0 | exact ixN_nat (by assumption)); (try simp only [Int.reduceToNat, List.set_cons_zero, List.set_cons_succ]))
  | with_reducible refine st_intI ?_ | with_reducible refine st_abs ?_
  | ((with_reducible refine' st_popAt ?hq ?hk ?hy ?_); (case hq => walk_at "hp"); (case hk => exact seq0); (case hy => rfl))
  | ((with_reducible refine' and_left ?ht ?_); (case ht => walk_at "ty"))
  | with_reducible refine st_lc ?_ | with_reducible refine st_for ?_ | with_reducible refine st_iL ?_ | with_reducible refine st_iT ?_ | with_reducible refine st_iR1 ?_ | with_reducible refine st_iR2 ?_ | with_reducible refine st_iZ ?_
  | ((with_reducible refine' st_refL ?hq ?_); (case hq => walk_at "sqL")) | ((with_reducible refine' st_refT ?hq ?_); (case hq => walk_at "sqT"))
  | ((with_reducible refine' st_rng1 ?hq ?_); (case hq => walk_at "side")) | ((with_reducible refine' st_rng2 ?hq ?_); (case hq => walk_at "side"))
  | ((with_reducible refine' st_zip ?hq ?hr ?_); (case hq => walk_at "sqb"); (case hr => walk_at "sqb"))
  | ((with_reducible refine' st_size ?hw ?_); (case hw => walk_at "line"))
  | ((with_reducible refine' st_sum ?hq ?_); (case hq => walk_at "sqL"))
  | with_reducible refine st_two ?_ | with_reducible refine st_yes ?_ | ((with_reducible refine' st_wipe ?hw ?_); (case hw => rfl))
  | ((with_reducible refine' st_slL ?hq ?_); (case hq => walk_at "sqL"))
  | ((with_reducible refine' st_cat ?hq ?hr ?hl ?_); (case hq => walk_at "hp"); (case hr => walk_at "hp"); (case hl => walk_at "line"))
  | ((with_reducible refine' st_isi ?hk ?he ?_); (case hk => walk_at "kd"); (case he => walk_at "kit"))
  | ((with_reducible refine' st_ins ?hq ?hc ?hn ?hl ?_); (case hq => walk_at "hp"); (case hc => with_reducible assumption); (case hn => with_reducible assumption); (case hl => walk_at "flen"); walk_at "puts")
  | ((with_reducible refine' st_att ?hq ?hc ?hn ?hl ?_); (case hq => walk_at "hp"); (case hc => with_reducible assumption); (case hn => with_reducible assumption); (case hl => walk_at "lk"))
  | ((with_reducible refine' st_mt ?hq ?hl ?_); (case hq => walk_at "hp"); (case hl => walk_at "lk"))
  | ((with_reducible refine' st_extend ?hq ?hr ?hl ?_); (case hq => walk_at "hp"); (case hr => walk_at "hp"); (case hl => walk_at "line"))
  | with_reducible refine st_next ?_ | with_reducible refine st_retN ?_ | (with_reducible refine iteNT ?_) | (with_reducible refine iteNF ?_) | (with_reducible refine iteT ?_) | (with_reducible refine iteF ?_))
local macro_rules | `(tactic| walk_at "side") => `(tactic| first | omega | decide | assumption | exact ⟨by omega, by omega⟩ | exact Or.inr ⟨by omega, by omega⟩ | exact Or.inl ⟨by omega, by omega⟩ | (simp only [List.length_map, List.length_cons, List.length_nil, List.length_append] at *; omega))
local macro_rules | `(tactic| walk_at "hp") => `(tactic| first | assumption | exact upd_same | ((with_reducible refine' upd_old ?ho ?hb); (case ho => assumption); (case hb => walk_at "hp")) | (rw [upd_ne (by first | assumption | exact Ne.symm (by assumption))]; walk_at "hp"))
local macro_rules | `(tactic| walk_at "sqL") => `(tactic| first | assumption | exact SqL.of (by walk_at "hp"))
local macro_rules | `(tactic| walk_at "sqT") => `(tactic| first | assumption | exact SqT.of (by walk_at "hp"))
local macro_rules | `(tactic| walk_at "sqb") => `(tactic| (unfold SqB; first | ((with_reducible change SqL _ _ _ _); walk_at "sqL") | ((with_reducible change SqT _ _ _ _); walk_at "sqT")))
local macro_rules | `(tactic| walk_at "line") => `(tactic| first | assumption | decide | (apply line_of; walk_at "side") | (apply line_lt; walk_at "side"))
local macro_rules | `(tactic| walk_at "ty") => `(tactic| ((with_reducible refine' ty_lst ?hq); (case hq => walk_at "hp")))
local macro_rules | `(tactic| walk_at "at") => `(tactic| with_reducible first | assumption | exact at0 | exact at1 | exact at2 | exact at3 | exact at4 | exact at5 | exact at6 | exact at7 | exact at8)
local macro_rules | `(tactic| walk_at "st") => `(tactic| (repeat walk_at "st1"))
local macro_rules | `(tactic| walk_at "lk") => `(tactic| first | with_reducible assumption | rfl)
local macro_rules | `(tactic| walk_at "kd") => `(tactic| first | exact .base (.int _) | exact .base .non | exact .base (.bl _) | exact .base (.str _) | exact .base (.tup (by walk_at "hp")) | exact .base (.lst (by walk_at "hp")) | exact .base (.dK (by walk_at "hp")) | exact .base (.dT (by walk_at "hp")))
local macro_rules | `(tactic| walk_at "kit") => `(tactic| with_reducible first
  | exact kit_NoneType_bool
  | exact kit_NoneType_int
  | exact kit_NoneType_str
  | exact kit_NoneType_tuple
  | exact kit_NoneType_list
  | exact kit_NoneType_dict
  | exact kit_bool_bool
  | exact kit_bool_int
  | exact kit_bool_str
  | exact kit_bool_tuple
  | exact kit_bool_list
  | exact kit_bool_dict
  | exact kit_int_bool
  | exact kit_int_int
  | exact kit_int_str
  | exact kit_int_tuple
  | exact kit_int_list
  | exact kit_int_dict
  | exact kit_str_bool
  | exact kit_str_int
  | exact kit_str_str
  | exact kit_str_tuple
  | exact kit_str_list
  | exact kit_str_dict
  | exact kit_tuple_bool
  | exact kit_tuple_int
  | exact kit_tuple_str
  | exact kit_tuple_tuple
  | exact kit_tuple_list
  | exact kit_tuple_dict
  | exact kit_list_bool
  | exact kit_list_int
  | exact kit_list_str
  | exact kit_list_tuple
  | exact kit_list_list
  | exact kit_list_dict
  | exact kit_dict_bool
  | exact kit_dict_int
  | exact kit_dict_str
  | exact kit_dict_tuple
  | exact kit_dict_list
  | exact kit_dict_dict)
local macro_rules | `(tactic| walk_at "flen") => `(tactic| decide)
local macro_rules | `(tactic| walk_at "puts") => `(tactic| skip)

local macro_rules | `(tactic| walk_at "st1") => `(tactic| first
  | with_reducible refine st_dc ?_ | with_reducible refine st_dgetS ?_ | with_reducible refine st_dinS ?_ | with_reducible refine st_dninS ?_ | with_reducible refine st_dputS ?_ | with_reducible refine st_newT ?_ | with_reducible refine iteNN ?_ | with_reducible refine iteYN ?_
  | ((with_reducible refine' st_getT ?hq ?hk ?hv ?_); (case hq => walk_at "hp"); (case hk => walk_at "key"); (case hv => with_reducible assumption))
  | ((with_reducible refine' st_inT ?hq ?hk ?_); (case hq => walk_at "hp"); (case hk => walk_at "key"))
  | ((with_reducible refine' st_ninT ?hq ?hk ?_); (case hq => walk_at "hp"); (case hk => walk_at "key"))
  | ((with_reducible refine' st_putT ?hq ?hk ?hl ?_); (case hq => walk_at "hp"); (case hk => walk_at "key"); (case hl => walk_at "line"))
  | ((with_reducible refine' st_cputT ?hq ?hk ?hl ?_); (case hq => walk_at "hp"); (case hk => walk_at "key"); (case hl => walk_at "line"))
  | ((with_reducible refine' st_ixB ?hq ?he ?_); (case hq => first | assumption | exact Or.inl (by walk_at "sqL") | exact Or.inr (by walk_at "sqT")); (case he => walk_at "at")))
local macro_rules | `(tactic| walk_at "key") => `(tactic| with_reducible assumption)

section
variable {Z : Ads} {P : Program} {w : World} {K : PySem.W.Frag} {mg : Str → Option Value} {base : Heap}
def namesS (d : PyData) : List Str := placeOf d ++ (exprsOf d).flatMap (namesE 4)
def namesF (ps : List Str) (all : List PyData) : List Str := addAll (addAll [] ps) (all.flatMap namesS)
theorem namesE_sub : ∀ (n : Nat) (d : PyData) (ns : List Str), GE ns n d → ∀ x ∈ namesE n d, x ∈ ns
  | 0, _, _, h => nomatch h
  | n + 1, _, ns, .int _ _ _ => fun x hx => (nomatch hx)
  | n + 1, _, ns, .name _ hs => fun x hx => (List.mem_singleton.mp hx) ▸ hs
  | n + 1, _, ns, .op (x := y) (a := a) (b := b) _ ga gb => fun x hx => by
    have e : namesE (n + 1) (.tuple [.str y, a, b]) = namesE n a ++ namesE n b := by
      cases a <;> rfl
    rw [e, List.mem_append] at hx
    exact hx.elim (namesE_sub n a ns ga x) (namesE_sub n b ns gb x)
theorem namesS_sub {ns ts : List Str} {os : List (Str × Nat)} {n : Nat} {d : PyData} (h : GS ns ts os n d) : ∀ x ∈ namesS d, x ∈ ns := by
  obtain ⟨x, ds, hS⟩ := h.sts
  intro y hy
  unfold namesS at hy
  rw [List.mem_append, List.mem_flatMap] at hy
  rcases hy with hy | ⟨e, he, hy⟩
  · rcases hS.p with ⟨_, s, r, _, ep, hs⟩ | ⟨_, ep⟩
    · rw [ep] at hy
      exact (List.mem_singleton.mp hy) ▸ hs
    · rw [ep] at hy
      exact nomatch hy
  · exact namesE_sub _ _ _ (hS.g e he) y hy
theorem GS.mono {ns ts : List Str} {os : List (Str × Nat)} {k : Nat} {d : PyData} (h : GS ns ts os k d) : ∀ {j : Nat}, k ≤ j → GS ns ts os j d := by
  induction h with
  | plain hp => exact fun _ => .plain hp
  | if_ hx ge hb hc _ _ ib ic =>
    intro j hj
    obtain ⟨i, rfl⟩ : ∃ i, j = i + 1 := ⟨j - 1, by omega⟩
    exact .if_ hx ge hb hc (fun s hs => ib s hs (by omega)) (fun s hs => ic s hs (by omega))
  | while_ hx ge hb _ ib =>
    intro j hj
    obtain ⟨i, rfl⟩ : ∃ i, j = i + 1 := ⟨j - 1, by omega⟩
    exact .while_ hx ge hb (fun s hs => ib s hs (by omega))
theorem allIn_gs {ns ts : List Str} {os : List (Str × Nat)} : ∀ (n : Nat) (ss : List PyData), (∀ s ∈ ss, GS ns ts os n s) → ∀ s ∈ allIn n ss, GS ns ts os n s
  | 0, ss, h, s, hs => h s hs
  | n + 1, ss, h, s, hs => by
    rw [allIn_eq, List.mem_flatMap] at hs
    obtain ⟨t, ht, hs⟩ := hs
    rcases List.mem_cons.mp hs with rfl | hs
    · exact h _ ht
    · have hs' : s ∈ (blocksOf t).flatMap fun b => allIn n (stmtsOf b) := hs
      rw [List.mem_flatMap] at hs'
      obtain ⟨b, hb, hs'⟩ := hs'
      obtain ⟨ss', j, rfl, ej, _, g⟩ := (h t ht).blk b hb
      obtain rfl : n = j := by omega
      exact (allIn_gs n ss' g s hs').mono (by omega)
theorem namesF_nodup (ps : List Str) (all : List PyData) : (namesF ps all).Nodup := addAll_nodup _ (addAll_nodup _ List.nodup_nil)
theorem namesF_le {ns ps : List Str} {all : List PyData} (hp : ∀ x ∈ ps, x ∈ ns) (ha : ∀ s ∈ all, ∀ x ∈ namesS s, x ∈ ns) : (namesF ps all).length ≤ ns.length :=
  addAll_le (addAll_nodup _ List.nodup_nil) (fun x hx => ((addAll_mem _ _ _).mp hx).elim (fun h => (nomatch h)) (hp x)) fun x hx => by
    obtain ⟨s, hs, hx⟩ := List.mem_flatMap.mp hx
    exact ha s hs x hx
theorem namesF_sub {ns ps : List Str} {all : List PyData} (hp : ∀ x ∈ ps, x ∈ ns) (ha : ∀ s ∈ all, ∀ x ∈ namesS s, x ∈ ns) : ∀ x ∈ namesF ps all, x ∈ ns := fun x hx =>
  ((addAll_mem _ _ _).mp hx).elim (fun h => ((addAll_mem _ _ _).mp h).elim (fun h => (nomatch h)) (hp x)) fun hx => by
    obtain ⟨s, hs, hx⟩ := List.mem_flatMap.mp hx
    exact ha s hs x hx
/-- the names as told: ascending -/
def Told (ys ns : List Str) : Prop := ys.Perm ns ∧ sortedS ys = true
def spNamesTold (ns ts : List Str) (os : List (Str × Nat)) (n : Nat) : Sp := fun vs H Q _ => ∃ (p : Addr) (v : V) (ps : List Str) (ss : List PyData), vs = [.ref p, v] ∧ H p = some (.tup (ps.map V.str)) ∧ (∀ x ∈ ps, x ∈ ns) ∧ ns.length ≤ 40 ∧ ps.length ≤ 40 ∧ TD H v (.tuple ss) ∧ (∀ s ∈ ss, GS ns ts os n s) ∧ (allIn n ss).length ≤ 1000 ∧
  ∀ (H' : Hp) (r : Addr) (ys : List Str), Told ys (namesF ps (allIn n ss)) → H r = none → H' r = some (.lst (ys.map V.str)) → Fr [] H H' → Q (.ref r) H'
abbrev s_names_told : Stmt := top 39
theorem sc_names_told : FnScope ["params", "block", "found", "statement", "part", "name"] ["params", "block"] (defScope s_names_told) := ⟨rfl, rfl, rfl, by decide +kernel, rfl, by decide +kernel, by decide +kernel⟩
theorem ok_names_told {ns ts : List Str} {os : List (Str × Nat)} {n k : Nat} (hk : 5 ≤ k) {f : Addr} {fd : FuncData} (F : Fun K "names_told" "names_told" s_names_told f fd) (T : Txt K mg Z) (D_all_in : Dn P w K mg base "all_in" k ["block"] (spAllIn ns ts os n)) (D_names_in : Dn P w K mg base "names_in" 5 ["thing"] (spNamesIn ns 4)) (D_expressions_in : Dn P w K mg base "expressions_in" 1 ["statement"] (spExprsIn ns ts os n)) :
    FnOk P w K mg base (L2.CX P w) (k + 1) f fd ["params", "block"] (spNamesTold ns ts os n) := by
  refine okN F sc_names_told (fun vs H Q E h => ?_) (fun cdv A outer s0 H vs Q E hr h => ?_)
  · obtain ⟨p, v, ps, ss, rfl, _⟩ := h
    rfl
  · obtain ⟨p, v, ps, ss, rfl, hp, hps, hns, hpl, hv, hG, hsz, q⟩ := h
    have hA := allIn_gs n ss hG
    have hu := u1_of hr
    have hu0 := u0_of hr
    refine ⟨_, [some _, some _, none, none, none, none], rfl, (pss_cons (ps_setDc (i := 2) (own := [("name", 5)]) (g := (gName 5)) (tt := tYes) (.dK []) hu0 (Or.inl rfl) rfl sc_names_told.nd rfl rfl (sw_trueD rfl rfl rfl (by decide +kernel)) (kPiT (K := K) (pv 0)) (blkOk_by (N := ["params", "block", "found", "statement", "part", "name"]) (sc := defScope s_names_told) (by decide +kernel)) (fun _ _ _ _ _ => (pg_name (i := 5) sc_names_told.nd rfl (by first | exact Or.inl rfl | exact Or.inr rfl))) (fun _ _ _ _ _ => pts_nil) (fun _ _ _ _ _ => (pv 5)) (fun _ _ _ _ _ => pe_bl))
      (pss_cons (ps_for PassesOwn.never rfl (kPiL (K := K) (pe_d D_all_in E0 (hr.mono (by first | decide | omega)) (by rfl) passL (pa_cons (pv 1) pa_nil))) (pg_name (i := 3) sc_names_told.nd rfl (by first | exact Or.inl rfl | exact Or.inr rfl))
      (C8.pss_cut (ps_if (pt_cmpR (kIn (K := K)) (pe_ix (kIxT (K := K)) (pv 3) pe_int (fun _ _ => rfl)) (pe_tup (pa_cons pe_str (pa_cons pe_str (pa_cons pe_str (pa_cons pe_str (pa_cons pe_str (pa_cons pe_str pa_nil))))))) (by first | exact nomark _ | rfl)) (pss_one (ps_dput hu (pv 2) (pe_ix (kIxT (K := K)) (pv 3) pe_int (fun _ _ => rfl)) pe_bl rfl)) pss_nil)
      (pss_one (ps_for PassesOwn.never rfl (kPiL (K := K) (pe_d D_expressions_in E0 (hr.mono (by first | decide | omega)) (by rfl) passL (pa_cons (pv 3) pa_nil))) (pg_name (i := 4) sc_names_told.nd rfl (by first | exact Or.inl rfl | exact Or.inr rfl))
      (pss_one (ps_expr (kBm (K := K) PySem.F.plainAttrs_dict PySem.F.slot_dict_update PySem.F.type_dict_update mt_updK (pv 2) (pa_cons (pe_dcG (own := [("name", 5)]) (g := (gName 5)) (tt := tYes) (.dK []) hu0 (Or.inl rfl) rfl sc_names_told.nd (kPiL (K := K) (pe_d D_names_in E0 (hr.mono (by first | decide | omega)) (by rfl) passL (pa_cons (pv 4) pa_nil))) (blkOk_by (N := ["params", "block", "found", "statement", "part", "name"]) (sc := defScope s_names_told) (by decide +kernel)) (fun _ _ _ _ _ => (pg_name (i := 5) sc_names_told.nd rfl (by first | exact Or.inl rfl | exact Or.inr rfl))) (fun _ _ _ _ _ => pts_nil) (fun _ _ _ _ _ => (pv 5)) (fun _ _ _ _ _ => pe_bl)) pa_nil))))))))
      (pss_one (ps_ret (pe_callB (call_sortedD rfl) (by rfl) T.n_sorted (by decide +kernel) (pa_cons (pv 2) pa_nil)))))), ?_⟩
    have hD : ∀ {xs : List Str}, (∀ x ∈ xs, x ∈ ns) → (addAll [] xs).length ≤ 40 := fun {xs} hx => Nat.le_trans (addAll_le List.nodup_nil (fun x h => (nomatch h)) hx) hns
    walk_at "st"
    intro D hDn
    refine dc_it (walk_tup (xs := ps.map V.str)) (fun i H' => Fr [] H H' ∧ H' D = some (.dK (dkN (addAll [] (ps.take i))))) ⟨Fr.up hDn, upd_same⟩ (fun i H' _ h => SqT.of (h.1.tup _ _ hp)) ?_ ?_
    · rintro i x H1 H2 hi ⟨f1, e1⟩ ⟨rfl, hx⟩
      rw [List.getElem?_map] at hx
      obtain ⟨s, hs, rfl⟩ := Option.map_eq_some_iff.mp hx
      have l1 := hD (xs := ps.take i) fun x h => hps x (List.mem_of_mem_take h)
      walk_at "st"
      refine ⟨_, DPut.k (k := .inr s) e1 (line_lt (by rw [dkN_len]; omega)), f1.wr e1 trivial (.inr hDn), ?_⟩
      rw [upd_same, dkN_put, List.take_add_one, hs, addAll_append]
      rfl
    · rintro H1 ⟨f1, e1⟩
      rw [List.length_map, List.take_of_length_le (Nat.le_refl _)] at e1
      walk_at "st"
      refine ⟨v, ss, rfl, TD.mono f1.tup _ _ hv, hG, hsz, fun H2 r xs hr0 hr1 hT f2 => ?_⟩
      have e2 := f2.same _ _ e1
      have f02 := f1.trans f2
      have hl := hT.length
      walk_at "st"
      refine for_it (walk_list (xs := xs)) (fun i σ H' => ∃ o1 o2, σ = [some (.ref p), some v, some (.ref D), o1, o2, none] ∧ Fr [] H H' ∧ H' r = some (.lst xs) ∧ Tp H2 H' ∧ H' D = some (.dK (dkN (addAll (addAll [] ps) (((allIn n ss).take i).flatMap namesS))))) ⟨none, none, rfl, f02, hr1, Tp.refl _, e2⟩ (fun i σ H' _ ⟨_, _, _, _, h, _⟩ => SqL.of h) ?_ ?_
      · rintro i x σ H3 H4 hi ⟨o1, o2, rfl, f3, r3, tp3, e3⟩ ⟨rfl, hxi⟩
        obtain ⟨s, hs, tds⟩ := TDs.at_ (TDs.mono tp3 _ _ hT) hxi
        have hsm := List.mem_of_getElem? hs
        have gs := hA s hsm
        obtain ⟨y, ds, hS⟩ := gs.sts
        obtain ⟨es, hex, hlp⟩ := (⟨hS.e, hS.l, hS.p⟩ : _ ∧ _ ∧ _)
        have hng := namesS_sub gs
        subst es
        cases tds with
        | @tup b zs _ hb hT3 =>
        cases hT3 with
        | @cons z1 zs' _ _ t1 hT3 =>
        cases t1
        have hsub : ∀ z ∈ ((allIn n ss).take i).flatMap namesS, z ∈ ns := fun z hz => by
          obtain ⟨s', hs', hz⟩ := List.mem_flatMap.mp hz
          exact namesS_sub (hA s' (List.mem_of_mem_take hs')) z hz
        have hBn : (addAll (addAll [] ps) (((allIn n ss).take i).flatMap namesS)).Nodup := addAll_nodup _ (addAll_nodup _ List.nodup_nil)
        have hBs : ∀ z ∈ addAll (addAll [] ps) (((allIn n ss).take i).flatMap namesS), z ∈ ns := fun z hz =>
          ((addAll_mem _ _ _).mp hz).elim (fun h => ((addAll_mem _ _ _).mp h).elim (fun h => (nomatch h)) (hps z)) (hsub z)
        rw [flatSnoc hs, addAll_append]
        generalize addAll (addAll [] ps) (((allIn n ss).take i).flatMap namesS) = B at e3 hBn hBs ⊢
        have hBl : B.length ≤ ns.length := hBn.length_le_of_subset hBs
        have hpl2 : ∀ z ∈ placeOf (.tuple (.str y :: ds)), z ∈ ns := fun z hz => hng z (List.mem_append_left _ hz)
        have hB2 : (addAll B (placeOf (.tuple (.str y :: ds)))).Nodup := addAll_nodup _ hBn
        have hB2s : ∀ z ∈ addAll B (placeOf (.tuple (.str y :: ds))), z ∈ ns := fun z hz => ((addAll_mem _ _ _).mp hz).elim (hBs z) (hpl2 z)
        walk_at "st"
        refine ⟨fun σ H' => σ = [some (.ref p), some v, some (.ref D), some (.ref b), o2, none] ∧ Fr [] H H' ∧ H' r = some (.lst xs) ∧ Tp H4 H' ∧ H' D = some (.dK (dkN (addAll B (placeOf (.tuple (.str y :: ds)))))), ?_, ?_⟩
        · walk_at "st"
          intro u hun
          have fu : Fr [] H4 (upd H4 u (.tup [.str "let", .str "make", .str "get", .str "read", .str "call", .str "wait"])) := Fr.up hun
          have hb1 := fu.tup _ _ hb
          have e31 := fu.same _ _ e3
          have r31 := fu.same _ _ r3
          walk_at "st"
          refine ⟨u, _, rfl, .inr (SqT.of upd_same), rfl, rfl, ?_⟩
          rw [if_neg Bool.false_ne_true, in6]
          generalize upd H4 u (.tup [.str "let", .str "make", .str "get", .str "read", .str "call", .str "wait"]) = H5 at fu hb1 e31 r31 ⊢
          rcases hlp with ⟨h6, s', r', eds, ep, hs'⟩ | ⟨h6, ep⟩
          · subst eds
            cases hT3 with
            | @cons z2 zs2 _ _ t2 hT3 =>
            cases t2
            rw [decide_eq_true h6, ep] at *
            walk_at "st"
            refine ⟨D, _, rfl, DPut.k (k := .inr s') e31 (line_lt (by rw [dkN_len]; omega)), ?_⟩
            have nr : r ≠ D := by
              intro e
              rw [e, e31] at r31
              exact nomatch r31
            refine ⟨rfl, (f3.trans fu).wr e31 trivial (.inr hDn), ?_, ?_, ?_⟩
            · rw [upd_ne nr]
              exact r31
            · intro q' o e
              have e' := fu.tup _ _ e
              rw [upd_ne (fun eq => by rw [eq, e31] at e'; exact nomatch e')]
              exact e'
            · rw [upd_same, dkN_put]
              rfl
          · rw [decide_eq_false h6, ep]
            walk_at "st"
            exact ⟨rfl, f3.trans fu, r31, fu.tup, e31⟩
        · rintro σ H5 ⟨rfl, f5, r5, tp5, e5⟩
          have hg := hS.g
          have eN : namesS (.tuple (.str y :: ds)) = placeOf (.tuple (.str y :: ds)) ++ (exprsOf (.tuple (.str y :: ds))).flatMap (namesE 4) := rfl
          rw [eN] at hng ⊢
          rw [addAll_append]
          have td5 : TD H5 (.ref b) (.tuple (.str y :: ds)) := .tup (tp5 _ _ hb) (.cons (.str y) (TDs.mono tp5 _ _ hT3))
          walk_at "st"
          refine ⟨.ref b, _, rfl, td5, gs, fun H6 r6 xs6 hr60 hr6 tE f6 => ?_⟩
          have e6 := f6.same _ _ e5
          have r61 := f6.same _ _ r5
          generalize addAll B (placeOf (.tuple (.str y :: ds))) = B2 at hB2 hB2s e5 e6 ⊢
          generalize exprsOf (.tuple (.str y :: ds)) = es at hex hg hng tE ⊢
          have hB2l : B2.length ≤ ns.length := hB2.length_le_of_subset hB2s
          have lE := tE.length
          walk_at "st"
          refine for_it (walk_list (xs := xs6)) (fun j σ H' => ∃ o2, σ = [some (.ref p), some v, some (.ref D), some (.ref b), o2, none] ∧ Fr [] H H' ∧ H' r = some (.lst xs) ∧ H' r6 = some (.lst xs6) ∧ Tp H6 H' ∧ H' D = some (.dK (dkN (addAll B2 ((es.take j).flatMap (namesE 4)))))) ⟨_, rfl, f5.trans f6, r61, hr6, Tp.refl _, e6⟩ (fun i σ H' _ ⟨_, _, _, _, h, _⟩ => SqL.of h) ?_ ?_
          · rintro j x σ H7 H8 hj ⟨o3, rfl, f7, r7, r67, tp7, e7⟩ ⟨rfl, hxj⟩
            obtain ⟨e, he, te⟩ := TDs.at_ (TDs.mono tp7 _ _ tE) hxj
            have hem := List.mem_of_getElem? he
            have hsubJ : ∀ z ∈ (es.take j).flatMap (namesE 4), z ∈ ns := fun z hz => by
              obtain ⟨s', hs', hz⟩ := List.mem_flatMap.mp hz
              exact namesE_sub _ _ _ (hg s' (List.mem_of_mem_take hs')) z hz
            have hBJ : (addAll B2 ((es.take j).flatMap (namesE 4))).length ≤ ns.length := addAll_le hB2 hB2s hsubJ
            rw [flatSnoc he, addAll_append]
            generalize addAll B2 ((es.take j).flatMap (namesE 4)) = BJ at e7 hBJ ⊢
            have lN := namesE_len 4 e ns (hg e hem)
            have sN := namesE_sub 4 e ns (hg e hem)
            walk_at "st"
            refine ⟨ty_dK e7, ?_⟩
            walk_at "st"
            refine ⟨x, e, rfl, te, hg e hem, by decide, fun H9 r9 hr90 hr9 f9 => ?_⟩
            generalize namesE 4 e = nE at lN sN hr9 ⊢
            have e9 := f9.same _ _ e7
            have r19 := f9.same _ _ r7
            have r69 := f9.same _ _ r67
            walk_at "st"
            intro D2 hD2
            have ne : D2 ≠ D := fun eq => by rw [eq, e9] at hD2; exact nomatch hD2
            refine dc_it (walk_list (xs := nE.map V.str)) (fun i H' => Fr [] H9 H' ∧ H' D2 = some (.dK (dkN (addAll [] (nE.take i))))) ⟨Fr.up hD2, upd_same⟩ (fun i H' _ h => SqL.of (h.1.same _ _ hr9)) ?_ ?_
            · rintro i' x' Ha Hb hi' ⟨fa, ea⟩ ⟨rfl, hx'⟩
              rw [List.getElem?_map] at hx'
              obtain ⟨s', hs', rfl⟩ := Option.map_eq_some_iff.mp hx'
              have l1 := hD (xs := nE.take i') fun x h => sN x (List.mem_of_mem_take h)
              walk_at "st"
              refine ⟨_, DPut.k (k := .inr s') ea (line_lt (by rw [dkN_len]; omega)), fa.wr ea trivial (.inr hD2), ?_⟩
              rw [upd_same, dkN_put, List.take_add_one, hs', addAll_append]
              rfl
            · rintro Ha ⟨fa, ea⟩
              rw [List.length_map, List.take_of_length_le (Nat.le_refl _)] at ea
              have l2 := hD (xs := nE) sN
              have fa9 := f9.trans fa
              have ea1 := fa.same _ _ e9
              walk_at "st"
              refine ⟨D, D2, _, _, rfl, rfl, ne.symm, ea1, ea, Nat.le_of_lt (line_lt (by rw [dkN_len, dkN_len]; omega)), ?_⟩
              have nr : r ≠ D := by
                intro eq
                rw [eq, e9] at r19
                exact nomatch r19
              have nr6 : r6 ≠ D := by
                intro eq
                rw [eq, e9] at r69
                exact nomatch r69
              refine ⟨_, rfl, (f7.trans fa9).wr ea1 trivial (.inr hDn), ?_, ?_, ?_, ?_⟩
              · rw [upd_ne nr]
                exact fa.same _ _ r19
              · rw [upd_ne nr6]
                exact fa.same _ _ r69
              · intro q' o' e'
                have e'' := fa9.tup _ _ (tp7 _ _ e')
                rw [upd_ne (fun eq => by rw [eq, ea1] at e''; exact nomatch e'')]
                exact e''
              · rw [upd_same, dkN_merge, addAll_twice]
          · rintro σ H7 ⟨o3, rfl, f7, r7, r67, tp7, e7⟩
            rw [List.take_of_length_le (by omega)] at e7
            exact ⟨_, _, rfl, f7, r7, fun q' o' e' => tp7 _ _ (f6.tup _ _ (tp5 _ _ (tp3 _ _ e'))), e7⟩
      · rintro σ H3 ⟨o1, o2, rfl, f3, r3, tp3, e3⟩
        rw [List.take_of_length_le (by omega)] at e3
        have hl40 := namesF_le (all := allIn n ss) hps (fun s hs => namesS_sub (hA s hs))
        walk_at "st"
        refine ⟨D, _, namesF ps (allIn n ss), rfl, .inl e3, ?_, by omega, fun ys p1 hp1 hs1 hn1 => ?_⟩
        · unfold dkN
          rw [List.map_map]
          rfl
        · exact q _ p1 ys ⟨hp1, hs1⟩ (f3.free hn1) upd_same (f3.new hn1)
end

end K03

namespace K03
open PySem PySem.Spec PyProof.Rows L2 Hq
local macro_rules | `(tactic| walk_at "st1") => `(tactic| first
  | with_reducible refine st_seq ?_ | with_reducible refine st_ret ?_ | with_reducible refine st_ifS ?_ | with_reducible refine st_asg ?_ | with_reducible refine st_drop ?_
  | ((with_reducible refine' st_var ?hv ?_); (case hv => rfl)) | with_reducible refine st_c ?_ | with_reducible refine st_op ?_ | with_reducible refine st_un ?_
  | with_reducible refine st_I0 ?_ | with_reducible refine st_U ?_ | ((with_reducible refine' st_I ?hc ?_); (case hc => walk_at "side"))
  | ((with_reducible refine' st_eq ?hs ?_); (case hs => rfl)) | ((with_reducible refine' st_ne ?hs ?_); (case hs => rfl))
  | with_reducible refine st_test ?_ | with_reducible refine st_B ?_ | with_reducible refine st_bl ?_ | with_reducible refine st_isN ?_ | with_reducible refine st_notN ?_
  | with_reducible refine st_chain ?_ | with_reducible refine st_and ?_ | with_reducible refine st_or ?_ | with_reducible refine st_not ?_
  | with_reducible refine st_andV ?_ | with_reducible refine st_orV ?_ | with_reducible refine st_notV ?_ | with_reducible refine st_if ?_
  | with_reducible refine st_CB ?_ | with_reducible refine st_cons ?_ | with_reducible refine st_nil ?_ | with_reducible refine st_fld ?_
  | ((with_reducible refine st_tup ?_)) | ((with_reducible refine st_lst ?_))
  | with_reducible refine st_call ?_ | with_reducible refine st_meth ?_ | with_reducible refine st_make ?_
  | with_reducible refine st_sl ?_ | with_reducible refine st_noPart ?_ | with_reducible refine st_part ?_ | with_reducible refine st_int ?_
  | ((with_reducible refine' st_ixL ?hq ?he ?_); (case hq => walk_at "sqL"); (case he => walk_at "at"))
  | ((with_reducible refine' st_ixT ?hq ?he ?_); (case hq => walk_at "sqT"); (case he => walk_at "at"))
  | with_reducible refine st_bm ?_ | with_reducible refine st_app ?_
  | ((with_reducible refine' st_append ?hq ?hl ?_); (case hq => walk_at "hp"); (case hl => walk_at "line"))
  | ((with_reducible refine' st_len (n := 0) ?hq ?_); (case hq => first | exact Or.inl (by walk_at "sqL") | exact Or.inr (by walk_at "sqT")))
  | ((with_reducible refine' st_listOf ?hq ?_); (case hq => first | exact Or.inl (by walk_at "sqL") | exact Or.inr (by walk_at "sqT")))
  | ((with_reducible refine st_name ?_); (try dsimp only [List.set_cons_zero, List.set_cons_succ])) | with_reducible refine st_par ?_
  | with_reducible refine st_gcons ?_ | with_reducible refine st_gnil ?_ | with_reducible refine st_gsub ?_ | with_reducible refine st_sFld ?_
  | ((with_reducible refine' st_gtup ?hq ?hl ?_); (case hq => walk_at "sqT"); (case hl => rfl))
  | ((with_reducible refine' st_setL ?hq ?hl ?_); (case hq => walk_at "hp"); (case hl => first | rfl | exact ix0 | exact ixN_nat (by assumption)); (try simp only [Int.reduceToNat, List.set_cons_zero, List.set_cons_succ]))
  | with_reducible refine st_intI ?_ | with_reducible refine st_abs ?_
  | ((with_reducible refine' st_popAt ?hq ?hk ?hy ?_); (case hq => walk_at "hp"); (case hk => exact seq0); (case hy => rfl))
  | ((with_reducible refine' and_left ?ht ?_); (case ht => walk_at "ty"))
  | with_reducible refine st_lc ?_ | with_reducible refine st_for ?_ | with_reducible refine st_iL ?_ | with_reducible refine st_iT ?_ | with_reducible refine st_iR1 ?_ | with_reducible refine st_iR2 ?_ | with_reducible refine st_iZ ?_
  | ((with_reducible refine' st_refL ?hq ?_); (case hq => walk_at "sqL")) | ((with_reducible refine' st_refT ?hq ?_); (case hq => walk_at "sqT"))
  | ((with_reducible refine' st_rng1 ?hq ?_); (case hq => walk_at "side")) | ((with_reducible refine' st_rng2 ?hq ?_); (case hq => walk_at "side"))
  | ((with_reducible refine' st_zip ?hq ?hr ?_); (case hq => walk_at "sqb"); (case hr => walk_at "sqb"))
  | ((with_reducible refine' st_size ?hw ?_); (case hw => walk_at "line"))
  | ((with_reducible refine' st_sum ?hq ?_); (case hq => walk_at "sqL"))
  | with_reducible refine st_two ?_ | with_reducible refine st_yes ?_ | ((with_reducible refine' st_wipe ?hw ?_); (case hw => rfl))
  | ((with_reducible refine' st_slL ?hq ?_); (case hq => walk_at "sqL"))
  | ((with_reducible refine' st_cat ?hq ?hr ?hl ?_); (case hq => walk_at "hp"); (case hr => walk_at "hp"); (case hl => walk_at "line"))
  | ((with_reducible refine' st_isi ?hk ?he ?_); (case hk => walk_at "kd"); (case he => walk_at "kit"))
  | ((with_reducible refine' st_ins ?hq ?hc ?hn ?hl ?_); (case hq => walk_at "hp"); (case hc => with_reducible assumption); (case hn => with_reducible assumption); (case hl => walk_at "flen"); walk_at "puts")
  | ((with_reducible refine' st_att ?hq ?hc ?hn ?hl ?_); (case hq => walk_at "hp"); (case hc => with_reducible assumption); (case hn => with_reducible assumption); (case hl => walk_at "lk"))
  | ((with_reducible refine' st_mt ?hq ?hl ?_); (case hq => walk_at "hp"); (case hl => walk_at "lk"))
  | ((with_reducible refine' st_extend ?hq ?hr ?hl ?_); (case hq => walk_at "hp"); (case hr => walk_at "hp"); (case hl => walk_at "line"))
  | with_reducible refine st_next ?_ | with_reducible refine st_retN ?_ | (with_reducible refine iteNT ?_) | (with_reducible refine iteNF ?_) | (with_reducible refine iteT ?_) | (with_reducible refine iteF ?_))
local macro_rules | `(tactic| walk_at "side") => `(tactic| first | omega | decide | assumption | exact ⟨by omega, by omega⟩ | exact Or.inr ⟨by omega, by omega⟩ | exact Or.inl ⟨by omega, by omega⟩ | (simp only [List.length_map, List.length_cons, List.length_nil, List.length_append] at *; omega))
local macro_rules | `(tactic| walk_at "hp") => `(tactic| first | assumption | exact upd_same | ((with_reducible refine' upd_old ?ho ?hb); (case ho => assumption); (case hb => walk_at "hp")) | (rw [upd_ne (by first | assumption | exact Ne.symm (by assumption))]; walk_at "hp"))
local macro_rules | `(tactic| walk_at "sqL") => `(tactic| first | assumption | exact SqL.of (by walk_at "hp"))
local macro_rules | `(tactic| walk_at "sqT") => `(tactic| first | assumption | exact SqT.of (by walk_at "hp"))
local macro_rules | `(tactic| walk_at "sqb") => `(tactic| (unfold SqB; first | ((with_reducible change SqL _ _ _ _); walk_at "sqL") | ((with_reducible change SqT _ _ _ _); walk_at "sqT")))
local macro_rules | `(tactic| walk_at "line") => `(tactic| first | assumption | decide | (apply line_of; walk_at "side") | (apply line_lt; walk_at "side"))
local macro_rules | `(tactic| walk_at "ty") => `(tactic| ((with_reducible refine' ty_lst ?hq); (case hq => walk_at "hp")))
local macro_rules | `(tactic| walk_at "at") => `(tactic| with_reducible first | assumption | exact at0 | exact at1 | exact at2 | exact at3 | exact at4 | exact at5 | exact at6 | exact at7 | exact at8)
local macro_rules | `(tactic| walk_at "st") => `(tactic| (repeat walk_at "st1"))
local macro_rules | `(tactic| walk_at "lk") => `(tactic| first | with_reducible assumption | rfl)
local macro_rules | `(tactic| walk_at "kd") => `(tactic| first | exact .base (.int _) | exact .base .non | exact .base (.bl _) | exact .base (.str _) | exact .base (.tup (by walk_at "hp")) | exact .base (.lst (by walk_at "hp")) | exact .base (.dK (by walk_at "hp")) | exact .base (.dT (by walk_at "hp")))
local macro_rules | `(tactic| walk_at "kit") => `(tactic| with_reducible first
  | exact kit_NoneType_bool
  | exact kit_NoneType_int
  | exact kit_NoneType_str
  | exact kit_NoneType_tuple
  | exact kit_NoneType_list
  | exact kit_NoneType_dict
  | exact kit_bool_bool
  | exact kit_bool_int
  | exact kit_bool_str
  | exact kit_bool_tuple
  | exact kit_bool_list
  | exact kit_bool_dict
  | exact kit_int_bool
  | exact kit_int_int
  | exact kit_int_str
  | exact kit_int_tuple
  | exact kit_int_list
  | exact kit_int_dict
  | exact kit_str_bool
  | exact kit_str_int
  | exact kit_str_str
  | exact kit_str_tuple
  | exact kit_str_list
  | exact kit_str_dict
  | exact kit_tuple_bool
  | exact kit_tuple_int
  | exact kit_tuple_str
  | exact kit_tuple_tuple
  | exact kit_tuple_list
  | exact kit_tuple_dict
  | exact kit_list_bool
  | exact kit_list_int
  | exact kit_list_str
  | exact kit_list_tuple
  | exact kit_list_list
  | exact kit_list_dict
  | exact kit_dict_bool
  | exact kit_dict_int
  | exact kit_dict_str
  | exact kit_dict_tuple
  | exact kit_dict_list
  | exact kit_dict_dict)
local macro_rules | `(tactic| walk_at "flen") => `(tactic| decide)
local macro_rules | `(tactic| walk_at "puts") => `(tactic| skip)

local macro_rules | `(tactic| walk_at "st1") => `(tactic| first
  | with_reducible refine st_dc ?_ | with_reducible refine st_dgetS ?_ | with_reducible refine st_dinS ?_ | with_reducible refine st_dninS ?_ | with_reducible refine st_dputS ?_ | with_reducible refine st_newT ?_ | with_reducible refine iteNN ?_ | with_reducible refine iteYN ?_
  | ((with_reducible refine' st_getT ?hq ?hk ?hv ?_); (case hq => walk_at "hp"); (case hk => walk_at "key"); (case hv => with_reducible assumption))
  | ((with_reducible refine' st_inT ?hq ?hk ?_); (case hq => walk_at "hp"); (case hk => walk_at "key"))
  | ((with_reducible refine' st_ninT ?hq ?hk ?_); (case hq => walk_at "hp"); (case hk => walk_at "key"))
  | ((with_reducible refine' st_putT ?hq ?hk ?hl ?_); (case hq => walk_at "hp"); (case hk => walk_at "key"); (case hl => walk_at "line"))
  | ((with_reducible refine' st_cputT ?hq ?hk ?hl ?_); (case hq => walk_at "hp"); (case hk => walk_at "key"); (case hl => walk_at "line"))
  | ((with_reducible refine' st_ixB ?hq ?he ?_); (case hq => first | assumption | exact Or.inl (by walk_at "sqL") | exact Or.inr (by walk_at "sqT")); (case he => walk_at "at")))
local macro_rules | `(tactic| walk_at "key") => `(tactic| with_reducible assumption)

section
variable {Z : Ads} {P : Program} {w : World} {K : PySem.W.Frag} {mg : Str → Option Value} {base : Heap}
/-! ### how many statements, and where they stand -/
theorem sum_flat {α β : Type} {f : α → Int} {g : α → List β} (h : ∀ x, f x = ((g x).length : Nat)) : ∀ xs : List α, (xs.map f).sum = ((xs.flatMap g).length : Nat)
  | [] => rfl
  | x :: xs => by
    rw [List.map_cons, List.sum_cons, List.flatMap_cons, List.length_append, sum_flat h xs, h x]
    omega
def spSizeOf (ns ts : List Str) (os : List (Str × Nat)) (n : Nat) : Sp := fun vs H Q _ => ∃ (v : V) (d : PyData), vs = [v] ∧ TD H v d ∧ GS ns ts os n d ∧ (innerOf n d).length ≤ 1000 ∧ ∀ H', Fr [] H H' → Q (.int (1 + ((innerOf n d).length : Nat))) H'
abbrev s_size_of : Stmt := top 35
theorem sc_size_of : FnScope ["statement", "block", "part"] ["statement"] (defScope s_size_of) := ⟨rfl, rfl, rfl, by decide +kernel, rfl, by decide +kernel, by decide +kernel⟩
theorem step_size_of {ns ts : List Str} {os : List (Str × Nat)} {f : Addr} {fd : FuncData} (F : Fun K "size_of" "size_of" s_size_of f fd) (T : Txt K mg Z) (n : Nat) (D_blocks_in : Dn P w K mg base "blocks_in" 1 ["statement"] (spBlocksIn ns ts os n))
    (D_size_of : Dn P w K mg base "size_of" (1 + n) ["statement"] (fun vs H Q E => ∃ m, m < n ∧ spSizeOf ns ts os m vs H Q E)) : FnOk P w K mg base (L2.CX P w) (1 + n + 1) f fd ["statement"] (spSizeOf ns ts os n) := by
  refine okN F sc_size_of (fun vs H Q E h => ?_) (fun cdv A outer s0 H vs Q E hr h => ?_)
  · obtain ⟨v, d, rfl, _⟩ := h
    rfl
  · obtain ⟨v, d, rfl, hv, hG, hsz, q⟩ := h
    refine ⟨_, [some _, none, none], rfl, (pss_one (ps_ret (pe_op op_add pe_int (pe_callB (kSum (K := K)) (by rfl) T.n_sum (by decide +kernel) (pa_cons (pe_lc (own := [("block", 1)]) (g := (gName 1)) (tt := tYes) rfl sc_size_of.nd (kPiT (K := K) (pe_d D_blocks_in E0 (hr.mono (by first | decide | omega)) (by rfl) passL (pa_cons (pv 0) pa_nil))) (blkOk_by (N := ["statement", "block", "part"]) (sc := defScope s_size_of) (by decide +kernel)) (fun _ _ _ _ _ => (pg_name (i := 1) sc_size_of.nd rfl (by first | exact Or.inl rfl | exact Or.inr rfl))) (fun _ _ _ _ _ => pts_nil) (fun _ _ _ _ _ => (pe_callB (kSum (K := K)) (by rfl) T.n_sum (by decide +kernel) (pa_cons (pe_lc (own := [("part", 2)]) (g := (gName 2)) (tt := tYes) rfl sc_size_of.nd (kPiT (K := K) (pv 1)) (blkOk_by (by rfl)) (fun _ _ _ _ _ => (pg_name (i := 2) sc_size_of.nd rfl (by first | exact Or.inl rfl | exact Or.inr rfl))) (fun _ _ _ _ _ => pts_nil) (fun _ _ _ _ _ => (pe_d D_size_of E0 (hr.mono (by first | decide | omega)) (by rfl) passL (pa_cons (pv 2) pa_nil)))) pa_nil)))) pa_nil))))), ?_⟩
    walk_at "st"
    refine ⟨v, d, rfl, hv, hG, fun H1 r bs hr1 tb f1 => ?_⟩
    have lb := tb.length
    have lb3 : bs.length ≤ 3 := by
      obtain ⟨x, e, bs', rfl, h3, _⟩ := hG.shp.ok
      have eb : blocksOf (.tuple (.str x :: e :: bs')) = if isComp x = true then bs' else [] := rfl
      rw [lb, eb]
      split <;> simp
      exact h3
    rw [innerOf_eq] at hsz q
    walk_at "st"
    intro D hD
    refine lc_it (walk_tup (xs := bs)) (fun j H' => Fr [] H1 H' ∧ H' D = some (.lst ((((blocksOf d).take j).map fun b => ((innerB n b).length : Int)).map V.int))) ⟨Fr.up hD, upd_same⟩ (fun i H' _ h => SqT.of (h.1.tup _ _ hr1)) ?_ ?_
    · rintro j y H2 H3 hj ⟨f2, e2⟩ ⟨rfl, hyj⟩
      obtain ⟨b, hb, td⟩ := TDs.at_ (TDs.mono f2.tup _ _ tb) hyj
      have hbm := List.mem_of_getElem? hb
      obtain ⟨ss, k, hbe, rfl, hss, hgs⟩ := hG.blk b hbm
      subst hbe
      have b2 := flatIn (g := fun b => innerB (k + 1) b) hbm
      have b2' : (allIn k ss).length ≤ 1000 := Nat.le_trans b2 hsz
      rw [allIn_eq] at b2'
      cases td with
      | @tup a zs _ ha hT =>
      have lz := hT.length
      walk_at "st"
      intro D2 hD2
      refine lc_it (walk_tup (xs := zs)) (fun i H' => Fr [] H3 H' ∧ H' D2 = some (.lst (((ss.take i).map fun s => (1 + ((innerOf k s).length : Nat) : Int)).map V.int))) ⟨Fr.up hD2, upd_same⟩ (fun i H' _ h => SqT.of (h.1.tup _ _ ha)) ?_ ?_
      · rintro i x H4 H5 hi ⟨f4, e4⟩ ⟨rfl, hxi⟩
        obtain ⟨s, hs, tds⟩ := TDs.at_ (TDs.mono f4.tup _ _ hT) hxi
        have hsm := List.mem_of_getElem? hs
        have b4 := flatIn (g := fun s => s :: innerOf k s) hsm
        rw [List.length_cons] at b4
        walk_at "st"
        refine ⟨k, by omega, x, s, rfl, tds, hgs s hsm, by omega, fun H6 f6 => ?_⟩
        have e6 := f6.same _ _ e4
        refine ⟨_, e6, line_lt (by rw [List.length_map, List.length_map, List.length_take]; omega), (f4.trans f6).wl e6 (.inr hD2), ?_⟩
        rw [upd_same, List.take_add_one, hs, List.map_append, List.map_append]
        rfl
      · rintro H4 ⟨f4, e4⟩
        rw [List.take_of_length_le (by omega)] at e4
        walk_at "st"
        have e0 := f4.same _ _ e2
        refine ⟨_, e0, line_lt (by rw [List.length_map, List.length_map, List.length_take]; omega), (f2.trans f4).wl e0 (.inr hD), ?_⟩
        rw [upd_same, List.take_add_one, hb, List.map_append, List.map_append, sum_flat (g := fun s => s :: innerOf k s) (fun s => by rw [List.length_cons]; omega), ← allIn_eq]
        rfl
    · rintro H2 ⟨f2, e2⟩
      rw [List.take_of_length_le (by omega)] at e2
      walk_at "st"
      rw [sum_flat (g := fun b => innerB n b) (fun b => rfl)]
      exact q _ (f1.trans f2)
end

end K03

namespace K03
open PySem PySem.Spec PyProof.Rows L2 Hq
local macro_rules | `(tactic| walk_at "st1") => `(tactic| first
  | with_reducible refine st_seq ?_ | with_reducible refine st_ret ?_ | with_reducible refine st_ifS ?_ | with_reducible refine st_asg ?_ | with_reducible refine st_drop ?_
  | ((with_reducible refine' st_var ?hv ?_); (case hv => rfl)) | with_reducible refine st_c ?_ | with_reducible refine st_op ?_ | with_reducible refine st_un ?_
  | with_reducible refine st_I0 ?_ | with_reducible refine st_U ?_ | ((with_reducible refine' st_I ?hc ?_); (case hc => walk_at "side"))
  | ((with_reducible refine' st_eq ?hs ?_); (case hs => rfl)) | ((with_reducible refine' st_ne ?hs ?_); (case hs => rfl))
  | with_reducible refine st_test ?_ | with_reducible refine st_B ?_ | with_reducible refine st_bl ?_ | with_reducible refine st_isN ?_ | with_reducible refine st_notN ?_
  | with_reducible refine st_chain ?_ | with_reducible refine st_and ?_ | with_reducible refine st_or ?_ | with_reducible refine st_not ?_
  | with_reducible refine st_andV ?_ | with_reducible refine st_orV ?_ | with_reducible refine st_notV ?_ | with_reducible refine st_if ?_
  | with_reducible refine st_CB ?_ | with_reducible refine st_cons ?_ | with_reducible refine st_nil ?_ | with_reducible refine st_fld ?_
  | ((with_reducible refine st_tup ?_)) | ((with_reducible refine st_lst ?_))
  | with_reducible refine st_call ?_ | with_reducible refine st_meth ?_ | with_reducible refine st_make ?_
  | with_reducible refine st_sl ?_ | with_reducible refine st_noPart ?_ | with_reducible refine st_part ?_ | with_reducible refine st_int ?_
  | ((with_reducible refine' st_ixL ?hq ?he ?_); (case hq => walk_at "sqL"); (case he => walk_at "at"))
  | ((with_reducible refine' st_ixT ?hq ?he ?_); (case hq => walk_at "sqT"); (case he => walk_at "at"))
  | with_reducible refine st_bm ?_ | with_reducible refine st_app ?_
  | ((with_reducible refine' st_append ?hq ?hl ?_); (case hq => walk_at "hp"); (case hl => walk_at "line"))
  | ((with_reducible refine' st_len (n := 0) ?hq ?_); (case hq => first | exact Or.inl (by walk_at "sqL") | exact Or.inr (by walk_at "sqT")))
  | ((with_reducible refine' st_listOf ?hq ?_); (case hq => first | exact Or.inl (by walk_at "sqL") | exact Or.inr (by walk_at "sqT")))
  | ((with_reducible refine st_name ?_); (try dsimp only [List.set_cons_zero, List.set_cons_succ])) | with_reducible refine st_par ?_
  | with_reducible refine st_gcons ?_ | with_reducible refine st_gnil ?_ | with_reducible refine st_gsub ?_ | with_reducible refine st_sFld ?_
  | ((with_reducible refine' st_gtup ?hq ?hl ?_); (case hq => walk_at "sqT"); (case hl => rfl))
  | ((with_reducible refine' st_setL ?hq ?hl ?_); (case hq => walk_at "hp"); (case hl => first | rfl | exact ix0 | exact ixN_nat (by assumption)); (try simp only [Int.reduceToNat, List.set_cons_zero, List.set_cons_succ]))
  | with_reducible refine st_intI ?_ | with_reducible refine st_abs ?_
  | ((with_reducible refine' st_popAt ?hq ?hk ?hy ?_); (case hq => walk_at "hp"); (case hk => exact seq0); (case hy => rfl))
  | ((with_reducible refine' and_left ?ht ?_); (case ht => walk_at "ty"))
  | with_reducible refine st_lc ?_ | with_reducible refine st_for ?_ | with_reducible refine st_iL ?_ | with_reducible refine st_iT ?_ | with_reducible refine st_iR1 ?_ | with_reducible refine st_iR2 ?_ | with_reducible refine st_iZ ?_
  | ((with_reducible refine' st_refL ?hq ?_); (case hq => walk_at "sqL")) | ((with_reducible refine' st_refT ?hq ?_); (case hq => walk_at "sqT"))
  | ((with_reducible refine' st_rng1 ?hq ?_); (case hq => walk_at "side")) | ((with_reducible refine' st_rng2 ?hq ?_); (case hq => walk_at "side"))
  | ((with_reducible refine' st_zip ?hq ?hr ?_); (case hq => walk_at "sqb"); (case hr => walk_at "sqb"))
  | ((with_reducible refine' st_size ?hw ?_); (case hw => walk_at "line"))
  | ((with_reducible refine' st_sum ?hq ?_); (case hq => walk_at "sqL"))
  | with_reducible refine st_two ?_ | with_reducible refine st_yes ?_ | ((with_reducible refine' st_wipe ?hw ?_); (case hw => rfl))
  | ((with_reducible refine' st_slL ?hq ?_); (case hq => walk_at "sqL"))
  | ((with_reducible refine' st_cat ?hq ?hr ?hl ?_); (case hq => walk_at "hp"); (case hr => walk_at "hp"); (case hl => walk_at "line"))
  | ((with_reducible refine' st_isi ?hk ?he ?_); (case hk => walk_at "kd"); (case he => walk_at "kit"))
  | ((with_reducible refine' st_ins ?hq ?hc ?hn ?hl ?_); (case hq => walk_at "hp"); (case hc => with_reducible assumption); (case hn => with_reducible assumption); (case hl => walk_at "flen"); walk_at "puts")
  | ((with_reducible refine' st_att ?hq ?hc ?hn ?hl ?_); (case hq => walk_at "hp"); (case hc => with_reducible assumption); (case hn => with_reducible assumption); (case hl => walk_at "lk"))
  | ((with_reducible refine' st_mt ?hq ?hl ?_); (case hq => walk_at "hp"); (case hl => walk_at "lk"))
  | ((with_reducible refine' st_extend ?hq ?hr ?hl ?_); (case hq => walk_at "hp"); (case hr => walk_at "hp"); (case hl => walk_at "line"))
  | with_reducible refine st_next ?_ | with_reducible refine st_retN ?_ | (with_reducible refine iteNT ?_) | (with_reducible refine iteNF ?_) | (with_reducible refine iteT ?_) | (with_reducible refine iteF ?_))
local macro_rules | `(tactic| walk_at "side") => `(tactic| first | omega | decide | assumption | exact ⟨by omega, by omega⟩ | exact Or.inr ⟨by omega, by omega⟩ | exact Or.inl ⟨by omega, by omega⟩ | (simp only [List.length_map, List.length_cons, List.length_nil, List.length_append] at *; omega))
local macro_rules | `(tactic| walk_at "hp") => `(tactic| first | assumption | exact upd_same | ((with_reducible refine' upd_old ?ho ?hb); (case ho => assumption); (case hb => walk_at "hp")) | (rw [upd_ne (by first | assumption | exact Ne.symm (by assumption))]; walk_at "hp"))
local macro_rules | `(tactic| walk_at "sqL") => `(tactic| first | assumption | exact SqL.of (by walk_at "hp"))
local macro_rules | `(tactic| walk_at "sqT") => `(tactic| first | assumption | exact SqT.of (by walk_at "hp"))
local macro_rules | `(tactic| walk_at "sqb") => `(tactic| (unfold SqB; first | ((with_reducible change SqL _ _ _ _); walk_at "sqL") | ((with_reducible change SqT _ _ _ _); walk_at "sqT")))
local macro_rules | `(tactic| walk_at "line") => `(tactic| first | assumption | decide | (apply line_of; walk_at "side") | (apply line_lt; walk_at "side"))
local macro_rules | `(tactic| walk_at "ty") => `(tactic| ((with_reducible refine' ty_lst ?hq); (case hq => walk_at "hp")))
local macro_rules | `(tactic| walk_at "at") => `(tactic| with_reducible first | assumption | exact at0 | exact at1 | exact at2 | exact at3 | exact at4 | exact at5 | exact at6 | exact at7 | exact at8)
local macro_rules | `(tactic| walk_at "st") => `(tactic| (repeat walk_at "st1"))
local macro_rules | `(tactic| walk_at "lk") => `(tactic| first | with_reducible assumption | rfl)
local macro_rules | `(tactic| walk_at "kd") => `(tactic| first | exact .base (.int _) | exact .base .non | exact .base (.bl _) | exact .base (.str _) | exact .base (.tup (by walk_at "hp")) | exact .base (.lst (by walk_at "hp")) | exact .base (.dK (by walk_at "hp")) | exact .base (.dT (by walk_at "hp")))
local macro_rules | `(tactic| walk_at "kit") => `(tactic| with_reducible first
  | exact kit_NoneType_bool
  | exact kit_NoneType_int
  | exact kit_NoneType_str
  | exact kit_NoneType_tuple
  | exact kit_NoneType_list
  | exact kit_NoneType_dict
  | exact kit_bool_bool
  | exact kit_bool_int
  | exact kit_bool_str
  | exact kit_bool_tuple
  | exact kit_bool_list
  | exact kit_bool_dict
  | exact kit_int_bool
  | exact kit_int_int
  | exact kit_int_str
  | exact kit_int_tuple
  | exact kit_int_list
  | exact kit_int_dict
  | exact kit_str_bool
  | exact kit_str_int
  | exact kit_str_str
  | exact kit_str_tuple
  | exact kit_str_list
  | exact kit_str_dict
  | exact kit_tuple_bool
  | exact kit_tuple_int
  | exact kit_tuple_str
  | exact kit_tuple_tuple
  | exact kit_tuple_list
  | exact kit_tuple_dict
  | exact kit_list_bool
  | exact kit_list_int
  | exact kit_list_str
  | exact kit_list_tuple
  | exact kit_list_list
  | exact kit_list_dict
  | exact kit_dict_bool
  | exact kit_dict_int
  | exact kit_dict_str
  | exact kit_dict_tuple
  | exact kit_dict_list
  | exact kit_dict_dict)
local macro_rules | `(tactic| walk_at "flen") => `(tactic| decide)
local macro_rules | `(tactic| walk_at "puts") => `(tactic| skip)

local macro_rules | `(tactic| walk_at "st1") => `(tactic| first
  | with_reducible refine st_dc ?_ | with_reducible refine st_dgetS ?_ | with_reducible refine st_dinS ?_ | with_reducible refine st_dninS ?_ | with_reducible refine st_dputS ?_ | with_reducible refine st_newT ?_ | with_reducible refine iteNN ?_ | with_reducible refine iteYN ?_
  | ((with_reducible refine' st_getT ?hq ?hk ?hv ?_); (case hq => walk_at "hp"); (case hk => walk_at "key"); (case hv => with_reducible assumption))
  | ((with_reducible refine' st_inT ?hq ?hk ?_); (case hq => walk_at "hp"); (case hk => walk_at "key"))
  | ((with_reducible refine' st_ninT ?hq ?hk ?_); (case hq => walk_at "hp"); (case hk => walk_at "key"))
  | ((with_reducible refine' st_putT ?hq ?hk ?hl ?_); (case hq => walk_at "hp"); (case hk => walk_at "key"); (case hl => walk_at "line"))
  | ((with_reducible refine' st_cputT ?hq ?hk ?hl ?_); (case hq => walk_at "hp"); (case hk => walk_at "key"); (case hl => walk_at "line"))
  | ((with_reducible refine' st_ixB ?hq ?he ?_); (case hq => first | assumption | exact Or.inl (by walk_at "sqL") | exact Or.inr (by walk_at "sqT")); (case he => walk_at "at")))
local macro_rules | `(tactic| walk_at "key") => `(tactic| with_reducible assumption)

section
variable {Z : Ads} {P : Program} {w : World} {K : PySem.W.Frag} {mg : Str → Option Value} {base : Heap}
def spLaid (ns ts : List Str) (os : List (Str × Nat)) (n : Nat) : Sp := fun vs H Q _ => ∃ (a : Addr) (v : V) (place behind : Int) (ks : List (Key × V)) (ss : List PyData), vs = [.ref a, v, .int place, .int behind] ∧ H a = some (.dK ks) ∧ TD H v (.tuple ss) ∧ (∀ s ∈ ss, GS ns ts os n s) ∧ ks.length + (allIn n ss).length ≤ 1000 ∧
  ∀ (H' : Hp) (ks' : List (Key × V)), H' a = some (.dK ks') → ks'.length ≤ ks.length + (allIn n ss).length → Fr [a] H H' → Q .non H'
theorem inner_while {j : Nat} {x : Str} {e : PyData} {b : List PyData} (hx : x = "while") : innerOf (j + 1) (.tuple [.str x, e, .tuple b]) = allIn j b := by
  subst hx
  show ([PyData.tuple b].flatMap fun b => allIn j (stmtsOf b)) = _
  simp [stmtsOf]
theorem inner_if {j : Nat} {x : Str} {e : PyData} {b c : List PyData} (hx : x = "if") : innerOf (j + 1) (.tuple [.str x, e, .tuple b, .tuple c]) = allIn j b ++ allIn j c := by
  subst hx
  show ([PyData.tuple b, PyData.tuple c].flatMap fun b => allIn j (stmtsOf b)) = _
  simp [stmtsOf]
abbrev s_laid : Stmt := top 40
theorem sc_laid : FnScope ["rows", "block", "place", "behind", "at", "statement", "after", "later", "firsts", "other", "part"] ["rows", "block", "place", "behind"] (defScope s_laid) := ⟨rfl, rfl, rfl, by decide +kernel, rfl, by decide +kernel, by decide +kernel⟩
theorem step_laid {ns ts : List Str} {os : List (Str × Nat)} {f : Addr} {fd : FuncData} (F : Fun K "laid" "laid" s_laid f fd) (T : Txt K mg Z) (n : Nat) (D_size_of : Dn P w K mg base "size_of" (1 + n + 1) ["statement"] (fun vs H Q E => ∃ m, m ≤ n ∧ spSizeOf ns ts os m vs H Q E))
    (D_laid : Dn P w K mg base "laid" (2 + n) ["rows", "block", "place", "behind"] (fun vs H Q E => ∃ m, m < n ∧ spLaid ns ts os m vs H Q E)) : FnOk P w K mg base (L2.CX P w) (2 + n + 1) f fd ["rows", "block", "place", "behind"] (spLaid ns ts os n) := by
  refine okN F sc_laid (fun vs H Q E h => ?_) (fun cdv A outer s0 H vs Q E hr h => ?_)
  · obtain ⟨a, v, p, b, ks, ss, rfl, _⟩ := h
    rfl
  · obtain ⟨a, v, place, behind, ks, ss, rfl, ha, hv, hG, hsz, q⟩ := h
    rw [allIn_eq] at hsz q
    have hu := u1_of hr
    cases hv with
    | @tup b zs _ hb hT =>
    have hl := hT.length
    refine ⟨_, [some _, some _, some _, some _, none, none, none, none, none, none, none], rfl, (pss_one (ps_for PassesOwn.never rfl (kEnumT (K := K) (by rfl) T.n_enumerate (pa_cons (pv 1) pa_nil)) (kTupT (K := K) (n := 2) (pgs_cons (pg_name (i := 4) sc_laid.nd rfl (by first | exact Or.inl rfl | exact Or.inr rfl)) (pgs_cons (pg_name (i := 5) sc_laid.nd rfl (by first | exact Or.inl rfl | exact Or.inr rfl)) pgs_nil)))
      (pss_cons (ps_set (i := 6) sc_laid.nd rfl (by first | exact Or.inl rfl | exact Or.inr rfl) (pe_op op_add (pv 2) (pe_d D_size_of E0 (hr.mono (by first | decide | omega)) (by rfl) passL (pa_cons (pv 5) pa_nil))))
      (C8.pss_cut (ps_set (i := 7) sc_laid.nd rfl (by first | exact Or.inl rfl | exact Or.inr rfl) (pe_ifExp (pt_cmpR op_lt (pe_op op_add (pv 4) pe_int) (pe_callB (kLen (K := K)) (by rfl) T.n_len (by decide +kernel) (pa_cons (pv 1) pa_nil)) (by first | exact nomark _ | rfl)) (pv 6) (pv 3)))
      (pss_cons (ps_set (i := 8) sc_laid.nd rfl (by first | exact Or.inl rfl | exact Or.inr rfl) (pe_tup (pa_cons (pe_gl (by rfl) T.g_OFF) (pa_cons (pe_gl (by rfl) T.g_OFF) pa_nil))))
      (C8.pss_cut (ps_if (pt_cmpR op_eq (pe_ix (kIxT (K := K)) (pv 5) pe_int (fun _ _ => rfl)) pe_str (by first | exact nomark _ | rfl)) (C8.pss_cut (ps_set (i := 8) sc_laid.nd rfl (by first | exact Or.inl rfl | exact Or.inr rfl) (pe_tup (pa_cons (pe_ifExp (pt_cmpR op_gt (pe_callB (kLen (K := K)) (by rfl) T.n_len (by decide +kernel) (pa_cons (pe_ix (kIxT (K := K)) (pv 5) pe_int (fun _ _ => rfl)) pa_nil)) pe_int (by first | exact nomark _ | rfl)) (pe_op op_add (pv 2) pe_int) (pv 2)) (pa_cons (pe_gl (by rfl) T.g_OFF) pa_nil))))
      (pss_one (ps_expr (pe_d D_laid E0 (hr.mono (by first | decide | omega)) (by rfl) passL (pa_cons (pv 0) (pa_cons (pe_ix (kIxT (K := K)) (pv 5) pe_int (fun _ _ => rfl)) (pa_cons (pe_op op_add (pv 2) pe_int) (pa_cons (pv 2) pa_nil)))))))) (pss_one (ps_if (pt_cmpR op_eq (pe_ix (kIxT (K := K)) (pv 5) pe_int (fun _ _ => rfl)) pe_str (by first | exact nomark _ | rfl)) (pss_cons (ps_set (i := 9) sc_laid.nd rfl (by first | exact Or.inl rfl | exact Or.inr rfl) (pe_op op_add (pe_op op_add (pv 2) pe_int) (pe_callB (kSum (K := K)) (by rfl) T.n_sum (by decide +kernel) (pa_cons (pe_lc (own := [("part", 10)]) (g := (gName 10)) (tt := tYes) rfl sc_laid.nd (kPiT (K := K) (pe_ix (kIxT (K := K)) (pv 5) pe_int (fun _ _ => rfl))) (blkOk_by (N := ["rows", "block", "place", "behind", "at", "statement", "after", "later", "firsts", "other", "part"]) (sc := defScope s_laid) (by decide +kernel)) (fun _ _ _ _ _ => (pg_name (i := 10) sc_laid.nd rfl (by first | exact Or.inl rfl | exact Or.inr rfl))) (fun _ _ _ _ _ => pts_nil) (fun _ _ _ _ _ => (pe_d D_size_of E0 (hr.mono (by first | decide | omega)) (by rfl) passL (pa_cons (pv 10) pa_nil)))) pa_nil))))
      (C8.pss_cut (ps_set (i := 8) sc_laid.nd rfl (by first | exact Or.inl rfl | exact Or.inr rfl) (pe_tup (pa_cons (pe_ifExp (pt_cmpR op_gt (pe_callB (kLen (K := K)) (by rfl) T.n_len (by decide +kernel) (pa_cons (pe_ix (kIxT (K := K)) (pv 5) pe_int (fun _ _ => rfl)) pa_nil)) pe_int (by first | exact nomark _ | rfl)) (pe_op op_add (pv 2) pe_int) (pv 7)) (pa_cons (pe_ifExp (pt_cmpR op_gt (pe_callB (kLen (K := K)) (by rfl) T.n_len (by decide +kernel) (pa_cons (pe_ix (kIxT (K := K)) (pv 5) pe_int (fun _ _ => rfl)) pa_nil)) pe_int (by first | exact nomark _ | rfl)) (pv 9) (pv 7)) pa_nil))))
      (pss_cons (ps_expr (pe_d D_laid E0 (hr.mono (by first | decide | omega)) (by rfl) passL (pa_cons (pv 0) (pa_cons (pe_ix (kIxT (K := K)) (pv 5) pe_int (fun _ _ => rfl)) (pa_cons (pe_op op_add (pv 2) pe_int) (pa_cons (pv 7) pa_nil))))))
      (pss_one (ps_expr (pe_d D_laid E0 (hr.mono (by first | decide | omega)) (by rfl) passL (pa_cons (pv 0) (pa_cons (pe_ix (kIxT (K := K)) (pv 5) pe_int (fun _ _ => rfl)) (pa_cons (pv 9) (pa_cons (pv 7) pa_nil)))))))))) pss_nil)))
      (pss_cons (ps_dput hu (pv 0) (pv 2) (pe_tup (pa_cons (pv 5) (pa_cons (pv 7) (pa_cons (pe_ix (kIxT (K := K)) (pv 8) pe_int (fun _ _ => rfl)) (pa_cons (pe_ix (kIxT (K := K)) (pv 8) pe_int (fun _ _ => rfl)) pa_nil))))) rfl)
      (pss_one (ps_set (i := 2) sc_laid.nd rfl (by first | exact Or.inl rfl | exact Or.inr rfl) (pv 6)))))))))), ?_⟩
    walk_at "st"
    refine st_iET ?_
    walk_at "st"
    refine ⟨b, zs, rfl, SqT.of hb, ?_⟩
    refine for_it (walk_enumT (xs := zs)) (fun i σ H' => ∃ pl o4 o5 o6 o7 o8 o9 ks', σ = [some (.ref a), some (.ref b), some (.int pl), some (.int behind), o4, o5, o6, o7, o8, o9, none] ∧ Fr [a] H H' ∧ H' a = some (.dK ks') ∧ ks'.length ≤ ks.length + ((ss.take i).flatMap fun s => s :: innerOf n s).length) ⟨_, _, _, _, _, _, _, _, rfl, Fr.refl H, ha, by simp⟩ (fun i σ H' _ ⟨_, _, _, _, _, _, _, _, _, f, _⟩ => SqT.of (f.tup _ _ hb)) ?_ ?_
    · rintro i x σ H1 H2 hi ⟨pl, o4, o5, o6, o7, o8, o9, ks1, rfl, f1, a1, l1⟩ ⟨T0, x1, x2, rfl, hT0, rfl, e1, hxi⟩
      obtain rfl : V.int (i : Nat) = x1 := Option.some.inj e1
      have f2 : Fr [a] H (upd H1 T0 (.tup [.int (i : Nat), x2])) := f1.new hT0
      have a2 : upd H1 T0 (.tup [.int (i : Nat), x2]) a = some (.dK ks1) := upd_old hT0 a1
      have t2 : upd H1 T0 (.tup [.int (i : Nat), x2]) T0 = some (.tup [.int (i : Nat), x2]) := upd_same
      generalize upd H1 T0 (.tup [.int (i : Nat), x2]) = H2 at f2 a2 t2 ⊢
      obtain ⟨s, hs, tds⟩ := TDs.at_ (TDs.mono f2.tup _ _ hT) hxi
      have hsm := List.mem_of_getElem? hs
      have gs := hG s hsm
      have b1 := flatLe (g := fun s => s :: innerOf n s) ss (i + 1)
      rw [flatSnoc hs] at b1 ⊢
      rw [List.length_append, List.length_cons] at b1 ⊢
      walk_at "st"
      refine ⟨n, Nat.le_refl _, x2, s, rfl, tds, gs, by omega, fun H3 f3 => ?_⟩
      have f03 := f2.trans (f3.mono (by simp))
      have a3 := f3.same _ _ a2
      have tds3 := TD.mono f3.tup _ _ tds
      have hb3 := f03.tup _ _ hb
      walk_at "st"
      refine ⟨fun σ H' => ∃ later, σ = [some (.ref a), some (.ref b), some (.int pl), some (.int behind), some (.int (i : Nat)), some x2, some (.int (pl + (1 + ((innerOf n s).length : Nat)))), some (.int later), o8, o9, none] ∧ H' = H3, ?_, ?_⟩
      · walk_at "st"
        refine iteD (fun _ => ?_) (fun _ => ?_)
        · walk_at "st"
          exact ⟨_, rfl, rfl⟩
        · walk_at "st"
          exact ⟨_, rfl, rfl⟩
      rintro σ H4 ⟨later, rfl, rfl⟩
      walk_at "st"
      intro p hp
      have f4 : Fr [] H4 (upd H4 p (.tup [.int (-1), .int (-1)])) := Fr.up hp
      have f04 := f03.trans (f4.mono (by simp))
      have a4 := f4.same _ _ a3
      have tds4 := TD.mono f4.tup _ _ tds3
      have hp4 : upd H4 p (.tup [.int (-1), .int (-1)]) p = some (.tup [.int (-1), .int (-1)]) := upd_same
      generalize upd H4 p (.tup [.int (-1), .int (-1)]) = H5 at f4 f04 a4 tds4 hp4 ⊢
      walk_at "st"
      refine ⟨fun σ H' => ∃ (p : Addr) (g1 g2 : Int) (o9 : Option V) (ks' : List (Key × V)), σ = [some (.ref a), some (.ref b), some (.int pl), some (.int behind), some (.int (i : Nat)), some x2, some (.int (pl + (1 + ((innerOf n s).length : Nat)))), some (.int later), some (.ref p), o9, none] ∧ H' p = some (.tup [.int g1, .int g2]) ∧ Fr [a] H H' ∧ H' a = some (.dK ks') ∧ ks'.length ≤ ks1.length + (innerOf n s).length, ?_, ?_⟩
      rotate_left
      · rintro σ H6 ⟨p6, g1, g2, o9', ks6, rfl, hp6, f6, a6, l6⟩
        walk_at "st"
        intro r hr'
        have f7 := f6.new (o := .tup [x2, .int later, .int g1, .int g2]) hr'
        have a7 : upd H6 r (.tup [x2, .int later, .int g1, .int g2]) a = some (.dK ks6) := upd_old hr' a6
        walk_at "st"
        refine ⟨a, _, rfl, DPut.k (k := .inl pl) a7 (line_lt (by omega)), ?_⟩
        walk_at "st"
        refine ⟨_, _, _, _, _, _, _, _, rfl, f7.wr a7 trivial (.inl (by simp)), upd_same, ?_⟩
        have := length_putK ks6 (.inl pl : Key) (.ref r)
        omega
      cases gs with
      | plain hpl =>
        obtain ⟨x, ds, rfl, _, n1, n2⟩ := hpl.word
        cases tds4 with
        | @tup a' zs' _ ha' hT' =>
        cases hT' with
        | @cons z1 zs'' _ _ t1 hT' =>
        cases t1
        walk_at "st"
        refine iteD (fun h => absurd (V.str.inj h) n2) (fun _ => ?_)
        walk_at "st"
        refine iteD (fun h => absurd (V.str.inj h) n1) (fun _ => ?_)
        walk_at "st"
        exact ⟨p, _, _, _, ks1, rfl, hp4, f04, a4, by omega⟩
      | @while_ j x e bl hx ge hbl gb =>
        have ei := inner_while (j := j) (e := e) (b := bl) hx
        have eil := congrArg List.length ei
        rw [ei]
        cases tds4 with
        | @tup a' zs' _ ha' hT' =>
        cases hT' with
        | @cons z1 _ _ _ t1 hT' =>
        cases hT' with
        | @cons z2 _ _ _ t2 hT' =>
        cases hT' with
        | @cons z3 _ _ _ t3 hT' =>
        cases hT'
        cases t1
        have t3' := t3
        cases t3 with
        | @tup c zc _ hc hTc =>
        walk_at "st"
        refine iteD (fun _ => ?_) (fun h => absurd (by rw [hx]) h)
        walk_at "st"
        refine ⟨fun σ H' => ∃ (p : Addr) (g1 g2 : Int), σ = [some (.ref a), some (.ref b), some (.int pl), some (.int behind), some (.int (i : Nat)), some (.ref a'), some (.int (pl + (1 + ((allIn j bl).length : Nat)))), some (.int later), some (.ref p), o9, none] ∧ H' p = some (.tup [.int g1, .int g2]) ∧ Fr [] H5 H', ?_, ?_⟩
        · walk_at "st"
          refine iteD (fun _ => ?_) (fun _ => ?_)
          · walk_at "st"
            intro p6 hp6
            exact ⟨p6, _, _, rfl, upd_same, Fr.up hp6⟩
          · walk_at "st"
            intro p6 hp6
            exact ⟨p6, _, _, rfl, upd_same, Fr.up hp6⟩
        · rintro σ H6 ⟨p6, g1, g2, rfl, hp6, f6⟩
          have ha6 := f6.tup _ _ ha'
          have a6 := f6.same _ _ a4
          have f06 := f04.trans (f6.mono (by simp))
          walk_at "st"
          refine ⟨j, by omega, a, .ref c, _, _, ks1, bl, rfl, a6, TD.mono f6.tup _ _ t3', gb, by omega, fun H7 ks7 a7 l7 f7 => ?_⟩
          walk_at "st"
          exact ⟨p6, g1, g2, _, ks7, rfl, f7.tup _ _ hp6, f06.trans f7, a7, l7⟩
      | @if_ j x e bl cl hx ge hbl hcl gb gc =>
        have ei := inner_if (j := j) (e := e) (b := bl) (c := cl) hx
        have eil := congrArg List.length ei
        rw [List.length_append] at eil
        rw [ei, List.length_append]
        cases tds4 with
        | @tup a' zs' _ ha' hT' =>
        cases hT' with
        | @cons z1 _ _ _ t1 hT' =>
        cases hT' with
        | @cons z2 _ _ _ t2 hT' =>
        cases hT' with
        | @cons z3 _ _ _ t3 hT' =>
        cases hT' with
        | @cons z4 _ _ _ t4 hT' =>
        cases hT'
        cases t1
        have t3' := t3
        have t4' := t4
        cases t3 with
        | @tup c zc _ hc hTc =>
        cases t4 with
        | @tup d zd _ hd hTd =>
        have lc := hTc.length
        walk_at "st"
        refine iteD (fun h => absurd (V.str.inj h) (str_ne hx (by decide +kernel))) (fun _ => ?_)
        walk_at "st"
        refine iteD (fun _ => ?_) (fun h => absurd (by rw [hx]) h)
        walk_at "st"
        intro D hD
        refine lc_it (walk_tup (xs := zc)) (fun k H' => Fr [] H5 H' ∧ H' D = some (.lst (((bl.take k).map fun s => (1 + ((innerOf j s).length : Nat) : Int)).map V.int))) ⟨Fr.up hD, upd_same⟩ (fun k H' _ h => SqT.of (h.1.tup _ _ hc)) ?_ ?_
        · rintro k y H6 H7 hk ⟨f6, e6⟩ ⟨rfl, hyk⟩
          obtain ⟨s, hs', tds⟩ := TDs.at_ (TDs.mono f6.tup _ _ hTc) hyk
          have hsm' := List.mem_of_getElem? hs'
          have b4 := flatIn (g := fun s => s :: innerOf j s) hsm'
          rw [List.length_cons, ← allIn_eq] at b4
          walk_at "st"
          refine ⟨j, by omega, y, s, rfl, tds, gb s hsm', by omega, fun H8 f8 => ?_⟩
          have e8 := f8.same _ _ e6
          refine ⟨_, e8, line_lt (by rw [List.length_map, List.length_map, List.length_take]; omega), (f6.trans f8).wl e8 (.inr hD), ?_⟩
          rw [upd_same, List.take_add_one, hs', List.map_append, List.map_append]
          rfl
        rintro H6 ⟨f6, e6⟩
        rw [List.take_of_length_le (by omega)] at e6
        walk_at "st"
        have ha6 := f6.tup _ _ ha'
        have hc6 := f6.tup _ _ hc
        have hd6 := f6.tup _ _ hd
        generalize hsum : ((bl.map fun s => (1 + ((innerOf j s).length : Nat) : Int)).sum) = sm
        refine ⟨fun σ H' => ∃ (p : Addr) (g1 g2 : Int), σ = [some (.ref a), some (.ref b), some (.int pl), some (.int behind), some (.int (i : Nat)), some (.ref a'), some (.int (pl + (1 + (((allIn j bl).length + (allIn j cl).length : Nat) : Int)))), some (.int later), some (.ref p), some (.int (pl + 1 + sm)), none] ∧ H' p = some (.tup [.int g1, .int g2]) ∧ Fr [] H6 H', ?_, ?_⟩
        · walk_at "st"
          refine iteD (fun _ => ?_) (fun _ => ?_)
          · walk_at "st"
            refine iteD (fun _ => ?_) (fun _ => ?_)
            · walk_at "st"
              intro p6 hp6
              exact ⟨p6, _, _, rfl, upd_same, Fr.up hp6⟩
            · walk_at "st"
              intro p6 hp6
              exact ⟨p6, _, _, rfl, upd_same, Fr.up hp6⟩
          · walk_at "st"
            refine iteD (fun _ => ?_) (fun _ => ?_)
            · walk_at "st"
              intro p6 hp6
              exact ⟨p6, _, _, rfl, upd_same, Fr.up hp6⟩
            · walk_at "st"
              intro p6 hp6
              exact ⟨p6, _, _, rfl, upd_same, Fr.up hp6⟩
        · rintro σ H7 ⟨p6, g1, g2, rfl, hp6, f7⟩
          have ha7 := f7.tup _ _ ha6
          have f57 := f6.trans f7
          have a7 := f57.same _ _ a4
          have f07 := f04.trans (f57.mono (by simp))
          walk_at "st"
          refine ⟨j, by omega, a, .ref c, _, _, ks1, bl, rfl, a7, TD.mono f57.tup _ _ t3', gb, by omega, fun H8 ks8 a8 l8 f8 => ?_⟩
          have ha8 := f8.tup _ _ ha7
          have t48 := TD.mono (fun _ _ e => f8.tup _ _ (f57.tup _ _ e)) _ _ t4'
          walk_at "st"
          refine ⟨j, by omega, a, .ref d, _, _, ks8, cl, rfl, a8, t48, gc, by omega, fun H9 ks9 a9 l9 f9 => ?_⟩
          walk_at "st"
          exact ⟨p6, g1, g2, _, ks9, rfl, f9.tup _ _ (f8.tup _ _ hp6), (f07.trans f8).trans f9, a9, by omega⟩
    · rintro σ H1 ⟨pl, o4, o5, o6, o7, o8, o9, ks1, rfl, f1, a1, l1⟩
      rw [List.take_of_length_le (by omega)] at l1
      walk_at "st"
      exact q _ ks1 a1 l1 f1
end

end K03

namespace K03
open PySem PySem.Spec PyProof.Rows L2 Hq
local macro_rules | `(tactic| walk_at "st1") => `(tactic| first
  | with_reducible refine st_seq ?_ | with_reducible refine st_ret ?_ | with_reducible refine st_ifS ?_ | with_reducible refine st_asg ?_ | with_reducible refine st_drop ?_
  | ((with_reducible refine' st_var ?hv ?_); (case hv => rfl)) | with_reducible refine st_c ?_ | with_reducible refine st_op ?_ | with_reducible refine st_un ?_
  | with_reducible refine st_I0 ?_ | with_reducible refine st_U ?_ | ((with_reducible refine' st_I ?hc ?_); (case hc => walk_at "side"))
  | ((with_reducible refine' st_eq ?hs ?_); (case hs => rfl)) | ((with_reducible refine' st_ne ?hs ?_); (case hs => rfl))
  | with_reducible refine st_test ?_ | with_reducible refine st_B ?_ | with_reducible refine st_bl ?_ | with_reducible refine st_isN ?_ | with_reducible refine st_notN ?_
  | with_reducible refine st_chain ?_ | with_reducible refine st_and ?_ | with_reducible refine st_or ?_ | with_reducible refine st_not ?_
  | with_reducible refine st_andV ?_ | with_reducible refine st_orV ?_ | with_reducible refine st_notV ?_ | with_reducible refine st_if ?_
  | with_reducible refine st_CB ?_ | with_reducible refine st_cons ?_ | with_reducible refine st_nil ?_ | with_reducible refine st_fld ?_
  | ((with_reducible refine st_tup ?_)) | ((with_reducible refine st_lst ?_))
  | with_reducible refine st_call ?_ | with_reducible refine st_meth ?_ | with_reducible refine st_make ?_
  | with_reducible refine st_sl ?_ | with_reducible refine st_noPart ?_ | with_reducible refine st_part ?_ | with_reducible refine st_int ?_
  | ((with_reducible refine' st_ixL ?hq ?he ?_); (case hq => walk_at "sqL"); (case he => walk_at "at"))
  | ((with_reducible refine' st_ixT ?hq ?he ?_); (case hq => walk_at "sqT"); (case he => walk_at "at"))
  | with_reducible refine st_bm ?_ | with_reducible refine st_app ?_
  | ((with_reducible refine' st_append ?hq ?hl ?_); (case hq => walk_at "hp"); (case hl => walk_at "line"))
  | ((with_reducible refine' st_len (n := 0) ?hq ?_); (case hq => first | exact Or.inl (by walk_at "sqL") | exact Or.inr (by walk_at "sqT")))
  | ((with_reducible refine' st_listOf ?hq ?_); (case hq => first | exact Or.inl (by walk_at "sqL") | exact Or.inr (by walk_at "sqT")))
  | ((with_reducible refine st_name ?_); (try dsimp only [List.set_cons_zero, List.set_cons_succ])) | with_reducible refine st_par ?_
  | with_reducible refine st_gcons ?_ | with_reducible refine st_gnil ?_ | with_reducible refine st_gsub ?_ | with_reducible refine st_sFld ?_
  | ((with_reducible refine' st_gtup ?hq ?hl ?_); (case hq => walk_at "sqT"); (case hl => rfl))
  | ((with_reducible refine' st_setL ?hq ?hl ?_); (case hq => walk_at "hp"); (case hl => first | rfl | exact ix0 | exact ixN_nat (by assumption)); (try simp only [Int.reduceToNat, List.set_cons_zero, List.set_cons_succ]))
  | with_reducible refine st_intI ?_ | with_reducible refine st_abs ?_
  | ((with_reducible refine' st_popAt ?hq ?hk ?hy ?_); (case hq => walk_at "hp"); (case hk => exact seq0); (case hy => rfl))
  | ((with_reducible refine' and_left ?ht ?_); (case ht => walk_at "ty"))
  | with_reducible refine st_lc ?_ | with_reducible refine st_for ?_ | with_reducible refine st_iL ?_ | with_reducible refine st_iT ?_ | with_reducible refine st_iR1 ?_ | with_reducible refine st_iR2 ?_ | with_reducible refine st_iZ ?_
  | ((with_reducible refine' st_refL ?hq ?_); (case hq => walk_at "sqL")) | ((with_reducible refine' st_refT ?hq ?_); (case hq => walk_at "sqT"))
  | ((with_reducible refine' st_rng1 ?hq ?_); (case hq => walk_at "side")) | ((with_reducible refine' st_rng2 ?hq ?_); (case hq => walk_at "side"))
  | ((with_reducible refine' st_zip ?hq ?hr ?_); (case hq => walk_at "sqb"); (case hr => walk_at "sqb"))
  | ((with_reducible refine' st_size ?hw ?_); (case hw => walk_at "line"))
  | ((with_reducible refine' st_sum ?hq ?_); (case hq => walk_at "sqL"))
  | with_reducible refine st_two ?_ | with_reducible refine st_yes ?_ | ((with_reducible refine' st_wipe ?hw ?_); (case hw => rfl))
  | ((with_reducible refine' st_slL ?hq ?_); (case hq => walk_at "sqL"))
  | ((with_reducible refine' st_cat ?hq ?hr ?hl ?_); (case hq => walk_at "hp"); (case hr => walk_at "hp"); (case hl => walk_at "line"))
  | ((with_reducible refine' st_isi ?hk ?he ?_); (case hk => walk_at "kd"); (case he => walk_at "kit"))
  | ((with_reducible refine' st_ins ?hq ?hc ?hn ?hl ?_); (case hq => walk_at "hp"); (case hc => with_reducible assumption); (case hn => with_reducible assumption); (case hl => walk_at "flen"); walk_at "puts")
  | ((with_reducible refine' st_att ?hq ?hc ?hn ?hl ?_); (case hq => walk_at "hp"); (case hc => with_reducible assumption); (case hn => with_reducible assumption); (case hl => walk_at "lk"))
  | ((with_reducible refine' st_mt ?hq ?hl ?_); (case hq => walk_at "hp"); (case hl => walk_at "lk"))
  | ((with_reducible refine' st_extend ?hq ?hr ?hl ?_); (case hq => walk_at "hp"); (case hr => walk_at "hp"); (case hl => walk_at "line"))
  | with_reducible refine st_next ?_ | with_reducible refine st_retN ?_ | (with_reducible refine iteNT ?_) | (with_reducible refine iteNF ?_) | (with_reducible refine iteT ?_) | (with_reducible refine iteF ?_))
local macro_rules | `(tactic| walk_at "side") => `(tactic| first | omega | decide | assumption | exact ⟨by omega, by omega⟩ | exact Or.inr ⟨by omega, by omega⟩ | exact Or.inl ⟨by omega, by omega⟩ | (simp only [List.length_map, List.length_cons, List.length_nil, List.length_append] at *; omega))
local macro_rules | `(tactic| walk_at "hp") => `(tactic| first | assumption | exact upd_same | ((with_reducible refine' upd_old ?ho ?hb); (case ho => assumption); (case hb => walk_at "hp")) | (rw [upd_ne (by first | assumption | exact Ne.symm (by assumption))]; walk_at "hp"))
local macro_rules | `(tactic| walk_at "sqL") => `(tactic| first | assumption | exact SqL.of (by walk_at "hp"))
local macro_rules | `(tactic| walk_at "sqT") => `(tactic| first | assumption | exact SqT.of (by walk_at "hp"))
local macro_rules | `(tactic| walk_at "sqb") => `(tactic| (unfold SqB; first | ((with_reducible change SqL _ _ _ _); walk_at "sqL") | ((with_reducible change SqT _ _ _ _); walk_at "sqT")))
local macro_rules | `(tactic| walk_at "line") => `(tactic| first | assumption | decide | (apply line_of; walk_at "side") | (apply line_lt; walk_at "side"))
local macro_rules | `(tactic| walk_at "ty") => `(tactic| ((with_reducible refine' ty_lst ?hq); (case hq => walk_at "hp")))
local macro_rules | `(tactic| walk_at "at") => `(tactic| with_reducible first | assumption | exact at0 | exact at1 | exact at2 | exact at3 | exact at4 | exact at5 | exact at6 | exact at7 | exact at8)
local macro_rules | `(tactic| walk_at "st") => `(tactic| (repeat walk_at "st1"))
local macro_rules | `(tactic| walk_at "lk") => `(tactic| first | with_reducible assumption | rfl)
local macro_rules | `(tactic| walk_at "kd") => `(tactic| first | exact .base (.int _) | exact .base .non | exact .base (.bl _) | exact .base (.str _) | exact .base (.tup (by walk_at "hp")) | exact .base (.lst (by walk_at "hp")) | exact .base (.dK (by walk_at "hp")) | exact .base (.dT (by walk_at "hp")))
local macro_rules | `(tactic| walk_at "kit") => `(tactic| with_reducible first
  | exact kit_NoneType_bool
  | exact kit_NoneType_int
  | exact kit_NoneType_str
  | exact kit_NoneType_tuple
  | exact kit_NoneType_list
  | exact kit_NoneType_dict
  | exact kit_bool_bool
  | exact kit_bool_int
  | exact kit_bool_str
  | exact kit_bool_tuple
  | exact kit_bool_list
  | exact kit_bool_dict
  | exact kit_int_bool
  | exact kit_int_int
  | exact kit_int_str
  | exact kit_int_tuple
  | exact kit_int_list
  | exact kit_int_dict
  | exact kit_str_bool
  | exact kit_str_int
  | exact kit_str_str
  | exact kit_str_tuple
  | exact kit_str_list
  | exact kit_str_dict
  | exact kit_tuple_bool
  | exact kit_tuple_int
  | exact kit_tuple_str
  | exact kit_tuple_tuple
  | exact kit_tuple_list
  | exact kit_tuple_dict
  | exact kit_list_bool
  | exact kit_list_int
  | exact kit_list_str
  | exact kit_list_tuple
  | exact kit_list_list
  | exact kit_list_dict
  | exact kit_dict_bool
  | exact kit_dict_int
  | exact kit_dict_str
  | exact kit_dict_tuple
  | exact kit_dict_list
  | exact kit_dict_dict)
local macro_rules | `(tactic| walk_at "flen") => `(tactic| decide)
local macro_rules | `(tactic| walk_at "puts") => `(tactic| skip)

local macro_rules | `(tactic| walk_at "st1") => `(tactic| first
  | with_reducible refine st_dc ?_ | with_reducible refine st_dgetS ?_ | with_reducible refine st_dinS ?_ | with_reducible refine st_dninS ?_ | with_reducible refine st_dputS ?_ | with_reducible refine st_newT ?_ | with_reducible refine iteNN ?_ | with_reducible refine iteYN ?_
  | ((with_reducible refine' st_getT ?hq ?hk ?hv ?_); (case hq => walk_at "hp"); (case hk => walk_at "key"); (case hv => with_reducible assumption))
  | ((with_reducible refine' st_inT ?hq ?hk ?_); (case hq => walk_at "hp"); (case hk => walk_at "key"))
  | ((with_reducible refine' st_ninT ?hq ?hk ?_); (case hq => walk_at "hp"); (case hk => walk_at "key"))
  | ((with_reducible refine' st_putT ?hq ?hk ?hl ?_); (case hq => walk_at "hp"); (case hk => walk_at "key"); (case hl => walk_at "line"))
  | ((with_reducible refine' st_cputT ?hq ?hk ?hl ?_); (case hq => walk_at "hp"); (case hk => walk_at "key"); (case hl => walk_at "line"))
  | ((with_reducible refine' st_ixB ?hq ?he ?_); (case hq => first | assumption | exact Or.inl (by walk_at "sqL") | exact Or.inr (by walk_at "sqT")); (case he => walk_at "at")))
local macro_rules | `(tactic| walk_at "key") => `(tactic| with_reducible assumption)

theorem Flow_ne_params_names : ¬ (("params" : Str) = "names") := by decide +kernel
theorem Flow_ne_params_first : ¬ (("params" : Str) = "first") := by decide +kernel
theorem Flow_ne_params_rows : ¬ (("params" : Str) = "rows") := by decide +kernel
theorem Flow_ne_names_params : ¬ (("names" : Str) = "params") := by decide +kernel
theorem Flow_ne_names_first : ¬ (("names" : Str) = "first") := by decide +kernel
theorem Flow_ne_names_rows : ¬ (("names" : Str) = "rows") := by decide +kernel
theorem Flow_ne_first_params : ¬ (("first" : Str) = "params") := by decide +kernel
theorem Flow_ne_first_names : ¬ (("first" : Str) = "names") := by decide +kernel
theorem Flow_ne_first_rows : ¬ (("first" : Str) = "rows") := by decide +kernel
theorem Flow_ne_rows_params : ¬ (("rows" : Str) = "params") := by decide +kernel
theorem Flow_ne_rows_names : ¬ (("rows" : Str) = "names") := by decide +kernel
theorem Flow_ne_rows_first : ¬ (("rows" : Str) = "first") := by decide +kernel
def FlowF0 : List (Str × V) := []
def FlowF1 (v0 : V) : List (Str × V) := [("params", v0)]
def FlowF2 (v0 v1 : V) : List (Str × V) := [("params", v0), ("names", v1)]
def FlowF3 (v0 v1 v2 : V) : List (Str × V) := [("params", v0), ("names", v1), ("first", v2)]
def FlowF (v0 v1 v2 v3 : V) : List (Str × V) := [("params", v0), ("names", v1), ("first", v2), ("rows", v3)]
theorem FlowF0_len : (FlowF0 ).length < 1000 := by unfold FlowF0; show 0 < 1000; decide
theorem FlowF0_put {v0 : V} : putF "params" v0 (FlowF0 ) = FlowF1 v0 := by unfold FlowF0 FlowF1; rw [put_nil]
theorem FlowF1_len {v0 : V} : (FlowF1 v0).length < 1000 := by unfold FlowF1; show 1 < 1000; decide
theorem FlowF1_put {v0 v1 : V} : putF "names" v1 (FlowF1 v0) = FlowF2 v0 v1 := by unfold FlowF1 FlowF2; rw [put_cons, if_neg Flow_ne_params_names, put_nil]
theorem FlowF2_len {v0 v1 : V} : (FlowF2 v0 v1).length < 1000 := by unfold FlowF2; show 2 < 1000; decide
theorem FlowF2_put {v0 v1 v2 : V} : putF "first" v2 (FlowF2 v0 v1) = FlowF3 v0 v1 v2 := by unfold FlowF2 FlowF3; rw [put_cons, if_neg Flow_ne_params_first, put_cons, if_neg Flow_ne_names_first, put_nil]
theorem FlowF3_len {v0 v1 v2 : V} : (FlowF3 v0 v1 v2).length < 1000 := by unfold FlowF3; show 3 < 1000; decide
theorem FlowF3_put {v0 v1 v2 v3 : V} : putF "rows" v3 (FlowF3 v0 v1 v2) = FlowF v0 v1 v2 v3 := by unfold FlowF3 FlowF; rw [put_cons, if_neg Flow_ne_params_rows, put_cons, if_neg Flow_ne_names_rows, put_cons, if_neg Flow_ne_first_rows, put_nil]
theorem FlowF_len {v0 v1 v2 v3 : V} : (FlowF v0 v1 v2 v3).length < 1000 := by unfold FlowF; show 4 < 1000; decide
theorem FlowF_get_params {v0 v1 v2 v3 : V} : List.lookup ("params" : Str) (FlowF v0 v1 v2 v3) = some v0 := by unfold FlowF; rw [look_cons, if_pos rfl]
theorem FlowF_put_params {v0 v1 v2 v3 w : V} : putF "params" w (FlowF v0 v1 v2 v3) = FlowF w v1 v2 v3 := by unfold FlowF; rw [put_cons, if_pos rfl]
theorem FlowF_get_names {v0 v1 v2 v3 : V} : List.lookup ("names" : Str) (FlowF v0 v1 v2 v3) = some v1 := by unfold FlowF; rw [look_cons, if_neg Flow_ne_names_params, look_cons, if_pos rfl]
theorem FlowF_put_names {v0 v1 v2 v3 w : V} : putF "names" w (FlowF v0 v1 v2 v3) = FlowF v0 w v2 v3 := by unfold FlowF; rw [put_cons, if_neg Flow_ne_params_names, put_cons, if_pos rfl]
theorem FlowF_get_first {v0 v1 v2 v3 : V} : List.lookup ("first" : Str) (FlowF v0 v1 v2 v3) = some v2 := by unfold FlowF; rw [look_cons, if_neg Flow_ne_first_params, look_cons, if_neg Flow_ne_first_names, look_cons, if_pos rfl]
theorem FlowF_put_first {v0 v1 v2 v3 w : V} : putF "first" w (FlowF v0 v1 v2 v3) = FlowF v0 v1 w v3 := by unfold FlowF; rw [put_cons, if_neg Flow_ne_params_first, put_cons, if_neg Flow_ne_names_first, put_cons, if_pos rfl]
theorem FlowF_get_rows {v0 v1 v2 v3 : V} : List.lookup ("rows" : Str) (FlowF v0 v1 v2 v3) = some v3 := by unfold FlowF; rw [look_cons, if_neg Flow_ne_rows_params, look_cons, if_neg Flow_ne_rows_names, look_cons, if_neg Flow_ne_rows_first, look_cons, if_pos rfl]
theorem FlowF_put_rows {v0 v1 v2 v3 w : V} : putF "rows" w (FlowF v0 v1 v2 v3) = FlowF v0 v1 v2 w := by unfold FlowF; rw [put_cons, if_neg Flow_ne_params_rows, put_cons, if_neg Flow_ne_names_rows, put_cons, if_neg Flow_ne_first_rows, put_cons, if_pos rfl]
theorem FlowF_no {v0 v1 v2 v3 : V} {m : Str} (h0 : ¬ m = "params") (h1 : ¬ m = "names") (h2 : ¬ m = "first") (h3 : ¬ m = "rows") : List.lookup m (FlowF v0 v1 v2 v3) = none := by unfold FlowF; rw [look_cons, if_neg h0, look_cons, if_neg h1, look_cons, if_neg h2, look_cons, if_neg h3]; rfl
theorem Text_ne_tables_functions : ¬ (("tables" : Str) = "functions") := by decide +kernel
theorem Text_ne_tables_flows : ¬ (("tables" : Str) = "flows") := by decide +kernel
theorem Text_ne_functions_tables : ¬ (("functions" : Str) = "tables") := by decide +kernel
theorem Text_ne_functions_flows : ¬ (("functions" : Str) = "flows") := by decide +kernel
theorem Text_ne_flows_tables : ¬ (("flows" : Str) = "tables") := by decide +kernel
theorem Text_ne_flows_functions : ¬ (("flows" : Str) = "functions") := by decide +kernel
def TextF0 : List (Str × V) := []
def TextF1 (v0 : V) : List (Str × V) := [("tables", v0)]
def TextF2 (v0 v1 : V) : List (Str × V) := [("tables", v0), ("functions", v1)]
def TextF (v0 v1 v2 : V) : List (Str × V) := [("tables", v0), ("functions", v1), ("flows", v2)]
theorem TextF0_len : (TextF0 ).length < 1000 := by unfold TextF0; show 0 < 1000; decide
theorem TextF0_put {v0 : V} : putF "tables" v0 (TextF0 ) = TextF1 v0 := by unfold TextF0 TextF1; rw [put_nil]
theorem TextF1_len {v0 : V} : (TextF1 v0).length < 1000 := by unfold TextF1; show 1 < 1000; decide
theorem TextF1_put {v0 v1 : V} : putF "functions" v1 (TextF1 v0) = TextF2 v0 v1 := by unfold TextF1 TextF2; rw [put_cons, if_neg Text_ne_tables_functions, put_nil]
theorem TextF2_len {v0 v1 : V} : (TextF2 v0 v1).length < 1000 := by unfold TextF2; show 2 < 1000; decide
theorem TextF2_put {v0 v1 v2 : V} : putF "flows" v2 (TextF2 v0 v1) = TextF v0 v1 v2 := by unfold TextF2 TextF; rw [put_cons, if_neg Text_ne_tables_flows, put_cons, if_neg Text_ne_functions_flows, put_nil]
theorem TextF_len {v0 v1 v2 : V} : (TextF v0 v1 v2).length < 1000 := by unfold TextF; show 3 < 1000; decide
theorem TextF_get_tables {v0 v1 v2 : V} : List.lookup ("tables" : Str) (TextF v0 v1 v2) = some v0 := by unfold TextF; rw [look_cons, if_pos rfl]
theorem TextF_put_tables {v0 v1 v2 w : V} : putF "tables" w (TextF v0 v1 v2) = TextF w v1 v2 := by unfold TextF; rw [put_cons, if_pos rfl]
theorem TextF_get_functions {v0 v1 v2 : V} : List.lookup ("functions" : Str) (TextF v0 v1 v2) = some v1 := by unfold TextF; rw [look_cons, if_neg Text_ne_functions_tables, look_cons, if_pos rfl]
theorem TextF_put_functions {v0 v1 v2 w : V} : putF "functions" w (TextF v0 v1 v2) = TextF v0 w v2 := by unfold TextF; rw [put_cons, if_neg Text_ne_tables_functions, put_cons, if_pos rfl]
theorem TextF_get_flows {v0 v1 v2 : V} : List.lookup ("flows" : Str) (TextF v0 v1 v2) = some v2 := by unfold TextF; rw [look_cons, if_neg Text_ne_flows_tables, look_cons, if_neg Text_ne_flows_functions, look_cons, if_pos rfl]
theorem TextF_put_flows {v0 v1 v2 w : V} : putF "flows" w (TextF v0 v1 v2) = TextF v0 v1 w := by unfold TextF; rw [put_cons, if_neg Text_ne_tables_flows, put_cons, if_neg Text_ne_functions_flows, put_cons, if_pos rfl]
theorem TextF_no {v0 v1 v2 : V} {m : Str} (h0 : ¬ m = "tables") (h1 : ¬ m = "functions") (h2 : ¬ m = "flows") : List.lookup m (TextF v0 v1 v2) = none := by unfold TextF; rw [look_cons, if_neg h0, look_cons, if_neg h1, look_cons, if_neg h2]; rfl
local macro_rules | `(tactic| walk_at "lk") => `(tactic| with_reducible first | assumption | exact FlowF_get_params | exact FlowF_get_names | exact FlowF_get_first | exact FlowF_get_rows | exact TextF_get_tables | exact TextF_get_functions | exact TextF_get_flows | exact FlowF_no (by decide +kernel) (by decide +kernel) (by decide +kernel) (by decide +kernel) | exact TextF_no (by decide +kernel) (by decide +kernel) (by decide +kernel))
local macro_rules | `(tactic| walk_at "puts") => `(tactic| try simp only [FlowF_put_params, FlowF_put_names, FlowF_put_first, FlowF_put_rows, TextF_put_tables, TextF_put_functions, TextF_put_flows, FlowF0_put, FlowF1_put, FlowF2_put, FlowF3_put, TextF0_put, TextF1_put, TextF2_put])
local macro_rules | `(tactic| walk_at "flen") => `(tactic| first | with_reducible assumption | with_reducible (first | exact FlowF_len | exact TextF_len | exact FlowF0_len | exact FlowF1_len | exact FlowF2_len | exact FlowF3_len | exact TextF0_len | exact TextF1_len | exact TextF2_len) | decide)
section
variable {Z : Ads} {P : Program} {w : World} {K : PySem.W.Frag} {mg : Str → Option Value} {base : Heap}
/-! ### flows, functions -/
structure TxC (K : PySem.W.Frag) (Z : Ads) : Prop where
  clF : Cls K Z.Flow
  aFp : NoAttr K Z.Flow "params"
  aFn : NoAttr K Z.Flow "names"
  aFf : NoAttr K Z.Flow "first"
  aFr : NoAttr K Z.Flow "rows"
  clT : Cls K Z.Text
  aTt : NoAttr K Z.Text "tables"
  aTf : NoAttr K Z.Text "functions"
  aTl : NoAttr K Z.Text "flows"
/-- what a text's functions are told over: names, tables, functions with how many params -/
structure Ix where
  ns : List Str
  ts : List Str
  os : List (Str × Nat)
  ok : Nms ns ts os
  le : ns.length ≤ 40
def spA {ι : Type} (sp : ι → Sp) : Sp := fun vs H Q E => ∃ i, sp i vs H Q E
theorem fn_any {f : Addr} {fd : FuncData} {k : Nat} {ps : List Str} {ι : Type} {sp : ι → Sp} (i0 : ι) (h : ∀ i, FnOk P w K mg base (L2.CX P w) k f fd ps (sp i)) : FnOk P w K mg base (L2.CX P w) k f fd ps (spA sp) :=
  ⟨fun vs H Q E ⟨i, q⟩ => (h i).len vs H Q E q, fun A outer s H args us vs Q E hr he hb hv ⟨i, q⟩ => (h i).run A outer s H args us vs Q E hr he hb hv q⟩
/-- a flow whose names are ys -/
def FlowAt (C : Addr) (H : Hp) (a : Addr) (ys : List Str) : Prop := ∃ (dx n : Addr) (p f r : V), H a = some (.ins C dx (FlowF p (.ref n) f r)) ∧ H n = some (.tup (ys.map V.str))
theorem FlowAt.keep {C : Addr} {H H' : Hp} {a : Addr} {ys : List Str} {ms : List Addr} (h : FlowAt C H a ys) (f : Fr ms H H') (n : a ∉ ms) : FlowAt C H' a ys := by
  obtain ⟨dx, n', p, f', r, e1, e2⟩ := h
  exact ⟨dx, n', p, f', r, f.keep _ _ n e1, f.tup _ _ e2⟩
def spFlowInit (C : Addr) (i : Ix) : Sp := fun vs H Q _ => ∃ (s dx p : Addr) (v : V) (ps : List Str) (ss : List PyData), vs = [.ref s, .ref p, v] ∧ H s = some (.ins C dx FlowF0) ∧ H p = some (.tup (ps.map V.str)) ∧ (∀ x ∈ ps, x ∈ i.ns) ∧ ps.length ≤ 40 ∧ TD H v (.tuple ss) ∧ (∀ s ∈ ss, GS i.ns i.ts i.os 4 s) ∧ (allIn 4 ss).length ≤ 1000 ∧
  ∀ (H' : Hp) (ys : List Str), Told ys (namesF ps (allIn 4 ss)) → FlowAt C H' s ys → Fr [s] H H' → Q .non H'
abbrev s_Flow___init__ : Stmt := inClass (top 41) 0
theorem sc_Flow___init__ : FnScope ["self", "params", "block"] ["self", "params", "block"] (defScope s_Flow___init__) := ⟨rfl, rfl, rfl, by decide +kernel, rfl, by decide +kernel, by decide +kernel⟩
theorem ok_Flow_init {i : Ix} {f : Addr} {fd : FuncData} (F : Fun K "__init__" "Flow.__init__" s_Flow___init__ f fd) (T : Txt K mg Z) (TC : TxC K Z) (D_names_told : Dn P w K mg base "names_told" 7 ["params", "block"] (spNamesTold i.ns i.ts i.os 4)) (D_laid : Dn P w K mg base "laid" 7 ["rows", "block", "place", "behind"] (spLaid i.ns i.ts i.os 4)) :
    FnOk P w K mg base (L2.CX P w) 8 f fd ["self", "params", "block"] (spFlowInit Z.Flow i) := by
  have cl := TC.clF
  have a1 := TC.aFp
  have a2 := TC.aFn
  have a3 := TC.aFf
  have a4 := TC.aFr
  refine okN F sc_Flow___init__ (fun vs H Q E h => ?_) (fun cdv A outer s0 H vs Q E hr h => ?_)
  · obtain ⟨s, dx, p, v, ps, ss, rfl, _⟩ := h
    rfl
  · obtain ⟨s, dx, p, v, ps, ss, rfl, hs, hp, hps, hpl, hv, hG, hsz, q⟩ := h
    refine ⟨_, [some _, some _, some _], rfl, (pss_cons (kSFld (K := K) (pv 0) (pv 1) rfl)
      (pss_cons (kSFld (K := K) (pv 0) (pe_callTy (kTupOf (K := K)) (by rfl) T.n_tuple (by decide +kernel) (pa_cons (pe_d D_names_told E0 (hr.mono (by first | decide | omega)) (by rfl) passL (pa_cons (pv 1) (pa_cons (pv 2) pa_nil))) pa_nil)) rfl)
      (pss_cons (kSFld (K := K) (pv 0) (pe_ifExp (pt_cmpR op_gt (pe_callB (kLen (K := K)) (by rfl) T.n_len (by decide +kernel) (pa_cons (pv 2) pa_nil)) pe_int (by first | exact nomark _ | rfl)) pe_int (pe_gl (by rfl) T.g_OFF)) rfl)
      (pss_cons (kSFld (K := K) (pv 0) pe_dnewK rfl)
      (pss_one (ps_expr (pe_d D_laid E0 (hr.mono (by first | decide | omega)) (by rfl) passL (pa_cons (kFld (K := K) (pv 0) rfl) (pa_cons (pv 2) (pa_cons pe_int (pa_cons (pe_gl (by rfl) T.g_OFF) pa_nil))))))))))), ?_⟩
    have f1 : Fr [s] H (upd H s (.ins Z.Flow dx (FlowF1 (.ref p)))) := (Fr.refl H).wi hs (.inl (by simp))
    have hv' := hv
    cases hv' with
    | @tup b zs _ hb hT =>
    walk_at "st"
    have s1 : upd H s (.ins Z.Flow dx (FlowF1 (.ref p))) s = some (.ins Z.Flow dx (FlowF1 (.ref p))) := upd_same
    generalize upd H s (.ins Z.Flow dx (FlowF1 (.ref p))) = H1 at f1 s1 ⊢
    refine ⟨p, _, ps, ss, rfl, f1.tup _ _ hp, hps, i.le, hpl, TD.mono f1.tup _ _ hv, hG, hsz, fun H2 r ys hY hr0 hr1 f2 => ?_⟩
    have s2 := f2.same _ _ s1
    have f02 := f1.trans (f2.mono (by simp))
    walk_at "st"
    refine ⟨r, _, rfl, .inl ⟨SqL.of hr1, fun l hl => ?_⟩⟩
    have f3 := f02.new (o := .tup (ys.map V.str)) hl
    have s3 : upd H2 l (.tup (ys.map V.str)) s = some (.ins Z.Flow dx (FlowF1 (.ref p))) := upd_old hl s2
    have l3 : upd H2 l (.tup (ys.map V.str)) l = some (.tup (ys.map V.str)) := upd_same
    generalize upd H2 l (.tup (ys.map V.str)) = H3 at f3 s3 l3 ⊢
    walk_at "st"
    have s4 : upd H3 s (.ins Z.Flow dx (FlowF2 (.ref p) (.ref l))) s = some (.ins Z.Flow dx (FlowF2 (.ref p) (.ref l))) := upd_same
    have f4 := f3.wi (o' := .ins Z.Flow dx (FlowF2 (.ref p) (.ref l))) s3 (.inl (by simp))
    have l4 : upd H3 s (.ins Z.Flow dx (FlowF2 (.ref p) (.ref l))) l = some (.tup (ys.map V.str)) := by
      rw [upd_ne (fun e => by rw [e, s3] at l3; exact nomatch l3)]
      exact l3
    generalize upd H3 s (.ins Z.Flow dx (FlowF2 (.ref p) (.ref l))) = H4 at f4 s4 l4 ⊢
    have hb4 := f4.tup _ _ hb
    have fin : ∀ (first : V) (H5 : Hp), H5 s = some (.ins Z.Flow dx (FlowF3 (.ref p) (.ref l) first)) → H5 l = some (.tup (ys.map V.str)) → Fr [s] H H5 → ∀ d, H5 d = none → ∀ H6 ks', upd (upd H5 d (.dK [])) s (.ins Z.Flow dx (FlowF (.ref p) (.ref l) first (.ref d))) = H6 → ∀ H7, Fr [d] H6 H7 → H7 d = some (.dK ks') → Q .non H7 := by
      intro first H5 s5 l5 f5 d hd H6 ks' e6 H7 f7 d7
      have nds : s ≠ d := ne_of_none s5 hd
      have f6 : Fr [s] H H6 := e6 ▸ (f5.new hd).wi (upd_old hd s5) (.inl (by simp))
      have s6 : H6 s = some (.ins Z.Flow dx (FlowF (.ref p) (.ref l) first (.ref d))) := by rw [← e6]; exact upd_same
      have d6 : H6 d = some (.dK []) := by rw [← e6, upd_ne nds.symm]; exact upd_same
      have l6 : H6 l = some (.tup (ys.map V.str)) := by
        rw [← e6, upd_ne (fun e => by rw [e, s5] at l5; exact nomatch l5)]
        exact upd_old hd l5
      refine q H7 ys hY ⟨dx, l, _, _, _, f7.keep _ _ (by simpa using nds) s6, f7.tup _ _ l6⟩ ?_
      refine Fr.cut (ms := [s]) (ns := [d]) ((f6.mono (by simp)).trans (f7.mono (by simp))) fun x hx => ?_
      rw [List.mem_singleton.mp hx]
      exact f5.back (by simpa using nds.symm) hd
    walk_at "st"
    refine iteD (fun _ => ?_) (fun _ => ?_)
    · walk_at "st"
      have f5 := f4.wi (o' := .ins Z.Flow dx (FlowF3 (.ref p) (.ref l) (.int 0))) s4 (.inl (by simp))
      have s5 : upd H4 s (.ins Z.Flow dx (FlowF3 (.ref p) (.ref l) (.int 0))) s = some (.ins Z.Flow dx (FlowF3 (.ref p) (.ref l) (.int 0))) := upd_same
      have l5 : upd H4 s (.ins Z.Flow dx (FlowF3 (.ref p) (.ref l) (.int 0))) l = some (.tup (ys.map V.str)) := by
        rw [upd_ne (fun e => by rw [e, s4] at l4; exact nomatch l4)]
        exact l4
      generalize upd H4 s (.ins Z.Flow dx (FlowF3 (.ref p) (.ref l) (.int 0))) = H5 at f5 s5 l5 ⊢
      refine st_newK fun d hd => ?_
      have nds : d ≠ s := (ne_of_none s5 hd).symm
      walk_at "st"
      have f6 := (f5.new (o := .dK []) hd).wi (o' := .ins Z.Flow dx (FlowF (.ref p) (.ref l) (.int 0) (.ref d))) (upd_old hd s5) (.inl (by simp))
      refine ⟨d, _, _, _, [], ss, rfl, by rw [upd_ne nds]; exact upd_same, TD.mono f6.tup _ _ hv, hG, by simpa using hsz, fun H7 ks7 d7 l7 f7 => ?_⟩
      walk_at "st"
      exact fin (.int 0) H5 s5 l5 f5 d hd _ ks7 rfl H7 f7 d7
    · walk_at "st"
      have f5 := f4.wi (o' := .ins Z.Flow dx (FlowF3 (.ref p) (.ref l) (.int (-1)))) s4 (.inl (by simp))
      have s5 : upd H4 s (.ins Z.Flow dx (FlowF3 (.ref p) (.ref l) (.int (-1)))) s = some (.ins Z.Flow dx (FlowF3 (.ref p) (.ref l) (.int (-1)))) := upd_same
      have l5 : upd H4 s (.ins Z.Flow dx (FlowF3 (.ref p) (.ref l) (.int (-1)))) l = some (.tup (ys.map V.str)) := by
        rw [upd_ne (fun e => by rw [e, s4] at l4; exact nomatch l4)]
        exact l4
      generalize upd H4 s (.ins Z.Flow dx (FlowF3 (.ref p) (.ref l) (.int (-1)))) = H5 at f5 s5 l5 ⊢
      refine st_newK fun d hd => ?_
      have nds : d ≠ s := (ne_of_none s5 hd).symm
      walk_at "st"
      have f6 := (f5.new (o := .dK []) hd).wi (o' := .ins Z.Flow dx (FlowF (.ref p) (.ref l) (.int (-1)) (.ref d))) (upd_old hd s5) (.inl (by simp))
      refine ⟨d, _, _, _, [], ss, rfl, by rw [upd_ne nds]; exact upd_same, TD.mono f6.tup _ _ hv, hG, by simpa using hsz, fun H7 ks7 d7 l7 f7 => ?_⟩
      walk_at "st"
      exact fin (.int (-1)) H5 s5 l5 f5 d hd _ ks7 rfl H7 f7 d7
end

end K03

namespace K03
open PySem PySem.Spec PyProof.Rows L2 Hq
local macro_rules | `(tactic| walk_at "st1") => `(tactic| first
  | with_reducible refine st_seq ?_ | with_reducible refine st_ret ?_ | with_reducible refine st_ifS ?_ | with_reducible refine st_asg ?_ | with_reducible refine st_drop ?_
  | ((with_reducible refine' st_var ?hv ?_); (case hv => rfl)) | with_reducible refine st_c ?_ | with_reducible refine st_op ?_ | with_reducible refine st_un ?_
  | with_reducible refine st_I0 ?_ | with_reducible refine st_U ?_ | ((with_reducible refine' st_I ?hc ?_); (case hc => walk_at "side"))
  | ((with_reducible refine' st_eq ?hs ?_); (case hs => rfl)) | ((with_reducible refine' st_ne ?hs ?_); (case hs => rfl))
  | with_reducible refine st_test ?_ | with_reducible refine st_B ?_ | with_reducible refine st_bl ?_ | with_reducible refine st_isN ?_ | with_reducible refine st_notN ?_
  | with_reducible refine st_chain ?_ | with_reducible refine st_and ?_ | with_reducible refine st_or ?_ | with_reducible refine st_not ?_
  | with_reducible refine st_andV ?_ | with_reducible refine st_orV ?_ | with_reducible refine st_notV ?_ | with_reducible refine st_if ?_
  | with_reducible refine st_CB ?_ | with_reducible refine st_cons ?_ | with_reducible refine st_nil ?_ | with_reducible refine st_fld ?_
  | ((with_reducible refine st_tup ?_)) | ((with_reducible refine st_lst ?_))
  | with_reducible refine st_call ?_ | with_reducible refine st_meth ?_ | with_reducible refine st_make ?_
  | with_reducible refine st_sl ?_ | with_reducible refine st_noPart ?_ | with_reducible refine st_part ?_ | with_reducible refine st_int ?_
  | ((with_reducible refine' st_ixL ?hq ?he ?_); (case hq => walk_at "sqL"); (case he => walk_at "at"))
  | ((with_reducible refine' st_ixT ?hq ?he ?_); (case hq => walk_at "sqT"); (case he => walk_at "at"))
  | with_reducible refine st_bm ?_ | with_reducible refine st_app ?_
  | ((with_reducible refine' st_append ?hq ?hl ?_); (case hq => walk_at "hp"); (case hl => walk_at "line"))
  | ((with_reducible refine' st_len (n := 0) ?hq ?_); (case hq => first | exact Or.inl (by walk_at "sqL") | exact Or.inr (by walk_at "sqT")))
  | ((with_reducible refine' st_listOf ?hq ?_); (case hq => first | exact Or.inl (by walk_at "sqL") | exact Or.inr (by walk_at "sqT")))
  | ((with_reducible refine st_name ?_); (try dsimp only [List.set_cons_zero, List.set_cons_succ])) | with_reducible refine st_par ?_
  | with_reducible refine st_gcons ?_ | with_reducible refine st_gnil ?_ | with_reducible refine st_gsub ?_ | with_reducible refine st_sFld ?_
  | ((with_reducible refine' st_gtup ?hq ?hl ?_); (case hq => walk_at "sqT"); (case hl => rfl))
  | ((with_reducible refine' st_setL ?hq ?hl ?_); (case hq => walk_at "hp"); (case hl => first | rfl | exact ix0 | exact ixN_nat (by assumption)); (try simp only [Int.reduceToNat, List.set_cons_zero, List.set_cons_succ]))
  | with_reducible refine st_intI ?_ | with_reducible refine st_abs ?_
  | ((with_reducible refine' st_popAt ?hq ?hk ?hy ?_); (case hq => walk_at "hp"); (case hk => exact seq0); (case hy => rfl))
  | ((with_reducible refine' and_left ?ht ?_); (case ht => walk_at "ty"))
  | with_reducible refine st_lc ?_ | with_reducible refine st_for ?_ | with_reducible refine st_iL ?_ | with_reducible refine st_iT ?_ | with_reducible refine st_iR1 ?_ | with_reducible refine st_iR2 ?_ | with_reducible refine st_iZ ?_
  | ((with_reducible refine' st_refL ?hq ?_); (case hq => walk_at "sqL")) | ((with_reducible refine' st_refT ?hq ?_); (case hq => walk_at "sqT"))
  | ((with_reducible refine' st_rng1 ?hq ?_); (case hq => walk_at "side")) | ((with_reducible refine' st_rng2 ?hq ?_); (case hq => walk_at "side"))
  | ((with_reducible refine' st_zip ?hq ?hr ?_); (case hq => walk_at "sqb"); (case hr => walk_at "sqb"))
  | ((with_reducible refine' st_size ?hw ?_); (case hw => walk_at "line"))
  | ((with_reducible refine' st_sum ?hq ?_); (case hq => walk_at "sqL"))
  | with_reducible refine st_two ?_ | with_reducible refine st_yes ?_ | ((with_reducible refine' st_wipe ?hw ?_); (case hw => rfl))
  | ((with_reducible refine' st_slL ?hq ?_); (case hq => walk_at "sqL"))
  | ((with_reducible refine' st_cat ?hq ?hr ?hl ?_); (case hq => walk_at "hp"); (case hr => walk_at "hp"); (case hl => walk_at "line"))
  | ((with_reducible refine' st_isi ?hk ?he ?_); (case hk => walk_at "kd"); (case he => walk_at "kit"))
  | ((with_reducible refine' st_ins ?hq ?hc ?hn ?hl ?_); (case hq => walk_at "hp"); (case hc => with_reducible assumption); (case hn => with_reducible assumption); (case hl => walk_at "flen"); walk_at "puts")
  | ((with_reducible refine' st_att ?hq ?hc ?hn ?hl ?_); (case hq => walk_at "hp"); (case hc => with_reducible assumption); (case hn => with_reducible assumption); (case hl => walk_at "lk"))
  | ((with_reducible refine' st_mt ?hq ?hl ?_); (case hq => walk_at "hp"); (case hl => walk_at "lk"))
  | ((with_reducible refine' st_extend ?hq ?hr ?hl ?_); (case hq => walk_at "hp"); (case hr => walk_at "hp"); (case hl => walk_at "line"))
  | with_reducible refine st_next ?_ | with_reducible refine st_retN ?_ | (with_reducible refine iteNT ?_) | (with_reducible refine iteNF ?_) | (with_reducible refine iteT ?_) | (with_reducible refine iteF ?_))
local macro_rules | `(tactic| walk_at "side") => `(tactic| first | omega | decide | assumption | exact ⟨by omega, by omega⟩ | exact Or.inr ⟨by omega, by omega⟩ | exact Or.inl ⟨by omega, by omega⟩ | (simp only [List.length_map, List.length_cons, List.length_nil, List.length_append] at *; omega))
local macro_rules | `(tactic| walk_at "hp") => `(tactic| first | assumption | exact upd_same | ((with_reducible refine' upd_old ?ho ?hb); (case ho => assumption); (case hb => walk_at "hp")) | (rw [upd_ne (by first | assumption | exact Ne.symm (by assumption))]; walk_at "hp"))
local macro_rules | `(tactic| walk_at "sqL") => `(tactic| first | assumption | exact SqL.of (by walk_at "hp"))
local macro_rules | `(tactic| walk_at "sqT") => `(tactic| first | assumption | exact SqT.of (by walk_at "hp"))
local macro_rules | `(tactic| walk_at "sqb") => `(tactic| (unfold SqB; first | ((with_reducible change SqL _ _ _ _); walk_at "sqL") | ((with_reducible change SqT _ _ _ _); walk_at "sqT")))
local macro_rules | `(tactic| walk_at "line") => `(tactic| first | assumption | decide | (apply line_of; walk_at "side") | (apply line_lt; walk_at "side"))
local macro_rules | `(tactic| walk_at "ty") => `(tactic| ((with_reducible refine' ty_lst ?hq); (case hq => walk_at "hp")))
local macro_rules | `(tactic| walk_at "at") => `(tactic| with_reducible first | assumption | exact at0 | exact at1 | exact at2 | exact at3 | exact at4 | exact at5 | exact at6 | exact at7 | exact at8)
local macro_rules | `(tactic| walk_at "st") => `(tactic| (repeat walk_at "st1"))
local macro_rules | `(tactic| walk_at "lk") => `(tactic| first | with_reducible assumption | rfl)
local macro_rules | `(tactic| walk_at "kd") => `(tactic| first | exact .base (.int _) | exact .base .non | exact .base (.bl _) | exact .base (.str _) | exact .base (.tup (by walk_at "hp")) | exact .base (.lst (by walk_at "hp")) | exact .base (.dK (by walk_at "hp")) | exact .base (.dT (by walk_at "hp")))
local macro_rules | `(tactic| walk_at "kit") => `(tactic| with_reducible first
  | exact kit_NoneType_bool
  | exact kit_NoneType_int
  | exact kit_NoneType_str
  | exact kit_NoneType_tuple
  | exact kit_NoneType_list
  | exact kit_NoneType_dict
  | exact kit_bool_bool
  | exact kit_bool_int
  | exact kit_bool_str
  | exact kit_bool_tuple
  | exact kit_bool_list
  | exact kit_bool_dict
  | exact kit_int_bool
  | exact kit_int_int
  | exact kit_int_str
  | exact kit_int_tuple
  | exact kit_int_list
  | exact kit_int_dict
  | exact kit_str_bool
  | exact kit_str_int
  | exact kit_str_str
  | exact kit_str_tuple
  | exact kit_str_list
  | exact kit_str_dict
  | exact kit_tuple_bool
  | exact kit_tuple_int
  | exact kit_tuple_str
  | exact kit_tuple_tuple
  | exact kit_tuple_list
  | exact kit_tuple_dict
  | exact kit_list_bool
  | exact kit_list_int
  | exact kit_list_str
  | exact kit_list_tuple
  | exact kit_list_list
  | exact kit_list_dict
  | exact kit_dict_bool
  | exact kit_dict_int
  | exact kit_dict_str
  | exact kit_dict_tuple
  | exact kit_dict_list
  | exact kit_dict_dict)
local macro_rules | `(tactic| walk_at "flen") => `(tactic| decide)
local macro_rules | `(tactic| walk_at "puts") => `(tactic| skip)

local macro_rules | `(tactic| walk_at "st1") => `(tactic| first
  | with_reducible refine st_dc ?_ | with_reducible refine st_dgetS ?_ | with_reducible refine st_dinS ?_ | with_reducible refine st_dninS ?_ | with_reducible refine st_dputS ?_ | with_reducible refine st_newT ?_ | with_reducible refine iteNN ?_ | with_reducible refine iteYN ?_
  | ((with_reducible refine' st_getT ?hq ?hk ?hv ?_); (case hq => walk_at "hp"); (case hk => walk_at "key"); (case hv => with_reducible assumption))
  | ((with_reducible refine' st_inT ?hq ?hk ?_); (case hq => walk_at "hp"); (case hk => walk_at "key"))
  | ((with_reducible refine' st_ninT ?hq ?hk ?_); (case hq => walk_at "hp"); (case hk => walk_at "key"))
  | ((with_reducible refine' st_putT ?hq ?hk ?hl ?_); (case hq => walk_at "hp"); (case hk => walk_at "key"); (case hl => walk_at "line"))
  | ((with_reducible refine' st_cputT ?hq ?hk ?hl ?_); (case hq => walk_at "hp"); (case hk => walk_at "key"); (case hl => walk_at "line"))
  | ((with_reducible refine' st_ixB ?hq ?he ?_); (case hq => first | assumption | exact Or.inl (by walk_at "sqL") | exact Or.inr (by walk_at "sqT")); (case he => walk_at "at")))
local macro_rules | `(tactic| walk_at "key") => `(tactic| with_reducible assumption)

local macro_rules | `(tactic| walk_at "lk") => `(tactic| with_reducible first | assumption | exact FlowF_get_params | exact FlowF_get_names | exact FlowF_get_first | exact FlowF_get_rows | exact TextF_get_tables | exact TextF_get_functions | exact TextF_get_flows | exact FlowF_no (by decide +kernel) (by decide +kernel) (by decide +kernel) (by decide +kernel) | exact TextF_no (by decide +kernel) (by decide +kernel) (by decide +kernel))
local macro_rules | `(tactic| walk_at "puts") => `(tactic| try simp only [FlowF_put_params, FlowF_put_names, FlowF_put_first, FlowF_put_rows, TextF_put_tables, TextF_put_functions, TextF_put_flows, FlowF0_put, FlowF1_put, FlowF2_put, FlowF3_put, TextF0_put, TextF1_put, TextF2_put])
local macro_rules | `(tactic| walk_at "flen") => `(tactic| first | with_reducible assumption | with_reducible (first | exact FlowF_len | exact TextF_len | exact FlowF0_len | exact FlowF1_len | exact FlowF2_len | exact FlowF3_len | exact TextF0_len | exact TextF1_len | exact TextF2_len) | decide)
section
variable {Z : Ads} {P : Program} {w : World} {K : PySem.W.Frag} {mg : Str → Option Value} {base : Heap}
structure Fnc where
  name : Str
  ps : List Str
  b : List PyData
def Fnc.d (f : Fnc) : PyData := .tuple [.str f.name, .tuple (f.ps.map PyData.str), .tuple f.b]
def isIf : PyData → Bool
  | .tuple (.str x :: _) => decide (x = "if")
  | _ => false
def Fnc.all (f : Fnc) : List PyData := allIn 4 f.b
structure GoodF (i : Ix) (f : Fnc) : Prop where
  nm : nameOk f.name = true
  pd : f.ps.Nodup
  pn : ∀ x ∈ f.ps, x ∈ i.ns
  pl : f.ps.length ≤ 4
  b : ∀ s ∈ f.b, GS i.ns i.ts i.os 4 s
  bl : f.b.length ≤ 40
  al : f.all.length ≤ 40
  ifs : (f.all.filter isIf).length ≤ 8
  nl : (namesF f.ps f.all).length ≤ 12
theorem td_strs {H : Hp} : ∀ (ss : List Str) (vs : List V), TDs H vs (ss.map PyData.str) → vs = ss.map V.str
  | [], vs, h => by
    cases h
    rfl
  | s :: ss, vs, h => by
    cases h with
    | cons t1 h =>
      cases t1
      rw [td_strs ss _ h]
      rfl
theorem strs_td {H : Hp} : ∀ (ss : List Str), TDs H (ss.map V.str) (ss.map PyData.str)
  | [] => .nil
  | s :: ss => .cons (.str s) (strs_td ss)
/-- a function's tuple in the heap -/
structure FncAt (H : Hp) (v : V) (f : Fnc) : Prop where
  ok : ∃ (a p : Addr) (vb : V), v = .ref a ∧ H a = some (.tup [.str f.name, .ref p, vb]) ∧ H p = some (.tup (f.ps.map V.str)) ∧ TD H vb (.tuple f.b)
theorem FncAt.of {H : Hp} {v : V} {f : Fnc} (h : TD H v f.d) : FncAt H v f := by
  unfold Fnc.d at h
  cases h with
  | @tup a zs _ ha hT =>
  cases hT with
  | @cons z1 _ _ _ t1 hT =>
  cases hT with
  | @cons z2 _ _ _ t2 hT =>
  cases hT with
  | @cons z3 _ _ _ t3 hT =>
  cases hT
  cases t1
  cases t2 with
  | @tup p ps _ hp hTp =>
  rw [td_strs _ _ hTp] at hp
  exact ⟨⟨a, p, z3, rfl, ha, hp, t3⟩⟩
def spIsFunction (i : Ix) : Sp := fun vs H Q _ => ∃ (v : V) (f : Fnc), vs = [v] ∧ TD H v f.d ∧ GoodF i f ∧ ∀ H', Fr [] H H' → Q (.bl true) H'
abbrev s_is_function : Stmt := top 42
theorem sc_is_function : FnScope ["thing", "every", "one"] ["thing"] (defScope s_is_function) := ⟨rfl, rfl, rfl, by decide +kernel, rfl, by decide +kernel, by decide +kernel⟩
theorem ok_is_function {i : Ix} {f : Addr} {fd : FuncData} (F : Fun K "is_function" "is_function" s_is_function f fd) (T : Txt K mg Z) (D_is_tuple : Dn P w K mg base "is_tuple" 1 ["thing", "least", "most"] spTuple) (D_is_name : Dn P w K mg base "is_name" 1 ["thing"] spName)
    (D_are_names : Dn P w K mg base "are_names" 2 ["thing", "most"] spAreNames) (D_is_block : Dn P w K mg base "is_block" 21 ["thing", "deep"] (spBlock i.ns i.ts i.os 5)) (D_all_in : Dn P w K mg base "all_in" 6 ["block"] (spAllIn i.ns i.ts i.os 4)) (D_names_told : Dn P w K mg base "names_told" 7 ["params", "block"] (spNamesTold i.ns i.ts i.os 4)) :
    FnOk P w K mg base (L2.CX P w) 22 f fd ["thing"] (spIsFunction i) := by
  refine okN F sc_is_function (fun vs H Q E h => ?_) (fun cdv A outer s0 H vs Q E hr h => ?_)
  · obtain ⟨v, f, rfl, _⟩ := h
    rfl
  · obtain ⟨v, f, rfl, hv, g, q⟩ := h
    obtain ⟨a, p, vb, rfl, ha, hp, tb⟩ := (FncAt.of hv).ok
    have hfal := g.al
    have hfif := g.ifs
    unfold Fnc.all at hfal hfif
    refine ⟨_, [some _, none, none], rfl, (pss_cons (ps_if (PW.pt (pw_or (pt_not (pt_val (pe_d D_is_tuple E0 (hr.mono (by first | decide | omega)) (by rfl) passL (pa_cons (pv 0) (pa_cons pe_int (pa_cons pe_int pa_nil)))))) (pw_or (pt_not (pt_val (pe_d D_is_name E0 (hr.mono (by first | decide | omega)) (by rfl) passL (pa_cons (pe_ix (kIxT (K := K)) (pv 0) pe_int (fun _ _ => rfl)) pa_nil)))) (pw_or1 (pt_not (pt_val (pe_d D_are_names E0 (hr.mono (by first | decide | omega)) (by rfl) passL (pa_cons (pe_ix (kIxT (K := K)) (pv 0) pe_int (fun _ _ => rfl)) (pa_cons (pe_gl (by rfl) T.g_MOST_PARAMS) pa_nil))))))))) (pss_one (ps_ret pe_bl)) pss_nil)
      (pss_cons (ps_if (pt_not (pt_val (pe_d D_is_block E0 (hr.mono (by first | decide | omega)) (by rfl) passL (pa_cons (pe_ix (kIxT (K := K)) (pv 0) pe_int (fun _ _ => rfl)) (pa_cons (pe_gl (by rfl) T.g_MOST_BLOCKS) pa_nil))))) (pss_one (ps_ret pe_bl)) pss_nil)
      (pss_cons (ps_set (i := 1) sc_is_function.nd rfl (by first | exact Or.inl rfl | exact Or.inr rfl) (pe_d D_all_in E0 (hr.mono (by first | decide | omega)) (by rfl) passL (pa_cons (pe_ix (kIxT (K := K)) (pv 0) pe_int (fun _ _ => rfl)) pa_nil)))
      (pss_cons (ps_if (PW.pt (pw_or (pt_cmpR op_gt (pe_callB (kLen (K := K)) (by rfl) T.n_len (by decide +kernel) (pa_cons (pv 1) pa_nil)) (pe_gl (by rfl) T.g_MOST_STATEMENTS) (by first | exact nomark _ | rfl)) (pw_or1 (pt_cmpR op_gt (pe_callB (kLen (K := K)) (by rfl) T.n_len (by decide +kernel) (pa_cons (pe_lc (own := [("one", 2)]) (g := (gName 2)) (tt := _) rfl sc_is_function.nd (kPiL (K := K) (pv 1)) (blkOk_by (N := ["thing", "every", "one"]) (sc := defScope s_is_function) (by decide +kernel)) (fun _ _ _ _ _ => (pg_name (i := 2) sc_is_function.nd rfl (by first | exact Or.inl rfl | exact Or.inr rfl))) (fun _ _ _ _ _ => (pts_one (pt_cmpR op_eq (pe_ix (kIxT (K := K)) (pv 2) pe_int (fun _ _ => rfl)) pe_str (by first | exact nomark _ | rfl)))) (fun _ _ _ _ _ => (pv 2))) pa_nil)) (pe_gl (by rfl) T.g_MOST_IFS) (by first | exact nomark _ | rfl))))) (pss_one (ps_ret pe_bl)) pss_nil)
      (pss_one (ps_ret (pe_cmpR op_le (pe_callB (kLen (K := K)) (by rfl) T.n_len (by decide +kernel) (pa_cons (pe_d D_names_told E0 (hr.mono (by first | decide | omega)) (by rfl) passL (pa_cons (pe_ix (kIxT (K := K)) (pv 0) pe_int (fun _ _ => rfl)) (pa_cons (pe_ix (kIxT (K := K)) (pv 0) pe_int (fun _ _ => rfl)) pa_nil))) pa_nil)) (pe_gl (by rfl) T.g_MOST_NAMES) (by first | exact nomark _ | rfl)))))))), ?_⟩
    walk_at "st"
    refine ⟨a, _, 3, 3, rfl, ha, (by decide : 3 ≤ 100000), ?_⟩
    rw [show (decide ((3 : Int) ≤ (([V.str f.name, V.ref p, vb] : List V).length : Nat)) && decide ((([V.str f.name, V.ref p, vb] : List V).length : Int) ≤ 3)) = true from rfl]
    walk_at "st"
    refine ⟨f.name, rfl, g.nm, fun H1 f1 => ?_⟩
    have ha1 := f1.tup _ _ ha
    have hp1 := f1.tup _ _ hp
    walk_at "st"
    refine ⟨p, f.ps, 4, rfl, hp1, fun s hs => i.ok.n s (g.pn s hs), g.pd, by have := g.pl; omega, by have := g.pl; omega, fun H2 f2 => ?_⟩
    have f02 := f1.trans f2
    have ha2 := f2.tup _ _ ha1
    have hp2 := f2.tup _ _ hp1
    have tb2 := TD.mono f02.tup _ _ tb
    walk_at "st"
    refine ⟨vb, f.b, 4, rfl, rfl, tb2, g.bl, g.b, fun H3 f3 => ?_⟩
    have f03 := f02.trans f3
    have ha3 := f3.tup _ _ ha2
    have hp3 := f3.tup _ _ hp2
    have tb3 := TD.mono f3.tup _ _ tb2
    walk_at "st"
    refine ⟨vb, f.b, rfl, tb3, g.b, by omega, fun H4 r xs hr0 hr1 tx f4 => ?_⟩
    have f04 := f03.trans f4
    have ha4 := f4.tup _ _ ha3
    have hp4 := f4.tup _ _ hp3
    have tb4 := TD.mono f4.tup _ _ tb3
    have lx := tx.length
    have hA := allIn_gs 4 f.b g.b
    walk_at "st"
    refine iteD (fun h => absurd h (by omega)) (fun _ => ?_)
    walk_at "st"
    intro D hD
    refine lc_it (walk_list (xs := xs)) (fun k H' => Fr [] H4 H' ∧ ∃ acc, H' D = some (.lst acc) ∧ acc.length = (((allIn 4 f.b).take k).filter isIf).length) ⟨Fr.up hD, [], upd_same, rfl⟩ (fun k H' _ h => SqL.of (h.1.same _ _ hr1)) ?_ ?_
    · rintro k y H5 H6 hk ⟨f5, acc, e5, l5⟩ ⟨rfl, hyk⟩
      obtain ⟨s, hs, tds⟩ := TDs.at_ (TDs.mono f5.tup _ _ tx) hyk
      obtain ⟨x, ds, hS⟩ := (hA s (List.mem_of_getElem? hs)).sts
      obtain rfl := hS.e
      cases tds with
      | @tup c zc _ hc hTc =>
      cases hTc with
      | @cons z1 zc' _ _ t1 hTc =>
      cases t1
      have lk : acc.length ≤ 40 := by
        rw [l5]
        exact Nat.le_trans (List.length_filter_le _ _) (by rw [List.length_take]; omega)
      have ef : ((allIn 4 f.b).take (k + 1)).filter isIf = ((allIn 4 f.b).take k).filter isIf ++ [PyData.tuple (.str x :: ds)].filter isIf := by
        rw [List.take_add_one, hs, List.filter_append]
        rfl
      rw [ef, List.length_append]
      walk_at "st"
      refine iteD (fun h => ?_) (fun h => ?_)
      · rw [show [PyData.tuple (.str x :: ds)].filter isIf = [PyData.tuple (.str x :: ds)] by rw [List.filter_cons_of_pos (by exact decide_eq_true (V.str.inj h))]; rfl]
        walk_at "st"
        refine ⟨acc, e5, line_lt (by omega), f5.wl e5 (.inr hD), _, upd_same, ?_⟩
        rw [List.length_append, l5]
        rfl
      · rw [show [PyData.tuple (.str x :: ds)].filter isIf = [] by rw [List.filter_cons_of_neg (by exact fun h2 => h (congrArg V.str (of_decide_eq_true h2)))]; rfl]
        walk_at "st"
        exact ⟨f5, acc, e5, by rw [l5]; rfl⟩
    · rintro H5 ⟨f5, acc, e5, l5⟩
      rw [List.take_of_length_le (by omega)] at l5
      have f05 := f04.trans f5
      have ha5 := f5.tup _ _ ha4
      have hp5 := f5.tup _ _ hp4
      have tb5 := TD.mono f5.tup _ _ tb4
      walk_at "st"
      refine iteD (fun h => absurd h (by omega)) (fun _ => ?_)
      walk_at "st"
      refine ⟨p, vb, f.ps, f.b, rfl, hp5, g.pn, i.le, by have := g.pl; omega, tb5, g.b, by omega, fun H6 r6 ys hY hr60 hr6 f6 => ?_⟩
      have ly := hY.1.length_eq
      have hnl := g.nl
      unfold Fnc.all at hnl
      walk_at "st"
      rw [decide_eq_true (by rw [List.length_map]; omega)]
      exact q _ (f05.trans f6)
end

end K03

namespace K03
open PySem PySem.Spec PyProof.Rows L2 Hq
local macro_rules | `(tactic| walk_at "st1") => `(tactic| first
  | with_reducible refine st_seq ?_ | with_reducible refine st_ret ?_ | with_reducible refine st_ifS ?_ | with_reducible refine st_asg ?_ | with_reducible refine st_drop ?_
  | ((with_reducible refine' st_var ?hv ?_); (case hv => rfl)) | with_reducible refine st_c ?_ | with_reducible refine st_op ?_ | with_reducible refine st_un ?_
  | with_reducible refine st_I0 ?_ | with_reducible refine st_U ?_ | ((with_reducible refine' st_I ?hc ?_); (case hc => walk_at "side"))
  | ((with_reducible refine' st_eq ?hs ?_); (case hs => rfl)) | ((with_reducible refine' st_ne ?hs ?_); (case hs => rfl))
  | with_reducible refine st_test ?_ | with_reducible refine st_B ?_ | with_reducible refine st_bl ?_ | with_reducible refine st_isN ?_ | with_reducible refine st_notN ?_
  | with_reducible refine st_chain ?_ | with_reducible refine st_and ?_ | with_reducible refine st_or ?_ | with_reducible refine st_not ?_
  | with_reducible refine st_andV ?_ | with_reducible refine st_orV ?_ | with_reducible refine st_notV ?_ | with_reducible refine st_if ?_
  | with_reducible refine st_CB ?_ | with_reducible refine st_cons ?_ | with_reducible refine st_nil ?_ | with_reducible refine st_fld ?_
  | ((with_reducible refine st_tup ?_)) | ((with_reducible refine st_lst ?_))
  | with_reducible refine st_call ?_ | with_reducible refine st_meth ?_ | with_reducible refine st_make ?_
  | with_reducible refine st_sl ?_ | with_reducible refine st_noPart ?_ | with_reducible refine st_part ?_ | with_reducible refine st_int ?_
  | ((with_reducible refine' st_ixL ?hq ?he ?_); (case hq => walk_at "sqL"); (case he => walk_at "at"))
  | ((with_reducible refine' st_ixT ?hq ?he ?_); (case hq => walk_at "sqT"); (case he => walk_at "at"))
  | with_reducible refine st_bm ?_ | with_reducible refine st_app ?_
  | ((with_reducible refine' st_append ?hq ?hl ?_); (case hq => walk_at "hp"); (case hl => walk_at "line"))
  | ((with_reducible refine' st_len (n := 0) ?hq ?_); (case hq => first | exact Or.inl (by walk_at "sqL") | exact Or.inr (by walk_at "sqT")))
  | ((with_reducible refine' st_listOf ?hq ?_); (case hq => first | exact Or.inl (by walk_at "sqL") | exact Or.inr (by walk_at "sqT")))
  | ((with_reducible refine st_name ?_); (try dsimp only [List.set_cons_zero, List.set_cons_succ])) | with_reducible refine st_par ?_
  | with_reducible refine st_gcons ?_ | with_reducible refine st_gnil ?_ | with_reducible refine st_gsub ?_ | with_reducible refine st_sFld ?_
  | ((with_reducible refine' st_gtup ?hq ?hl ?_); (case hq => walk_at "sqT"); (case hl => rfl))
  | ((with_reducible refine' st_setL ?hq ?hl ?_); (case hq => walk_at "hp"); (case hl => first | rfl | exact ix0 | exact ixN_nat (by assumption)); (try simp only [Int.reduceToNat, List.set_cons_zero, List.set_cons_succ]))
  | with_reducible refine st_intI ?_ | with_reducible refine st_abs ?_
  | ((with_reducible refine' st_popAt ?hq ?hk ?hy ?_); (case hq => walk_at "hp"); (case hk => exact seq0); (case hy => rfl))
  | ((with_reducible refine' and_left ?ht ?_); (case ht => walk_at "ty"))
  | with_reducible refine st_lc ?_ | with_reducible refine st_for ?_ | with_reducible refine st_iL ?_ | with_reducible refine st_iT ?_ | with_reducible refine st_iR1 ?_ | with_reducible refine st_iR2 ?_ | with_reducible refine st_iZ ?_
  | ((with_reducible refine' st_refL ?hq ?_); (case hq => walk_at "sqL")) | ((with_reducible refine' st_refT ?hq ?_); (case hq => walk_at "sqT"))
  | ((with_reducible refine' st_rng1 ?hq ?_); (case hq => walk_at "side")) | ((with_reducible refine' st_rng2 ?hq ?_); (case hq => walk_at "side"))
  | ((with_reducible refine' st_zip ?hq ?hr ?_); (case hq => walk_at "sqb"); (case hr => walk_at "sqb"))
  | ((with_reducible refine' st_size ?hw ?_); (case hw => walk_at "line"))
  | ((with_reducible refine' st_sum ?hq ?_); (case hq => walk_at "sqL"))
  | with_reducible refine st_two ?_ | with_reducible refine st_yes ?_ | ((with_reducible refine' st_wipe ?hw ?_); (case hw => rfl))
  | ((with_reducible refine' st_slL ?hq ?_); (case hq => walk_at "sqL"))
  | ((with_reducible refine' st_cat ?hq ?hr ?hl ?_); (case hq => walk_at "hp"); (case hr => walk_at "hp"); (case hl => walk_at "line"))
  | ((with_reducible refine' st_isi ?hk ?he ?_); (case hk => walk_at "kd"); (case he => walk_at "kit"))
  | ((with_reducible refine' st_ins ?hq ?hc ?hn ?hl ?_); (case hq => walk_at "hp"); (case hc => with_reducible assumption); (case hn => with_reducible assumption); (case hl => walk_at "flen"); walk_at "puts")
  | ((with_reducible refine' st_att ?hq ?hc ?hn ?hl ?_); (case hq => walk_at "hp"); (case hc => with_reducible assumption); (case hn => with_reducible assumption); (case hl => walk_at "lk"))
  | ((with_reducible refine' st_mt ?hq ?hl ?_); (case hq => walk_at "hp"); (case hl => walk_at "lk"))
  | ((with_reducible refine' st_extend ?hq ?hr ?hl ?_); (case hq => walk_at "hp"); (case hr => walk_at "hp"); (case hl => walk_at "line"))
  | with_reducible refine st_next ?_ | with_reducible refine st_retN ?_ | (with_reducible refine iteNT ?_) | (with_reducible refine iteNF ?_) | (with_reducible refine iteT ?_) | (with_reducible refine iteF ?_))
local macro_rules | `(tactic| walk_at "side") => `(tactic| first | omega | decide | assumption | exact ⟨by omega, by omega⟩ | exact Or.inr ⟨by omega, by omega⟩ | exact Or.inl ⟨by omega, by omega⟩ | (simp only [List.length_map, List.length_cons, List.length_nil, List.length_append] at *; omega))
local macro_rules | `(tactic| walk_at "hp") => `(tactic| first | assumption | exact upd_same | ((with_reducible refine' upd_old ?ho ?hb); (case ho => assumption); (case hb => walk_at "hp")) | (rw [upd_ne (by first | assumption | exact Ne.symm (by assumption))]; walk_at "hp"))
local macro_rules | `(tactic| walk_at "sqL") => `(tactic| first | assumption | exact SqL.of (by walk_at "hp"))
local macro_rules | `(tactic| walk_at "sqT") => `(tactic| first | assumption | exact SqT.of (by walk_at "hp"))
local macro_rules | `(tactic| walk_at "sqb") => `(tactic| (unfold SqB; first | ((with_reducible change SqL _ _ _ _); walk_at "sqL") | ((with_reducible change SqT _ _ _ _); walk_at "sqT")))
local macro_rules | `(tactic| walk_at "line") => `(tactic| first | assumption | decide | (apply line_of; walk_at "side") | (apply line_lt; walk_at "side"))
local macro_rules | `(tactic| walk_at "ty") => `(tactic| ((with_reducible refine' ty_lst ?hq); (case hq => walk_at "hp")))
local macro_rules | `(tactic| walk_at "at") => `(tactic| with_reducible first | assumption | exact at0 | exact at1 | exact at2 | exact at3 | exact at4 | exact at5 | exact at6 | exact at7 | exact at8)
local macro_rules | `(tactic| walk_at "st") => `(tactic| (repeat walk_at "st1"))
local macro_rules | `(tactic| walk_at "lk") => `(tactic| first | with_reducible assumption | rfl)
local macro_rules | `(tactic| walk_at "kd") => `(tactic| first | exact .base (.int _) | exact .base .non | exact .base (.bl _) | exact .base (.str _) | exact .base (.tup (by walk_at "hp")) | exact .base (.lst (by walk_at "hp")) | exact .base (.dK (by walk_at "hp")) | exact .base (.dT (by walk_at "hp")))
local macro_rules | `(tactic| walk_at "kit") => `(tactic| with_reducible first
  | exact kit_NoneType_bool
  | exact kit_NoneType_int
  | exact kit_NoneType_str
  | exact kit_NoneType_tuple
  | exact kit_NoneType_list
  | exact kit_NoneType_dict
  | exact kit_bool_bool
  | exact kit_bool_int
  | exact kit_bool_str
  | exact kit_bool_tuple
  | exact kit_bool_list
  | exact kit_bool_dict
  | exact kit_int_bool
  | exact kit_int_int
  | exact kit_int_str
  | exact kit_int_tuple
  | exact kit_int_list
  | exact kit_int_dict
  | exact kit_str_bool
  | exact kit_str_int
  | exact kit_str_str
  | exact kit_str_tuple
  | exact kit_str_list
  | exact kit_str_dict
  | exact kit_tuple_bool
  | exact kit_tuple_int
  | exact kit_tuple_str
  | exact kit_tuple_tuple
  | exact kit_tuple_list
  | exact kit_tuple_dict
  | exact kit_list_bool
  | exact kit_list_int
  | exact kit_list_str
  | exact kit_list_tuple
  | exact kit_list_list
  | exact kit_list_dict
  | exact kit_dict_bool
  | exact kit_dict_int
  | exact kit_dict_str
  | exact kit_dict_tuple
  | exact kit_dict_list
  | exact kit_dict_dict)
local macro_rules | `(tactic| walk_at "flen") => `(tactic| decide)
local macro_rules | `(tactic| walk_at "puts") => `(tactic| skip)

local macro_rules | `(tactic| walk_at "st1") => `(tactic| first
  | with_reducible refine st_dc ?_ | with_reducible refine st_dgetS ?_ | with_reducible refine st_dinS ?_ | with_reducible refine st_dninS ?_ | with_reducible refine st_dputS ?_ | with_reducible refine st_newT ?_ | with_reducible refine iteNN ?_ | with_reducible refine iteYN ?_
  | ((with_reducible refine' st_getT ?hq ?hk ?hv ?_); (case hq => walk_at "hp"); (case hk => walk_at "key"); (case hv => with_reducible assumption))
  | ((with_reducible refine' st_inT ?hq ?hk ?_); (case hq => walk_at "hp"); (case hk => walk_at "key"))
  | ((with_reducible refine' st_ninT ?hq ?hk ?_); (case hq => walk_at "hp"); (case hk => walk_at "key"))
  | ((with_reducible refine' st_putT ?hq ?hk ?hl ?_); (case hq => walk_at "hp"); (case hk => walk_at "key"); (case hl => walk_at "line"))
  | ((with_reducible refine' st_cputT ?hq ?hk ?hl ?_); (case hq => walk_at "hp"); (case hk => walk_at "key"); (case hl => walk_at "line"))
  | ((with_reducible refine' st_ixB ?hq ?he ?_); (case hq => first | assumption | exact Or.inl (by walk_at "sqL") | exact Or.inr (by walk_at "sqT")); (case he => walk_at "at")))
local macro_rules | `(tactic| walk_at "key") => `(tactic| with_reducible assumption)

local macro_rules | `(tactic| walk_at "lk") => `(tactic| with_reducible first | assumption | exact FlowF_get_params | exact FlowF_get_names | exact FlowF_get_first | exact FlowF_get_rows | exact TextF_get_tables | exact TextF_get_functions | exact TextF_get_flows | exact FlowF_no (by decide +kernel) (by decide +kernel) (by decide +kernel) (by decide +kernel) | exact TextF_no (by decide +kernel) (by decide +kernel) (by decide +kernel))
local macro_rules | `(tactic| walk_at "puts") => `(tactic| try simp only [FlowF_put_params, FlowF_put_names, FlowF_put_first, FlowF_put_rows, TextF_put_tables, TextF_put_functions, TextF_put_flows, FlowF0_put, FlowF1_put, FlowF2_put, FlowF3_put, TextF0_put, TextF1_put, TextF2_put])
local macro_rules | `(tactic| walk_at "flen") => `(tactic| first | with_reducible assumption | with_reducible (first | exact FlowF_len | exact TextF_len | exact FlowF0_len | exact FlowF1_len | exact FlowF2_len | exact FlowF3_len | exact TextF0_len | exact TextF1_len | exact TextF2_len) | decide)
section
variable {Z : Ads} {P : Program} {w : World} {K : PySem.W.Frag} {mg : Str → Option Value} {base : Heap}
/-! ### a text's sizes -/
def sizeK (p : Str × Nat) : List Key := [.inr p.1, .inl (p.2 : Nat)]
/-- a function as it looks -/
structure LooksF (f : Fnc) : Prop where
  nm : nameOk f.name = true
  pl : f.ps.length ≤ 4
def spSizesOf : Sp := fun vs H Q _ => ∃ (s v : V) (fs : List Fnc), vs = [s, v] ∧ TD H v (.tuple (fs.map Fnc.d)) ∧ (∀ f ∈ fs, LooksF f) ∧ fs.length ≤ 100 ∧
  ∀ (H' : Hp) (r : Addr) (kvs : List (List Key × V)), H' r = some (.dT kvs) → (∀ f ∈ fs, (valV kvs (sizeK (f.name, f.ps.length))).isSome = true) → Fr [] H H' → Q (.ref r) H'
theorem valV_putK {κ : Type} [DecidableEq κ] : ∀ (kvs : List (κ × V)) (k : κ) (v : V), valV (putK kvs k v) k = some v := by
  intro kvs k v
  unfold putK
  by_cases h : (kvs.any fun kv => decide (kv.1 = k)) = true
  · rw [if_pos h]
    induction kvs with
    | nil => exact nomatch h
    | cons kv kvs ih =>
      rw [List.map_cons]
      by_cases e : kv.1 = k
      · rw [if_pos e, valV_pos (by exact e)]
      · rw [if_neg e, valV_neg e]
        refine ih ?_
        rw [List.any_cons, decide_eq_false e, Bool.false_or] at h
        exact h
  · rw [if_neg h]
    induction kvs with
    | nil => exact valV_pos rfl
    | cons kv kvs ih =>
      rw [List.any_cons, Bool.or_eq_true, not_or] at h
      have e : ¬ kv.1 = k := fun e => h.1 (decide_eq_true e)
      rw [List.cons_append, valV_neg e]
      exact ih h.2
theorem valV_putK_ne {κ : Type} [DecidableEq κ] : ∀ (kvs : List (κ × V)) (k j : κ) (v : V), j ≠ k → valV (putK kvs k v) j = valV kvs j := by
  intro kvs k j v hne
  unfold putK
  by_cases h : (kvs.any fun kv => decide (kv.1 = k)) = true
  · rw [if_pos h]
    clear h
    induction kvs with
    | nil => rfl
    | cons kv kvs ih =>
      rw [List.map_cons]
      by_cases e : kv.1 = k
      · rw [if_pos e, valV_neg (by exact fun z => hne (z.symm.trans e)), valV_neg (by exact fun z => hne (z.symm.trans e)), ih]
      · rw [if_neg e]
        by_cases e2 : kv.1 = j
        · rw [valV_pos e2, valV_pos e2]
        · rw [valV_neg e2, valV_neg e2, ih]
  · rw [if_neg h]
    clear h
    induction kvs with
    | nil => exact valV_neg (by exact fun z => hne z.symm)
    | cons kv kvs ih =>
      rw [List.cons_append]
      by_cases e2 : kv.1 = j
      · rw [valV_pos e2, valV_pos e2]
      · rw [valV_neg e2, valV_neg e2, ih]
theorem valV_put_some {κ : Type} [DecidableEq κ] (kvs : List (κ × V)) (k j : κ) (v : V) (h : (valV kvs j).isSome = true) : (valV (putK kvs k v) j).isSome = true := by
  by_cases e : j = k
  · rw [e, valV_putK]
    rfl
  · rw [valV_putK_ne _ _ _ _ e]
    exact h
abbrev s_Text_sizes_of : Stmt := inClass (top 43) 2
theorem sc_Text_sizes_of : FnScope ["self", "functions", "found", "thing"] ["self", "functions"] (defScope s_Text_sizes_of) := ⟨rfl, rfl, rfl, by decide +kernel, rfl, by decide +kernel, by decide +kernel⟩
theorem ok_Text_sizes_of {f : Addr} {fd : FuncData} (F : Fun K "sizes_of" "Text.sizes_of" s_Text_sizes_of f fd) (T : Txt K mg Z) (D_is_tuple : Dn P w K mg base "is_tuple" 1 ["thing", "least", "most"] spTuple) (D_is_name : Dn P w K mg base "is_name" 1 ["thing"] spName) :
    FnOk P w K mg base (L2.CX P w) 2 f fd ["self", "functions"] spSizesOf := by
  refine okN F sc_Text_sizes_of (fun vs H Q E h => ?_) (fun cdv A outer s0 H vs Q E hr h => ?_)
  · obtain ⟨s, v, fs, rfl, _⟩ := h
    rfl
  · obtain ⟨s, v, fs, rfl, hv, hf, hl, q⟩ := h
    have hu := u1_of hr
    cases hv with
    | @tup b zs _ hb hT =>
    have lz := hT.length
    rw [List.length_map] at lz
    refine ⟨_, [some _, some _, none, none], rfl, (pss_cons (ps_set (i := 2) sc_Text_sizes_of.nd rfl (by first | exact Or.inl rfl | exact Or.inr rfl) pe_dnewT)
      (pss_cons (ps_for PassesOwn.never rfl (kPiT (K := K) (pv 1)) (pg_name (i := 3) sc_Text_sizes_of.nd rfl (by first | exact Or.inl rfl | exact Or.inr rfl))
      (pss_one (ps_if (PW.pt (pw_and (pt_val (pe_d D_is_tuple E0 (hr.mono (by first | decide | omega)) (by rfl) passL (pa_cons (pv 3) (pa_cons pe_int (pa_cons pe_int pa_nil))))) (pw_and (pt_val (pe_d D_is_name E0 (hr.mono (by first | decide | omega)) (by rfl) passL (pa_cons (pe_ix (kIxT (K := K)) (pv 3) pe_int (fun _ _ => rfl)) pa_nil))) (pw_and1 (pt_val (pe_callB (kIsi (K := K)) (by rfl) T.n_isinstance (by decide +kernel) (pa_cons (pe_ix (kIxT (K := K)) (pv 3) pe_int (fun _ _ => rfl)) (pa_cons (pe_ty "tuple" (by rfl) T.n_tuple (by decide +kernel)) pa_nil)))))))) (pss_one (ps_dput hu (pv 2) (pe_tup (pa_cons (pe_ix (kIxT (K := K)) (pv 3) pe_int (fun _ _ => rfl)) (pa_cons (pe_callB (kLen (K := K)) (by rfl) T.n_len (by decide +kernel) (pa_cons (pe_ix (kIxT (K := K)) (pv 3) pe_int (fun _ _ => rfl)) pa_nil)) pa_nil))) pe_bl rfl)) pss_nil)))
      (pss_one (ps_ret (pv 2))))), ?_⟩
    walk_at "st"
    intro D hD
    walk_at "st"
    refine for_it (walk_tup (xs := zs)) (fun i σ H' => ∃ o kvs, σ = [some s, some (.ref b), some (.ref D), o] ∧ Fr [] H H' ∧ H' D = some (.dT kvs) ∧ kvs.length ≤ i ∧ ∀ f ∈ fs.take i, (valV kvs (sizeK (f.name, f.ps.length))).isSome = true) ⟨none, [], rfl, Fr.up hD, upd_same, Nat.le_refl _, fun f hf => (nomatch hf)⟩ (fun i σ H' _ ⟨_, _, _, f, _⟩ => SqT.of (f.tup _ _ hb)) ?_ ?_
    · rintro i x σ H1 H2 hi ⟨o, kvs, rfl, f1, e1, l1, h1⟩ ⟨rfl, hxi⟩
      obtain ⟨d, hd, td⟩ := TDs.at_ (TDs.mono f1.tup _ _ hT) hxi
      rw [List.getElem?_map] at hd
      obtain ⟨g, hg, rfl⟩ := Option.map_eq_some_iff.mp hd
      have gl := hf g (List.mem_of_getElem? hg)
      obtain ⟨a, p, vb, rfl, ha, hp, tb⟩ := (FncAt.of td).ok
      walk_at "st"
      refine ⟨a, _, 3, 3, rfl, ha, (by decide : 3 ≤ 100000), ?_⟩
      rw [show (decide ((3 : Int) ≤ (([V.str g.name, V.ref p, vb] : List V).length : Nat)) && decide ((([V.str g.name, V.ref p, vb] : List V).length : Int) ≤ 3)) = true from rfl]
      walk_at "st"
      refine ⟨g.name, rfl, gl.nm, fun H3 f3 => ?_⟩
      have ha3 := f3.tup _ _ ha
      have hp3 := f3.tup _ _ hp
      have e3 := f3.same _ _ e1
      have f03 := f1.trans f3
      walk_at "st"
      intro t ht
      have f4 := f03.new (o := .tup [.str g.name, .int (((g.ps.map V.str).length : Nat) : Int)]) ht
      walk_at "st"
      refine ⟨D, _, rfl, DPut.t (k := [.inr g.name, .inl (((g.ps.map V.str).length : Nat) : Int)]) (upd_old ht e3) upd_same (line_lt (by omega)), ?_⟩
      refine ⟨_, _, rfl, f4.wr (upd_old ht e3) trivial (.inr hD), upd_same, ?_, ?_⟩
      · have := length_putK kvs [(.inr g.name : Key), .inl (((g.ps.map V.str).length : Nat) : Int)] (.bl true)
        omega
      · intro g' hg'
        rw [List.take_add_one, hg, List.mem_append] at hg'
        rcases hg' with hg' | hg'
        · exact valV_put_some _ _ _ _ (h1 g' hg')
        · obtain rfl := List.mem_singleton.mp hg'
          have : sizeK (g'.name, g'.ps.length) = [(.inr g'.name : Key), .inl (((g'.ps.map V.str).length : Nat) : Int)] := by rw [List.length_map]; rfl
          rw [this, valV_putK]
          rfl
    · rintro σ H1 ⟨o, kvs, rfl, f1, e1, l1, h1⟩
      rw [List.take_of_length_le (by omega)] at h1
      walk_at "st"
      exact q _ D kvs e1 h1 f1
def spGoesWith (i : Ix) : Sp := fun vs H Q _ => ∃ (s v : V) (tb sz : Addr) (d : PyData) (kvs : List (List Key × V)) (n : Nat), vs = [s, .ref tb, .ref sz, v] ∧ H tb = some (.tup (i.ts.map V.str)) ∧ H sz = some (.dT kvs) ∧ (∀ p ∈ i.os, (valV kvs (sizeK p)).isSome = true) ∧ TD H v d ∧ GS i.ns i.ts i.os n d ∧ i.ts.length ≤ 100 ∧ ∀ H', Fr [] H H' → Q (.bl true) H'
theorem flat_strs (ss : List Str) : (ss.map V.str).all flatV = true := by
  rw [List.all_eq_true]
  intro v hv
  obtain ⟨s, _, rfl⟩ := List.mem_map.mp hv
  rfl
abbrev s_Text_goes_with : Stmt := inClass (top 43) 3
theorem sc_Text_goes_with : FnScope ["self", "tables", "sizes", "statement"] ["self", "tables", "sizes", "statement"] (defScope s_Text_goes_with) := ⟨rfl, rfl, rfl, by decide +kernel, rfl, by decide +kernel, by decide +kernel⟩
theorem ok_Text_goes_with {i : Ix} {f : Addr} {fd : FuncData} (F : Fun K "goes_with" "Text.goes_with" s_Text_goes_with f fd) (T : Txt K mg Z) :
    FnOk P w K mg base (L2.CX P w) 1 f fd ["self", "tables", "sizes", "statement"] (spGoesWith i) := by
  refine okN F sc_Text_goes_with (fun vs H Q E h => ?_) (fun cdv A outer s0 H vs Q E hr h => ?_)
  · obtain ⟨s, v, tb, sz, d, kvs, n, rfl, _⟩ := h
    rfl
  · obtain ⟨s, v, tb, sz, d, kvs, n, rfl, htb, hsz, ho, hv, g, hl, q⟩ := h
    have hu := u1_of hr
    obtain ⟨x, ds, rfl, hk⟩ : ∃ x ds, d = .tuple (.str x :: ds) ∧ ((x = "read" ∧ ∃ s t, ds = [.str s, .str t] ∧ t ∈ i.ts) ∨ (x = "write" ∧ ∃ t e, ds = [.str t, e] ∧ t ∈ i.ts) ∨ (x = "call" ∧ ∃ s f es, ds = [.str s, .str f, .tuple es] ∧ (f, es.length) ∈ i.os) ∨ (x ≠ "read" ∧ x ≠ "write" ∧ x ≠ "call")) := by
      cases g with
      | plain hp =>
        cases hp with
        | let_ hx _ _ => rcases hx with rfl | rfl <;> exact ⟨_, _, rfl, .inr (.inr (.inr (by decide +kernel)))⟩
        | make hx _ _ _ _ => subst hx; exact ⟨_, _, rfl, .inr (.inr (.inr (by decide +kernel)))⟩
        | get hx _ _ _ _ => subst hx; exact ⟨_, _, rfl, .inr (.inr (.inr (by decide +kernel)))⟩
        | put hx _ _ _ _ => subst hx; exact ⟨_, _, rfl, .inr (.inr (.inr (by decide +kernel)))⟩
        | read hx _ ht => exact ⟨_, _, rfl, .inl ⟨hx, _, _, rfl, ht⟩⟩
        | write hx ht _ => exact ⟨_, _, rfl, .inr (.inl ⟨hx, _, _, rfl, ht⟩)⟩
        | call hx _ hf _ _ => exact ⟨_, _, rfl, .inr (.inr (.inl ⟨hx, _, _, _, rfl, hf⟩))⟩
        | end_ hx _ => subst hx; exact ⟨_, _, rfl, .inr (.inr (.inr (by decide +kernel)))⟩
      | if_ hx _ _ _ _ _ => subst hx; exact ⟨_, _, rfl, .inr (.inr (.inr (by decide +kernel)))⟩
      | while_ hx _ _ _ => subst hx; exact ⟨_, _, rfl, .inr (.inr (.inr (by decide +kernel)))⟩
    cases hv with
    | @tup a zs _ ha hT =>
    cases hT with
    | @cons z1 zs' _ _ t1 hT =>
    cases t1
    refine ⟨_, [some _, some _, some _, some _], rfl, (pss_cons (ps_if (pt_cmpR op_eq (pe_ix (kIxT (K := K)) (pv 3) pe_int (fun _ _ => rfl)) pe_str (by first | exact nomark _ | rfl)) (pss_one (ps_ret (pe_cmpR (kIn (K := K)) (pe_ix (kIxT (K := K)) (pv 3) pe_int (fun _ _ => rfl)) (pv 1) (by first | exact nomark _ | rfl)))) pss_nil)
      (pss_cons (ps_if (pt_cmpR op_eq (pe_ix (kIxT (K := K)) (pv 3) pe_int (fun _ _ => rfl)) pe_str (by first | exact nomark _ | rfl)) (pss_one (ps_ret (pe_cmpR (kIn (K := K)) (pe_ix (kIxT (K := K)) (pv 3) pe_int (fun _ _ => rfl)) (pv 1) (by first | exact nomark _ | rfl)))) pss_nil)
      (pss_one (ps_ret (pe_or (pe_cmpR op_ne (pe_ix (kIxT (K := K)) (pv 3) pe_int (fun _ _ => rfl)) pe_str (by first | exact nomark _ | rfl)) (pe_one (pe_cmp (pc_din hu (pe_tup (pa_cons (pe_ix (kIxT (K := K)) (pv 3) pe_int (fun _ _ => rfl)) (pa_cons (pe_callB (kLen (K := K)) (by rfl) T.n_len (by decide +kernel) (pa_cons (pe_ix (kIxT (K := K)) (pv 3) pe_int (fun _ _ => rfl)) pa_nil)) pa_nil))) (pv 2)) (by rfl)))))))), ?_⟩
    rcases hk with ⟨hx, s', t, rfl, ht⟩ | ⟨hx, t, e, rfl, ht⟩ | ⟨hx, s', f', es, rfl, hf⟩ | ⟨n1, n2, n3⟩
    · cases hT with
      | @cons z2 _ _ _ t2 hT =>
      cases hT with
      | @cons z3 _ _ _ t3 hT =>
      cases t3
      walk_at "st"
      refine iteD (fun _ => ?_) (fun h => absurd (by rw [hx]) h)
      walk_at "st"
      refine ⟨tb, _, rfl, .inr (SqT.of htb), rfl, flat_strs _, ?_⟩
      rw [if_neg Bool.false_ne_true, inV_strs, decide_eq_true ht]
      exact q _ (Fr.refl H)
    · cases hT with
      | @cons z2 _ _ _ t2 hT =>
      cases t2
      walk_at "st"
      refine iteD (fun h => absurd (V.str.inj h) (str_ne hx (by decide +kernel))) (fun _ => ?_)
      walk_at "st"
      refine iteD (fun _ => ?_) (fun h => absurd (by rw [hx]) h)
      walk_at "st"
      refine ⟨tb, _, rfl, .inr (SqT.of htb), rfl, flat_strs _, ?_⟩
      rw [if_neg Bool.false_ne_true, inV_strs, decide_eq_true ht]
      exact q _ (Fr.refl H)
    · cases hT with
      | @cons z2 _ _ _ t2 hT =>
      cases hT with
      | @cons z3 _ _ _ t3 hT =>
      cases hT with
      | @cons z4 _ _ _ t4 hT =>
      cases t3
      cases t4 with
      | @tup c zc _ hc hTc =>
      have lc := hTc.length
      walk_at "st"
      refine iteD (fun h => absurd (V.str.inj h) (str_ne hx (by decide +kernel))) (fun _ => ?_)
      walk_at "st"
      refine iteD (fun h => absurd (V.str.inj h) (str_ne hx (by decide +kernel))) (fun _ => ?_)
      walk_at "st"
      refine iteDN (fun _ => ?_) (fun h => absurd (by rw [hx]) h)
      walk_at "st"
      intro p hp
      have f1 : Fr [] H (upd H p (.tup [.str f', .int ((zc.length : Nat) : Int)])) := Fr.up hp
      have hk := ho _ hf
      walk_at "st"
      refine ⟨sz, _, rfl, DGet.t (k := [.inr f', .inl ((zc.length : Nat) : Int)]) (upd_old hp hsz) upd_same, ?_⟩
      have e : sizeK (f', es.length) = [(.inr f' : Key), .inl ((zc.length : Nat) : Int)] := by rw [lc]; rfl
      rw [e] at hk
      rw [hk]
      exact q _ f1
    · walk_at "st"
      refine iteD (fun h => absurd (V.str.inj h) n1) (fun _ => ?_)
      walk_at "st"
      refine iteD (fun h => absurd (V.str.inj h) n2) (fun _ => ?_)
      walk_at "st"
      refine iteDN (fun h => absurd (V.str.inj h) n3) (fun _ => ?_)
      exact q _ (Fr.refl H)
end

end K03

namespace K03
open PySem PySem.Spec PyProof.Rows L2 Hq
local macro_rules | `(tactic| walk_at "st1") => `(tactic| first
  | with_reducible refine st_seq ?_ | with_reducible refine st_ret ?_ | with_reducible refine st_ifS ?_ | with_reducible refine st_asg ?_ | with_reducible refine st_drop ?_
  | ((with_reducible refine' st_var ?hv ?_); (case hv => rfl)) | with_reducible refine st_c ?_ | with_reducible refine st_op ?_ | with_reducible refine st_un ?_
  | with_reducible refine st_I0 ?_ | with_reducible refine st_U ?_ | ((with_reducible refine' st_I ?hc ?_); (case hc => walk_at "side"))
  | ((with_reducible refine' st_eq ?hs ?_); (case hs => rfl)) | ((with_reducible refine' st_ne ?hs ?_); (case hs => rfl))
  | with_reducible refine st_test ?_ | with_reducible refine st_B ?_ | with_reducible refine st_bl ?_ | with_reducible refine st_isN ?_ | with_reducible refine st_notN ?_
  | with_reducible refine st_chain ?_ | with_reducible refine st_and ?_ | with_reducible refine st_or ?_ | with_reducible refine st_not ?_
  | with_reducible refine st_andV ?_ | with_reducible refine st_orV ?_ | with_reducible refine st_notV ?_ | with_reducible refine st_if ?_
  | with_reducible refine st_CB ?_ | with_reducible refine st_cons ?_ | with_reducible refine st_nil ?_ | with_reducible refine st_fld ?_
  | ((with_reducible refine st_tup ?_)) | ((with_reducible refine st_lst ?_))
  | with_reducible refine st_call ?_ | with_reducible refine st_meth ?_ | with_reducible refine st_make ?_
  | with_reducible refine st_sl ?_ | with_reducible refine st_noPart ?_ | with_reducible refine st_part ?_ | with_reducible refine st_int ?_
  | ((with_reducible refine' st_ixL ?hq ?he ?_); (case hq => walk_at "sqL"); (case he => walk_at "at"))
  | ((with_reducible refine' st_ixT ?hq ?he ?_); (case hq => walk_at "sqT"); (case he => walk_at "at"))
  | with_reducible refine st_bm ?_ | with_reducible refine st_app ?_
  | ((with_reducible refine' st_append ?hq ?hl ?_); (case hq => walk_at "hp"); (case hl => walk_at "line"))
  | ((with_reducible refine' st_len (n := 0) ?hq ?_); (case hq => first | exact Or.inl (by walk_at "sqL") | exact Or.inr (by walk_at "sqT")))
  | ((with_reducible refine' st_listOf ?hq ?_); (case hq => first | exact Or.inl (by walk_at "sqL") | exact Or.inr (by walk_at "sqT")))
  | ((with_reducible refine st_name ?_); (try dsimp only [List.set_cons_zero, List.set_cons_succ])) | with_reducible refine st_par ?_
  | with_reducible refine st_gcons ?_ | with_reducible refine st_gnil ?_ | with_reducible refine st_gsub ?_ | with_reducible refine st_sFld ?_
  | ((with_reducible refine' st_gtup ?hq ?hl ?_); (case hq => walk_at "sqT"); (case hl => rfl))
  | ((with_reducible refine' st_setL ?hq ?hl ?_); (case hq => walk_at "hp"); (case hl => first | rfl | exact ix0 | exact ixN_nat (by assumption)); (try simp only [Int.reduceToNat, List.set_cons_zero, List.set_cons_succ]))
  | with_reducible refine st_intI ?_ | with_reducible refine st_abs ?_
  | ((with_reducible refine' st_popAt ?hq ?hk ?hy ?_); (case hq => walk_at "hp"); (case hk => exact seq0); (case hy => rfl))
  | ((with_reducible refine' and_left ?ht ?_); (case ht => walk_at "ty"))
  | with_reducible refine st_lc ?_ | with_reducible refine st_for ?_ | with_reducible refine st_iL ?_ | with_reducible refine st_iT ?_ | with_reducible refine st_iR1 ?_ | with_reducible refine st_iR2 ?_ | with_reducible refine st_iZ ?_
  | ((with_reducible refine' st_refL ?hq ?_); (case hq => walk_at "sqL")) | ((with_reducible refine' st_refT ?hq ?_); (case hq => walk_at "sqT"))
  | ((with_reducible refine' st_rng1 ?hq ?_); (case hq => walk_at "side")) | ((with_reducible refine' st_rng2 ?hq ?_); (case hq => walk_at "side"))
  | ((with_reducible refine' st_zip ?hq ?hr ?_); (case hq => walk_at "sqb"); (case hr => walk_at "sqb"))
  | ((with_reducible refine' st_size ?hw ?_); (case hw => walk_at "line"))
  | ((with_reducible refine' st_sum ?hq ?_); (case hq => walk_at "sqL"))
  | with_reducible refine st_two ?_ | with_reducible refine st_yes ?_ | ((with_reducible refine' st_wipe ?hw ?_); (case hw => rfl))
  | ((with_reducible refine' st_slL ?hq ?_); (case hq => walk_at "sqL"))
  | ((with_reducible refine' st_cat ?hq ?hr ?hl ?_); (case hq => walk_at "hp"); (case hr => walk_at "hp"); (case hl => walk_at "line"))
  | ((with_reducible refine' st_isi ?hk ?he ?_); (case hk => walk_at "kd"); (case he => walk_at "kit"))
  | ((with_reducible refine' st_ins ?hq ?hc ?hn ?hl ?_); (case hq => walk_at "hp"); (case hc => with_reducible assumption); (case hn => with_reducible assumption); (case hl => walk_at "flen"); walk_at "puts")
  | ((with_reducible refine' st_att ?hq ?hc ?hn ?hl ?_); (case hq => walk_at "hp"); (case hc => with_reducible assumption); (case hn => with_reducible assumption); (case hl => walk_at "lk"))
  | ((with_reducible refine' st_mt ?hq ?hl ?_); (case hq => walk_at "hp"); (case hl => walk_at "lk"))
  | ((with_reducible refine' st_extend ?hq ?hr ?hl ?_); (case hq => walk_at "hp"); (case hr => walk_at "hp"); (case hl => walk_at "line"))
  | with_reducible refine st_next ?_ | with_reducible refine st_retN ?_ | (with_reducible refine iteNT ?_) | (with_reducible refine iteNF ?_) | (with_reducible refine iteT ?_) | (with_reducible refine iteF ?_))
local macro_rules | `(tactic| walk_at "side") => `(tactic| first | omega | decide | assumption | exact ⟨by omega, by omega⟩ | exact Or.inr ⟨by omega, by omega⟩ | exact Or.inl ⟨by omega, by omega⟩ | (simp only [List.length_map, List.length_cons, List.length_nil, List.length_append] at *; omega))
local macro_rules | `(tactic| walk_at "hp") => `(tactic| first | assumption | exact upd_same | ((with_reducible refine' upd_old ?ho ?hb); (case ho => assumption); (case hb => walk_at "hp")) | (rw [upd_ne (by first | assumption | exact Ne.symm (by assumption))]; walk_at "hp"))
local macro_rules | `(tactic| walk_at "sqL") => `(tactic| first | assumption | exact SqL.of (by walk_at "hp"))
local macro_rules | `(tactic| walk_at "sqT") => `(tactic| first | assumption | exact SqT.of (by walk_at "hp"))
local macro_rules | `(tactic| walk_at "sqb") => `(tactic| (unfold SqB; first | ((with_reducible change SqL _ _ _ _); walk_at "sqL") | ((with_reducible change SqT _ _ _ _); walk_at "sqT")))
local macro_rules | `(tactic| walk_at "line") => `(tactic| first | assumption | decide | (apply line_of; walk_at "side") | (apply line_lt; walk_at "side"))
local macro_rules | `(tactic| walk_at "ty") => `(tactic| ((with_reducible refine' ty_lst ?hq); (case hq => walk_at "hp")))
local macro_rules | `(tactic| walk_at "at") => `(tactic| with_reducible first | assumption | exact at0 | exact at1 | exact at2 | exact at3 | exact at4 | exact at5 | exact at6 | exact at7 | exact at8)
local macro_rules | `(tactic| walk_at "st") => `(tactic| (repeat walk_at "st1"))
local macro_rules | `(tactic| walk_at "lk") => `(tactic| first | with_reducible assumption | rfl)
local macro_rules | `(tactic| walk_at "kd") => `(tactic| first | exact .base (.int _) | exact .base .non | exact .base (.bl _) | exact .base (.str _) | exact .base (.tup (by walk_at "hp")) | exact .base (.lst (by walk_at "hp")) | exact .base (.dK (by walk_at "hp")) | exact .base (.dT (by walk_at "hp")))
local macro_rules | `(tactic| walk_at "kit") => `(tactic| with_reducible first
  | exact kit_NoneType_bool
  | exact kit_NoneType_int
  | exact kit_NoneType_str
  | exact kit_NoneType_tuple
  | exact kit_NoneType_list
  | exact kit_NoneType_dict
  | exact kit_bool_bool
  | exact kit_bool_int
  | exact kit_bool_str
  | exact kit_bool_tuple
  | exact kit_bool_list
  | exact kit_bool_dict
  | exact kit_int_bool
  | exact kit_int_int
  | exact kit_int_str
  | exact kit_int_tuple
  | exact kit_int_list
  | exact kit_int_dict
  | exact kit_str_bool
  | exact kit_str_int
  | exact kit_str_str
  | exact kit_str_tuple
  | exact kit_str_list
  | exact kit_str_dict
  | exact kit_tuple_bool
  | exact kit_tuple_int
  | exact kit_tuple_str
  | exact kit_tuple_tuple
  | exact kit_tuple_list
  | exact kit_tuple_dict
  | exact kit_list_bool
  | exact kit_list_int
  | exact kit_list_str
  | exact kit_list_tuple
  | exact kit_list_list
  | exact kit_list_dict
  | exact kit_dict_bool
  | exact kit_dict_int
  | exact kit_dict_str
  | exact kit_dict_tuple
  | exact kit_dict_list
  | exact kit_dict_dict)
local macro_rules | `(tactic| walk_at "flen") => `(tactic| decide)
local macro_rules | `(tactic| walk_at "puts") => `(tactic| skip)

local macro_rules | `(tactic| walk_at "st1") => `(tactic| first
  | with_reducible refine st_dc ?_ | with_reducible refine st_dgetS ?_ | with_reducible refine st_dinS ?_ | with_reducible refine st_dninS ?_ | with_reducible refine st_dputS ?_ | with_reducible refine st_newT ?_ | with_reducible refine iteNN ?_ | with_reducible refine iteYN ?_
  | ((with_reducible refine' st_getT ?hq ?hk ?hv ?_); (case hq => walk_at "hp"); (case hk => walk_at "key"); (case hv => with_reducible assumption))
  | ((with_reducible refine' st_inT ?hq ?hk ?_); (case hq => walk_at "hp"); (case hk => walk_at "key"))
  | ((with_reducible refine' st_ninT ?hq ?hk ?_); (case hq => walk_at "hp"); (case hk => walk_at "key"))
  | ((with_reducible refine' st_putT ?hq ?hk ?hl ?_); (case hq => walk_at "hp"); (case hk => walk_at "key"); (case hl => walk_at "line"))
  | ((with_reducible refine' st_cputT ?hq ?hk ?hl ?_); (case hq => walk_at "hp"); (case hk => walk_at "key"); (case hl => walk_at "line"))
  | ((with_reducible refine' st_ixB ?hq ?he ?_); (case hq => first | assumption | exact Or.inl (by walk_at "sqL") | exact Or.inr (by walk_at "sqT")); (case he => walk_at "at")))
local macro_rules | `(tactic| walk_at "key") => `(tactic| with_reducible assumption)

local macro_rules | `(tactic| walk_at "lk") => `(tactic| with_reducible first | assumption | exact FlowF_get_params | exact FlowF_get_names | exact FlowF_get_first | exact FlowF_get_rows | exact TextF_get_tables | exact TextF_get_functions | exact TextF_get_flows | exact FlowF_no (by decide +kernel) (by decide +kernel) (by decide +kernel) (by decide +kernel) | exact TextF_no (by decide +kernel) (by decide +kernel) (by decide +kernel))
local macro_rules | `(tactic| walk_at "puts") => `(tactic| try simp only [FlowF_put_params, FlowF_put_names, FlowF_put_first, FlowF_put_rows, TextF_put_tables, TextF_put_functions, TextF_put_flows, FlowF0_put, FlowF1_put, FlowF2_put, FlowF3_put, TextF0_put, TextF1_put, TextF2_put])
local macro_rules | `(tactic| walk_at "flen") => `(tactic| first | with_reducible assumption | with_reducible (first | exact FlowF_len | exact TextF_len | exact FlowF0_len | exact FlowF1_len | exact FlowF2_len | exact FlowF3_len | exact TextF0_len | exact TextF1_len | exact TextF2_len) | decide)
section
variable {Z : Ads} {P : Program} {w : World} {K : PySem.W.Frag} {mg : Str → Option Value} {base : Heap}
/-! ### a text -/
structure GoodT (ts : List Str) (fs : List Fnc) : Prop where
  tn : ∀ t ∈ ts, nameOk t = true
  td : ts.Nodup
  ta : Asc ts
  tl : ts.length ≤ 4
  f0 : 0 < fs.length
  fl : fs.length ≤ 8
  fa : Asc (fs.map Fnc.name)
  fn : (fs.map Fnc.name).Nodup
  fg : ∀ f ∈ fs, ∃ i : Ix, i.ts = ts ∧ i.os = fs.map (fun f => (f.name, f.ps.length)) ∧ GoodF i f
/-- what a flow of a function is -/
def FlowOf (C : Addr) (H : Hp) (kv : Key × V) (f : Fnc) : Prop := kv.1 = .inr f.name ∧ ∃ a ys, kv.2 = .ref a ∧ FlowAt C H a ys ∧ Told ys (namesF f.ps f.all)
structure TextAt (Ct Cf : Addr) (H : Hp) (t : Addr) (fs : List Fnc) : Prop where
  ok : ∃ (dx d : Addr) (tb fn : V) (ks : List (Key × V)), H t = some (.ins Ct dx (TextF tb fn (.ref d))) ∧ H d = some (.dK ks) ∧ Paired (FlowOf Cf H) ks fs
  nd : (fs.map Fnc.name).Nodup
def spTextInit (Ct Cf : Addr) : Sp := fun vs H Q _ => ∃ (s dx tb : Addr) (v : V) (ts : List Str) (fs : List Fnc), vs = [.ref s, .ref tb, v] ∧ H s = some (.ins Ct dx TextF0) ∧ H tb = some (.tup (ts.map V.str)) ∧ TD H v (.tuple (fs.map Fnc.d)) ∧ GoodT ts fs ∧
  ∀ H', TextAt Ct Cf H' s fs → Fr [s] H H' → Q .non H'
theorem FlowOf.keep {C : Addr} {H H' : Hp} {kv : Key × V} {f : Fnc} {ms : List Addr} (h : FlowOf C H kv f) (fr : Fr ms H H') (n : ∀ a, kv.2 = .ref a → a ∉ ms) : FlowOf C H' kv f := by
  obtain ⟨e, a, ys, e2, h1, h2⟩ := h
  exact ⟨e, a, ys, e2, h1.keep fr (n a e2), h2⟩
theorem flows_same {C : Addr} {H H' : Hp} {ks : List (Key × V)} {fs : List Fnc} (h : Paired (FlowOf C H) ks fs) (fr : Fr [] H H') : Paired (FlowOf C H') ks fs := Paired.mapP h fun _ _ q => q.keep fr fun _ _ => List.not_mem_nil
theorem flows_keys {C : Addr} {H : Hp} {ks : List (Key × V)} {fs : List Fnc} (h : Paired (FlowOf C H) ks fs) : ks.map (·.1) = fs.map (fun f => (.inr f.name : Key)) := by
  induction h with
  | nil => rfl
  | cons h1 _ ih => rw [List.map_cons, List.map_cons, ih, h1.1]
theorem Paired.app {α β : Type} {F : α → β → Prop} {xs : List α} {ys : List β} {x : α} {y : β} (h : Paired F xs ys) (g : F x y) : Paired F (xs ++ [x]) (ys ++ [y]) := by
  induction h with
  | nil => exact .cons g .nil
  | cons h1 _ ih => exact .cons h1 ih
theorem putK_new {ks : List (Key × V)} {k : Key} {v : V} (h : k ∉ ks.map (·.1)) : putK ks k v = ks ++ [(k, v)] := by
  unfold putK
  rw [if_neg]
  intro e
  rw [List.any_eq_true] at e
  obtain ⟨kv, hkv, e⟩ := e
  exact h (List.mem_map.mpr ⟨kv, hkv, of_decide_eq_true e⟩)
abbrev s_Text___init__ : Stmt := inClass (top 43) 0
theorem sc_Text___init__ : FnScope ["self", "tables", "functions", "sizes", "at", "function", "one", "name", "params", "block"] ["self", "tables", "functions"] (defScope s_Text___init__) := ⟨rfl, rfl, rfl, by decide +kernel, rfl, by decide +kernel, by decide +kernel⟩
theorem ok_Text_init {f : Addr} {fd : FuncData} (F : Fun K "__init__" "Text.__init__" s_Text___init__ f fd) (T : Txt K mg Z) (TC : TxC K Z) (D_are_names : Dn P w K mg base "are_names" 2 ["thing", "most"] spAreNames) (D_does_ascend : Dn P w K mg base "does_ascend" 1 ["things"] spAscend) (D_is_tuple : Dn P w K mg base "is_tuple" 1 ["thing", "least", "most"] spTuple)
    (M_Text_sizes_of : Mn P w K mg base Z.Text "sizes_of" 2 ["self", "functions"] spSizesOf) (M_Text_goes_with : Mn P w K mg base Z.Text "goes_with" 1 ["self", "tables", "sizes", "statement"] (spA spGoesWith)) (D_is_function : Dn P w K mg base "is_function" 22 ["thing"] (spA spIsFunction))
    (D_all_in : Dn P w K mg base "all_in" 6 ["block"] (spA fun i : Ix => spAllIn i.ns i.ts i.os 4)) (C_Flow : Cn P w K mg base "Flow" Z.Flow 8 ["self", "params", "block"] (spA (spFlowInit Z.Flow))) :
    FnOk P w K mg base (L2.CX P w) 23 f fd ["self", "tables", "functions"] (spTextInit Z.Text Z.Flow) := by
  have cl := TC.clT
  have b1 := TC.aTt
  have b2 := TC.aTf
  have b3 := TC.aTl
  refine okN F sc_Text___init__ (fun vs H Q E h => ?_) (fun cdv A outer s0 H vs Q E hr h => ?_)
  · obtain ⟨s, dx, tb, v, ts, fs, rfl, _⟩ := h
    rfl
  · obtain ⟨s, dx, tb, v, ts, fs, rfl, hs, htb, hv, g, q⟩ := h
    have hu := u1_of hr
    have hu0 := u0_of hr
    cases hv with
    | @tup b zs _ hb hT =>
    have lz := hT.length
    rw [List.length_map] at lz
    refine ⟨_, [some _, some _, some _, none, none, none, none, none, none, none], rfl, (pss_cons (ps_if (PW.pt (pw_or (pt_not (pt_val (pe_d D_are_names E0 (hr.mono (by first | decide | omega)) (by rfl) passL (pa_cons (pv 1) (pa_cons (pe_gl (by rfl) T.g_MOST_TABLES) pa_nil))))) (pw_or1 (pt_not (pt_val (pe_d D_does_ascend E0 (hr.mono (by first | decide | omega)) (by rfl) passL (pa_cons (pv 1) pa_nil))))))) (pss_one ps_never) pss_nil)
      (pss_cons (ps_if (pt_not (pt_val (pe_d D_is_tuple E0 (hr.mono (by first | decide | omega)) (by rfl) passL (pa_cons (pv 2) (pa_cons pe_int (pa_cons (pe_gl (by rfl) T.g_MOST_FUNCTIONS) pa_nil)))))) (pss_one ps_never) pss_nil)
      (pss_cons (ps_set (i := 3) sc_Text___init__.nd rfl (by first | exact Or.inl rfl | exact Or.inr rfl) (pe_m M_Text_sizes_of E0 (hr.mono (by first | decide | omega)) (pv 0) passL (pa_cons (pv 2) pa_nil) _))
      (pss_cons (ps_for PassesOwn.never rfl (kEnumT (K := K) (by rfl) T.n_enumerate (pa_cons (pv 2) pa_nil)) (kTupT (K := K) (n := 2) (pgs_cons (pg_name (i := 4) sc_Text___init__.nd rfl (by first | exact Or.inl rfl | exact Or.inr rfl)) (pgs_cons (pg_name (i := 5) sc_Text___init__.nd rfl (by first | exact Or.inl rfl | exact Or.inr rfl)) pgs_nil)))
      (C8.pss_cut (ps_if (PW.pt (pw_or (pt_not (pt_val (pe_d D_is_function E0 (hr.mono (by first | decide | omega)) (by rfl) passL (pa_cons (pv 5) pa_nil)))) (pw_or1 (PW.pt (pw_and (pt_cmpR op_gt (pv 4) pe_int (by first | exact nomark _ | rfl)) (pw_and1 (pt_not (pt_cmpR op_lt_str (pe_ix (kIxT (K := K)) (pe_ix (kIxT (K := K)) (pv 2) (pe_op op_sub (pv 4) pe_int) (fun _ _ => rfl)) pe_int (fun _ _ => rfl)) (pe_ix (kIxT (K := K)) (pv 5) pe_int (fun _ _ => rfl)) (by first | exact nomark _ | rfl))))))))) (pss_one ps_never) pss_nil)
      (pss_one (ps_if (pt_not (pt_val (pe_callB (kAll (K := K)) (by rfl) T.n_all (by decide +kernel) (pa_cons (pe_lc (own := [("one", 6)]) (g := (gName 6)) (tt := tYes) rfl sc_Text___init__.nd (kPiL (K := K) (pe_d D_all_in E0 (hr.mono (by first | decide | omega)) (by rfl) passL (pa_cons (pe_ix (kIxT (K := K)) (pv 5) pe_int (fun _ _ => rfl)) pa_nil))) (blkOk_by (N := ["self", "tables", "functions", "sizes", "at", "function", "one", "name", "params", "block"]) (sc := defScope s_Text___init__) (by decide +kernel)) (fun _ _ _ _ _ => (pg_name (i := 6) sc_Text___init__.nd rfl (by first | exact Or.inl rfl | exact Or.inr rfl))) (fun _ _ _ _ _ => pts_nil) (fun _ _ _ _ _ => (pe_m M_Text_goes_with E0 (hr.mono (by first | decide | omega)) (pv 0) passL (pa_cons (pv 1) (pa_cons (pv 3) (pa_cons (pv 6) pa_nil))) _))) pa_nil)))) (pss_one ps_never) pss_nil))))
      (pss_cons (kSFld (K := K) (pv 0) (pv 1) rfl)
      (pss_cons (kSFld (K := K) (pv 0) (pv 2) rfl)
      (pss_one (kSFld (K := K) (pv 0) (pe_dcG (own := [("name", 7), ("params", 8), ("block", 9)]) (g := (gTup K 3 (gCons (gName 7) (gCons (gName 8) (gCons (gName 9) gNil))))) (tt := tYes) (.dK []) hu0 (Or.inl rfl) rfl sc_Text___init__.nd (kPiT (K := K) (pv 2)) (blkOk_by (N := ["self", "tables", "functions", "sizes", "at", "function", "one", "name", "params", "block"]) (sc := defScope s_Text___init__) (by decide +kernel)) (fun _ _ _ _ _ => (kTupT (K := K) (n := 3) (pgs_cons (pg_name (i := 7) sc_Text___init__.nd rfl (by first | exact Or.inl rfl | exact Or.inr rfl)) (pgs_cons (pg_name (i := 8) sc_Text___init__.nd rfl (by first | exact Or.inl rfl | exact Or.inr rfl)) (pgs_cons (pg_name (i := 9) sc_Text___init__.nd rfl (by first | exact Or.inl rfl | exact Or.inr rfl)) pgs_nil))))) (fun _ _ _ _ _ => pts_nil) (fun _ _ _ _ _ => (pv 7)) (fun _ _ _ _ _ => (pe_c C_Flow E0 (hr.mono (by first | decide | omega)) (by rfl) passL (pa_cons (pv 8) (pa_cons (pv 9) pa_nil))))) rfl)))))))), ?_⟩
    have gtl := g.tl
    have gf0 := g.f0
    have gfl := g.fl
    walk_at "st"
    refine ⟨tb, ts, 4, rfl, htb, g.tn, g.td, by omega, by omega, fun H1 f1 => ?_⟩
    have htb1 := f1.tup _ _ htb
    walk_at "st"
    refine ⟨tb, ts, rfl, htb1, g.ta, by omega, fun H2 f2 => ?_⟩
    have f02 := f1.trans f2
    have hb2 := f02.tup _ _ hb
    have hs2 := f02.same _ _ hs
    have htb2 := f2.tup _ _ htb1
    walk_at "st"
    refine ⟨b, zs, 1, 8, rfl, hb2, by omega, ?_⟩
    rw [decide_eq_true (by omega), decide_eq_true (by omega), Bool.and_self]
    walk_at "st"
    refine ⟨_, _, fs, rfl, .tup hb2 (TDs.mono f02.tup _ _ hT), fun f hf => ?_, by omega, fun H3 sz kvs hsz hkv f3 => ?_⟩
    · obtain ⟨i, _, _, gf⟩ := g.fg f hf
      exact ⟨gf.nm, gf.pl⟩
    have f03 := f02.trans f3
    have hb3 := f3.tup _ _ hb2
    have hs3 := f3.same _ _ hs2
    have htb3 := f3.tup _ _ htb2
    walk_at "st"
    refine st_iET ?_
    walk_at "st"
    refine ⟨b, zs, rfl, SqT.of hb3, ?_⟩
    refine for_it (walk_enumT (xs := zs)) (fun i σ H' => ∃ o4 o5, σ = [some (.ref s), some (.ref tb), some (.ref b), some (.ref sz), o4, o5, none, none, none, none] ∧ Fr [] H3 H') ⟨none, none, rfl, Fr.refl H3⟩ (fun i σ H' _ ⟨_, _, _, f⟩ => SqT.of (f.tup _ _ hb3)) ?_ ?_
    · rintro k x σ H4 H5 hi ⟨o4, o5, rfl, f4⟩ ⟨T0, x1, x2, rfl, hT0, rfl, e1, hxi⟩
      obtain rfl : V.int (k : Nat) = x1 := Option.some.inj e1
      have f5 : Fr [] H3 (upd H4 T0 (.tup [.int (k : Nat), x2])) := f4.new hT0
      have t5 : upd H4 T0 (.tup [.int (k : Nat), x2]) T0 = some (.tup [.int (k : Nat), x2]) := upd_same
      generalize upd H4 T0 (.tup [.int (k : Nat), x2]) = H5 at f5 t5 ⊢
      have f05 := f03.trans f5
      have hb5 := f5.tup _ _ hb3
      have hs5 := f5.same _ _ hs3
      have htb5 := f5.tup _ _ htb3
      have hsz5 := f5.same _ _ hsz
      have hT5 := TDs.mono f05.tup _ _ hT
      obtain ⟨d, hd, td⟩ := TDs.at_ hT5 hxi
      rw [List.getElem?_map] at hd
      obtain ⟨gf, hgf, rfl⟩ := Option.map_eq_some_iff.mp hd
      obtain ⟨ix, its, ios, good⟩ := g.fg gf (List.mem_of_getElem? hgf)
      have gal := good.al
      unfold Fnc.all at gal
      obtain ⟨a, p, vb, rfl, ha, hp, tvb⟩ := (FncAt.of td).ok
      walk_at "st"
      refine ⟨fun σ H' => σ = [some (.ref s), some (.ref tb), some (.ref b), some (.ref sz), some (.int (k : Nat)), some (.ref a), none, none, none, none] ∧ Fr [] H5 H', ?_, ?_⟩
      · walk_at "st"
        refine ⟨ix, .ref a, gf, rfl, td, good, fun H6 f6 => ?_⟩
        have hb6 := f6.tup _ _ hb5
        have ha6 := f6.tup _ _ ha
        walk_at "st"
        refine iteD (fun hk => ?_) (fun _ => ?_)
        · have hk' : 0 < k := by omega
          have hk1 : k - 1 < zs.length := by omega
          have h1 : zs[k - 1]? = some zs[k - 1] := List.getElem?_eq_getElem hk1
          obtain ⟨d', hd', td'⟩ := TDs.at_ hT5 h1
          rw [List.getElem?_map] at hd'
          obtain ⟨gf', hgf', rfl⟩ := Option.map_eq_some_iff.mp hd'
          obtain ⟨a', p', vb', ea', ha', hp', tvb'⟩ := (FncAt.of td').ok
          rw [ea'] at h1
          have hat : atI zs (((k : Nat) : Int) - 1) = some (.ref a') := by
            rw [show ((k : Nat) : Int) - 1 = ((k - 1 : Nat) : Int) by omega]
            exact atI_nat h1
          have ha6' := f6.tup _ _ ha'
          have lt := g.fa (k - 1) gf'.name gf.name (by rw [List.getElem?_map, hgf']; rfl) (by rw [show k - 1 + 1 = k by omega, List.getElem?_map, hgf]; rfl)
          walk_at "st"
          refine ⟨gf'.name, gf.name, rfl, rfl, ?_⟩
          rw [decide_eq_true lt]
          walk_at "st"
          exact ⟨rfl, f6⟩
        · walk_at "st"
          exact ⟨rfl, f6⟩
      · rintro σ H6 ⟨rfl, f6⟩
        have ha6 := f6.tup _ _ ha
        have hs6 := f6.same _ _ hs5
        walk_at "st"
        refine ⟨ix, vb, gf.b, rfl, TD.mono f6.tup _ _ tvb, good.b, by omega, fun H7 r xs hr0 hr1 tx f7 => ?_⟩
        have lx := tx.length
        have f57 := f6.trans f7
        have hA := allIn_gs 4 gf.b good.b
        walk_at "st"
        intro D hD
        refine lc_it (walk_list (xs := xs)) (fun j H' => Fr [] H7 H' ∧ H' D = some (.lst ((List.replicate j true).map V.bl))) ⟨Fr.up hD, upd_same⟩ (fun i H' _ h => SqL.of (h.1.same _ _ hr1)) ?_ ?_
        · rintro j y H8 H9 hj ⟨f8, e8⟩ ⟨rfl, hyj⟩
          obtain ⟨st, hst, tds⟩ := TDs.at_ (TDs.mono f8.tup _ _ tx) hyj
          have f58 := f57.trans f8
          have hs8 := f58.same _ _ hs5
          have htb8 := f58.tup _ _ htb5
          have hsz8 := f58.same _ _ hsz5
          walk_at "st"
          refine ⟨ix, _, y, tb, sz, st, kvs, 4, rfl, by rw [its]; exact htb8, hsz8, fun p hp => ?_, tds, hA st (List.mem_of_getElem? hst), by rw [its]; omega, fun Ha fa => ?_⟩
          · rw [ios] at hp
            obtain ⟨f', hf', rfl⟩ := List.mem_map.mp hp
            exact hkv f' hf'
          have ea := fa.same _ _ e8
          refine ⟨_, ea, line_lt (by simp; omega), (f8.trans fa).wl ea (.inr hD), ?_⟩
          rw [upd_same, List.replicate_succ', List.map_append]
          rfl
        · rintro H8 ⟨f8, e8⟩
          walk_at "st"
          refine st_all (SqL.of e8) ?_
          rw [show ∀ n, (List.replicate n true).all id = true from fun n => by simp]
          walk_at "st"
          exact ⟨_, _, rfl, f5.trans (f57.trans f8)⟩
    · rintro σ H4 ⟨o4, o5, rfl, f4⟩
      have f04 := f03.trans f4
      have hs4 := f4.same _ _ hs3
      have hb4 := f4.tup _ _ hb3
      have nbs : b ≠ s := fun e => by rw [e, hs4] at hb4; exact nomatch hb4
      walk_at "st"
      have f6 : Fr [s] H (upd (upd H4 s (.ins Z.Text dx (TextF1 (.ref tb)))) s (.ins Z.Text dx (TextF2 (.ref tb) (.ref b)))) := ((f04.mono (by simp)).wi (o' := .ins Z.Text dx (TextF1 (.ref tb))) hs4 (.inl (by simp))).wi (o' := .ins Z.Text dx (TextF2 (.ref tb) (.ref b))) upd_same (.inl (by simp))
      have s6 : upd (upd H4 s (.ins Z.Text dx (TextF1 (.ref tb)))) s (.ins Z.Text dx (TextF2 (.ref tb) (.ref b))) s = some (.ins Z.Text dx (TextF2 (.ref tb) (.ref b))) := upd_same
      generalize upd (upd H4 s (.ins Z.Text dx (TextF1 (.ref tb)))) s (.ins Z.Text dx (TextF2 (.ref tb) (.ref b))) = H6 at f6 s6 ⊢
      have hb6 := f6.tup _ _ hb
      have hT6 := TDs.mono f6.tup _ _ hT
      intro D hD
      refine dc_it (walk_tup (xs := zs)) (fun i H' => Fr [] H6 H' ∧ ∃ ks, H' D = some (.dK ks) ∧ Paired (FlowOf Z.Flow H') ks (fs.take i)) ⟨Fr.up hD, [], upd_same, .nil⟩ (fun i H' _ h => SqT.of (h.1.tup _ _ hb6)) ?_ ?_
      · rintro k y H7 H8 hk ⟨f7, ks, e7, p7⟩ ⟨rfl, hyk⟩
        obtain ⟨d, hd, td⟩ := TDs.at_ (TDs.mono f7.tup _ _ hT6) hyk
        rw [List.getElem?_map] at hd
        obtain ⟨gf, hgf, rfl⟩ := Option.map_eq_some_iff.mp hd
        obtain ⟨ix, its, ios, good⟩ := g.fg gf (List.mem_of_getElem? hgf)
        have gal := good.al
        unfold Fnc.all at gal
        obtain ⟨a, p, vb, rfl, ha, hp, tvb⟩ := (FncAt.of td).ok
        walk_at "st"
        intro x dx' hx hdx hne
        have f8 : Fr [] H8 (upd (upd H8 dx' (.own x)) x (.ins Z.Flow dx' [])) := (Fr.up hdx).new ((upd_ne hne.symm).trans hx)
        refine ⟨ix, x, dx', p, vb, gf.ps, gf.b, rfl, upd_same, f8.tup _ _ hp, good.pn, by have := good.pl; omega, TD.mono f8.tup _ _ tvb, good.b, by omega, fun H9 ys hY hF f9 => ⟨rfl, ?_⟩⟩
        have f79 : Fr [] H8 H9 := Fr.cut (ms := []) (ns := [x]) ((f8.mono (by simp)).trans (f9.mono (by simp))) fun z hz => by
          rw [List.mem_singleton.mp hz]
          exact hx
        have e9 := f79.same _ _ e7
        have p9 := flows_same p7 f79
        have nk : (.inr gf.name : Key) ∉ ks.map (·.1) := by
          rw [flows_keys p9]
          intro hm
          obtain ⟨f', hf', ef⟩ := List.mem_map.mp hm
          obtain ⟨j, hj, ej⟩ := List.getElem_of_mem hf'
          rw [List.length_take] at hj
          have hj1 : fs[j]? = some f' := by
            rw [List.getElem_take] at ej
            rw [← ej]
            exact List.getElem?_eq_getElem (by omega)
          have nd := g.fn
          have h1 : (fs.map Fnc.name)[j]? = some gf.name := by rw [List.getElem?_map, hj1]; exact congrArg some (Sum.inr.inj ef)
          have h2 : (fs.map Fnc.name)[k]? = some gf.name := by rw [List.getElem?_map, hgf]; rfl
          have hjl : j < (fs.map Fnc.name).length := by rw [List.length_map]; omega
          have := (List.getElem?_inj hjl nd).mp (h1.trans h2.symm)
          omega
        have lk : ks.length = k := by
          have := congrArg List.length (flows_keys p9)
          rw [List.length_map, List.length_map, List.length_take] at this
          omega
        refine ⟨_, DPut.k (k := .inr gf.name) e9 (line_lt (by omega)), (f7.trans f79).wr e9 trivial (.inr hD), _, upd_same, ?_⟩
        rw [putK_new nk, List.take_add_one, hgf]
        have fD : Fr [D] H9 (upd H9 D (.dK (ks ++ [(.inr gf.name, .ref x)]))) := (Fr.refl H9).wr e9 trivial (.inl (by simp))
        refine Paired.app (Paired.mapP p9 fun kv f' h => ?_) ⟨rfl, x, ys, rfl, hF.keep fD ?_, hY⟩
        · refine h.keep fD fun a' ea' => ?_
          obtain ⟨_, a2, ys2, ea2, ⟨dx2, n2, p2, g2, r2, h1, h2⟩, _⟩ := h
          rw [ea'] at ea2
          obtain rfl := V.ref.inj ea2
          intro hm
          rw [List.mem_singleton.mp hm, e9] at h1
          exact nomatch h1
        · obtain ⟨dx2, n2, p2, g2, r2, h1, h2⟩ := hF
          intro hm
          rw [List.mem_singleton.mp hm, e9] at h1
          exact nomatch h1
      · rintro H7 ⟨f7, ks, e7, p7⟩
        rw [List.take_of_length_le (by omega)] at p7
        have s7 := f7.same _ _ s6
        have nDs : D ≠ s := fun e => by rw [e, s7] at e7; exact nomatch e7
        walk_at "st"
        have f8 : Fr [s] H7 (upd H7 s (.ins Z.Text dx (TextF (.ref tb) (.ref b) (.ref D)))) := (Fr.refl H7).wi s7 (.inl (by simp))
        refine q _ ⟨⟨dx, D, _, _, ks, upd_same, by rw [upd_ne nDs]; exact e7, Paired.mapP p7 fun kv f' h => ?_⟩, g.fn⟩ ((f6.trans (f7.mono (by simp))).trans f8)
        refine h.keep f8 fun a' ea' => ?_
        obtain ⟨_, a2, ys2, ea2, ⟨dx2, n2, p2, g2, r2, h1, h2⟩, _⟩ := h
        rw [ea'] at ea2
        obtain rfl := V.ref.inj ea2
        intro hm
        rw [List.mem_singleton.mp hm, s7] at h1
        injection h1 with h1
        injection h1 with _ _ h1
        have := congrArg List.length h1
        exact absurd this (by show ¬ (2 : Nat) = 4; decide)
end

end K03

namespace K03
open PySem PySem.Spec PyProof.Rows L2 Hq
local macro_rules | `(tactic| walk_at "st1") => `(tactic| first
  | with_reducible refine st_seq ?_ | with_reducible refine st_ret ?_ | with_reducible refine st_ifS ?_ | with_reducible refine st_asg ?_ | with_reducible refine st_drop ?_
  | ((with_reducible refine' st_var ?hv ?_); (case hv => rfl)) | with_reducible refine st_c ?_ | with_reducible refine st_op ?_ | with_reducible refine st_un ?_
  | with_reducible refine st_I0 ?_ | with_reducible refine st_U ?_ | ((with_reducible refine' st_I ?hc ?_); (case hc => walk_at "side"))
  | ((with_reducible refine' st_eq ?hs ?_); (case hs => rfl)) | ((with_reducible refine' st_ne ?hs ?_); (case hs => rfl))
  | with_reducible refine st_test ?_ | with_reducible refine st_B ?_ | with_reducible refine st_bl ?_ | with_reducible refine st_isN ?_ | with_reducible refine st_notN ?_
  | with_reducible refine st_chain ?_ | with_reducible refine st_and ?_ | with_reducible refine st_or ?_ | with_reducible refine st_not ?_
  | with_reducible refine st_andV ?_ | with_reducible refine st_orV ?_ | with_reducible refine st_notV ?_ | with_reducible refine st_if ?_
  | with_reducible refine st_CB ?_ | with_reducible refine st_cons ?_ | with_reducible refine st_nil ?_ | with_reducible refine st_fld ?_
  | ((with_reducible refine st_tup ?_)) | ((with_reducible refine st_lst ?_))
  | with_reducible refine st_call ?_ | with_reducible refine st_meth ?_ | with_reducible refine st_make ?_
  | with_reducible refine st_sl ?_ | with_reducible refine st_noPart ?_ | with_reducible refine st_part ?_ | with_reducible refine st_int ?_
  | ((with_reducible refine' st_ixL ?hq ?he ?_); (case hq => walk_at "sqL"); (case he => walk_at "at"))
  | ((with_reducible refine' st_ixT ?hq ?he ?_); (case hq => walk_at "sqT"); (case he => walk_at "at"))
  | with_reducible refine st_bm ?_ | with_reducible refine st_app ?_
  | ((with_reducible refine' st_append ?hq ?hl ?_); (case hq => walk_at "hp"); (case hl => walk_at "line"))
  | ((with_reducible refine' st_len (n := 0) ?hq ?_); (case hq => first | exact Or.inl (by walk_at "sqL") | exact Or.inr (by walk_at "sqT")))
  | ((with_reducible refine' st_listOf ?hq ?_); (case hq => first | exact Or.inl (by walk_at "sqL") | exact Or.inr (by walk_at "sqT")))
  | ((with_reducible refine st_name ?_); (try dsimp only [List.set_cons_zero, List.set_cons_succ])) | with_reducible refine st_par ?_
  | with_reducible refine st_gcons ?_ | with_reducible refine st_gnil ?_ | with_reducible refine st_gsub ?_ | with_reducible refine st_sFld ?_
  | ((with_reducible refine' st_gtup ?hq ?hl ?_); (case hq => walk_at "sqT"); (case hl => rfl))
  | ((with_reducible refine' st_setL ?hq ?hl ?_); (case hq => walk_at "hp"); (case hl => first | rfl | exact ix0 | exact ixN_nat (by assumption)); (try simp only [Int.reduceToNat, List.set_cons_zero, List.set_cons_succ]))
  | with_reducible refine st_intI ?_ | with_reducible refine st_abs ?_
  | ((with_reducible refine' st_popAt ?hq ?hk ?hy ?_); (case hq => walk_at "hp"); (case hk => exact seq0); (case hy => rfl))
  | ((with_reducible refine' and_left ?ht ?_); (case ht => walk_at "ty"))
  | with_reducible refine st_lc ?_ | with_reducible refine st_for ?_ | with_reducible refine st_iL ?_ | with_reducible refine st_iT ?_ | with_reducible refine st_iR1 ?_ | with_reducible refine st_iR2 ?_ | with_reducible refine st_iZ ?_
  | ((with_reducible refine' st_refL ?hq ?_); (case hq => walk_at "sqL")) | ((with_reducible refine' st_refT ?hq ?_); (case hq => walk_at "sqT"))
  | ((with_reducible refine' st_rng1 ?hq ?_); (case hq => walk_at "side")) | ((with_reducible refine' st_rng2 ?hq ?_); (case hq => walk_at "side"))
  | ((with_reducible refine' st_zip ?hq ?hr ?_); (case hq => walk_at "sqb"); (case hr => walk_at "sqb"))
  | ((with_reducible refine' st_size ?hw ?_); (case hw => walk_at "line"))
  | ((with_reducible refine' st_sum ?hq ?_); (case hq => walk_at "sqL"))
  | with_reducible refine st_two ?_ | with_reducible refine st_yes ?_ | ((with_reducible refine' st_wipe ?hw ?_); (case hw => rfl))
  | ((with_reducible refine' st_slL ?hq ?_); (case hq => walk_at "sqL"))
  | ((with_reducible refine' st_cat ?hq ?hr ?hl ?_); (case hq => walk_at "hp"); (case hr => walk_at "hp"); (case hl => walk_at "line"))
  | ((with_reducible refine' st_isi ?hk ?he ?_); (case hk => walk_at "kd"); (case he => walk_at "kit"))
  | ((with_reducible refine' st_ins ?hq ?hc ?hn ?hl ?_); (case hq => walk_at "hp"); (case hc => with_reducible assumption); (case hn => with_reducible assumption); (case hl => walk_at "flen"); walk_at "puts")
  | ((with_reducible refine' st_att ?hq ?hc ?hn ?hl ?_); (case hq => walk_at "hp"); (case hc => with_reducible assumption); (case hn => with_reducible assumption); (case hl => walk_at "lk"))
  | ((with_reducible refine' st_mt ?hq ?hl ?_); (case hq => walk_at "hp"); (case hl => walk_at "lk"))
  | ((with_reducible refine' st_extend ?hq ?hr ?hl ?_); (case hq => walk_at "hp"); (case hr => walk_at "hp"); (case hl => walk_at "line"))
  | with_reducible refine st_next ?_ | with_reducible refine st_retN ?_ | (with_reducible refine iteNT ?_) | (with_reducible refine iteNF ?_) | (with_reducible refine iteT ?_) | (with_reducible refine iteF ?_))
local macro_rules | `(tactic| walk_at "side") => `(tactic| first | omega | decide | assumption | exact ⟨by omega, by omega⟩ | exact Or.inr ⟨by omega, by omega⟩ | exact Or.inl ⟨by omega, by omega⟩ | (simp only [List.length_map, List.length_cons, List.length_nil, List.length_append] at *; omega))
local macro_rules | `(tactic| walk_at "hp") => `(tactic| first | assumption | exact upd_same | ((with_reducible refine' upd_old ?ho ?hb); (case ho => assumption); (case hb => walk_at "hp")) | (rw [upd_ne (by first | assumption | exact Ne.symm (by assumption))]; walk_at "hp"))
local macro_rules | `(tactic| walk_at "sqL") => `(tactic| first | assumption | exact SqL.of (by walk_at "hp"))
local macro_rules | `(tactic| walk_at "sqT") => `(tactic| first | assumption | exact SqT.of (by walk_at "hp"))
local macro_rules | `(tactic| walk_at "sqb") => `(tactic| (unfold SqB; first | ((with_reducible change SqL _ _ _ _); walk_at "sqL") | ((with_reducible change SqT _ _ _ _); walk_at "sqT")))
local macro_rules | `(tactic| walk_at "line") => `(tactic| first | assumption | decide | (apply line_of; walk_at "side") | (apply line_lt; walk_at "side"))
local macro_rules | `(tactic| walk_at "ty") => `(tactic| ((with_reducible refine' ty_lst ?hq); (case hq => walk_at "hp")))
local macro_rules | `(tactic| walk_at "at") => `(tactic| with_reducible first | assumption | exact at0 | exact at1 | exact at2 | exact at3 | exact at4 | exact at5 | exact at6 | exact at7 | exact at8)
local macro_rules | `(tactic| walk_at "st") => `(tactic| (repeat walk_at "st1"))
local macro_rules | `(tactic| walk_at "lk") => `(tactic| first | with_reducible assumption | rfl)
local macro_rules | `(tactic| walk_at "kd") => `(tactic| first | exact .base (.int _) | exact .base .non | exact .base (.bl _) | exact .base (.str _) | exact .base (.tup (by walk_at "hp")) | exact .base (.lst (by walk_at "hp")) | exact .base (.dK (by walk_at "hp")) | exact .base (.dT (by walk_at "hp")))
local macro_rules | `(tactic| walk_at "kit") => `(tactic| with_reducible first
  | exact kit_NoneType_bool
  | exact kit_NoneType_int
  | exact kit_NoneType_str
  | exact kit_NoneType_tuple
  | exact kit_NoneType_list
  | exact kit_NoneType_dict
  | exact kit_bool_bool
  | exact kit_bool_int
  | exact kit_bool_str
  | exact kit_bool_tuple
  | exact kit_bool_list
  | exact kit_bool_dict
  | exact kit_int_bool
  | exact kit_int_int
  | exact kit_int_str
  | exact kit_int_tuple
  | exact kit_int_list
  | exact kit_int_dict
  | exact kit_str_bool
  | exact kit_str_int
  | exact kit_str_str
  | exact kit_str_tuple
  | exact kit_str_list
  | exact kit_str_dict
  | exact kit_tuple_bool
  | exact kit_tuple_int
  | exact kit_tuple_str
  | exact kit_tuple_tuple
  | exact kit_tuple_list
  | exact kit_tuple_dict
  | exact kit_list_bool
  | exact kit_list_int
  | exact kit_list_str
  | exact kit_list_tuple
  | exact kit_list_list
  | exact kit_list_dict
  | exact kit_dict_bool
  | exact kit_dict_int
  | exact kit_dict_str
  | exact kit_dict_tuple
  | exact kit_dict_list
  | exact kit_dict_dict)
local macro_rules | `(tactic| walk_at "flen") => `(tactic| decide)
local macro_rules | `(tactic| walk_at "puts") => `(tactic| skip)

local macro_rules | `(tactic| walk_at "st1") => `(tactic| first
  | with_reducible refine st_dc ?_ | with_reducible refine st_dgetS ?_ | with_reducible refine st_dinS ?_ | with_reducible refine st_dninS ?_ | with_reducible refine st_dputS ?_ | with_reducible refine st_newT ?_ | with_reducible refine iteNN ?_ | with_reducible refine iteYN ?_
  | ((with_reducible refine' st_getT ?hq ?hk ?hv ?_); (case hq => walk_at "hp"); (case hk => walk_at "key"); (case hv => with_reducible assumption))
  | ((with_reducible refine' st_inT ?hq ?hk ?_); (case hq => walk_at "hp"); (case hk => walk_at "key"))
  | ((with_reducible refine' st_ninT ?hq ?hk ?_); (case hq => walk_at "hp"); (case hk => walk_at "key"))
  | ((with_reducible refine' st_putT ?hq ?hk ?hl ?_); (case hq => walk_at "hp"); (case hk => walk_at "key"); (case hl => walk_at "line"))
  | ((with_reducible refine' st_cputT ?hq ?hk ?hl ?_); (case hq => walk_at "hp"); (case hk => walk_at "key"); (case hl => walk_at "line"))
  | ((with_reducible refine' st_ixB ?hq ?he ?_); (case hq => first | assumption | exact Or.inl (by walk_at "sqL") | exact Or.inr (by walk_at "sqT")); (case he => walk_at "at")))
local macro_rules | `(tactic| walk_at "key") => `(tactic| with_reducible assumption)

local macro_rules | `(tactic| walk_at "lk") => `(tactic| with_reducible first | assumption | exact FlowF_get_params | exact FlowF_get_names | exact FlowF_get_first | exact FlowF_get_rows | exact TextF_get_tables | exact TextF_get_functions | exact TextF_get_flows | exact FlowF_no (by decide +kernel) (by decide +kernel) (by decide +kernel) (by decide +kernel) | exact TextF_no (by decide +kernel) (by decide +kernel) (by decide +kernel))
local macro_rules | `(tactic| walk_at "puts") => `(tactic| try simp only [FlowF_put_params, FlowF_put_names, FlowF_put_first, FlowF_put_rows, TextF_put_tables, TextF_put_functions, TextF_put_flows, FlowF0_put, FlowF1_put, FlowF2_put, FlowF3_put, TextF0_put, TextF1_put, TextF2_put])
local macro_rules | `(tactic| walk_at "flen") => `(tactic| first | with_reducible assumption | with_reducible (first | exact FlowF_len | exact TextF_len | exact FlowF0_len | exact FlowF1_len | exact FlowF2_len | exact FlowF3_len | exact TextF0_len | exact TextF1_len | exact TextF2_len) | decide)
section
variable {Z : Ads} {P : Program} {w : World} {K : PySem.W.Frag} {mg : Str → Option Value} {base : Heap}
/-! ### the names of a function; what is none -/
def OddF (K : PySem.W.Frag) (H : Hp) (v : V) (fs : List Fnc) : Prop := (∃ t, TyX K H v t ∧ PySem.W.kitOne K t (.type "str") = some false) ∨ ∃ s, v = .str s ∧ s ∉ fs.map Fnc.name
theorem flows_none {C : Addr} {H : Hp} {ks : List (Key × V)} {fs : List Fnc} {s : Str} (h : Paired (FlowOf C H) ks fs) (n : s ∉ fs.map Fnc.name) : valV ks (.inr s : Key) = none := by
  induction h with
  | nil => rfl
  | @cons kv f ks fs h1 _ ih =>
    rw [List.map_cons, List.mem_cons, not_or] at n
    rw [valV_neg (by rw [h1.1]; exact fun e => n.1 (Sum.inr.inj e).symm)]
    exact ih n.2
theorem flows_some {C : Addr} {H : Hp} {ks : List (Key × V)} {fs : List Fnc} {f : Fnc} (h : Paired (FlowOf C H) ks fs) (nd : (fs.map Fnc.name).Nodup) (hf : f ∈ fs) : ∃ a ys, valV ks (.inr f.name : Key) = some (.ref a) ∧ FlowAt C H a ys ∧ Told ys (namesF f.ps f.all) := by
  induction h with
  | nil => exact nomatch hf
  | @cons kv g ks fs h1 _ ih =>
    rw [List.map_cons, List.nodup_cons] at nd
    obtain ⟨e1, a, ys, e2, h2, h3⟩ := h1
    rcases List.mem_cons.mp hf with rfl | hf
    · exact ⟨a, ys, by rw [valV_pos e1, e2], h2, h3⟩
    · have ne : ¬ kv.1 = (.inr f.name : Key) := by
        rw [e1]
        intro e
        exact nd.1 (List.mem_map.mpr ⟨f, hf, (Sum.inr.inj e).symm⟩)
      obtain ⟨a', ys', h4, h5⟩ := ih nd.2 hf
      exact ⟨a', ys', by rw [valV_neg ne, h4], h5⟩
def spCheckF (K : PySem.W.Frag) (Ct Cf NF : Addr) : Sp := fun vs H Q E => ∃ (t : Addr) (v : V) (fs : List Fnc), vs = [.ref t, v] ∧ TextAt Ct Cf H t fs ∧ (((∃ f ∈ fs, v = .str f.name) ∧ Q .non H) ∨ (OddF K H v fs ∧ E (.ref NF) none H))
abbrev s_check_function : Stmt := top 44
theorem sc_check_function : FnScope ["text", "f"] ["text", "f"] (defScope s_check_function) := ⟨rfl, rfl, rfl, by decide +kernel, rfl, by decide +kernel, by decide +kernel⟩
theorem ok_check_function {f : Addr} {fd : FuncData} (F : Fun K "check_function" "check_function" s_check_function f fd) (T : Txt K mg Z) (TC : TxC K Z) (En_NoFunction : En P w K mg base "NoFunction" Z.NoFunction 1) : FnOk P w K mg base (L2.CX P w) 3 f fd ["text", "f"] (spCheckF K Z.Text Z.Flow Z.NoFunction) := by
  have cl := TC.clT
  have b3 := TC.aTl
  refine okE F sc_check_function (fun vs H Q E h => ?_) (fun cdv A outer s0 H vs Q E hr h => ?_)
  · obtain ⟨t, v, fs, rfl, _⟩ := h
    rfl
  · obtain ⟨t, v, fs, rfl, ⟨⟨dx, d, tb, fn, ks, ht, hd, hp⟩, nd⟩, h⟩ := h
    have hu := u1_of hr
    refine ⟨_, [some _, some _], rfl, (pss_one (ps_if (PW.pt (pw_or (pt_not (pt_val (pe_callB (kIsi (K := K)) (by rfl) T.n_isinstance (by decide +kernel) (pa_cons (pv 1) (pa_cons (pe_ty "str" (by rfl) T.n_str (by decide +kernel)) pa_nil))))) (pw_or1 (pt_cmp (pc_dnotin hu (pv 1) (kFld (K := K) (pv 0) rfl)) (by rfl))))) (pss_one (ps_err0 En_NoFunction (hr.mono (by first | decide | omega)) (by rfl))) pss_nil)), ?_⟩
    rcases h with ⟨⟨f, hf, rfl⟩, q⟩ | ⟨⟨t', hty, hk⟩ | ⟨s, rfl, hs⟩, q⟩
    · obtain ⟨a, ys, hv, hF, hY⟩ := flows_some hp nd hf
      walk_at "st"
      refine ⟨d, _, rfl, DGet.k (k := .inr f.name) hd, ?_⟩
      rw [hv]
      exact ⟨false, rfl, q⟩
    · walk_at "st"
      refine ⟨v, .ty "str", t', _, false, rfl, .ty _, hty, hk, ?_⟩
      walk_at "st"
      exact q
    · walk_at "st"
      refine ⟨d, _, rfl, DGet.k (k := .inr s) hd, ?_⟩
      rw [flows_none hp hs]
      walk_at "st"
      exact q
def spNamesOf (K : PySem.W.Frag) (Ct Cf NF : Addr) : Sp := fun vs H Q E => ∃ (t : Addr) (v : V) (fs : List Fnc), vs = [.ref t, v] ∧ TextAt Ct Cf H t fs ∧ ((∃ f ∈ fs, v = .str f.name ∧ ∀ n ys, H n = some (.tup (ys.map V.str)) → Told ys (namesF f.ps f.all) → Q (.ref n) H) ∨ (OddF K H v fs ∧ E (.ref NF) none H))
abbrev s_names_of : Stmt := top 45
theorem sc_names_of : FnScope ["text", "f"] ["text", "f"] (defScope s_names_of) := ⟨rfl, rfl, rfl, by decide +kernel, rfl, by decide +kernel, by decide +kernel⟩
theorem ok_names_of {f : Addr} {fd : FuncData} (F : Fun K "names_of" "names_of" s_names_of f fd) (T : Txt K mg Z) (TC : TxC K Z) (D_check_function : Dn P w K mg base "check_function" 3 ["text", "f"] (spCheckF K Z.Text Z.Flow Z.NoFunction)) : FnOk P w K mg base (L2.CX P w) 4 f fd ["text", "f"] (spNamesOf K Z.Text Z.Flow Z.NoFunction) := by
  have cl := TC.clT
  have b3 := TC.aTl
  have clF := TC.clF
  have aFn := TC.aFn
  refine okE F sc_names_of (fun vs H Q E h => ?_) (fun cdv A outer s0 H vs Q E hr h => ?_)
  · obtain ⟨t, v, fs, rfl, _⟩ := h
    rfl
  · obtain ⟨t, v, fs, rfl, hT, h⟩ := h
    have hu := u1_of hr
    refine ⟨_, [some _, some _], rfl, (pss_cons (ps_expr (pe_d D_check_function E (hr.mono (by first | decide | omega)) (by rfl) passE (pa_cons (pv 0) (pa_cons (pv 1) pa_nil))))
      (pss_one (ps_ret (kFld (K := K) (pe_dget hu (kFld (K := K) (pv 0) rfl) (pv 1) (fun _ _ => rfl)) rfl)))), ?_⟩
    rcases h with ⟨f, hf, rfl, q⟩ | ⟨ho, q⟩
    · obtain ⟨⟨dx, d, tb, fn, ks, ht, hd, hp⟩, nd⟩ := id hT
      obtain ⟨a, ys, hv, ⟨dx2, n2, p2, g2, r2, h1, h2⟩, hY⟩ := flows_some hp nd hf
      walk_at "st"
      refine ⟨t, _, fs, rfl, hT, .inl ⟨⟨f, hf, rfl⟩, ?_⟩⟩
      walk_at "st"
      refine ⟨d, _, rfl, hv ▸ DGet.k (k := .inr f.name) hd, ?_⟩
      walk_at "st"
      exact q n2 ys h2 hY
    · walk_at "st"
      exact ⟨t, v, fs, rfl, hT, .inr ⟨ho, q⟩⟩
end

end K03

namespace K03
open PySem PySem.Spec PyProof.Rows L2 Hq
local macro_rules | `(tactic| walk_at "st1") => `(tactic| first
  | with_reducible refine st_seq ?_ | with_reducible refine st_ret ?_ | with_reducible refine st_ifS ?_ | with_reducible refine st_asg ?_ | with_reducible refine st_drop ?_
  | ((with_reducible refine' st_var ?hv ?_); (case hv => rfl)) | with_reducible refine st_c ?_ | with_reducible refine st_op ?_ | with_reducible refine st_un ?_
  | with_reducible refine st_I0 ?_ | with_reducible refine st_U ?_ | ((with_reducible refine' st_I ?hc ?_); (case hc => walk_at "side"))
  | ((with_reducible refine' st_eq ?hs ?_); (case hs => rfl)) | ((with_reducible refine' st_ne ?hs ?_); (case hs => rfl))
  | with_reducible refine st_test ?_ | with_reducible refine st_B ?_ | with_reducible refine st_bl ?_ | with_reducible refine st_isN ?_ | with_reducible refine st_notN ?_
  | with_reducible refine st_chain ?_ | with_reducible refine st_and ?_ | with_reducible refine st_or ?_ | with_reducible refine st_not ?_
  | with_reducible refine st_andV ?_ | with_reducible refine st_orV ?_ | with_reducible refine st_notV ?_ | with_reducible refine st_if ?_
  | with_reducible refine st_CB ?_ | with_reducible refine st_cons ?_ | with_reducible refine st_nil ?_ | with_reducible refine st_fld ?_
  | ((with_reducible refine st_tup ?_)) | ((with_reducible refine st_lst ?_))
  | with_reducible refine st_call ?_ | with_reducible refine st_meth ?_ | with_reducible refine st_make ?_
  | with_reducible refine st_sl ?_ | with_reducible refine st_noPart ?_ | with_reducible refine st_part ?_ | with_reducible refine st_int ?_
  | ((with_reducible refine' st_ixL ?hq ?he ?_); (case hq => walk_at "sqL"); (case he => walk_at "at"))
  | ((with_reducible refine' st_ixT ?hq ?he ?_); (case hq => walk_at "sqT"); (case he => walk_at "at"))
  | with_reducible refine st_bm ?_ | with_reducible refine st_app ?_
  | ((with_reducible refine' st_append ?hq ?hl ?_); (case hq => walk_at "hp"); (case hl => walk_at "line"))
  | ((with_reducible refine' st_len (n := 0) ?hq ?_); (case hq => first | exact Or.inl (by walk_at "sqL") | exact Or.inr (by walk_at "sqT")))
  | ((with_reducible refine' st_listOf ?hq ?_); (case hq => first | exact Or.inl (by walk_at "sqL") | exact Or.inr (by walk_at "sqT")))
  | ((with_reducible refine st_name ?_); (try dsimp only [List.set_cons_zero, List.set_cons_succ])) | with_reducible refine st_par ?_
  | with_reducible refine st_gcons ?_ | with_reducible refine st_gnil ?_ | with_reducible refine st_gsub ?_ | with_reducible refine st_sFld ?_
  | ((with_reducible refine' st_gtup ?hq ?hl ?_); (case hq => walk_at "sqT"); (case hl => rfl))
  | ((with_reducible refine' st_setL ?hq ?hl ?_); (case hq => walk_at "hp"); (case hl => first | rfl | exact ix0 | exact ixN_nat (by assumption)); (try simp only [Int.reduceToNat, List.set_cons_zero, List.set_cons_succ]))
  | with_reducible refine st_intI ?_ | with_reducible refine st_abs ?_
  | ((with_reducible refine' st_popAt ?hq ?hk ?hy ?_); (case hq => walk_at "hp"); (case hk => exact seq0); (case hy => rfl))
  | ((with_reducible refine' and_left ?ht ?_); (case ht => walk_at "ty"))
  | with_reducible refine st_lc ?_ | with_reducible refine st_for ?_ | with_reducible refine st_iL ?_ | with_reducible refine st_iT ?_ | with_reducible refine st_iR1 ?_ | with_reducible refine st_iR2 ?_ | with_reducible refine st_iZ ?_
  | ((with_reducible refine' st_refL ?hq ?_); (case hq => walk_at "sqL")) | ((with_reducible refine' st_refT ?hq ?_); (case hq => walk_at "sqT"))
  | ((with_reducible refine' st_rng1 ?hq ?_); (case hq => walk_at "side")) | ((with_reducible refine' st_rng2 ?hq ?_); (case hq => walk_at "side"))
  | ((with_reducible refine' st_zip ?hq ?hr ?_); (case hq => walk_at "sqb"); (case hr => walk_at "sqb"))
  | ((with_reducible refine' st_size ?hw ?_); (case hw => walk_at "line"))
  | ((with_reducible refine' st_sum ?hq ?_); (case hq => walk_at "sqL"))
  | with_reducible refine st_two ?_ | with_reducible refine st_yes ?_ | ((with_reducible refine' st_wipe ?hw ?_); (case hw => rfl))
  | ((with_reducible refine' st_slL ?hq ?_); (case hq => walk_at "sqL"))
  | ((with_reducible refine' st_cat ?hq ?hr ?hl ?_); (case hq => walk_at "hp"); (case hr => walk_at "hp"); (case hl => walk_at "line"))
  | ((with_reducible refine' st_isi ?hk ?he ?_); (case hk => walk_at "kd"); (case he => walk_at "kit"))
  | ((with_reducible refine' st_ins ?hq ?hc ?hn ?hl ?_); (case hq => walk_at "hp"); (case hc => with_reducible assumption); (case hn => with_reducible assumption); (case hl => walk_at "flen"); walk_at "puts")
  | ((with_reducible refine' st_att ?hq ?hc ?hn ?hl ?_); (case hq => walk_at "hp"); (case hc => with_reducible assumption); (case hn => with_reducible assumption); (case hl => walk_at "lk"))
  | ((with_reducible refine' st_mt ?hq ?hl ?_); (case hq => walk_at "hp"); (case hl => walk_at "lk"))
  | ((with_reducible refine' st_extend ?hq ?hr ?hl ?_); (case hq => walk_at "hp"); (case hr => walk_at "hp"); (case hl => walk_at "line"))
  | with_reducible refine st_next ?_ | with_reducible refine st_retN ?_ | (with_reducible refine iteNT ?_) | (with_reducible refine iteNF ?_) | (with_reducible refine iteT ?_) | (with_reducible refine iteF ?_))
local macro_rules | `(tactic| walk_at "side") => `(tactic| first | omega | decide | assumption | exact ⟨by omega, by omega⟩ | exact Or.inr ⟨by omega, by omega⟩ | exact Or.inl ⟨by omega, by omega⟩ | (simp only [List.length_map, List.length_cons, List.length_nil, List.length_append] at *; omega))
local macro_rules | `(tactic| walk_at "hp") => `(tactic| first | assumption | exact upd_same | ((with_reducible refine' upd_old ?ho ?hb); (case ho => assumption); (case hb => walk_at "hp")) | (rw [upd_ne (by first | assumption | exact Ne.symm (by assumption))]; walk_at "hp"))
local macro_rules | `(tactic| walk_at "sqL") => `(tactic| first | assumption | exact SqL.of (by walk_at "hp"))
local macro_rules | `(tactic| walk_at "sqT") => `(tactic| first | assumption | exact SqT.of (by walk_at "hp"))
local macro_rules | `(tactic| walk_at "sqb") => `(tactic| (unfold SqB; first | ((with_reducible change SqL _ _ _ _); walk_at "sqL") | ((with_reducible change SqT _ _ _ _); walk_at "sqT")))
local macro_rules | `(tactic| walk_at "line") => `(tactic| first | assumption | decide | (apply line_of; walk_at "side") | (apply line_lt; walk_at "side"))
local macro_rules | `(tactic| walk_at "ty") => `(tactic| ((with_reducible refine' ty_lst ?hq); (case hq => walk_at "hp")))
local macro_rules | `(tactic| walk_at "at") => `(tactic| with_reducible first | assumption | exact at0 | exact at1 | exact at2 | exact at3 | exact at4 | exact at5 | exact at6 | exact at7 | exact at8)
local macro_rules | `(tactic| walk_at "st") => `(tactic| (repeat walk_at "st1"))
local macro_rules | `(tactic| walk_at "lk") => `(tactic| first | with_reducible assumption | rfl)
local macro_rules | `(tactic| walk_at "kd") => `(tactic| first | exact .base (.int _) | exact .base .non | exact .base (.bl _) | exact .base (.str _) | exact .base (.tup (by walk_at "hp")) | exact .base (.lst (by walk_at "hp")) | exact .base (.dK (by walk_at "hp")) | exact .base (.dT (by walk_at "hp")))
local macro_rules | `(tactic| walk_at "kit") => `(tactic| with_reducible first
  | exact kit_NoneType_bool
  | exact kit_NoneType_int
  | exact kit_NoneType_str
  | exact kit_NoneType_tuple
  | exact kit_NoneType_list
  | exact kit_NoneType_dict
  | exact kit_bool_bool
  | exact kit_bool_int
  | exact kit_bool_str
  | exact kit_bool_tuple
  | exact kit_bool_list
  | exact kit_bool_dict
  | exact kit_int_bool
  | exact kit_int_int
  | exact kit_int_str
  | exact kit_int_tuple
  | exact kit_int_list
  | exact kit_int_dict
  | exact kit_str_bool
  | exact kit_str_int
  | exact kit_str_str
  | exact kit_str_tuple
  | exact kit_str_list
  | exact kit_str_dict
  | exact kit_tuple_bool
  | exact kit_tuple_int
  | exact kit_tuple_str
  | exact kit_tuple_tuple
  | exact kit_tuple_list
  | exact kit_tuple_dict
  | exact kit_list_bool
  | exact kit_list_int
  | exact kit_list_str
  | exact kit_list_tuple
  | exact kit_list_list
  | exact kit_list_dict
  | exact kit_dict_bool
  | exact kit_dict_int
  | exact kit_dict_str
  | exact kit_dict_tuple
  | exact kit_dict_list
  | exact kit_dict_dict)
local macro_rules | `(tactic| walk_at "flen") => `(tactic| decide)
local macro_rules | `(tactic| walk_at "puts") => `(tactic| skip)

local macro_rules | `(tactic| walk_at "st1") => `(tactic| first
  | with_reducible refine st_dc ?_ | with_reducible refine st_dgetS ?_ | with_reducible refine st_dinS ?_ | with_reducible refine st_dninS ?_ | with_reducible refine st_dputS ?_ | with_reducible refine st_newT ?_ | with_reducible refine iteNN ?_ | with_reducible refine iteYN ?_
  | ((with_reducible refine' st_getT ?hq ?hk ?hv ?_); (case hq => walk_at "hp"); (case hk => walk_at "key"); (case hv => with_reducible assumption))
  | ((with_reducible refine' st_inT ?hq ?hk ?_); (case hq => walk_at "hp"); (case hk => walk_at "key"))
  | ((with_reducible refine' st_ninT ?hq ?hk ?_); (case hq => walk_at "hp"); (case hk => walk_at "key"))
  | ((with_reducible refine' st_putT ?hq ?hk ?hl ?_); (case hq => walk_at "hp"); (case hk => walk_at "key"); (case hl => walk_at "line"))
  | ((with_reducible refine' st_cputT ?hq ?hk ?hl ?_); (case hq => walk_at "hp"); (case hk => walk_at "key"); (case hl => walk_at "line"))
  | ((with_reducible refine' st_ixB ?hq ?he ?_); (case hq => first | assumption | exact Or.inl (by walk_at "sqL") | exact Or.inr (by walk_at "sqT")); (case he => walk_at "at")))
local macro_rules | `(tactic| walk_at "key") => `(tactic| with_reducible assumption)

local macro_rules | `(tactic| walk_at "lk") => `(tactic| with_reducible first | assumption | exact FlowF_get_params | exact FlowF_get_names | exact FlowF_get_first | exact FlowF_get_rows | exact TextF_get_tables | exact TextF_get_functions | exact TextF_get_flows | exact FlowF_no (by decide +kernel) (by decide +kernel) (by decide +kernel) (by decide +kernel) | exact TextF_no (by decide +kernel) (by decide +kernel) (by decide +kernel))
local macro_rules | `(tactic| walk_at "puts") => `(tactic| try simp only [FlowF_put_params, FlowF_put_names, FlowF_put_first, FlowF_put_rows, TextF_put_tables, TextF_put_functions, TextF_put_flows, FlowF0_put, FlowF1_put, FlowF2_put, FlowF3_put, TextF0_put, TextF1_put, TextF2_put])
local macro_rules | `(tactic| walk_at "flen") => `(tactic| first | with_reducible assumption | with_reducible (first | exact FlowF_len | exact TextF_len | exact FlowF0_len | exact FlowF1_len | exact FlowF2_len | exact FlowF3_len | exact TextF0_len | exact TextF1_len | exact TextF2_len) | decide)
section
variable {Z : Ads} {P : Program} {w : World} {K : PySem.W.Frag} {mg : Str → Option Value} {base : Heap}
/-! ### drawn expressions -/
def spLWhole : Sp := fun vs H Q _ => ∃ (h c : Addr), vs = [.ref h] ∧ Hand H h c ∧ ∀ H' n, -(10 : Int) ^ 18 ≤ n → n ≤ (10 : Int) ^ 18 → Hand H' h c → Fr [h] H H' → Q (.int n) H'
abbrev s_law_whole : Stmt := top 53
theorem sc_law_whole : FnScope ["hand", "great"] ["hand"] (defScope s_law_whole) := ⟨rfl, rfl, rfl, by decide +kernel, rfl, by decide +kernel, by decide +kernel⟩
theorem ok_law_whole {f : Addr} {fd : FuncData} (F : Fun K "_law_whole" "_law_whole" s_law_whole f fd) (T : Txt K mg Z) (D_law_draw : Dn P w K mg base "_law_draw" 1 ["hand", "span"] spDraw) (D_law_some : Dn P w K mg base "_law_some" 2 ["hand", "things"] (spSome K)) : FnOk P w K mg base (L2.CX P w) 3 f fd ["hand"] spLWhole := by
  refine okN F sc_law_whole (fun vs H Q E h => ?_) (fun cdv A outer s0 H vs Q E hr h => ?_)
  · obtain ⟨h, c, rfl, _⟩ := h
    rfl
  · obtain ⟨h, c, rfl, hH, k⟩ := h
    refine ⟨_, [some _, none], rfl, (pss_cons (ps_set (i := 1) sc_law_whole.nd rfl (by first | exact Or.inl rfl | exact Or.inr rfl) (pe_d D_law_some E0 (hr.mono (by first | decide | omega)) (by rfl) passL (pa_cons (pv 0) (pa_cons (pe_lst (pa_cons pe_int (pa_cons pe_int (pa_cons pe_int (pa_cons pe_int (pa_cons (pe_op op_add (pe_op op_pow pe_int pe_int) pe_int) pa_nil)))))) pa_nil))))
      (pss_one (ps_ret (pe_op op_mul (pe_d D_law_draw E0 (hr.mono (by first | decide | omega)) (by rfl) passL (pa_cons (pv 0) (pa_cons (pv 1) pa_nil))) (pe_d D_law_some E0 (hr.mono (by first | decide | omega)) (by rfl) passL (pa_cons (pv 0) (pa_cons (pe_lst (pa_cons pe_int (pa_cons pe_int (pa_cons (pe_un un_neg pe_int) pa_nil)))) pa_nil))))))), ?_⟩
    have e18 : (10 : Int) ^ (18 : Int).toNat = 1000000000000000000 := by decide
    have e18' : (10 : Int) ^ 18 = 1000000000000000000 := by decide
    rw [e18'] at k
    walk_at "st"
    intro u hu
    walk_at "st"
    have n1 := hH.out hu
    have f1 : Fr [h] H (upd H u (.lst [.int 3, .int 3, .int 10, .int 1000, .int ((10 : Int) ^ (18 : Int).toNat + 1)])) := Fr.up hu
    refine ⟨h, c, u, _, rfl, hH.keep (ms := []) (Fr.up hu), .inr ⟨upd_same, n1⟩, by decide, by decide, fun H1 x hx hH1 g1 => ?_⟩
    obtain ⟨gr, rfl, g0, g9⟩ : ∃ gr : Int, x = .int gr ∧ 0 < gr ∧ gr ≤ 1000000000000000001 := by
      rw [e18] at hx
      simp only [List.mem_cons, List.not_mem_nil, or_false] at hx
      rcases hx with rfl | rfl | rfl | rfl | rfl <;> exact ⟨_, rfl, by decide, by decide⟩
    walk_at "st"
    refine ⟨h, c, gr, rfl, hH1, g0, by omega, fun H2 n n0 n1 hH2 f2 => ?_⟩
    walk_at "st"
    intro u2 hu2
    walk_at "st"
    have n2 := hH2.out hu2
    refine ⟨h, c, u2, _, rfl, hH2.keep (ms := []) (Fr.up hu2), .inr ⟨upd_same, n2⟩, by decide, by decide, fun H3 x hx hH3 f3 => ?_⟩
    have F3 : Fr [h] H H3 := ((f1.trans g1).trans f2).trans ((Fr.up hu2).trans f3)
    simp only [List.mem_cons, List.not_mem_nil, or_false] at hx
    rcases hx with rfl | rfl | rfl
    · walk_at "st"
      exact k _ _ (by omega) (by omega) hH3 F3
    · walk_at "st"
      exact k _ _ (by omega) (by omega) hH3 F3
    · walk_at "st"
      exact k _ _ (by omega) (by omega) hH3 F3
theorem st_orL {p q A B U : Prop} [Decidable p] [Decidable q] (hu : (if decide q = true then A else B) → U) (ha : p ∨ q → A) (hb : ¬ p → ¬ q → B) : if decide p = true then (if true = true then A else B) else U := by
  refine iteD (fun h => ?_) (fun h => hu (iteD (fun g => ha (.inr g)) (hb h)))
  rw [if_pos rfl]
  exact ha (.inl h)
def spLExpr (n : Nat) : Sp := fun vs H Q _ => ∃ (h c q : Addr) (ns : List Str), vs = [.ref h, .ref q, .int (n : Nat)] ∧ Hand H h c ∧ H q = some (.lst (ns.map V.str)) ∧ q ≠ h ∧ q ≠ c ∧ ns.length ≤ 100 ∧ 1 ≤ n ∧ ∀ H' v d, TD H' v d → GE ns n d → Hand H' h c → Fr [h] H H' → Q v H'
abbrev s_law_expression : Stmt := top 54
theorem sc_law_expression : FnScope ["hand", "names", "deep", "kind", "op"] ["hand", "names", "deep"] (defScope s_law_expression) := ⟨rfl, rfl, rfl, by decide +kernel, rfl, by decide +kernel, by decide +kernel⟩
theorem step_law_expression {f : Addr} {fd : FuncData} (F : Fun K "_law_expression" "_law_expression" s_law_expression f fd) (T : Txt K mg Z) (D_law_draw : Dn P w K mg base "_law_draw" 1 ["hand", "span"] spDraw) (D_law_some : Dn P w K mg base "_law_some" 2 ["hand", "things"] (spSome K)) (D_law_whole : Dn P w K mg base "_law_whole" 3 ["hand"] spLWhole) (n : Nat)
    (D_law_expression : Dn P w K mg base "_law_expression" (3 + n) ["hand", "names", "deep"] (fun vs H Q E => ∃ m, m < n ∧ spLExpr m vs H Q E)) : FnOk P w K mg base (L2.CX P w) (3 + n + 1) f fd ["hand", "names", "deep"] (spLExpr n) := by
  refine okN F sc_law_expression (fun vs H Q E h => ?_) (fun cdv A outer s0 H vs Q E hr h => ?_)
  · obtain ⟨h, c, q, ns, rfl, _⟩ := h
    rfl
  · obtain ⟨h, c, q, ns, rfl, hH, hq, nh, nc, hl, h1, k⟩ := h
    obtain ⟨j, rfl⟩ : ∃ j, n = j + 1 := ⟨n - 1, by omega⟩
    refine ⟨_, [some _, some _, some _, none, none], rfl, (pss_cons (ps_set (i := 3) sc_law_expression.nd rfl (by first | exact Or.inl rfl | exact Or.inr rfl) (pe_d D_law_draw E0 (hr.mono (by first | decide | omega)) (by rfl) passL (pa_cons (pv 0) (pa_cons pe_int pa_nil))))
      (pss_cons (ps_if (PW.pt (pw_or (pt_cmpR op_lt (pv 2) pe_int (by first | exact nomark _ | rfl)) (pw_or1 (pt_cmpR op_lt (pv 3) pe_int (by first | exact nomark _ | rfl))))) (pss_cons (ps_if (PW.pt (pw_and (pt_cmpR op_gt (pe_callB (kLen (K := K)) (by rfl) T.n_len (by decide +kernel) (pa_cons (pv 1) pa_nil)) pe_int (by first | exact nomark _ | rfl)) (pw_and1 (pt_cmpR op_eq (pe_d D_law_draw E0 (hr.mono (by first | decide | omega)) (by rfl) passL (pa_cons (pv 0) (pa_cons pe_int pa_nil))) pe_int (by first | exact nomark _ | rfl))))) (pss_one (ps_ret (pe_tup (pa_cons pe_str (pa_cons (pe_d D_law_some E0 (hr.mono (by first | decide | omega)) (by rfl) passL (pa_cons (pv 0) (pa_cons (pv 1) pa_nil))) pa_nil))))) pss_nil)
      (pss_one (ps_ret (pe_tup (pa_cons pe_str (pa_cons (pe_d D_law_whole E0 (hr.mono (by first | decide | omega)) (by rfl) passL (pa_cons (pv 0) pa_nil)) pa_nil)))))) pss_nil)
      (pss_cons (ps_set (i := 4) sc_law_expression.nd rfl (by first | exact Or.inl rfl | exact Or.inr rfl) (pe_d D_law_some E0 (hr.mono (by first | decide | omega)) (by rfl) passL (pa_cons (pv 0) (pa_cons (pe_lst (pa_cons pe_str (pa_cons pe_str (pa_cons pe_str (pa_cons pe_str (pa_cons pe_str pa_nil)))))) pa_nil))))
      (pss_one (ps_ret (pe_tup (pa_cons (pv 4) (pa_cons (pe_d D_law_expression E0 (hr.mono (by first | decide | omega)) (by rfl) passL (pa_cons (pv 0) (pa_cons (pv 1) (pa_cons (pe_op op_sub (pv 2) pe_int) pa_nil)))) (pa_cons (pe_d D_law_expression E0 (hr.mono (by first | decide | omega)) (by rfl) passL (pa_cons (pv 0) (pa_cons (pv 1) (pa_cons (pe_op op_sub (pv 2) pe_int) pa_nil)))) pa_nil))))))))), ?_⟩
    walk_at "st"
    refine ⟨h, c, _, rfl, hH, by decide, by decide, fun H1 kd k0 k5 hH1 f1 => ?_⟩
    have hq1 := f1.keep _ _ (by simpa using nh) hq
    walk_at "st"
    have eqd : ((j + 1 : Nat) : Int) - 1 = (j : Nat) := by omega
    refine st_orL (q := kd < 2) (fun h => ?_) (fun _ => ?_) (fun hd hk => ?_)
    · walk_at "st"
      exact h
    · have fin : ∀ H3 n, Hand H3 h c → Fr [h] H H3 → -(10 : Int) ^ 18 ≤ n → n ≤ (10 : Int) ^ 18 → ∀ p, H3 p = none → Q (.ref p) (upd H3 p (.tup [.str "int", .int n])) := fun H3 n a b n1 n2 p hp =>
        k _ _ _ (.tup upd_same (.cons (.str _) (.cons (.int _) .nil))) (.int rfl n1 n2) (a.keep (ms := []) (Fr.up hp)) (b.new hp)
      walk_at "st"
      refine iteD (fun hne => ?_) (fun _ => ?_)
      · rw [List.length_map] at hne
        walk_at "st"
        refine ⟨h, c, 2, rfl, hH1, by decide, by decide, fun H2 n n0 n1 hH2 f2 => ?_⟩
        have hq2 := f2.keep _ _ (by simpa using nh) hq1
        walk_at "st"
        refine iteD (fun _ => ?_) (fun _ => ?_)
        · walk_at "st"
          refine ⟨h, c, q, _, rfl, hH2, .inr ⟨hq2, nh, nc⟩, by rw [List.length_map]; omega, by rw [List.length_map]; omega, fun H3 x hx hH3 f3 => ?_⟩
          obtain ⟨s, hs, rfl⟩ := List.mem_map.mp hx
          walk_at "st"
          intro p hp
          exact k _ _ _ (.tup upd_same (.cons (.str _) (.cons (.str _) .nil))) (.name rfl hs) (hH3.keep (ms := []) (Fr.up hp)) (((f1.trans f2).trans f3).new hp)
        · walk_at "st"
          refine ⟨h, c, rfl, hH2, fun H3 n n1 n2 hH3 f3 => ?_⟩
          walk_at "st"
          exact fin H3 n hH3 ((f1.trans f2).trans f3) n1 n2
      · walk_at "st"
        refine ⟨h, c, rfl, hH1, fun H3 n n1 n2 hH3 f3 => ?_⟩
        walk_at "st"
        exact fin H3 n hH3 (f1.trans f3) n1 n2
    · walk_at "st"
      intro u hu
      have n1 := hH1.out hu
      have fu : Fr [] H1 (upd H1 u (.lst [.str "add", .str "sub", .str "mul", .str "less", .str "same"])) := Fr.up hu
      walk_at "st"
      refine ⟨h, c, u, _, rfl, hH1.keep fu, .inr ⟨upd_same, n1⟩, by decide, by decide, fun H2 x hx hH2 f2 => ?_⟩
      obtain ⟨op, hop, rfl⟩ : ∃ s, s ∈ opsL ∧ V.str s = x := List.mem_map.mp hx
      have hq2 := f2.keep _ _ (by simpa using nh) (fu.same _ _ hq1)
      have F2 := f1.trans ((fu.mono (ns := [h]) (by simp)).trans f2)
      walk_at "st"
      refine ⟨j, by omega, h, c, q, ns, by rw [eqd]; rfl, hH2, hq2, nh, nc, hl, by omega, fun H3 v1 d1 t1 g1 hH3 f3 => ?_⟩
      have hq3 := f3.keep _ _ (by simpa using nh) hq2
      walk_at "st"
      refine ⟨j, by omega, h, c, q, ns, by rw [eqd]; rfl, hH3, hq3, nh, nc, hl, by omega, fun H4 v2 d2 t2 g2 hH4 f4 => ?_⟩
      walk_at "st"
      intro p hp
      have fp := Fr.up (ms := []) (o := .tup [.str op, v1, v2]) hp
      exact k _ _ _ (.tup upd_same (.cons (.str _) (.cons (TD.mono (f4.tup.trans fp.tup) _ _ t1) (.cons (TD.mono fp.tup _ _ t2) .nil)))) (.op hop g1 g2) (hH4.keep fp) (((F2.trans f3).trans f4).new hp)
end

end K03

namespace K03
open PySem PySem.Spec PyProof.Rows L2 Hq
local macro_rules | `(tactic| walk_at "st1") => `(tactic| first
  | with_reducible refine st_seq ?_ | with_reducible refine st_ret ?_ | with_reducible refine st_ifS ?_ | with_reducible refine st_asg ?_ | with_reducible refine st_drop ?_
  | ((with_reducible refine' st_var ?hv ?_); (case hv => rfl)) | with_reducible refine st_c ?_ | with_reducible refine st_op ?_ | with_reducible refine st_un ?_
  | with_reducible refine st_I0 ?_ | with_reducible refine st_U ?_ | ((with_reducible refine' st_I ?hc ?_); (case hc => walk_at "side"))
  | ((with_reducible refine' st_eq ?hs ?_); (case hs => rfl)) | ((with_reducible refine' st_ne ?hs ?_); (case hs => rfl))
  | with_reducible refine st_test ?_ | with_reducible refine st_B ?_ | with_reducible refine st_bl ?_ | with_reducible refine st_isN ?_ | with_reducible refine st_notN ?_
  | with_reducible refine st_chain ?_ | with_reducible refine st_and ?_ | with_reducible refine st_or ?_ | with_reducible refine st_not ?_
  | with_reducible refine st_andV ?_ | with_reducible refine st_orV ?_ | with_reducible refine st_notV ?_ | with_reducible refine st_if ?_
  | with_reducible refine st_CB ?_ | with_reducible refine st_cons ?_ | with_reducible refine st_nil ?_ | with_reducible refine st_fld ?_
  | ((with_reducible refine st_tup ?_)) | ((with_reducible refine st_lst ?_))
  | with_reducible refine st_call ?_ | with_reducible refine st_meth ?_ | with_reducible refine st_make ?_
  | with_reducible refine st_sl ?_ | with_reducible refine st_noPart ?_ | with_reducible refine st_part ?_ | with_reducible refine st_int ?_
  | ((with_reducible refine' st_ixL ?hq ?he ?_); (case hq => walk_at "sqL"); (case he => walk_at "at"))
  | ((with_reducible refine' st_ixT ?hq ?he ?_); (case hq => walk_at "sqT"); (case he => walk_at "at"))
  | with_reducible refine st_bm ?_ | with_reducible refine st_app ?_
  | ((with_reducible refine' st_append ?hq ?hl ?_); (case hq => walk_at "hp"); (case hl => walk_at "line"))
  | ((with_reducible refine' st_len (n := 0) ?hq ?_); (case hq => first | exact Or.inl (by walk_at "sqL") | exact Or.inr (by walk_at "sqT")))
  | ((with_reducible refine' st_listOf ?hq ?_); (case hq => first | exact Or.inl (by walk_at "sqL") | exact Or.inr (by walk_at "sqT")))
  | ((with_reducible refine st_name ?_); (try dsimp only [List.set_cons_zero, List.set_cons_succ])) | with_reducible refine st_par ?_
  | with_reducible refine st_gcons ?_ | with_reducible refine st_gnil ?_ | with_reducible refine st_gsub ?_ | with_reducible refine st_sFld ?_
  | ((with_reducible refine' st_gtup ?hq ?hl ?_); (case hq => walk_at "sqT"); (case hl => rfl))
  | ((with_reducible refine' st_setL ?hq ?hl ?_); (case hq => walk_at "hp"); (case hl => first | rfl | exact ix0 | exact ixN_nat (by assumption)); (try simp only [Int.reduceToNat, List.set_cons_zero, List.set_cons_succ]))
  | with_reducible refine st_intI ?_ | with_reducible refine st_abs ?_
  | ((with_reducible refine' st_popAt ?hq ?hk ?hy ?_); (case hq => walk_at "hp"); (case hk => exact seq0); (case hy => rfl))
  | ((with_reducible refine' and_left ?ht ?_); (case ht => walk_at "ty"))
  | with_reducible refine st_lc ?_ | with_reducible refine st_for ?_ | with_reducible refine st_iL ?_ | with_reducible refine st_iT ?_ | with_reducible refine st_iR1 ?_ | with_reducible refine st_iR2 ?_ | with_reducible refine st_iZ ?_
  | ((with_reducible refine' st_refL ?hq ?_); (case hq => walk_at "sqL")) | ((with_reducible refine' st_refT ?hq ?_); (case hq => walk_at "sqT"))
  | ((with_reducible refine' st_rng1 ?hq ?_); (case hq => walk_at "side")) | ((with_reducible refine' st_rng2 ?hq ?_); (case hq => walk_at "side"))
  | ((with_reducible refine' st_zip ?hq ?hr ?_); (case hq => walk_at "sqb"); (case hr => walk_at "sqb"))
  | ((with_reducible refine' st_size ?hw ?_); (case hw => walk_at "line"))
  | ((with_reducible refine' st_sum ?hq ?_); (case hq => walk_at "sqL"))
  | with_reducible refine st_two ?_ | with_reducible refine st_yes ?_ | ((with_reducible refine' st_wipe ?hw ?_); (case hw => rfl))
  | ((with_reducible refine' st_slL ?hq ?_); (case hq => walk_at "sqL"))
  | ((with_reducible refine' st_cat ?hq ?hr ?hl ?_); (case hq => walk_at "hp"); (case hr => walk_at "hp"); (case hl => walk_at "line"))
  | ((with_reducible refine' st_isi ?hk ?he ?_); (case hk => walk_at "kd"); (case he => walk_at "kit"))
  | ((with_reducible refine' st_ins ?hq ?hc ?hn ?hl ?_); (case hq => walk_at "hp"); (case hc => with_reducible assumption); (case hn => with_reducible assumption); (case hl => walk_at "flen"); walk_at "puts")
  | ((with_reducible refine' st_att ?hq ?hc ?hn ?hl ?_); (case hq => walk_at "hp"); (case hc => with_reducible assumption); (case hn => with_reducible assumption); (case hl => walk_at "lk"))
  | ((with_reducible refine' st_mt ?hq ?hl ?_); (case hq => walk_at "hp"); (case hl => walk_at "lk"))
  | ((with_reducible refine' st_extend ?hq ?hr ?hl ?_); (case hq => walk_at "hp"); (case hr => walk_at "hp"); (case hl => walk_at "line"))
  | with_reducible refine st_next ?_ | with_reducible refine st_retN ?_ | (with_reducible refine iteNT ?_) | (with_reducible refine iteNF ?_) | (with_reducible refine iteT ?_) | (with_reducible refine iteF ?_))
local macro_rules | `(tactic| walk_at "side") => `(tactic| first | omega | decide | assumption | exact ⟨by omega, by omega⟩ | exact Or.inr ⟨by omega, by omega⟩ | exact Or.inl ⟨by omega, by omega⟩ | (simp only [List.length_map, List.length_cons, List.length_nil, List.length_append] at *; omega))
local macro_rules | `(tactic| walk_at "hp") => `(tactic| first | assumption | exact upd_same | ((with_reducible refine' upd_old ?ho ?hb); (case ho => assumption); (case hb => walk_at "hp")) | (rw [upd_ne (by first | assumption | exact Ne.symm (by assumption))]; walk_at "hp"))
local macro_rules | `(tactic| walk_at "sqL") => `(tactic| first | assumption | exact SqL.of (by walk_at "hp"))
local macro_rules | `(tactic| walk_at "sqT") => `(tactic| first | assumption | exact SqT.of (by walk_at "hp"))
local macro_rules | `(tactic| walk_at "sqb") => `(tactic| (unfold SqB; first | ((with_reducible change SqL _ _ _ _); walk_at "sqL") | ((with_reducible change SqT _ _ _ _); walk_at "sqT")))
local macro_rules | `(tactic| walk_at "line") => `(tactic| first | assumption | decide | (apply line_of; walk_at "side") | (apply line_lt; walk_at "side"))
local macro_rules | `(tactic| walk_at "ty") => `(tactic| ((with_reducible refine' ty_lst ?hq); (case hq => walk_at "hp")))
local macro_rules | `(tactic| walk_at "at") => `(tactic| with_reducible first | assumption | exact at0 | exact at1 | exact at2 | exact at3 | exact at4 | exact at5 | exact at6 | exact at7 | exact at8)
local macro_rules | `(tactic| walk_at "st") => `(tactic| (repeat walk_at "st1"))
local macro_rules | `(tactic| walk_at "lk") => `(tactic| first | with_reducible assumption | rfl)
local macro_rules | `(tactic| walk_at "kd") => `(tactic| first | exact .base (.int _) | exact .base .non | exact .base (.bl _) | exact .base (.str _) | exact .base (.tup (by walk_at "hp")) | exact .base (.lst (by walk_at "hp")) | exact .base (.dK (by walk_at "hp")) | exact .base (.dT (by walk_at "hp")))
local macro_rules | `(tactic| walk_at "kit") => `(tactic| with_reducible first
  | exact kit_NoneType_bool
  | exact kit_NoneType_int
  | exact kit_NoneType_str
  | exact kit_NoneType_tuple
  | exact kit_NoneType_list
  | exact kit_NoneType_dict
  | exact kit_bool_bool
  | exact kit_bool_int
  | exact kit_bool_str
  | exact kit_bool_tuple
  | exact kit_bool_list
  | exact kit_bool_dict
  | exact kit_int_bool
  | exact kit_int_int
  | exact kit_int_str
  | exact kit_int_tuple
  | exact kit_int_list
  | exact kit_int_dict
  | exact kit_str_bool
  | exact kit_str_int
  | exact kit_str_str
  | exact kit_str_tuple
  | exact kit_str_list
  | exact kit_str_dict
  | exact kit_tuple_bool
  | exact kit_tuple_int
  | exact kit_tuple_str
  | exact kit_tuple_tuple
  | exact kit_tuple_list
  | exact kit_tuple_dict
  | exact kit_list_bool
  | exact kit_list_int
  | exact kit_list_str
  | exact kit_list_tuple
  | exact kit_list_list
  | exact kit_list_dict
  | exact kit_dict_bool
  | exact kit_dict_int
  | exact kit_dict_str
  | exact kit_dict_tuple
  | exact kit_dict_list
  | exact kit_dict_dict)
local macro_rules | `(tactic| walk_at "flen") => `(tactic| decide)
local macro_rules | `(tactic| walk_at "puts") => `(tactic| skip)

local macro_rules | `(tactic| walk_at "st1") => `(tactic| first
  | with_reducible refine st_dc ?_ | with_reducible refine st_dgetS ?_ | with_reducible refine st_dinS ?_ | with_reducible refine st_dninS ?_ | with_reducible refine st_dputS ?_ | with_reducible refine st_newT ?_ | with_reducible refine iteNN ?_ | with_reducible refine iteYN ?_
  | ((with_reducible refine' st_getT ?hq ?hk ?hv ?_); (case hq => walk_at "hp"); (case hk => walk_at "key"); (case hv => with_reducible assumption))
  | ((with_reducible refine' st_inT ?hq ?hk ?_); (case hq => walk_at "hp"); (case hk => walk_at "key"))
  | ((with_reducible refine' st_ninT ?hq ?hk ?_); (case hq => walk_at "hp"); (case hk => walk_at "key"))
  | ((with_reducible refine' st_putT ?hq ?hk ?hl ?_); (case hq => walk_at "hp"); (case hk => walk_at "key"); (case hl => walk_at "line"))
  | ((with_reducible refine' st_cputT ?hq ?hk ?hl ?_); (case hq => walk_at "hp"); (case hk => walk_at "key"); (case hl => walk_at "line"))
  | ((with_reducible refine' st_ixB ?hq ?he ?_); (case hq => first | assumption | exact Or.inl (by walk_at "sqL") | exact Or.inr (by walk_at "sqT")); (case he => walk_at "at")))
local macro_rules | `(tactic| walk_at "key") => `(tactic| with_reducible assumption)

local macro_rules | `(tactic| walk_at "lk") => `(tactic| with_reducible first | assumption | exact FlowF_get_params | exact FlowF_get_names | exact FlowF_get_first | exact FlowF_get_rows | exact TextF_get_tables | exact TextF_get_functions | exact TextF_get_flows | exact FlowF_no (by decide +kernel) (by decide +kernel) (by decide +kernel) (by decide +kernel) | exact TextF_no (by decide +kernel) (by decide +kernel) (by decide +kernel))
local macro_rules | `(tactic| walk_at "puts") => `(tactic| try simp only [FlowF_put_params, FlowF_put_names, FlowF_put_first, FlowF_put_rows, TextF_put_tables, TextF_put_functions, TextF_put_flows, FlowF0_put, FlowF1_put, FlowF2_put, FlowF3_put, TextF0_put, TextF1_put, TextF2_put])
local macro_rules | `(tactic| walk_at "flen") => `(tactic| first | with_reducible assumption | with_reducible (first | exact FlowF_len | exact TextF_len | exact FlowF0_len | exact FlowF1_len | exact FlowF2_len | exact FlowF3_len | exact TextF0_len | exact TextF1_len | exact TextF2_len) | decide)
section
variable {Z : Ads} {P : Program} {w : World} {K : PySem.W.Frag} {mg : Str → Option Value} {base : Heap}
/-! ### drawn statements and blocks -/
/-- where a scene stands: names q, tables t, others o -/
structure Scn (H : Hp) (h c rm sc q t o : Addr) (xs : List V) (ns ts : List Str) (os : List (Str × Nat)) : Prop where
  fs : H sc = some (.tup [.ref q, .ref t, .ref o])
  fq : H q = some (.lst (ns.map V.str))
  ft : H t = some (.tup (ts.map V.str))
  fo : H o = some (.lst xs)
  fx : ∀ x ∈ xs, ∃ a f m, x = V.ref a ∧ H a = some (.tup [.str f, .int ((m : Nat) : Int)]) ∧ (f, m) ∈ os ∧ m ≤ 4
  qh : q ≠ h
  qc : q ≠ c
  qr : q ≠ rm
  oh : o ≠ h
  oc : o ≠ c
  or_ : o ≠ rm
  x0 : 0 < xs.length
  x9 : xs.length < 1000
  n0 : 0 < ns.length
  n9 : ns.length ≤ 100
  t9 : ts.length < 1000
theorem Scn.keep {H H' : Hp} {h c rm sc q t o : Addr} {xs : List V} {ns ts : List Str} {os : List (Str × Nat)} (S : Scn H h c rm sc q t o xs ns ts os) (f : Fr [h, rm] H H') : Scn H' h c rm sc q t o xs ns ts os := by
  refine { S with fs := f.tup _ _ S.fs, fq := f.keep _ _ (by simpa using ⟨S.qh, S.qr⟩) S.fq, ft := f.tup _ _ S.ft, fo := f.keep _ _ (by simpa using ⟨S.oh, S.or_⟩) S.fo, fx := fun x hx => ?_ }
  obtain ⟨a, g, m, rfl, ha, b⟩ := S.fx x hx
  exact ⟨a, g, m, rfl, f.tup _ _ ha, b⟩
theorem allIn_app (n : Nat) (as bs : List PyData) : allIn n (as ++ bs) = allIn n as ++ allIn n bs := by
  rw [allIn_eq, allIn_eq, allIn_eq, List.flatMap_append]
theorem allIn_plain {ns ts : List Str} {os : List (Str × Nat)} {d : PyData} (h : GP ns ts os d) (n : Nat) : allIn n [d] = [d] ∧ isIf d = false := by
  obtain ⟨x, ds, rfl, _, n1, n2⟩ := h.word
  refine ⟨?_, decide_eq_false n1⟩
  rw [allIn_eq, List.flatMap_cons, List.flatMap_nil, List.append_nil]
  cases n with
  | zero => rfl
  | succ k =>
    have : blocksOf (.tuple (.str x :: ds)) = [] := by
      cases ds with
      | nil => rfl
      | cons y ds =>
        show (if isComp x = true then ds else []) = []
        unfold isComp
        rw [decide_eq_false n1, decide_eq_false n2]
        rfl
    show _ :: ((blocksOf _).flatMap fun b => allIn k (stmtsOf b)) = _
    rw [this]
    rfl
theorem allIn_while {j : Nat} {e : PyData} {b : List PyData} : allIn (j + 1) [.tuple [.str "while", e, .tuple b]] = .tuple [.str "while", e, .tuple b] :: allIn j b := by
  rw [allIn_eq, List.flatMap_cons, List.flatMap_nil, List.append_nil, inner_while rfl]
theorem allIn_if {j : Nat} {e : PyData} {b c : List PyData} : allIn (j + 1) [.tuple [.str "if", e, .tuple b, .tuple c]] = .tuple [.str "if", e, .tuple b, .tuple c] :: (allIn j b ++ allIn j c) := by
  rw [allIn_eq, List.flatMap_cons, List.flatMap_nil, List.append_nil, inner_if rfl]
/-- what is drawn takes its room -/
structure Took (n : Nat) (ss : List PyData) (r0 r1 s0 s1 : Nat) : Prop where
  a : s0 + (allIn n ss).length = r0
  b : s1 + ((allIn n ss).filter isIf).length = r1
def spLStmt (ns ts : List Str) (os : List (Str × Nat)) (n : Nat) : Sp := fun vs H Q _ => ∃ (h c rm sc q t o : Addr) (xs : List V) (r0 r1 : Nat), vs = [.ref h, .ref sc, .int (n : Nat), .ref rm] ∧ Hand H h c ∧ Scn H h c rm sc q t o xs ns ts os ∧ H rm = some (.lst [.int (r0 : Nat), .int (r1 : Nat)]) ∧ rm ≠ h ∧ rm ≠ c ∧ 1 ≤ r0 ∧ r0 ≤ 1000 ∧ 1 ≤ n ∧ n ≤ 100 ∧
  ∀ H' v d s0 s1, TD H' v d → GS ns ts os (n - 1) d → Took (n - 1) [d] r0 r1 s0 s1 → H' rm = some (.lst [.int (s0 : Nat), .int (s1 : Nat)]) → Hand H' h c → Fr [h, rm] H H' → Q v H'
def spLBlock (ns ts : List Str) (os : List (Str × Nat)) (n : Nat) : Sp := fun vs H Q _ => ∃ (h c rm sc q t o : Addr) (xs : List V) (r0 r1 : Nat), vs = [.ref h, .ref sc, .int (n : Nat), .ref rm] ∧ Hand H h c ∧ Scn H h c rm sc q t o xs ns ts os ∧ H rm = some (.lst [.int (r0 : Nat), .int (r1 : Nat)]) ∧ rm ≠ h ∧ rm ≠ c ∧ r0 ≤ 1000 ∧ 1 ≤ n ∧ n ≤ 100 ∧
  ∀ H' v ss s0 s1, TD H' v (.tuple ss) → (∀ s ∈ ss, GS ns ts os (n - 1) s) → ss.length ≤ 40 → Took (n - 1) ss r0 r1 s0 s1 → H' rm = some (.lst [.int (s0 : Nat), .int (s1 : Nat)]) → Hand H' h c → Fr [h, rm] H H' → Q v H'
def spLExprs : Nat → Sp := fun n vs H Q E => ∃ m, m < n ∧ spLExpr m vs H Q E
abbrev s_law_statement : Stmt := top 55
theorem sc_law_statement : FnScope ["hand", "scene", "deep", "room", "names", "tables", "others", "kind", "x", "e", "f", "many", "turn"] ["hand", "scene", "deep", "room"] (defScope s_law_statement) := ⟨rfl, rfl, rfl, by decide +kernel, rfl, by decide +kernel, by decide +kernel⟩
theorem step_law_statement {ns ts : List Str} {os : List (Str × Nat)} {f : Addr} {fd : FuncData} (F : Fun K "_law_statement" "_law_statement" s_law_statement f fd) (T : Txt K mg Z) (n k : Nat) (hk : 8 ≤ k) (D_law_draw : Dn P w K mg base "_law_draw" 1 ["hand", "span"] spDraw) (D_law_some : Dn P w K mg base "_law_some" 2 ["hand", "things"] (spSome K))
    (D_law_expression : Dn P w K mg base "_law_expression" 8 ["hand", "names", "deep"] (spLExprs 5)) (D_law_block : Dn P w K mg base "_law_block" k ["hand", "scene", "deep", "room"] (fun vs H Q E => ∃ m, m < n ∧ spLBlock ns ts os m vs H Q E)) :
    FnOk P w K mg base (L2.CX P w) (k + 1) f fd ["hand", "scene", "deep", "room"] (spLStmt ns ts os n) := by
  refine okN F sc_law_statement (fun vs H Q E h => ?_) (fun cdv A outer s0 H vs Q E hr h => ?_)
  · obtain ⟨h, c, rm, sc, q, t, o, xs, r0, r1, rfl, _⟩ := h
    rfl
  · obtain ⟨h, c, rm, sc, q, t, o, xs, r0, r1, rfl, hH, S0, hrm, rh, rc, h0, h9, n1, n9, k⟩ := h
    obtain ⟨j, rfl⟩ : ∃ j, n = j + 1 := ⟨n - 1, by omega⟩
    obtain ⟨i, rfl⟩ : ∃ i, r0 = i + 1 := ⟨r0 - 1, by omega⟩
    have eqi : ((i + 1 : Nat) : Int) - 1 = (i : Nat) := by omega
    have eqj : ((j + 1 : Nat) : Int) - 1 = (j : Nat) := by omega
    rw [show j + 1 - 1 = j from rfl] at k
    refine ⟨_, [some _, some _, some _, some _, none, none, none, none, none, none, none, none, none], rfl, (pss_cons (ps_asg (pv 1) (kTupT (K := K) (n := 3) (pgs_cons (pg_name (i := 4) sc_law_statement.nd rfl (by first | exact Or.inl rfl | exact Or.inr rfl)) (pgs_cons (pg_name (i := 5) sc_law_statement.nd rfl (by first | exact Or.inl rfl | exact Or.inr rfl)) (pgs_cons (pg_name (i := 6) sc_law_statement.nd rfl (by first | exact Or.inl rfl | exact Or.inr rfl)) pgs_nil)))))
      (pss_cons (ps_asg (pe_tup (pa_cons (pe_op op_sub (pe_ix (kIxL (K := K)) (pv 3) pe_int (fun _ _ => rfl)) pe_int) (pa_cons (pe_d D_law_draw E0 (hr.mono (by first | decide | omega)) (by rfl) passL (pa_cons (pv 0) (pa_cons pe_int pa_nil))) pa_nil))) (kTupT (K := K) (n := 2) (pgs_cons (pg_sub (pv 3) pe_int set_list) (pgs_cons (pg_name (i := 7) sc_law_statement.nd rfl (by first | exact Or.inl rfl | exact Or.inr rfl)) pgs_nil))))
      (pss_cons (ps_par (i := 8) (j := 9) rfl sc_law_statement.nd rfl rfl (by decide) rfl rfl (pa_cons (pe_d D_law_some E0 (hr.mono (by first | decide | omega)) (by rfl) passL (pa_cons (pv 0) (pa_cons (pv 4) pa_nil))) (pa_cons (pe_d D_law_expression E0 (hr.mono (by first | decide | omega)) (by rfl) passL (pa_cons (pv 0) (pa_cons (pv 4) (pa_cons pe_int pa_nil)))) pa_nil)) rfl)
      (C8.pss_cut (ps_if (PW.pt (pw_and (pt_cmpR op_lt (pv 7) pe_int (by first | exact nomark _ | rfl)) (pw_and (pt_cmpR op_gt (pv 2) pe_int (by first | exact nomark _ | rfl)) (pw_and (pt_cmpR op_gt (pe_ix (kIxL (K := K)) (pv 3) pe_int (fun _ _ => rfl)) pe_int (by first | exact nomark _ | rfl)) (pw_and1 (pt_cmpR op_gt (pe_ix (kIxL (K := K)) (pv 3) pe_int (fun _ _ => rfl)) pe_int (by first | exact nomark _ | rfl))))))) (pss_cons (ps_asg (pe_op op_sub (pe_ix (kIxL (K := K)) (pv 3) pe_int (fun _ _ => rfl)) pe_int) (pg_sub (pv 3) pe_int set_list))
      (pss_one (ps_ret (pe_tup (pa_cons pe_str (pa_cons (pv 9) (pa_cons (pe_d D_law_block E0 (hr.mono (by first | decide | omega)) (by rfl) passL (pa_cons (pv 0) (pa_cons (pv 1) (pa_cons (pe_op op_sub (pv 2) pe_int) (pa_cons (pv 3) pa_nil))))) (pa_cons (pe_d D_law_block E0 (hr.mono (by first | decide | omega)) (by rfl) passL (pa_cons (pv 0) (pa_cons (pv 1) (pa_cons (pe_op op_sub (pv 2) pe_int) (pa_cons (pv 3) pa_nil))))) pa_nil)))))))) pss_nil)
      (C8.pss_cut (ps_if (PW.pt (pw_and (pt_cmpR op_eq (pv 7) pe_int (by first | exact nomark _ | rfl)) (pw_and (pt_cmpR op_gt (pv 2) pe_int (by first | exact nomark _ | rfl)) (pw_and1 (pt_cmpR op_gt (pe_ix (kIxL (K := K)) (pv 3) pe_int (fun _ _ => rfl)) pe_int (by first | exact nomark _ | rfl)))))) (pss_one (ps_ret (pe_tup (pa_cons pe_str (pa_cons (pv 9) (pa_cons (pe_d D_law_block E0 (hr.mono (by first | decide | omega)) (by rfl) passL (pa_cons (pv 0) (pa_cons (pv 1) (pa_cons (pe_op op_sub (pv 2) pe_int) (pa_cons (pv 3) pa_nil))))) pa_nil)))))) pss_nil)
      (pss_cons (ps_if (pt_cmpR op_eq (pv 7) pe_int (by first | exact nomark _ | rfl)) (pss_one (ps_ret (pe_tup (pa_cons pe_str (pa_cons (pv 8) (pa_cons (pe_callTy (kTupOf (K := K)) (by rfl) T.n_tuple (by decide +kernel) (pa_cons (pe_lc (own := [("turn", 12)]) (g := (gName 12)) (tt := tYes) rfl sc_law_statement.nd (pi_range1 (by rfl) T.n_range (pa_cons (pe_op op_add pe_int (pe_d D_law_draw E0 (hr.mono (by first | decide | omega)) (by rfl) passL (pa_cons (pv 0) (pa_cons pe_int pa_nil)))) pa_nil)) (blkOk_by (N := ["hand", "scene", "deep", "room", "names", "tables", "others", "kind", "x", "e", "f", "many", "turn"]) (sc := defScope s_law_statement) (by decide +kernel)) (fun _ _ _ _ _ => (pg_name (i := 12) sc_law_statement.nd rfl (by first | exact Or.inl rfl | exact Or.inr rfl))) (fun _ _ _ _ _ => pts_nil) (fun _ _ _ _ _ => (pe_d D_law_expression E0 (hr.mono (by first | decide | omega)) (by rfl) passL (pa_cons (pv 0) (pa_cons (pv 4) (pa_cons pe_int pa_nil)))))) pa_nil)) pa_nil)))))) pss_nil)
      (pss_cons (ps_if (pt_cmpR op_eq (pv 7) pe_int (by first | exact nomark _ | rfl)) (pss_one (ps_ret (pe_tup (pa_cons pe_str (pa_cons (pv 8) (pa_cons (pv 9) (pa_cons (pe_d D_law_draw E0 (hr.mono (by first | decide | omega)) (by rfl) passL (pa_cons (pv 0) (pa_cons pe_int pa_nil))) pa_nil))))))) pss_nil)
      (pss_cons (ps_if (pt_cmpR op_eq (pv 7) pe_int (by first | exact nomark _ | rfl)) (pss_one (ps_ret (pe_tup (pa_cons pe_str (pa_cons (pv 9) (pa_cons (pe_d D_law_draw E0 (hr.mono (by first | decide | omega)) (by rfl) passL (pa_cons (pv 0) (pa_cons pe_int pa_nil))) (pa_cons (pe_d D_law_expression E0 (hr.mono (by first | decide | omega)) (by rfl) passL (pa_cons (pv 0) (pa_cons (pv 4) (pa_cons pe_int pa_nil)))) pa_nil))))))) pss_nil)
      (C8.pss_cut (ps_if (PW.pt (pw_and (pt_cmpR op_lt (pv 7) pe_int (by first | exact nomark _ | rfl)) (pw_and1 (pt_cmpR op_gt (pe_callB (kLen (K := K)) (by rfl) T.n_len (by decide +kernel) (pa_cons (pv 5) pa_nil)) pe_int (by first | exact nomark _ | rfl))))) (pss_one (ps_ret (pe_ifExp (pt_cmpR op_eq (pv 7) pe_int (by first | exact nomark _ | rfl)) (pe_tup (pa_cons pe_str (pa_cons (pv 8) (pa_cons (pe_d D_law_some E0 (hr.mono (by first | decide | omega)) (by rfl) passL (pa_cons (pv 0) (pa_cons (pv 5) pa_nil))) pa_nil)))) (pe_tup (pa_cons pe_str (pa_cons (pe_d D_law_some E0 (hr.mono (by first | decide | omega)) (by rfl) passL (pa_cons (pv 0) (pa_cons (pv 5) pa_nil))) (pa_cons (pv 9) pa_nil))))))) pss_nil)
      (pss_cons (ps_if (pt_cmpR op_lt (pv 7) pe_int (by first | exact nomark _ | rfl)) (pss_cons (ps_asg (pe_d D_law_some E0 (hr.mono (by first | decide | omega)) (by rfl) passL (pa_cons (pv 0) (pa_cons (pv 6) pa_nil))) (kTupT (K := K) (n := 2) (pgs_cons (pg_name (i := 10) sc_law_statement.nd rfl (by first | exact Or.inl rfl | exact Or.inr rfl)) (pgs_cons (pg_name (i := 11) sc_law_statement.nd rfl (by first | exact Or.inl rfl | exact Or.inr rfl)) pgs_nil))))
      (pss_one (ps_ret (pe_tup (pa_cons pe_str (pa_cons (pv 8) (pa_cons (pv 10) (pa_cons (pe_callTy (kTupOf (K := K)) (by rfl) T.n_tuple (by decide +kernel) (pa_cons (pe_lc (own := [("turn", 12)]) (g := (gName 12)) (tt := tYes) rfl sc_law_statement.nd (pi_range1 (by rfl) T.n_range (pa_cons (pv 11) pa_nil)) (blkOk_by (N := ["hand", "scene", "deep", "room", "names", "tables", "others", "kind", "x", "e", "f", "many", "turn"]) (sc := defScope s_law_statement) (by decide +kernel)) (fun _ _ _ _ _ => (pg_name (i := 12) sc_law_statement.nd rfl (by first | exact Or.inl rfl | exact Or.inr rfl))) (fun _ _ _ _ _ => pts_nil) (fun _ _ _ _ _ => (pe_d D_law_expression E0 (hr.mono (by first | decide | omega)) (by rfl) passL (pa_cons (pv 0) (pa_cons (pv 4) (pa_cons pe_int pa_nil)))))) pa_nil)) pa_nil)))))))) pss_nil)
      (pss_cons (ps_if (pt_cmpR op_eq (pv 7) pe_int (by first | exact nomark _ | rfl)) (pss_one (ps_ret (pe_tup (pa_cons pe_str (pa_cons (pv 8) (pa_cons (pv 9) pa_nil)))))) pss_nil)
      (pss_one (ps_ret (pe_ifExp (pt_cmpR op_eq (pv 7) pe_int (by first | exact nomark _ | rfl)) (pe_tup (pa_cons pe_str (pa_cons (pv 9) pa_nil))) (pe_tup (pa_cons pe_str (pa_cons (pv 8) (pa_cons (pv 9) pa_nil)))))))))))))))))), ?_⟩
    have s1 := S0.fs
    have s2 := S0.fq
    walk_at "st"
    refine ⟨h, c, 14, rfl, hH, by decide, by decide, fun H1 kd k0 k5 hH1 f1 => ?_⟩
    have S1 := S0.keep (f1.mono (by simp))
    have rm1 := f1.keep _ _ (by simpa using rh) hrm
    walk_at "st"
    intro u hu
    walk_at "st"
    have fu : Fr [] H1 (upd H1 u (.tup [.int (((i + 1 : Nat) : Int) - 1), .int kd])) := Fr.up hu
    have rm2 := fu.same _ _ rm1
    walk_at "st"
    rw [eqi]
    have f2 : Fr [h, rm] H (upd (upd H1 u (.tup [.int (((i + 1 : Nat) : Int) - 1), .int kd])) rm (.lst [.int ((i : Nat) : Int), .int ((r1 : Nat) : Int)])) := ((f1.mono (by simp)).trans (fu.mono (by simp))).wl rm2 (.inl (by simp))
    have rm3 : upd (upd H1 u (.tup [.int (((i + 1 : Nat) : Int) - 1), .int kd])) rm (.lst [.int ((i : Nat) : Int), .int ((r1 : Nat) : Int)]) rm = some (.lst [.int ((i : Nat) : Int), .int ((r1 : Nat) : Int)]) := upd_same
    have hH2 : Hand (upd (upd H1 u (.tup [.int (((i + 1 : Nat) : Int) - 1), .int kd])) rm (.lst [.int ((i : Nat) : Int), .int ((r1 : Nat) : Int)])) h c := (hH1.keep fu).wr rm2 ⟨rh, rc⟩
    rw [eqi] at f2 rm3 hH2
    generalize upd (upd H1 u (.tup [.int ((i : Nat) : Int), .int kd])) rm (.lst [.int ((i : Nat) : Int), .int ((r1 : Nat) : Int)]) = H2 at f2 rm3 hH2 ⊢
    have S2 := S0.keep f2
    walk_at "st"
    have ops2 : Hand H2 h c := hH2
    refine ⟨h, c, q, _, rfl, hH2, .inr ⟨S2.fq, S2.qh, S2.qc⟩, by rw [List.length_map]; exact S2.n0, by rw [List.length_map]; have := S2.n9; omega, fun H3 x hx hH3 f3 => ?_⟩
    obtain ⟨s, hs, rfl⟩ := List.mem_map.mp hx
    have S3 := S2.keep (f3.mono (by simp))
    walk_at "st"
    refine ⟨3, by decide, h, c, q, ns, rfl, hH3, S3.fq, S3.qh, S3.qc, S3.n9, by decide, fun H4 e de te ge hH4 f4 => ?_⟩
    have S4 := S3.keep (f4.mono (by simp))
    have f34 := f3.trans f4
    have rm4 := f34.keep _ _ (by simpa using rh) rm3
    have f04 : Fr [h, rm] H H4 := f2.trans (f34.mono (by simp))
    replace ge := ge.mono (j := 4) (by decide)
    clear f34 f4 f3 hH3 S3 ops2 S2 hH2 rm3 f2 S1 rm1 rm2 fu f1 hH1 hx
    have fin : ∀ H' v d, TD H' v d → GP ns ts os d → Hand H' h c → Fr [h] H4 H' → Q v H' := fun H' v d a b hh f =>
      k H' v d i r1 a (.plain b) ⟨by rw [(allIn_plain b j).1]; rfl, by rw [(allIn_plain b j).1, List.filter_cons_of_neg (by rw [(allIn_plain b j).2]; exact Bool.false_ne_true)]; rfl⟩ (f.keep _ _ (by simpa using rh) rm4) hh (f04.trans (f.mono (by simp)))
    have eqd : ((j + 1 : Nat) : Int) - 1 = ((j : Nat) : Int) := eqj
    walk_at "st"
    refine ⟨fun σ H' => σ = [some (V.ref h), some (V.ref sc), some (V.int ((j + 1 : Nat) : Int)), some (V.ref rm), some (V.ref q), some (V.ref t), some (V.ref o), some (V.int kd), some (V.str s), some e, none, none, none] ∧ H' = H4, ?_, ?_⟩
    · walk_at "st"
      refine iteD (fun hk2 => ?_) (fun _ => ?_)
      rotate_left
      · walk_at "st"
        exact ⟨rfl, rfl⟩
      walk_at "st"
      refine iteD (fun hj1 => ?_) (fun _ => ?_)
      rotate_left
      · walk_at "st"
        exact ⟨rfl, rfl⟩
      walk_at "st"
      refine iteD (fun hi0 => ?_) (fun _ => ?_)
      rotate_left
      · walk_at "st"
        exact ⟨rfl, rfl⟩
      walk_at "st"
      refine iteD (fun hr0 => ?_) (fun _ => ?_)
      rotate_left
      · walk_at "st"
        exact ⟨rfl, rfl⟩
      obtain ⟨g, rfl⟩ : ∃ g, j = g + 1 := ⟨j - 1, by omega⟩
      obtain ⟨b1, rfl⟩ : ∃ b1, r1 = b1 + 1 := ⟨r1 - 1, by omega⟩
      have eqb : ((b1 + 1 : Nat) : Int) - 1 = ((b1 : Nat) : Int) := by omega
      walk_at "st"
      rw [eqb]
      have f5 : Fr [h, rm] H4 (upd H4 rm (.lst [.int ((i : Nat) : Int), .int ((b1 : Nat) : Int)])) := (Fr.refl H4).wl rm4 (.inl (by simp))
      have rm5 : upd H4 rm (.lst [.int ((i : Nat) : Int), .int ((b1 : Nat) : Int)]) rm = some (.lst [.int ((i : Nat) : Int), .int ((b1 : Nat) : Int)]) := upd_same
      have hH5 := hH4.wr (o := .lst [.int ((i : Nat) : Int), .int ((b1 : Nat) : Int)]) rm4 ⟨rh, rc⟩
      generalize upd H4 rm (.lst [.int ((i : Nat) : Int), .int ((b1 : Nat) : Int)]) = H5 at f5 rm5 hH5 ⊢
      walk_at "st"
      rw [eqd]
      refine ⟨g + 1, by omega, h, c, rm, sc, q, t, o, xs, i, b1, rfl, hH5, S4.keep f5, rm5, rh, rc, by omega, by omega, by omega, fun H6 v6 ss6 s60 s61 t6 g6 l6 k6 rm6 hH6 f6 => ?_⟩
      walk_at "st"
      rw [eqd]
      have k6a := k6.a
      refine ⟨g + 1, by omega, h, c, rm, sc, q, t, o, xs, s60, s61, rfl, hH6, S4.keep (f5.trans f6), rm6, rh, rc, by omega, by omega, by omega, fun H7 v7 ss7 s70 s71 t7 g7 l7 k7 rm7 hH7 f7 => ?_⟩
      walk_at "st"
      intro p hp
      have fp := Fr.up (ms := []) (o := .tup [.str "if", e, v6, v7]) hp
      have f47 := (f5.trans f6).trans f7
      refine k _ _ (.tuple [.str "if", de, .tuple ss6, .tuple ss7]) s70 s71 (.tup upd_same (.cons (.str _) (.cons (TD.mono (f47.tup.trans fp.tup) _ _ te) (.cons (TD.mono (f7.tup.trans fp.tup) _ _ t6) (.cons (TD.mono fp.tup _ _ t7) .nil))))) (.if_ rfl ge l6 l7 g6 g7) ⟨?_, ?_⟩ (fp.same _ _ rm7) (hH7.keep fp) ((f04.trans f47).new hp)
      · rw [allIn_if, List.length_cons, List.length_append]
        have k7a := k7.a
        have e6 : g + 1 - 1 = g := rfl
        rw [e6] at k6a k7a
        omega
      · rw [allIn_if, List.filter_cons_of_pos (by rfl), List.length_cons, List.filter_append, List.length_append]
        have h6 := k6.b
        have h7 := k7.b
        have e6 : g + 1 - 1 = g := rfl
        rw [e6] at h6 h7
        omega
    rintro σ H' ⟨rfl, rfl⟩
    walk_at "st"
    refine ⟨fun σ H'' => σ = [some (V.ref h), some (V.ref sc), some (V.int ((j + 1 : Nat) : Int)), some (V.ref rm), some (V.ref q), some (V.ref t), some (V.ref o), some (V.int kd), some (V.str s), some e, none, none, none] ∧ H'' = H', ?_, ?_⟩
    · walk_at "st"
      refine iteD (fun hk2 => ?_) (fun _ => ?_)
      rotate_left
      · walk_at "st"
        exact ⟨rfl, rfl⟩
      walk_at "st"
      refine iteD (fun hj1 => ?_) (fun _ => ?_)
      rotate_left
      · walk_at "st"
        exact ⟨rfl, rfl⟩
      walk_at "st"
      refine iteD (fun hi0 => ?_) (fun _ => ?_)
      rotate_left
      · walk_at "st"
        exact ⟨rfl, rfl⟩
      obtain ⟨g, rfl⟩ : ∃ g, j = g + 1 := ⟨j - 1, by omega⟩
      walk_at "st"
      rw [eqd]
      refine ⟨g + 1, by omega, h, c, rm, sc, q, t, o, xs, i, r1, rfl, hH4, S4, rm4, rh, rc, by omega, by omega, by omega, fun H6 v6 ss6 s60 s61 t6 g6 l6 k6 rm6 hH6 f6 => ?_⟩
      walk_at "st"
      intro p hp
      have fp := Fr.up (ms := []) (o := .tup [.str "while", e, v6]) hp
      refine k _ _ (.tuple [.str "while", de, .tuple ss6]) s60 s61 (.tup upd_same (.cons (.str _) (.cons (TD.mono (f6.tup.trans fp.tup) _ _ te) (.cons (TD.mono fp.tup _ _ t6) .nil)))) (.while_ rfl ge l6 g6) ⟨?_, ?_⟩ (fp.same _ _ rm6) (hH6.keep fp) ((f04.trans f6).new hp)
      · rw [allIn_while, List.length_cons]
        have := k6.a
        have e6 : g + 1 - 1 = g := rfl
        rw [e6] at this
        omega
      · rw [allIn_while, List.filter_cons_of_neg (by show ¬ decide (("while" : Str) = "if") = true; decide +kernel)]
        exact k6.b
    rintro σ H'' ⟨rfl, rfl⟩
    walk_at "st"
    refine iteD (fun _ => ?_) (fun _ => ?_)
    · walk_at "st"
      refine ⟨h, c, 4, rfl, hH4, by decide, by decide, fun HX n0 m0 m1 hHX fX => ?_⟩
      have SX := S4.keep (fX.mono (by simp))
      walk_at "st"
      intro D hD
      refine lc_it walk_range (fun i' H' => Fr [h] HX H' ∧ Hand H' h c ∧ ∃ acc ds, H' D = some (.lst acc) ∧ TDs H' acc ds ∧ (∀ d ∈ ds, GE ns 4 d) ∧ ds.length = i') ⟨Fr.up hD, hHX.keep (ms := []) (Fr.up hD), [], [], upd_same, .nil, (by simp), rfl⟩ (fun _ _ _ _ => trivial) ?_ ?_
      · rintro i' y Ha Hb hi' ⟨fa, ha, acc, ds, ea, ta, ga, la⟩ ⟨rfl, rfl⟩
        have nD := hHX.out hD
        have qa := fa.keep _ _ (by simpa using SX.qh) SX.fq
        walk_at "st"
        refine ⟨2, by decide, h, c, q, ns, rfl, ha, qa, SX.qh, SX.qc, SX.n9, by decide, fun Hc v2 d2 t2 g2 hHc fc => ?_⟩
        have ec := fc.keep _ _ (by simpa using nD.1) ea
        have lac := ta.length
        refine ⟨acc, ec, line_lt (by omega), (fa.trans fc).wl ec (.inr hD), hHc.wr ec nD, acc ++ [v2], ds ++ [d2], upd_same, ?_, ?_, ?_⟩
        · have fD : Fr [D] Hc (upd Hc D (.lst (acc ++ [v2]))) := (Fr.refl Hc).wl ec (.inl (by simp))
          exact TDs.snoc (TDs.mono (fc.tup.trans fD.tup) _ _ ta) (TD.mono fD.tup _ _ t2)
        · intro d hd
          rcases List.mem_append.mp hd with hd | hd
          · exact ga d hd
          · rw [List.mem_singleton.mp hd]
            exact g2.mono (by decide)
        · rw [List.length_append, la]
          rfl
      · rintro Ha ⟨fa, ha, acc, ds, ea, ta, ga, la⟩
        walk_at "st"
        refine st_tupOf (SqL.of ea) fun p hp => ?_
        have fp : Fr [] Ha (upd Ha p (.tup acc)) := Fr.up hp
        walk_at "st"
        intro p2 hp2
        have fp2 := Fr.up (ms := []) (H := upd Ha p (.tup acc)) (o := .tup [.str "make", .str s, .ref p]) hp2
        have ft := fp.tup.trans fp2.tup
        refine fin _ _ (.tuple [.str "make", .str s, .tuple ds]) (.tup upd_same (.cons (.str _) (.cons (.str _) (.cons (.tup (fp2.tup _ _ upd_same) (TDs.mono ft _ _ ta)) .nil)))) (.make rfl hs (by omega) (by omega) ga) ((ha.keep fp).keep fp2) (((fX.trans fa).new hp).new hp2)
    walk_at "st"
    refine iteD (fun _ => ?_) (fun _ => ?_)
    · walk_at "st"
      refine ⟨h, c, 4, rfl, hH4, by decide, by decide, fun H5 n0 m0 m1 hH5 f5 => ?_⟩
      walk_at "st"
      intro p hp
      have fp := Fr.up (ms := []) (o := .tup [.str "get", .str s, e, .int n0]) hp
      exact fin _ _ (.tuple [.str "get", .str s, de, .int n0]) (.tup upd_same (.cons (.str _) (.cons (.str _) (.cons (TD.mono (f5.tup.trans fp.tup) _ _ te) (.cons (.int _) .nil))))) (.get rfl hs ge m0 (by omega)) (hH5.keep fp) (f5.new hp)
    walk_at "st"
    refine iteD (fun _ => ?_) (fun _ => ?_)
    · walk_at "st"
      refine ⟨h, c, 4, rfl, hH4, by decide, by decide, fun H5 n0 m0 m1 hH5 f5 => ?_⟩
      have S5 := S4.keep (f5.mono (by simp))
      walk_at "st"
      refine ⟨4, by decide, h, c, q, ns, rfl, hH5, S5.fq, S5.qh, S5.qc, S5.n9, by decide, fun H6 v6 d6 t6 g6 hH6 f6 => ?_⟩
      walk_at "st"
      intro p hp
      have fp := Fr.up (ms := []) (o := .tup [.str "put", e, .int n0, v6]) hp
      exact fin _ _ (.tuple [.str "put", de, .int n0, d6]) (.tup upd_same (.cons (.str _) (.cons (TD.mono ((f5.trans f6).tup.trans fp.tup) _ _ te) (.cons (.int _) (.cons (TD.mono fp.tup _ _ t6) .nil))))) (.put rfl ge m0 (by omega) g6) (hH6.keep fp) ((f5.trans f6).new hp)
    walk_at "st"
    refine ⟨fun σ H3 => σ = [some (V.ref h), some (V.ref sc), some (V.int ((j + 1 : Nat) : Int)), some (V.ref rm), some (V.ref q), some (V.ref t), some (V.ref o), some (V.int kd), some (V.str s), some e, none, none, none] ∧ H3 = H'', ?_, ?_⟩
    · walk_at "st"
      refine iteD (fun _ => ?_) (fun _ => ?_)
      rotate_left
      · walk_at "st"
        exact ⟨rfl, rfl⟩
      have t4 := S4.ft
      iterate 6 walk_at "st1"
      refine st_len (n := 0) (.inr (SqT.of t4)) ?_
      walk_at "st"
      refine iteD (fun ht0 => ?_) (fun _ => ?_)
      rotate_left
      · walk_at "st"
        exact ⟨rfl, rfl⟩
      rw [List.length_map] at ht0
      walk_at "st"
      refine iteD (fun _ => ?_) (fun _ => ?_)
      · walk_at "st"
        refine ⟨h, c, t, _, rfl, hH4, .inl t4, by rw [List.length_map]; omega, by rw [List.length_map]; exact S4.t9, fun H5 x hx hH5 f5 => ?_⟩
        obtain ⟨tt, htt, rfl⟩ := List.mem_map.mp hx
        walk_at "st"
        intro p hp
        have fp := Fr.up (ms := []) (o := .tup [.str "read", .str s, .str tt]) hp
        exact fin _ _ (.tuple [.str "read", .str s, .str tt]) (.tup upd_same (.cons (.str _) (.cons (.str _) (.cons (.str _) .nil)))) (.read rfl hs htt) (hH5.keep fp) (f5.new hp)
      · walk_at "st"
        refine ⟨h, c, t, _, rfl, hH4, .inl t4, by rw [List.length_map]; omega, by rw [List.length_map]; exact S4.t9, fun H5 x hx hH5 f5 => ?_⟩
        obtain ⟨tt, htt, rfl⟩ := List.mem_map.mp hx
        walk_at "st"
        intro p hp
        have fp := Fr.up (ms := []) (o := .tup [.str "write", .str tt, e]) hp
        exact fin _ _ (.tuple [.str "write", .str tt, de]) (.tup upd_same (.cons (.str _) (.cons (.str _) (.cons (TD.mono (f5.tup.trans fp.tup) _ _ te) .nil)))) (.write rfl htt ge) (hH5.keep fp) (f5.new hp)
    rintro σ H3 ⟨rfl, rfl⟩
    walk_at "st"
    refine iteD (fun _ => ?_) (fun _ => ?_)
    · walk_at "st"
      refine ⟨h, c, o, xs, rfl, hH4, .inr ⟨S4.fo, S4.oh, S4.oc⟩, S4.x0, S4.x9, fun HX x hx hHX fX => ?_⟩
      obtain ⟨a, f', m, rfl, ha0, hos, hm4⟩ := S4.fx x hx
      have SX := S4.keep (fX.mono (by simp))
      have haX := fX.tup _ _ ha0
      walk_at "st"
      intro D hD
      refine lc_it walk_range (fun i' H' => Fr [h] HX H' ∧ Hand H' h c ∧ ∃ acc ds, H' D = some (.lst acc) ∧ TDs H' acc ds ∧ (∀ d ∈ ds, GE ns 4 d) ∧ ds.length = i') ⟨Fr.up hD, hHX.keep (ms := []) (Fr.up hD), [], [], upd_same, .nil, (by simp), rfl⟩ (fun _ _ _ _ => trivial) ?_ ?_
      · rintro i' y Ha Hb hi' ⟨fa, ha, acc, ds, ea, ta, ga, la⟩ ⟨rfl, rfl⟩
        have nD := hHX.out hD
        have qa := fa.keep _ _ (by simpa using SX.qh) SX.fq
        walk_at "st"
        refine ⟨2, by decide, h, c, q, ns, rfl, ha, qa, SX.qh, SX.qc, SX.n9, by decide, fun Hc v2 d2 t2 g2 hHc fc => ?_⟩
        have ec := fc.keep _ _ (by simpa using nD.1) ea
        have lac := ta.length
        refine ⟨acc, ec, line_lt (by omega), (fa.trans fc).wl ec (.inr hD), hHc.wr ec nD, acc ++ [v2], ds ++ [d2], upd_same, ?_, ?_, ?_⟩
        · have fD : Fr [D] Hc (upd Hc D (.lst (acc ++ [v2]))) := (Fr.refl Hc).wl ec (.inl (by simp))
          exact TDs.snoc (TDs.mono (fc.tup.trans fD.tup) _ _ ta) (TD.mono fD.tup _ _ t2)
        · intro d hd
          rcases List.mem_append.mp hd with hd | hd
          · exact ga d hd
          · rw [List.mem_singleton.mp hd]
            exact g2.mono (by decide)
        · rw [List.length_append, la]
          rfl
      · rintro Ha ⟨fa, ha, acc, ds, ea, ta, ga, la⟩
        walk_at "st"
        refine st_tupOf (SqL.of ea) fun p hp => ?_
        have fp : Fr [] Ha (upd Ha p (.tup acc)) := Fr.up hp
        walk_at "st"
        intro p2 hp2
        have fp2 := Fr.up (ms := []) (H := upd Ha p (.tup acc)) (o := .tup [.str "call", .str s, .str f', .ref p]) hp2
        have ft := fp.tup.trans fp2.tup
        refine fin _ _ (.tuple [.str "call", .str s, .str f', .tuple ds]) (.tup upd_same (.cons (.str _) (.cons (.str _) (.cons (.str _) (.cons (.tup (fp2.tup _ _ upd_same) (TDs.mono ft _ _ ta)) .nil))))) (.call rfl hs (by rw [la]; exact hos) (by omega) ga) ((ha.keep fp).keep fp2) (((fX.trans fa).new hp).new hp2)
    walk_at "st"
    refine iteD (fun _ => ?_) (fun _ => ?_)
    · walk_at "st"
      intro p hp
      have fp := Fr.up (ms := []) (o := .tup [.str "wait", .str s, e]) hp
      exact fin _ _ (.tuple [.str "wait", .str s, de]) (.tup upd_same (.cons (.str _) (.cons (.str _) (.cons (TD.mono fp.tup _ _ te) .nil)))) (.let_ (.inr rfl) hs ge) (hH4.keep fp) (Fr.up hp)
    walk_at "st"
    refine iteD (fun _ => ?_) (fun _ => ?_)
    · walk_at "st"
      intro p hp
      have fp := Fr.up (ms := []) (o := .tup [.str "end", e]) hp
      exact fin _ _ (.tuple [.str "end", de]) (.tup upd_same (.cons (.str _) (.cons (TD.mono fp.tup _ _ te) .nil))) (.end_ rfl ge) (hH4.keep fp) (Fr.up hp)
    · walk_at "st"
      intro p hp
      have fp := Fr.up (ms := []) (o := .tup [.str "let", .str s, e]) hp
      exact fin _ _ (.tuple [.str "let", .str s, de]) (.tup upd_same (.cons (.str _) (.cons (.str _) (.cons (TD.mono fp.tup _ _ te) .nil)))) (.let_ (.inl rfl) hs ge) (hH4.keep fp) (Fr.up hp)
end

end K03

namespace K03
open PySem PySem.Spec PyProof.Rows L2 Hq
local macro_rules | `(tactic| walk_at "st1") => `(tactic| first
  | with_reducible refine st_seq ?_ | with_reducible refine st_ret ?_ | with_reducible refine st_ifS ?_ | with_reducible refine st_asg ?_ | with_reducible refine st_drop ?_
  | ((with_reducible refine' st_var ?hv ?_); (case hv => rfl)) | with_reducible refine st_c ?_ | with_reducible refine st_op ?_ | with_reducible refine st_un ?_
  | with_reducible refine st_I0 ?_ | with_reducible refine st_U ?_ | ((with_reducible refine' st_I ?hc ?_); (case hc => walk_at "side"))
  | ((with_reducible refine' st_eq ?hs ?_); (case hs => rfl)) | ((with_reducible refine' st_ne ?hs ?_); (case hs => rfl))
  | with_reducible refine st_test ?_ | with_reducible refine st_B ?_ | with_reducible refine st_bl ?_ | with_reducible refine st_isN ?_ | with_reducible refine st_notN ?_
  | with_reducible refine st_chain ?_ | with_reducible refine st_and ?_ | with_reducible refine st_or ?_ | with_reducible refine st_not ?_
  | with_reducible refine st_andV ?_ | with_reducible refine st_orV ?_ | with_reducible refine st_notV ?_ | with_reducible refine st_if ?_
  | with_reducible refine st_CB ?_ | with_reducible refine st_cons ?_ | with_reducible refine st_nil ?_ | with_reducible refine st_fld ?_
  | ((with_reducible refine st_tup ?_)) | ((with_reducible refine st_lst ?_))
  | with_reducible refine st_call ?_ | with_reducible refine st_meth ?_ | with_reducible refine st_make ?_
  | with_reducible refine st_sl ?_ | with_reducible refine st_noPart ?_ | with_reducible refine st_part ?_ | with_reducible refine st_int ?_
  | ((with_reducible refine' st_ixL ?hq ?he ?_); (case hq => walk_at "sqL"); (case he => walk_at "at"))
  | ((with_reducible refine' st_ixT ?hq ?he ?_); (case hq => walk_at "sqT"); (case he => walk_at "at"))
  | with_reducible refine st_bm ?_ | with_reducible refine st_app ?_
  | ((with_reducible refine' st_append ?hq ?hl ?_); (case hq => walk_at "hp"); (case hl => walk_at "line"))
  | ((with_reducible refine' st_len (n := 0) ?hq ?_); (case hq => first | exact Or.inl (by walk_at "sqL") | exact Or.inr (by walk_at "sqT")))
  | ((with_reducible refine' st_listOf ?hq ?_); (case hq => first | exact Or.inl (by walk_at "sqL") | exact Or.inr (by walk_at "sqT")))
  | ((with_reducible refine st_name ?_); (try dsimp only [List.set_cons_zero, List.set_cons_succ])) | with_reducible refine st_par ?_
  | with_reducible refine st_gcons ?_ | with_reducible refine st_gnil ?_ | with_reducible refine st_gsub ?_ | with_reducible refine st_sFld ?_
  | ((with_reducible refine' st_gtup ?hq ?hl ?_); (case hq => walk_at "sqT"); (case hl => rfl))
  | ((with_reducible refine' st_setL ?hq ?hl ?_); (case hq => walk_at "hp"); (case hl => first | rfl | exact ix0 | exact ixN_nat (by assumption)); (try simp only [Int.reduceToNat, List.set_cons_zero, List.set_cons_succ]))
  | with_reducible refine st_intI ?_ | with_reducible refine st_abs ?_
  | ((with_reducible refine' st_popAt ?hq ?hk ?hy ?_); (case hq => walk_at "hp"); (case hk => exact seq0); (case hy => rfl))
  | ((with_reducible refine' and_left ?ht ?_); (case ht => walk_at "ty"))
  | with_reducible refine st_lc ?_ | with_reducible refine st_for ?_ | with_reducible refine st_iL ?_ | with_reducible refine st_iT ?_ | with_reducible refine st_iR1 ?_ | with_reducible refine st_iR2 ?_ | with_reducible refine st_iZ ?_
  | ((with_reducible refine' st_refL ?hq ?_); (case hq => walk_at "sqL")) | ((with_reducible refine' st_refT ?hq ?_); (case hq => walk_at "sqT"))
  | ((with_reducible refine' st_rng1 ?hq ?_); (case hq => walk_at "side")) | ((with_reducible refine' st_rng2 ?hq ?_); (case hq => walk_at "side"))
  | ((with_reducible refine' st_zip ?hq ?hr ?_); (case hq => walk_at "sqb"); (case hr => walk_at "sqb"))
  | ((with_reducible refine' st_size ?hw ?_); (case hw => walk_at "line"))
  | ((with_reducible refine' st_sum ?hq ?_); (case hq => walk_at "sqL"))
  | with_reducible refine st_two ?_ | with_reducible refine st_yes ?_ | ((with_reducible refine' st_wipe ?hw ?_); (case hw => rfl))
  | ((with_reducible refine' st_slL ?hq ?_); (case hq => walk_at "sqL"))
  | ((with_reducible refine' st_cat ?hq ?hr ?hl ?_); (case hq => walk_at "hp"); (case hr => walk_at "hp"); (case hl => walk_at "line"))
  | ((with_reducible refine' st_isi ?hk ?he ?_); (case hk => walk_at "kd"); (case he => walk_at "kit"))
  | ((with_reducible refine' st_ins ?hq ?hc ?hn ?hl ?_); (case hq => walk_at "hp"); (case hc => with_reducible assumption); (case hn => with_reducible assumption); (case hl => walk_at "flen"); walk_at "puts")
  | ((with_reducible refine' st_att ?hq ?hc ?hn ?hl ?_); (case hq => walk_at "hp"); (case hc => with_reducible assumption); (case hn => with_reducible assumption); (case hl => walk_at "lk"))
  | ((with_reducible refine' st_mt ?hq ?hl ?_); (case hq => walk_at "hp"); (case hl => walk_at "lk"))
  | ((with_reducible refine' st_extend ?hq ?hr ?hl ?_); (case hq => walk_at "hp"); (case hr => walk_at "hp"); (case hl => walk_at "line"))
  | with_reducible refine st_next ?_ | with_reducible refine st_retN ?_ | (with_reducible refine iteNT ?_) | (with_reducible refine iteNF ?_) | (with_reducible refine iteT ?_) | (with_reducible refine iteF ?_))
local macro_rules | `(tactic| walk_at "side") => `(tactic| first | omega | decide | assumption | exact ⟨by omega, by omega⟩ | exact Or.inr ⟨by omega, by omega⟩ | exact Or.inl ⟨by omega, by omega⟩ | (simp only [List.length_map, List.length_cons, List.length_nil, List.length_append] at *; omega))
local macro_rules | `(tactic| walk_at "hp") => `(tactic| first | assumption | exact upd_same | ((with_reducible refine' upd_old ?ho ?hb); (case ho => assumption); (case hb => walk_at "hp")) | (rw [upd_ne (by first | assumption | exact Ne.symm (by assumption))]; walk_at "hp"))
local macro_rules | `(tactic| walk_at "sqL") => `(tactic| first | assumption | exact SqL.of (by walk_at "hp"))
local macro_rules | `(tactic| walk_at "sqT") => `(tactic| first | assumption | exact SqT.of (by walk_at "hp"))
local macro_rules | `(tactic| walk_at "sqb") => `(tactic| (unfold SqB; first | ((with_reducible change SqL _ _ _ _); walk_at "sqL") | ((with_reducible change SqT _ _ _ _); walk_at "sqT")))
local macro_rules | `(tactic| walk_at "line") => `(tactic| first | assumption | decide | (apply line_of; walk_at "side") | (apply line_lt; walk_at "side"))
local macro_rules | `(tactic| walk_at "ty") => `(tactic| ((with_reducible refine' ty_lst ?hq); (case hq => walk_at "hp")))
local macro_rules | `(tactic| walk_at "at") => `(tactic| with_reducible first | assumption | exact at0 | exact at1 | exact at2 | exact at3 | exact at4 | exact at5 | exact at6 | exact at7 | exact at8)
local macro_rules | `(tactic| walk_at "st") => `(tactic| (repeat walk_at "st1"))
local macro_rules | `(tactic| walk_at "lk") => `(tactic| first | with_reducible assumption | rfl)
local macro_rules | `(tactic| walk_at "kd") => `(tactic| first | exact .base (.int _) | exact .base .non | exact .base (.bl _) | exact .base (.str _) | exact .base (.tup (by walk_at "hp")) | exact .base (.lst (by walk_at "hp")) | exact .base (.dK (by walk_at "hp")) | exact .base (.dT (by walk_at "hp")))
local macro_rules | `(tactic| walk_at "kit") => `(tactic| with_reducible first
  | exact kit_NoneType_bool
  | exact kit_NoneType_int
  | exact kit_NoneType_str
  | exact kit_NoneType_tuple
  | exact kit_NoneType_list
  | exact kit_NoneType_dict
  | exact kit_bool_bool
  | exact kit_bool_int
  | exact kit_bool_str
  | exact kit_bool_tuple
  | exact kit_bool_list
  | exact kit_bool_dict
  | exact kit_int_bool
  | exact kit_int_int
  | exact kit_int_str
  | exact kit_int_tuple
  | exact kit_int_list
  | exact kit_int_dict
  | exact kit_str_bool
  | exact kit_str_int
  | exact kit_str_str
  | exact kit_str_tuple
  | exact kit_str_list
  | exact kit_str_dict
  | exact kit_tuple_bool
  | exact kit_tuple_int
  | exact kit_tuple_str
  | exact kit_tuple_tuple
  | exact kit_tuple_list
  | exact kit_tuple_dict
  | exact kit_list_bool
  | exact kit_list_int
  | exact kit_list_str
  | exact kit_list_tuple
  | exact kit_list_list
  | exact kit_list_dict
  | exact kit_dict_bool
  | exact kit_dict_int
  | exact kit_dict_str
  | exact kit_dict_tuple
  | exact kit_dict_list
  | exact kit_dict_dict)
local macro_rules | `(tactic| walk_at "flen") => `(tactic| decide)
local macro_rules | `(tactic| walk_at "puts") => `(tactic| skip)

local macro_rules | `(tactic| walk_at "st1") => `(tactic| first
  | with_reducible refine st_dc ?_ | with_reducible refine st_dgetS ?_ | with_reducible refine st_dinS ?_ | with_reducible refine st_dninS ?_ | with_reducible refine st_dputS ?_ | with_reducible refine st_newT ?_ | with_reducible refine iteNN ?_ | with_reducible refine iteYN ?_
  | ((with_reducible refine' st_getT ?hq ?hk ?hv ?_); (case hq => walk_at "hp"); (case hk => walk_at "key"); (case hv => with_reducible assumption))
  | ((with_reducible refine' st_inT ?hq ?hk ?_); (case hq => walk_at "hp"); (case hk => walk_at "key"))
  | ((with_reducible refine' st_ninT ?hq ?hk ?_); (case hq => walk_at "hp"); (case hk => walk_at "key"))
  | ((with_reducible refine' st_putT ?hq ?hk ?hl ?_); (case hq => walk_at "hp"); (case hk => walk_at "key"); (case hl => walk_at "line"))
  | ((with_reducible refine' st_cputT ?hq ?hk ?hl ?_); (case hq => walk_at "hp"); (case hk => walk_at "key"); (case hl => walk_at "line"))
  | ((with_reducible refine' st_ixB ?hq ?he ?_); (case hq => first | assumption | exact Or.inl (by walk_at "sqL") | exact Or.inr (by walk_at "sqT")); (case he => walk_at "at")))
local macro_rules | `(tactic| walk_at "key") => `(tactic| with_reducible assumption)

local macro_rules | `(tactic| walk_at "lk") => `(tactic| with_reducible first | assumption | exact FlowF_get_params | exact FlowF_get_names | exact FlowF_get_first | exact FlowF_get_rows | exact TextF_get_tables | exact TextF_get_functions | exact TextF_get_flows | exact FlowF_no (by decide +kernel) (by decide +kernel) (by decide +kernel) (by decide +kernel) | exact TextF_no (by decide +kernel) (by decide +kernel) (by decide +kernel))
local macro_rules | `(tactic| walk_at "puts") => `(tactic| try simp only [FlowF_put_params, FlowF_put_names, FlowF_put_first, FlowF_put_rows, TextF_put_tables, TextF_put_functions, TextF_put_flows, FlowF0_put, FlowF1_put, FlowF2_put, FlowF3_put, TextF0_put, TextF1_put, TextF2_put])
local macro_rules | `(tactic| walk_at "flen") => `(tactic| first | with_reducible assumption | with_reducible (first | exact FlowF_len | exact TextF_len | exact FlowF0_len | exact FlowF1_len | exact FlowF2_len | exact FlowF3_len | exact TextF0_len | exact TextF1_len | exact TextF2_len) | decide)
section
variable {Z : Ads} {P : Program} {w : World} {K : PySem.W.Frag} {mg : Str → Option Value} {base : Heap}
theorem Took.nil {n r0 r1 : Nat} : Took n [] r0 r1 r0 r1 := by
  have e : allIn n [] = [] := by rw [allIn_eq]; rfl
  exact ⟨by rw [e]; rfl, by rw [e]; rfl⟩
theorem Took.snoc {n r0 r1 s0 s1 t0 t1 : Nat} {ss : List PyData} {d : PyData} (a : Took n ss r0 r1 s0 s1) (b : Took n [d] s0 s1 t0 t1) : Took n (ss ++ [d]) r0 r1 t0 t1 := by
  have a1 := a.a
  have a2 := a.b
  have b1 := b.a
  have b2 := b.b
  refine ⟨?_, ?_⟩
  · rw [allIn_app, List.length_append]
    omega
  · rw [allIn_app, List.filter_append, List.length_append]
    omega
abbrev s_law_block : Stmt := top 56
theorem sc_law_block : FnScope ["hand", "scene", "deep", "room", "found", "turn"] ["hand", "scene", "deep", "room"] (defScope s_law_block) := ⟨rfl, rfl, rfl, by decide +kernel, rfl, by decide +kernel, by decide +kernel⟩
theorem step_law_block {ns ts : List Str} {os : List (Str × Nat)} {f : Addr} {fd : FuncData} (F : Fun K "_law_block" "_law_block" s_law_block f fd) (T : Txt K mg Z) (n k : Nat) (hk : 2 ≤ k) (D_law_some : Dn P w K mg base "_law_some" 2 ["hand", "things"] (spSome K))
    (D_law_statement : Dn P w K mg base "_law_statement" k ["hand", "scene", "deep", "room"] (spLStmt ns ts os n)) :
    FnOk P w K mg base (L2.CX P w) (k + 1) f fd ["hand", "scene", "deep", "room"] (spLBlock ns ts os n) := by
  refine okN F sc_law_block (fun vs H Q E h => ?_) (fun cdv A outer s0 H vs Q E hr h => ?_)
  · obtain ⟨h, c, rm, sc, q, t, o, xs, r0, r1, rfl, _⟩ := h
    rfl
  · obtain ⟨h, c, rm, sc, q, t, o, xs, r0, r1, rfl, hH, S0, hrm, rh, rc, h9, n1, n9, k⟩ := h
    refine ⟨_, [some _, some _, some _, some _, none, none], rfl, (pss_cons (ps_set (i := 4) sc_law_block.nd rfl (by first | exact Or.inl rfl | exact Or.inr rfl) (pe_lst pa_nil))
      (pss_cons (ps_for PassesOwn.never rfl (pi_range1 (by rfl) T.n_range (pa_cons (pe_d D_law_some E0 (hr.mono (by first | decide | omega)) (by rfl) passL (pa_cons (pv 0) (pa_cons (pe_lst (pa_cons pe_int (pa_cons pe_int (pa_cons pe_int (pa_cons pe_int (pa_cons pe_int pa_nil)))))) pa_nil))) pa_nil)) (pg_name (i := 5) sc_law_block.nd rfl (by first | exact Or.inl rfl | exact Or.inr rfl))
      (pss_one (ps_if (pt_cmpR op_gt (pe_ix (kIxL (K := K)) (pv 3) pe_int (fun _ _ => rfl)) pe_int (by first | exact nomark _ | rfl)) (pss_one (ps_expr (kApp (K := K) (pv 4) (pe_d D_law_statement E0 (hr.mono (by first | decide | omega)) (by rfl) passL (pa_cons (pv 0) (pa_cons (pv 1) (pa_cons (pv 2) (pa_cons (pv 3) pa_nil)))))))) pss_nil)))
      (pss_one (ps_ret (pe_callTy (kTupOf (K := K)) (by rfl) T.n_tuple (by decide +kernel) (pa_cons (pv 4) pa_nil)))))), ?_⟩
    walk_at "st"
    intro u hu
    have nu := hH.out hu
    have nur : u ≠ rm := (ne_of_none hrm hu).symm
    have fu : Fr [] H (upd H u (.lst [])) := Fr.up hu
    have hH1 := hH.keep fu
    have rm1 := fu.same _ _ hrm
    have S1 := S0.keep (fu.mono (by simp))
    have u1 : upd H u (.lst []) u = some (.lst []) := upd_same
    have f1 : Fr [h, rm] H (upd H u (.lst [])) := fu.mono (by simp)
    generalize upd H u (.lst []) = H1 at fu hH1 rm1 S1 u1 f1 ⊢
    walk_at "st"
    intro u2 hu2
    have fu2 : Fr [] H1 (upd H1 u2 (.lst [.int 0, .int 1, .int 1, .int 2, .int 3])) := Fr.up hu2
    have n2 := hH1.out hu2
    walk_at "st"
    refine ⟨h, c, u2, _, rfl, hH1.keep fu2, .inr ⟨upd_same, n2⟩, by decide, by decide, fun H2 x hx hH2 f2 => ?_⟩
    obtain ⟨m, rfl, m0, m3⟩ : ∃ m : Int, x = .int m ∧ 0 ≤ m ∧ m ≤ 3 := by
      simp only [List.mem_cons, List.not_mem_nil, or_false] at hx
      rcases hx with rfl | rfl | rfl | rfl | rfl <;> exact ⟨_, rfl, by decide, by decide⟩
    have f12 : Fr [h] H1 H2 := (fu2.mono (by simp)).trans f2
    have rm2 := f12.keep _ _ (by simpa using rh) rm1
    have u22 := f12.keep _ _ (by simpa using nu.1) u1
    have S2 := S1.keep (f12.mono (by simp))
    have f02 := f1.trans (f12.mono (by simp))
    walk_at "st"
    refine for_it walk_range (fun i σ H' => ∃ o1 acc ss s0 s1, σ = [some (.ref h), some (.ref sc), some (.int (n : Nat)), some (.ref rm), some (.ref u), o1] ∧ Hand H' h c ∧ Fr [h, rm] H H' ∧ H' rm = some (.lst [.int ((s0 : Nat) : Int), .int ((s1 : Nat) : Int)]) ∧ H' u = some (.lst acc) ∧ TDs H' acc ss ∧ (∀ s ∈ ss, GS ns ts os (n - 1) s) ∧ ss.length ≤ i ∧ Took (n - 1) ss r0 r1 s0 s1) ⟨none, [], [], r0, r1, rfl, hH2, f02, rm2, u22, .nil, (by simp), Nat.le_refl _, Took.nil⟩ (fun _ _ _ _ _ => trivial) ?_ ?_
    · rintro i y σ H3 H4 hi ⟨o1, acc, ss, s0', s1', rfl, hH3, f3, rm3, u3, t3, g3, l3, k3⟩ ⟨rfl, rfl⟩
      have k3a := k3.a
      walk_at "st"
      refine iteD (fun h0 => ?_) (fun _ => ?_)
      · walk_at "st"
        refine ⟨h, c, rm, sc, q, t, o, xs, s0', s1', rfl, hH3, S0.keep f3, rm3, rh, rc, by omega, by omega, n1, n9, fun H5 v d s05 s15 t5 g5 k5 rm5 hH5 f5 => ?_⟩
        have u5 := f5.keep _ _ (by simpa using ⟨nu.1, nur⟩) u3
        have lac := t3.length
        refine st_append u5 (line_lt (by omega)) ?_
        walk_at "st"
        have fD : Fr [u] H5 (upd H5 u (.lst (acc ++ [v]))) := (Fr.refl H5).wl u5 (.inl (by simp))
        refine ⟨_, acc ++ [v], ss ++ [d], s05, s15, rfl, hH5.wr u5 nu, (f3.trans f5).wl u5 (.inr hu), by rw [upd_ne nur.symm]; exact rm5, upd_same, TDs.snoc (TDs.mono (f5.tup.trans fD.tup) _ _ t3) (TD.mono fD.tup _ _ t5), ?_, by rw [List.length_append, List.length_singleton]; omega, k3.snoc k5⟩
        intro s hs
        rcases List.mem_append.mp hs with hs | hs
        · exact g3 s hs
        · rw [List.mem_singleton.mp hs]
          exact g5
      · walk_at "st"
        exact ⟨_, acc, ss, s0', s1', rfl, hH3, f3, rm3, u3, t3, g3, by omega, k3⟩
    · rintro σ H3 ⟨o1, acc, ss, s0', s1', rfl, hH3, f3, rm3, u3, t3, g3, l3, k3⟩
      walk_at "st"
      refine st_tupOf (SqL.of u3) fun p hp => ?_
      have fp : Fr [] H3 (upd H3 p (.tup acc)) := Fr.up hp
      exact k _ _ ss s0' s1' (.tup upd_same (TDs.mono fp.tup _ _ t3)) g3 (by omega) k3 (fp.same _ _ rm3) (hH3.keep fp) (f3.new hp)
/-- both, of all depths -/
theorem law_blocks {ns ts : List Str} {os : List (Str × Nat)} {fs fb : Addr} {ds db : FuncData} (Fs : Fun K "_law_statement" "_law_statement" s_law_statement fs ds) (Fb : Fun K "_law_block" "_law_block" s_law_block fb db) (ms : mg "_law_statement" = some (.ref fs)) (mb : mg "_law_block" = some (.ref fb)) (bs : Binds K ds ["hand", "scene", "deep", "room"] []) (bb : Binds K db ["hand", "scene", "deep", "room"] []) (T : Txt K mg Z)
    (D_law_draw : Dn P w K mg base "_law_draw" 1 ["hand", "span"] spDraw) (D_law_some : Dn P w K mg base "_law_some" 2 ["hand", "things"] (spSome K)) (D_law_expression : Dn P w K mg base "_law_expression" 8 ["hand", "names", "deep"] (spLExprs 5)) : ∀ n, FnOk P w K mg base (L2.CX P w) (10 + 2 * n) fb db ["hand", "scene", "deep", "room"] (spLBlock ns ts os n) := by
  intro n
  induction n using Nat.strongRecOn with
  | ind n ih =>
    have Db : Dn P w K mg base "_law_block" (8 + 2 * n) ["hand", "scene", "deep", "room"] (fun vs H Q E => ∃ m, m < n ∧ spLBlock ns ts os m vs H Q E) := dn_mk Fb mb bb (fn_less fun m hm => (ih m hm).mono (by omega))
    have Ds := dn_mk Fs ms bs (step_law_statement (ns := ns) (ts := ts) (os := os) Fs T n (8 + 2 * n) (by omega) D_law_draw D_law_some D_law_expression Db)
    exact (step_law_block Fb T n (8 + 2 * n + 1) (by omega) D_law_some Ds).mono (by omega)
end

end K03

namespace K03
open PySem PySem.Spec PyProof.Rows L2 Hq
local macro_rules | `(tactic| walk_at "st1") => `(tactic| first
  | with_reducible refine st_seq ?_ | with_reducible refine st_ret ?_ | with_reducible refine st_ifS ?_ | with_reducible refine st_asg ?_ | with_reducible refine st_drop ?_
  | ((with_reducible refine' st_var ?hv ?_); (case hv => rfl)) | with_reducible refine st_c ?_ | with_reducible refine st_op ?_ | with_reducible refine st_un ?_
  | with_reducible refine st_I0 ?_ | with_reducible refine st_U ?_ | ((with_reducible refine' st_I ?hc ?_); (case hc => walk_at "side"))
  | ((with_reducible refine' st_eq ?hs ?_); (case hs => rfl)) | ((with_reducible refine' st_ne ?hs ?_); (case hs => rfl))
  | with_reducible refine st_test ?_ | with_reducible refine st_B ?_ | with_reducible refine st_bl ?_ | with_reducible refine st_isN ?_ | with_reducible refine st_notN ?_
  | with_reducible refine st_chain ?_ | with_reducible refine st_and ?_ | with_reducible refine st_or ?_ | with_reducible refine st_not ?_
  | with_reducible refine st_andV ?_ | with_reducible refine st_orV ?_ | with_reducible refine st_notV ?_ | with_reducible refine st_if ?_
  | with_reducible refine st_CB ?_ | with_reducible refine st_cons ?_ | with_reducible refine st_nil ?_ | with_reducible refine st_fld ?_
  | ((with_reducible refine st_tup ?_)) | ((with_reducible refine st_lst ?_))
  | with_reducible refine st_call ?_ | with_reducible refine st_meth ?_ | with_reducible refine st_make ?_
  | with_reducible refine st_sl ?_ | with_reducible refine st_noPart ?_ | with_reducible refine st_part ?_ | with_reducible refine st_int ?_
  | ((with_reducible refine' st_ixL ?hq ?he ?_); (case hq => walk_at "sqL"); (case he => walk_at "at"))
  | ((with_reducible refine' st_ixT ?hq ?he ?_); (case hq => walk_at "sqT"); (case he => walk_at "at"))
  | with_reducible refine st_bm ?_ | with_reducible refine st_app ?_
  | ((with_reducible refine' st_append ?hq ?hl ?_); (case hq => walk_at "hp"); (case hl => walk_at "line"))
  | ((with_reducible refine' st_len (n := 0) ?hq ?_); (case hq => first | exact Or.inl (by walk_at "sqL") | exact Or.inr (by walk_at "sqT")))
  | ((with_reducible refine' st_listOf ?hq ?_); (case hq => first | exact Or.inl (by walk_at "sqL") | exact Or.inr (by walk_at "sqT")))
  | ((with_reducible refine st_name ?_); (try dsimp only [List.set_cons_zero, List.set_cons_succ])) | with_reducible refine st_par ?_
  | with_reducible refine st_gcons ?_ | with_reducible refine st_gnil ?_ | with_reducible refine st_gsub ?_ | with_reducible refine st_sFld ?_
  | ((with_reducible refine' st_gtup ?hq ?hl ?_); (case hq => walk_at "sqT"); (case hl => rfl))
  | ((with_reducible refine' st_setL ?hq ?hl ?_); (case hq => walk_at "hp"); (case hl => first | rfl | exact ix0 | exact ixN_nat (by assumption)); (try simp only [Int.reduceToNat, List.set_cons_zero, List.set_cons_succ]))
  | with_reducible refine st_intI ?_ | with_reducible refine st_abs ?_
  | ((with_reducible refine' st_popAt ?hq ?hk ?hy ?_); (case hq => walk_at "hp"); (case hk => exact seq0); (case hy => rfl))
  | ((with_reducible refine' and_left ?ht ?_); (case ht => walk_at "ty"))
  | with_reducible refine st_lc ?_ | with_reducible refine st_for ?_ | with_reducible refine st_iL ?_ | with_reducible refine st_iT ?_ | with_reducible refine st_iR1 ?_ | with_reducible refine st_iR2 ?_ | with_reducible refine st_iZ ?_
  | ((with_reducible refine' st_refL ?hq ?_); (case hq => walk_at "sqL")) | ((with_reducible refine' st_refT ?hq ?_); (case hq => walk_at "sqT"))
  | ((with_reducible refine' st_rng1 ?hq ?_); (case hq => walk_at "side")) | ((with_reducible refine' st_rng2 ?hq ?_); (case hq => walk_at "side"))
  | ((with_reducible refine' st_zip ?hq ?hr ?_); (case hq => walk_at "sqb"); (case hr => walk_at "sqb"))
  | ((with_reducible refine' st_size ?hw ?_); (case hw => walk_at "line"))
  | ((with_reducible refine' st_sum ?hq ?_); (case hq => walk_at "sqL"))
  | with_reducible refine st_two ?_ | with_reducible refine st_yes ?_ | ((with_reducible refine' st_wipe ?hw ?_); (case hw => rfl))
  | ((with_reducible refine' st_slL ?hq ?_); (case hq => walk_at "sqL"))
  | ((with_reducible refine' st_cat ?hq ?hr ?hl ?_); (case hq => walk_at "hp"); (case hr => walk_at "hp"); (case hl => walk_at "line"))
  | ((with_reducible refine' st_isi ?hk ?he ?_); (case hk => walk_at "kd"); (case he => walk_at "kit"))
  | ((with_reducible refine' st_ins ?hq ?hc ?hn ?hl ?_); (case hq => walk_at "hp"); (case hc => with_reducible assumption); (case hn => with_reducible assumption); (case hl => walk_at "flen"); walk_at "puts")
  | ((with_reducible refine' st_att ?hq ?hc ?hn ?hl ?_); (case hq => walk_at "hp"); (case hc => with_reducible assumption); (case hn => with_reducible assumption); (case hl => walk_at "lk"))
  | ((with_reducible refine' st_mt ?hq ?hl ?_); (case hq => walk_at "hp"); (case hl => walk_at "lk"))
  | ((with_reducible refine' st_extend ?hq ?hr ?hl ?_); (case hq => walk_at "hp"); (case hr => walk_at "hp"); (case hl => walk_at "line"))
  | with_reducible refine st_next ?_ | with_reducible refine st_retN ?_ | (with_reducible refine iteNT ?_) | (with_reducible refine iteNF ?_) | (with_reducible refine iteT ?_) | (with_reducible refine iteF ?_))
local macro_rules | `(tactic| walk_at "side") => `(tactic| first | omega | decide | assumption | exact ⟨by omega, by omega⟩ | exact Or.inr ⟨by omega, by omega⟩ | exact Or.inl ⟨by omega, by omega⟩ | (simp only [List.length_map, List.length_cons, List.length_nil, List.length_append] at *; omega))
local macro_rules | `(tactic| walk_at "hp") => `(tactic| first | assumption | exact upd_same | ((with_reducible refine' upd_old ?ho ?hb); (case ho => assumption); (case hb => walk_at "hp")) | (rw [upd_ne (by first | assumption | exact Ne.symm (by assumption))]; walk_at "hp"))
local macro_rules | `(tactic| walk_at "sqL") => `(tactic| first | assumption | exact SqL.of (by walk_at "hp"))
local macro_rules | `(tactic| walk_at "sqT") => `(tactic| first | assumption | exact SqT.of (by walk_at "hp"))
local macro_rules | `(tactic| walk_at "sqb") => `(tactic| (unfold SqB; first | ((with_reducible change SqL _ _ _ _); walk_at "sqL") | ((with_reducible change SqT _ _ _ _); walk_at "sqT")))
local macro_rules | `(tactic| walk_at "line") => `(tactic| first | assumption | decide | (apply line_of; walk_at "side") | (apply line_lt; walk_at "side"))
local macro_rules | `(tactic| walk_at "ty") => `(tactic| ((with_reducible refine' ty_lst ?hq); (case hq => walk_at "hp")))
local macro_rules | `(tactic| walk_at "at") => `(tactic| with_reducible first | assumption | exact at0 | exact at1 | exact at2 | exact at3 | exact at4 | exact at5 | exact at6 | exact at7 | exact at8)
local macro_rules | `(tactic| walk_at "st") => `(tactic| (repeat walk_at "st1"))
local macro_rules | `(tactic| walk_at "lk") => `(tactic| first | with_reducible assumption | rfl)
local macro_rules | `(tactic| walk_at "kd") => `(tactic| first | exact .base (.int _) | exact .base .non | exact .base (.bl _) | exact .base (.str _) | exact .base (.tup (by walk_at "hp")) | exact .base (.lst (by walk_at "hp")) | exact .base (.dK (by walk_at "hp")) | exact .base (.dT (by walk_at "hp")))
local macro_rules | `(tactic| walk_at "kit") => `(tactic| with_reducible first
  | exact kit_NoneType_bool
  | exact kit_NoneType_int
  | exact kit_NoneType_str
  | exact kit_NoneType_tuple
  | exact kit_NoneType_list
  | exact kit_NoneType_dict
  | exact kit_bool_bool
  | exact kit_bool_int
  | exact kit_bool_str
  | exact kit_bool_tuple
  | exact kit_bool_list
  | exact kit_bool_dict
  | exact kit_int_bool
  | exact kit_int_int
  | exact kit_int_str
  | exact kit_int_tuple
  | exact kit_int_list
  | exact kit_int_dict
  | exact kit_str_bool
  | exact kit_str_int
  | exact kit_str_str
  | exact kit_str_tuple
  | exact kit_str_list
  | exact kit_str_dict
  | exact kit_tuple_bool
  | exact kit_tuple_int
  | exact kit_tuple_str
  | exact kit_tuple_tuple
  | exact kit_tuple_list
  | exact kit_tuple_dict
  | exact kit_list_bool
  | exact kit_list_int
  | exact kit_list_str
  | exact kit_list_tuple
  | exact kit_list_list
  | exact kit_list_dict
  | exact kit_dict_bool
  | exact kit_dict_int
  | exact kit_dict_str
  | exact kit_dict_tuple
  | exact kit_dict_list
  | exact kit_dict_dict)
local macro_rules | `(tactic| walk_at "flen") => `(tactic| decide)
local macro_rules | `(tactic| walk_at "puts") => `(tactic| skip)

local macro_rules | `(tactic| walk_at "st1") => `(tactic| first
  | with_reducible refine st_dc ?_ | with_reducible refine st_dgetS ?_ | with_reducible refine st_dinS ?_ | with_reducible refine st_dninS ?_ | with_reducible refine st_dputS ?_ | with_reducible refine st_newT ?_ | with_reducible refine iteNN ?_ | with_reducible refine iteYN ?_
  | ((with_reducible refine' st_getT ?hq ?hk ?hv ?_); (case hq => walk_at "hp"); (case hk => walk_at "key"); (case hv => with_reducible assumption))
  | ((with_reducible refine' st_inT ?hq ?hk ?_); (case hq => walk_at "hp"); (case hk => walk_at "key"))
  | ((with_reducible refine' st_ninT ?hq ?hk ?_); (case hq => walk_at "hp"); (case hk => walk_at "key"))
  | ((with_reducible refine' st_putT ?hq ?hk ?hl ?_); (case hq => walk_at "hp"); (case hk => walk_at "key"); (case hl => walk_at "line"))
  | ((with_reducible refine' st_cputT ?hq ?hk ?hl ?_); (case hq => walk_at "hp"); (case hk => walk_at "key"); (case hl => walk_at "line"))
  | ((with_reducible refine' st_ixB ?hq ?he ?_); (case hq => first | assumption | exact Or.inl (by walk_at "sqL") | exact Or.inr (by walk_at "sqT")); (case he => walk_at "at")))
local macro_rules | `(tactic| walk_at "key") => `(tactic| with_reducible assumption)

local macro_rules | `(tactic| walk_at "lk") => `(tactic| with_reducible first | assumption | exact FlowF_get_params | exact FlowF_get_names | exact FlowF_get_first | exact FlowF_get_rows | exact TextF_get_tables | exact TextF_get_functions | exact TextF_get_flows | exact FlowF_no (by decide +kernel) (by decide +kernel) (by decide +kernel) (by decide +kernel) | exact TextF_no (by decide +kernel) (by decide +kernel) (by decide +kernel))
local macro_rules | `(tactic| walk_at "puts") => `(tactic| try simp only [FlowF_put_params, FlowF_put_names, FlowF_put_first, FlowF_put_rows, TextF_put_tables, TextF_put_functions, TextF_put_flows, FlowF0_put, FlowF1_put, FlowF2_put, FlowF3_put, TextF0_put, TextF1_put, TextF2_put])
local macro_rules | `(tactic| walk_at "flen") => `(tactic| first | with_reducible assumption | with_reducible (first | exact FlowF_len | exact TextF_len | exact FlowF0_len | exact FlowF1_len | exact FlowF2_len | exact FlowF3_len | exact TextF0_len | exact TextF1_len | exact TextF2_len) | decide)
section
variable {Z : Ads} {P : Program} {w : World} {K : PySem.W.Frag} {mg : Str → Option Value} {base : Heap}
/-! ### drawn texts -/
theorem sorted_asc {ys : List Str} (h : sortedS ys = true) (nd : ys.Nodup) : Asc ys := by
  intro i x y hx hy
  have p := sortedS_pw ys h
  obtain ⟨hi, ex⟩ := List.getElem?_eq_some_iff.mp hx
  obtain ⟨hi1, ey⟩ := List.getElem?_eq_some_iff.mp hy
  have h1 := List.pairwise_iff_getElem.mp p i (i + 1) hi hi1 (by omega)
  have h2 := List.pairwise_iff_getElem.mp nd i (i + 1) hi hi1 (by omega)
  rw [ex, ey] at h1 h2
  by_cases hlt : x.cps.toList < y.cps.toList
  · exact hlt
  · exact absurd (str_of_cps (List.le_antisymm (List.not_lt.mp h1) (List.not_lt.mp hlt))) h2
theorem namesL_ok : ∀ x ∈ namesL, nameOk x = true := by decide +kernel
theorem paired_at {α β : Type} {F : α → β → Prop} {xs : List α} {ys : List β} (h : Paired F xs ys) : ∀ {i : Nat} {x : α}, xs[i]? = some x → ∃ y, ys[i]? = some y ∧ F x y := by
  induction h with
  | nil => intro i x e; exact nomatch e
  | cons h1 _ ih =>
    intro i x e
    cases i with
    | zero => cases e; exact ⟨_, rfl, h1⟩
    | succ i => exact ih e
def PairAt (H : Hp) (x : V) (p : Str × Nat) : Prop := ∃ a, x = .ref a ∧ H a = some (.tup [.str p.1, .int ((p.2 : Nat) : Int)])
theorem PairAt.tp {H H' : Hp} {x : V} {p : Str × Nat} (h : PairAt H x p) (t : Tp H H') : PairAt H' x p := by
  obtain ⟨a, rfl, e⟩ := h
  exact ⟨a, rfl, t _ _ e⟩
theorem pairs_tp {H H' : Hp} {xs : List V} {os : List (Str × Nat)} (h : Paired (PairAt H) xs os) (t : Tp H H') : Paired (PairAt H') xs os := Paired.mapP h fun _ _ q => q.tp t
def spLParts : Sp := fun vs H Q _ => ∃ (h c : Addr), vs = [.ref h] ∧ Hand H h c ∧ ∀ H' r tb v ts fs, H' r = some (.tup [.ref tb, v]) → H' tb = some (.tup (ts.map V.str)) → TD H' v (.tuple (fs.map Fnc.d)) → GoodT ts fs → (∀ f ∈ fs, f.name ∈ namesL) → Hand H' h c → Fr [h] H H' → Q (.ref r) H'
abbrev s_law_parts : Stmt := top 58
theorem sc_law_parts : FnScope ["hand", "tables", "others", "functions", "name", "many", "names", "room"] ["hand"] (defScope s_law_parts) := ⟨rfl, rfl, rfl, by decide +kernel, rfl, by decide +kernel, by decide +kernel⟩
theorem ok_law_parts {f : Addr} {fd : FuncData} (F : Fun K "_law_parts" "_law_parts" s_law_parts f fd) (T : Txt K mg Z) (D_law_draw : Dn P w K mg base "_law_draw" 1 ["hand", "span"] spDraw) (D_law_some : Dn P w K mg base "_law_some" 2 ["hand", "things"] (spSome K)) (D_law_names : Dn P w K mg base "_law_names" 3 ["hand", "many"] spNames)
    (D_law_block : Dn P w K mg base "_law_block" 20 ["hand", "scene", "deep", "room"] (spA fun i : List Str × List Str × List (Str × Nat) => spLBlock i.1 i.2.1 i.2.2 5)) :
    FnOk P w K mg base (L2.CX P w) 21 f fd ["hand"] spLParts := by
  refine okN F sc_law_parts (fun vs H Q E h => ?_) (fun cdv A outer s0 H vs Q E hr h => ?_)
  · obtain ⟨h, c, rfl, _⟩ := h
    rfl
  · obtain ⟨h, c, rfl, hH, k⟩ := h
    refine ⟨_, [some _, none, none, none, none, none, none, none], rfl, (pss_cons (ps_set (i := 1) sc_law_parts.nd rfl (by first | exact Or.inl rfl | exact Or.inr rfl) (pe_callTy (kTupOf (K := K)) (by rfl) T.n_tuple (by decide +kernel) (pa_cons (pe_callB (kSortS (K := K)) (by rfl) T.n_sorted (by decide +kernel) (pa_cons (pe_d D_law_names E0 (hr.mono (by first | decide | omega)) (by rfl) passL (pa_cons (pv 0) (pa_cons (pe_d D_law_some E0 (hr.mono (by first | decide | omega)) (by rfl) passL (pa_cons (pv 0) (pa_cons (pe_lst (pa_cons pe_int (pa_cons pe_int (pa_cons pe_int (pa_cons pe_int pa_nil))))) pa_nil))) pa_nil))) pa_nil)) pa_nil)))
      (pss_cons (ps_setLc (i := 2) (own := [("name", 4)]) (g := (gName 4)) (tt := tYes) rfl sc_law_parts.nd rfl rfl (sw_true rfl rfl rfl (by decide +kernel)) (kPiL (K := K) (pe_callB (kSortS (K := K)) (by rfl) T.n_sorted (by decide +kernel) (pa_cons (pe_d D_law_names E0 (hr.mono (by first | decide | omega)) (by rfl) passL (pa_cons (pv 0) (pa_cons (pe_op op_add pe_int (pe_d D_law_draw E0 (hr.mono (by first | decide | omega)) (by rfl) passL (pa_cons (pv 0) (pa_cons pe_int pa_nil)))) pa_nil))) pa_nil))) (blkOk_by (N := ["hand", "tables", "others", "functions", "name", "many", "names", "room"]) (sc := defScope s_law_parts) (by decide +kernel)) (fun _ _ _ _ _ => (pg_name (i := 4) sc_law_parts.nd rfl (by first | exact Or.inl rfl | exact Or.inr rfl))) (fun _ _ _ _ _ => pts_nil) (fun _ _ _ _ _ => (pe_tup (pa_cons (pv 4) (pa_cons (pe_d D_law_draw E0 (hr.mono (by first | decide | omega)) (by rfl) passL (pa_cons (pv 0) (pa_cons pe_int pa_nil))) pa_nil)))))
      (pss_cons (ps_set (i := 3) sc_law_parts.nd rfl (by first | exact Or.inl rfl | exact Or.inr rfl) (pe_lst pa_nil))
      (pss_cons (ps_for PassesOwn.never rfl (kPiL (K := K) (pv 2)) (kTupT (K := K) (n := 2) (pgs_cons (pg_name (i := 4) sc_law_parts.nd rfl (by first | exact Or.inl rfl | exact Or.inr rfl)) (pgs_cons (pg_name (i := 5) sc_law_parts.nd rfl (by first | exact Or.inl rfl | exact Or.inr rfl)) pgs_nil)))
      (pss_cons (ps_set (i := 6) sc_law_parts.nd rfl (by first | exact Or.inl rfl | exact Or.inr rfl) (pe_d D_law_names E0 (hr.mono (by first | decide | omega)) (by rfl) passL (pa_cons (pv 0) (pa_cons (pe_op op_add pe_int (pe_d D_law_draw E0 (hr.mono (by first | decide | omega)) (by rfl) passL (pa_cons (pv 0) (pa_cons pe_int pa_nil)))) pa_nil))))
      (pss_cons (ps_set (i := 7) sc_law_parts.nd rfl (by first | exact Or.inl rfl | exact Or.inr rfl) (pe_lst (pa_cons (pe_d D_law_some E0 (hr.mono (by first | decide | omega)) (by rfl) passL (pa_cons (pv 0) (pa_cons (pe_lst (pa_cons pe_int (pa_cons pe_int (pa_cons pe_int (pa_cons pe_int pa_nil))))) pa_nil))) (pa_cons (pe_d D_law_draw E0 (hr.mono (by first | decide | omega)) (by rfl) passL (pa_cons (pv 0) (pa_cons pe_int pa_nil))) pa_nil))))
      (pss_one (ps_expr (kApp (K := K) (pv 3) (pe_tup (pa_cons (pv 4) (pa_cons (pe_callTy (kTupOf (K := K)) (by rfl) T.n_tuple (by decide +kernel) (pa_cons (pe_slice (kSlL (K := K)) (pv 6) po_none (po_some (pv 5))) pa_nil)) (pa_cons (pe_d D_law_block E0 (hr.mono (by first | decide | omega)) (by rfl) passL (pa_cons (pv 0) (pa_cons (pe_tup (pa_cons (pv 6) (pa_cons (pv 1) (pa_cons (pv 2) pa_nil)))) (pa_cons pe_int (pa_cons (pv 7) pa_nil))))) pa_nil))))))))))
      (pss_one (ps_ret (pe_tup (pa_cons (pv 1) (pa_cons (pe_callTy (kTupOf (K := K)) (by rfl) T.n_tuple (by decide +kernel) (pa_cons (pv 3) pa_nil)) pa_nil))))))))), ?_⟩
    walk_at "st"
    intro u hu
    have fu : Fr [] H (upd H u (.lst [.int 0, .int 1, .int 2, .int 4])) := Fr.up hu
    walk_at "st"
    refine ⟨h, c, u, _, rfl, hH.keep fu, .inr ⟨upd_same, hH.out hu⟩, by decide, by decide, fun H1 x hx hH1 f1 => ?_⟩
    obtain ⟨m, rfl, m4⟩ : ∃ m : Nat, x = .int ((m : Nat) : Int) ∧ m ≤ 4 := by
      simp only [List.mem_cons, List.not_mem_nil, or_false] at hx
      rcases hx with rfl | rfl | rfl | rfl
      · exact ⟨0, rfl, by decide⟩
      · exact ⟨1, rfl, by decide⟩
      · exact ⟨2, rfl, by decide⟩
      · exact ⟨4, rfl, by decide⟩
    have F1 : Fr [h] H H1 := (fu.mono (by simp)).trans f1
    walk_at "st"
    refine ⟨h, c, m, rfl, hH1, by omega, fun H2 r ys nd sub len hr0 hr1 hH2 f2 => ?_⟩
    have F2 := F1.trans f2
    walk_at "st"
    refine ⟨r, ys, rfl, SqL.of hr1, by omega, fun ts p1 hp1 hs1 hn1 => ?_⟩
    have F3 := F2.new (o := .lst (ts.map V.str)) hn1
    have hH3 := hH2.keep (ms := []) (Fr.up (o := .lst (ts.map V.str)) hn1)
    have q1 : upd H2 p1 (.lst (ts.map V.str)) p1 = some (.lst (ts.map V.str)) := upd_same
    generalize upd H2 p1 (.lst (ts.map V.str)) = H3 at F3 hH3 q1 ⊢
    walk_at "st"
    refine st_tupOf (SqL.of q1) fun tb htb => ?_
    have F4 := F3.new (o := .tup (ts.map V.str)) htb
    have hH4 := hH3.keep (ms := []) (Fr.up (o := .tup (ts.map V.str)) htb)
    have e4 : upd H3 tb (.tup (ts.map V.str)) tb = some (.tup (ts.map V.str)) := upd_same
    generalize upd H3 tb (.tup (ts.map V.str)) = H4 at F4 hH4 e4 ⊢
    have tnd : ts.Nodup := hp1.nodup_iff.mpr nd
    have tsub : ∀ t ∈ ts, nameOk t = true := fun t ht => namesL_ok _ (sub t (hp1.mem_iff.mp ht))
    have tlen : ts.length ≤ 4 := by rw [hp1.length_eq, len]; exact m4
    have tasc := sorted_asc hs1 tnd
    clear hp1 hs1 hn1 q1 sub nd hr0 hr1
    walk_at "st"
    refine ⟨h, c, 3, rfl, hH4, by decide, by decide, fun H5 n n0 n3 hH5 f5 => ?_⟩
    obtain ⟨m2, rfl⟩ : ∃ m2 : Nat, n = ((m2 : Nat) : Int) := ⟨n.toNat, by omega⟩
    have eqm : (1 : Int) + ((m2 : Nat) : Int) = ((m2 + 1 : Nat) : Int) := by omega
    have F5 := F4.trans f5
    have e5 := f5.tup _ _ e4
    walk_at "st"
    rw [eqm]
    refine ⟨h, c, m2 + 1, rfl, hH5, by omega, fun H6 r ys nd sub len hr0 hr1 hH6 f6 => ?_⟩
    have F6 := F5.trans f6
    have e6 := f6.tup _ _ e5
    walk_at "st"
    refine ⟨r, ys, rfl, SqL.of hr1, by omega, fun ns p1 hp1 hs1 hn1 => ?_⟩
    have F7 := F6.new (o := .lst (ns.map V.str)) hn1
    have fp1 := Fr.up (ms := []) (o := .lst (ns.map V.str)) hn1
    have hH7 := hH6.keep fp1
    have e7 := fp1.tup _ _ e6
    have q1 : upd H6 p1 (.lst (ns.map V.str)) p1 = some (.lst (ns.map V.str)) := upd_same
    have np1 := hH6.out hn1
    generalize upd H6 p1 (.lst (ns.map V.str)) = H7 at F7 hH7 q1 e7 fp1 ⊢
    have nnd : ns.Nodup := hp1.nodup_iff.mpr nd
    have nmem : ∀ t ∈ ns, t ∈ namesL := fun t ht => sub t (hp1.mem_iff.mp ht)
    have nsub : ∀ t ∈ ns, nameOk t = true := fun t ht => namesL_ok _ (nmem t ht)
    have nlen : ns.length = m2 + 1 := by rw [hp1.length_eq, len]
    have nasc := sorted_asc hs1 nnd
    clear hp1 hs1 sub nd hr0 hr1 e6 e5 e4 hH6 hH5 hH4 fp1 F6 F5 F4 F3 hH3 hH2 hH1 F1 F2 f1 f2 fu hu htb
    walk_at "st"
    intro o ho
    have no := hH7.out ho
    have nop : o ≠ p1 := (ne_of_none q1 ho).symm
    have fo : Fr [] H7 (upd H7 o (.lst [])) := Fr.up ho
    refine lc_it (walk_list (xs := ns.map V.str)) (fun i H' => Fr [h] H7 H' ∧ Hand H' h c ∧ ∃ acc os, H' o = some (.lst acc) ∧ Paired (PairAt H') acc os ∧ os.map Prod.fst = ns.take i ∧ (∀ p ∈ os, p.2 ≤ 3)) ⟨fo.mono (by simp), hH7.keep fo, [], [], upd_same, .nil, rfl, (by simp)⟩ (fun i H' _ h => SqL.of (h.1.keep _ _ (by simpa using np1.1) q1)) ?_ ?_
    · rintro i x Ha Hb hi ⟨fa, ha, acc, os, ea, pa, ma, la⟩ ⟨rfl, hxi⟩
      rw [List.getElem?_map] at hxi
      obtain ⟨s, hs, rfl⟩ := Option.map_eq_some_iff.mp hxi
      rw [List.length_map] at hi
      have lac := pa.length
      have los : os.length = i := by
        have := congrArg List.length ma
        rw [List.length_map, List.length_take] at this
        omega
      walk_at "st"
      refine ⟨h, c, 4, rfl, ha, by decide, by decide, fun Hc n c0 c4 hHc fc => ?_⟩
      obtain ⟨b, rfl⟩ : ∃ b : Nat, n = ((b : Nat) : Int) := ⟨n.toNat, by omega⟩
      walk_at "st"
      intro p hp
      have fp := Fr.up (ms := []) (o := .tup [.str s, .int ((b : Nat) : Int)]) hp
      have ec := fp.same _ _ (fc.keep _ _ (by simpa using no.1) ea)
      have hHd := hHc.keep fp
      have ep : upd Hc p (.tup [.str s, .int ((b : Nat) : Int)]) p = some (.tup [.str s, .int ((b : Nat) : Int)]) := upd_same
      have tcp := fc.tup.trans fp.tup
      have fcp : Fr [h] H7 _ := (fa.trans fc).trans (fp.mono (by simp))
      generalize upd Hc p (.tup [.str s, .int ((b : Nat) : Int)]) = Hd at ec hHd ep tcp fcp ⊢
      have fw : Fr [o] Hd (upd Hd o (.lst (acc ++ [.ref p]))) := (Fr.refl Hd).wl ec (.inl (by simp))
      refine ⟨acc, ec, line_lt (by omega), fcp.wl ec (.inr ho), hHd.wr ec no, _, os ++ [(s, b)], upd_same, ?_, ?_, ?_⟩
      · exact Paired.snoc (pairs_tp pa (tcp.trans fw.tup)) ⟨p, rfl, fw.tup _ _ ep⟩
      · rw [List.map_append, ma, List.take_add_one, hs]
        rfl
      · intro p' hp'
        rcases List.mem_append.mp hp' with hp' | hp'
        · exact la p' hp'
        · rw [List.mem_singleton.mp hp']
          show b ≤ 3
          omega
    rintro H8 ⟨f8, hH8, acc, os, ea, pa, ma, la⟩
    rw [List.length_map, List.take_of_length_le (Nat.le_refl _)] at ma
    have F8 := F7.trans f8
    have e8 := f8.tup _ _ e7
    have lac := pa.length
    have los : os.length = m2 + 1 := by rw [← nlen, ← ma, List.length_map]
    walk_at "st"
    intro g hg
    have ng := hH8.out hg
    have ngo : g ≠ o := (ne_of_none ea hg).symm
    have fg : Fr [] H8 (upd H8 g (.lst [])) := Fr.up hg
    walk_at "st"
    have hH9 := hH8.keep fg
    have F9 := F8.new (o := .lst []) hg
    have ea9 := fg.same _ _ ea
    have t89 := fg.tup
    have g9 : upd H8 g (.lst []) g = some (.lst []) := upd_same
    have e9 := fg.tup _ _ e8
    have g0 : H g = none := F8.back (by simpa using ng.1) hg
    have o0 : H o = none := F7.back (by simpa using no.1) ho
    generalize upd H8 g (.lst []) = H9 at hH9 F9 ea9 t89 g9 e9 ⊢
    have nmsO : ∀ p ∈ os, nameOk p.1 = true := fun p hp => nsub _ (by rw [← ma]; exact List.mem_map_of_mem hp)
    clear fo fg hH8 F8 f8 hH7 F7 q1 e7
    refine for_it (walk_list (xs := acc)) (fun i σ H' => ∃ o4 o5 o6 o7 gs fs, σ = [some (.ref h), some (.ref tb), some (.ref o), some (.ref g), o4, o5, o6, o7] ∧ Hand H' h c ∧ Fr [h] H H' ∧ Tp H8 H' ∧ H' o = some (.lst acc) ∧ H' tb = some (.tup (ts.map V.str)) ∧ H' g = some (.lst gs) ∧ TDs H' gs (fs.map Fnc.d) ∧ fs.map (fun f => (f.name, f.ps.length)) = os.take i ∧ ∀ f ∈ fs, ∃ j : Ix, j.ts = ts ∧ j.os = os ∧ GoodF j f)
      ⟨none, none, none, none, [], [], rfl, hH9, F9, t89, ea9, e9, g9, .nil, rfl, (by simp)⟩ (fun _ _ _ _ ⟨_, _, _, _, _, _, _, _, _, _, h, _⟩ => SqL.of h) ?_ ?_
    · rintro i x σ Ha Hb hi ⟨o4, o5, o6, o7, gs, fs, rfl, ha, fa, ta, oa, ea, ga, tda, ma', lf⟩ ⟨rfl, hxi⟩
      obtain ⟨⟨nm, b⟩, hpi, a, rfl, haa⟩ := paired_at pa hxi
      have hosm := List.mem_of_getElem? hpi
      have b3 : b ≤ 3 := la _ hosm
      have hab := ta _ _ haa
      have lgs := tda.length
      have lfs : fs.length = i := by
        have := congrArg List.length ma'
        rw [List.length_map, List.length_take] at this
        omega
      rw [List.length_map] at lgs
      walk_at "st"
      refine ⟨h, c, 4, rfl, ha, by decide, by decide, fun Hc n n0 n4 hHc fc => ?_⟩
      obtain ⟨d, rfl⟩ : ∃ d : Nat, n = ((d : Nat) : Int) := ⟨n.toNat, by omega⟩
      have eqd : (4 : Int) + ((d : Nat) : Int) = ((d + 4 : Nat) : Int) := by omega
      walk_at "st"
      rw [eqd]
      refine ⟨h, c, d + 4, rfl, hHc, by omega, fun Hd r ys nd sub len hr0 hr1 hHd fd => ?_⟩
      have fcd := fc.trans fd
      have nr := ((hHc.out hr0))
      have oa1 := fcd.keep _ _ (by simpa using no.1) oa
      have ga1 := fcd.keep _ _ (by simpa using ng.1) ga
      have ro : r ≠ o := (ne_of_none (fc.keep _ _ (by simpa using no.1) oa) hr0).symm
      walk_at "st"
      intro u hu
      have fu : Fr [] Hd (upd Hd u (.lst [.int 1, .int 4, .int 10, .int 20])) := Fr.up hu
      have nu := hHd.out hu
      walk_at "st"
      refine ⟨h, c, u, _, rfl, hHd.keep fu, .inr ⟨upd_same, nu⟩, by decide, by decide, fun He x hx hHe fe => ?_⟩
      obtain ⟨r0, rfl, r20⟩ : ∃ r0 : Nat, x = .int ((r0 : Nat) : Int) ∧ r0 ≤ 20 := by
        simp only [List.mem_cons, List.not_mem_nil, or_false] at hx
        rcases hx with rfl | rfl | rfl | rfl
        · exact ⟨1, rfl, by decide⟩
        · exact ⟨4, rfl, by decide⟩
        · exact ⟨10, rfl, by decide⟩
        · exact ⟨20, rfl, by decide⟩
      walk_at "st"
      refine ⟨h, c, 9, rfl, hHe, by decide, by decide, fun Hf n m0 m9 hHf ff => ?_⟩
      obtain ⟨r1, rfl⟩ : ∃ r1 : Nat, n = ((r1 : Nat) : Int) := ⟨n.toNat, by omega⟩
      have fdf : Fr [h] Hd Hf := ((fu.mono (ns := [h]) (by simp)).trans fe).trans ff
      have oa2 := fdf.keep _ _ (by simpa using no.1) oa1
      have ga2 := fdf.keep _ _ (by simpa using ng.1) ga1
      have hr2 := fdf.keep _ _ (by simpa using nr.1) hr1
      walk_at "st"
      intro rm hrm
      have nrm := hHf.out hrm
      have rm0 : H rm = none := ((fa.trans fcd).trans fdf).back (by simpa using nrm.1) hrm
      have rmo : o ≠ rm := ne_of_none oa2 hrm
      have rmr : r ≠ rm := ne_of_none hr2 hrm
      have frm : Fr [] Hf (upd Hf rm (.lst [.int ((r0 : Nat) : Int), .int ((r1 : Nat) : Int)])) := Fr.up hrm
      have oa3 := frm.same _ _ oa2
      have ga3 := frm.same _ _ ga2
      have hr3 := frm.same _ _ hr2
      have rm3 : upd Hf rm (.lst [.int ((r0 : Nat) : Int), .int ((r1 : Nat) : Int)]) rm = some (.lst [.int ((r0 : Nat) : Int), .int ((r1 : Nat) : Int)]) := upd_same
      have hHg := hHf.keep frm
      have fag : Fr [h] Hb _ := ((fcd.trans fdf)).trans (frm.mono (by simp))
      generalize upd Hf rm (.lst [.int ((r0 : Nat) : Int), .int ((r1 : Nat) : Int)]) = Hg at oa3 ga3 hr3 rm3 hHg fag ⊢
      have eag := fag.tup _ _ ea
      have grm : g ≠ rm := ne_of_none ga2 hrm
      clear frm ff fe fu fdf oa1 oa2 ga1 ga2 hr1 hr2 hrm hu
      walk_at "st"
      intro s1 hs1
      rw [cut_take, ← List.map_take]
      have fs1 := Fr.up (ms := []) (o := .lst ((ys.take b).map V.str)) hs1
      have q1 : upd Hg s1 (.lst ((ys.take b).map V.str)) s1 = some (.lst ((ys.take b).map V.str)) := upd_same
      have hHh := hHg.keep fs1
      have fah := fag.trans (fs1.mono (by simp))
      have oa4 := fs1.same _ _ oa3
      have ga4 := fs1.same _ _ ga3
      have hr4 := fs1.same _ _ hr3
      have rm4 := fs1.same _ _ rm3
      generalize upd Hg s1 (.lst ((ys.take b).map V.str)) = Hh at q1 hHh fah oa4 ga4 hr4 rm4 ⊢
      walk_at "st"
      refine st_tupOf (SqL.of q1) fun s2 hs2 => ?_
      have fs2 := Fr.up (ms := []) (o := .tup ((ys.take b).map V.str)) hs2
      have q2 : upd Hh s2 (.tup ((ys.take b).map V.str)) s2 = some (.tup ((ys.take b).map V.str)) := upd_same
      have hHi := hHh.keep fs2
      have fai := fah.trans (fs2.mono (by simp))
      have oa5 := fs2.same _ _ oa4
      have ga5 := fs2.same _ _ ga4
      have hr5 := fs2.same _ _ hr4
      have rm5 := fs2.same _ _ rm4
      generalize upd Hh s2 (.tup ((ys.take b).map V.str)) = Hi at q2 hHi fai oa5 ga5 hr5 rm5 ⊢
      clear oa3 ga3 hr3 rm3 oa4 ga4 hr4 rm4 fs1 fs2 q1 fah hHh hs1 hs2
      walk_at "st"
      intro sc hsc
      have fsc := Fr.up (ms := []) (o := .tup [.ref r, .ref tb, .ref o]) hsc
      have q3 : upd Hi sc (.tup [.ref r, .ref tb, .ref o]) sc = some (.tup [.ref r, .ref tb, .ref o]) := upd_same
      have hHj := hHi.keep fsc
      have faj := fai.trans (fsc.mono (by simp))
      have oa6 := fsc.same _ _ oa5
      have ga6 := fsc.same _ _ ga5
      have hr6 := fsc.same _ _ hr5
      have rm6 := fsc.same _ _ rm5
      have q26 := fsc.tup _ _ q2
      generalize upd Hi sc (.tup [.ref r, .ref tb, .ref o]) = Hj at q3 hHj faj oa6 ga6 hr6 rm6 q26 ⊢
      have ptj := (ta.trans faj.tup)
      walk_at "st"
      refine ⟨(ys, ts, os), h, c, rm, sc, r, tb, o, acc, r0, r1, rfl, hHj, ⟨q3, hr6, faj.tup _ _ ea, oa6, fun x hx => ?_, nr.1, nr.2, rmr, no.1, no.2, rmo, by omega, by omega, by show 0 < ys.length; omega, by show ys.length ≤ 100; omega, by show ts.length < 1000; omega⟩, rm6, nrm.1, nrm.2, by omega, by decide, by decide, fun Hk vb ss s0 s1 tb' gb lb tk _ hHk fk => ?_⟩
      · obtain ⟨i', hi'⟩ := List.getElem?_of_mem hx
        obtain ⟨⟨f', m'⟩, hp', a', rfl, ha'⟩ := paired_at pa hi'
        have hm' := List.mem_of_getElem? hp'
        have : m' ≤ 3 := la _ hm'
        exact ⟨a', f', m', rfl, ptj _ _ ha', hm', by omega⟩
      have oa7 := fk.keep _ _ (by simpa using ⟨no.1, rmo⟩) oa6
      have ga7 := fk.keep _ _ (by simpa using ⟨ng.1, grm⟩) ga6
      have tk1 := tk.a
      have tk2 := tk.b
      have q27 := fk.tup _ _ q26
      walk_at "st"
      intro p hp
      have fp := Fr.up (ms := []) (o := .tup [.str nm, .ref s2, vb]) hp
      have gp := fp.same _ _ ga7
      have op := fp.same _ _ oa7
      have hHl := hHk.keep fp
      have ep : upd Hk p (.tup [.str nm, .ref s2, vb]) p = some (.tup [.str nm, .ref s2, vb]) := upd_same
      have q28 := fp.tup _ _ q27
      have tbl := TD.mono fp.tup _ _ tb'
      have tjl := (ta.trans faj.tup).trans (fk.tup.trans fp.tup)
      have fjl : Fr [h, rm] Hb _ := (faj.mono (ns := [h, rm]) (by simp)).trans (fk.trans (fp.mono (by simp)))
      generalize upd Hk p (.tup [.str nm, .ref s2, vb]) = Hl at gp op hHl ep q28 tbl tjl fjl ⊢
      walk_at "st"
      have fw : Fr [g] Hl (upd Hl g (.lst (gs ++ [.ref p]))) := (Fr.refl Hl).wl gp (.inl (by simp))
      have fAll : Fr [h] H Hl := Fr.cut (ns := [rm]) ((fa.mono (by simp)).trans fjl) (by simpa using rm0)
      have F0 : Fnc.d ⟨nm, ys.take b, ss⟩ = .tuple [.str nm, .tuple ((ys.take b).map PyData.str), .tuple ss] := rfl
      have tps : ∀ xs : List Str, TDs (upd Hl g (.lst (gs ++ [.ref p]))) (xs.map V.str) (xs.map PyData.str) := fun xs => by
        induction xs with
        | nil => exact .nil
        | cons x xs ih => exact .cons (.str x) ih
      have elem : TD (upd Hl g (.lst (gs ++ [.ref p]))) (.ref p) (Fnc.d ⟨nm, ys.take b, ss⟩) := by
        rw [F0]
        exact .tup (fw.tup _ _ ep) (.cons (.str _) (.cons (.tup (fw.tup _ _ q28) (tps _)) (.cons (TD.mono fw.tup _ _ tbl) .nil)))
      have lenb : (ys.take b).length = b := by rw [List.length_take]; omega
      refine ⟨_, _, _, _, gs ++ [.ref p], fs ++ [⟨nm, ys.take b, ss⟩], rfl, hHl.wr gp ng, fAll.wl gp (.inr g0), tjl.trans fw.tup, by rw [upd_ne ngo.symm]; exact op, fw.tup _ _ (fjl.tup _ _ ea), upd_same, ?_, ?_, ?_⟩
      · rw [List.map_append]
        exact TDs.snoc (TDs.mono (fjl.tup.trans fw.tup) _ _ tda) elem
      · rw [List.map_append, ma', List.take_add_one, hpi]
        show _ ++ [(nm, (ys.take b).length)] = _ ++ [(nm, b)]
        rw [lenb]
      · intro f hf
        rcases List.mem_append.mp hf with hf | hf
        · exact lf f hf
        · rw [List.mem_singleton.mp hf]
          have okN : Nms ys ts os := ⟨fun x hx => namesL_ok x (sub x hx), tsub, nmsO⟩
          refine ⟨⟨ys, ts, os, okN, by omega⟩, rfl, rfl, ⟨nmsO _ hosm, nd.sublist (List.take_sublist _ _), fun x hx => List.mem_of_mem_take hx, by show (ys.take b).length ≤ 4; omega, gb, lb, ?_, ?_, ?_⟩⟩
          · show (allIn 4 ss).length ≤ 40
            have tk1' : s0 + (allIn 4 ss).length = r0 := tk1
            omega
          · show ((allIn 4 ss).filter isIf).length ≤ 8
            have tk2' : s1 + ((allIn 4 ss).filter isIf).length = r1 := tk2
            omega
          · show (namesF (ys.take b) (allIn 4 ss)).length ≤ 12
            have := namesF_le (ns := ys) (ps := ys.take b) (all := allIn 4 ss) (fun x hx => List.mem_of_mem_take hx) (fun s hs => namesS_sub (allIn_gs 4 ss gb s hs))
            omega
    · rintro σ Ha ⟨o4, o5, o6, o7, gs, fs, rfl, ha, fa, ta, oa, ea, ga, tda, ma', la'⟩
      rw [List.take_of_length_le (by omega)] at ma'
      have en : fs.map Fnc.name = ns := by rw [← ma, ← ma', List.map_map]; rfl
      have lf : fs.length = m2 + 1 := by rw [← los, ← ma', List.length_map]
      walk_at "st"
      refine st_tupOf (SqL.of ga) fun p hp => ?_
      have fp := Fr.up (ms := []) (o := .tup gs) hp
      have hHp := ha.keep fp
      have Fp := fa.new (o := .tup gs) hp
      have ep : upd Ha p (.tup gs) p = some (.tup gs) := upd_same
      have ep2 := fp.tup _ _ ea
      have tdp := TDs.mono fp.tup _ _ tda
      generalize upd Ha p (.tup gs) = Hp' at hHp Fp ep ep2 tdp ⊢
      walk_at "st"
      intro r hr
      have fr := Fr.up (ms := []) (o := .tup [.ref tb, .ref p]) hr
      refine k _ r tb (.ref p) ts fs upd_same (fr.tup _ _ ep2) (.tup (fr.tup _ _ ep) (TDs.mono fr.tup _ _ tdp)) ⟨tsub, tnd, tasc, tlen, by omega, by omega, by rw [en]; exact nasc, by rw [en]; exact nnd, fun f hf => ?_⟩ (fun f hf => nmem _ (by rw [← en]; exact List.mem_map_of_mem hf)) (hHp.keep fr) (Fp.new hr)
      obtain ⟨j, j1, j2, j3⟩ := la' f hf
      exact ⟨j, j1, by rw [j2, ma'], j3⟩
end

end K03

namespace K03
open PySem PySem.Spec PyProof.Rows L2 Hq
local macro_rules | `(tactic| walk_at "st1") => `(tactic| first
  | with_reducible refine st_seq ?_ | with_reducible refine st_ret ?_ | with_reducible refine st_ifS ?_ | with_reducible refine st_asg ?_ | with_reducible refine st_drop ?_
  | ((with_reducible refine' st_var ?hv ?_); (case hv => rfl)) | with_reducible refine st_c ?_ | with_reducible refine st_op ?_ | with_reducible refine st_un ?_
  | with_reducible refine st_I0 ?_ | with_reducible refine st_U ?_ | ((with_reducible refine' st_I ?hc ?_); (case hc => walk_at "side"))
  | ((with_reducible refine' st_eq ?hs ?_); (case hs => rfl)) | ((with_reducible refine' st_ne ?hs ?_); (case hs => rfl))
  | with_reducible refine st_test ?_ | with_reducible refine st_B ?_ | with_reducible refine st_bl ?_ | with_reducible refine st_isN ?_ | with_reducible refine st_notN ?_
  | with_reducible refine st_chain ?_ | with_reducible refine st_and ?_ | with_reducible refine st_or ?_ | with_reducible refine st_not ?_
  | with_reducible refine st_andV ?_ | with_reducible refine st_orV ?_ | with_reducible refine st_notV ?_ | with_reducible refine st_if ?_
  | with_reducible refine st_CB ?_ | with_reducible refine st_cons ?_ | with_reducible refine st_nil ?_ | with_reducible refine st_fld ?_
  | ((with_reducible refine st_tup ?_)) | ((with_reducible refine st_lst ?_))
  | with_reducible refine st_call ?_ | with_reducible refine st_meth ?_ | with_reducible refine st_make ?_
  | with_reducible refine st_sl ?_ | with_reducible refine st_noPart ?_ | with_reducible refine st_part ?_ | with_reducible refine st_int ?_
  | ((with_reducible refine' st_ixL ?hq ?he ?_); (case hq => walk_at "sqL"); (case he => walk_at "at"))
  | ((with_reducible refine' st_ixT ?hq ?he ?_); (case hq => walk_at "sqT"); (case he => walk_at "at"))
  | with_reducible refine st_bm ?_ | with_reducible refine st_app ?_
  | ((with_reducible refine' st_append ?hq ?hl ?_); (case hq => walk_at "hp"); (case hl => walk_at "line"))
  | ((with_reducible refine' st_len (n := 0) ?hq ?_); (case hq => first | exact Or.inl (by walk_at "sqL") | exact Or.inr (by walk_at "sqT")))
  | ((with_reducible refine' st_listOf ?hq ?_); (case hq => first | exact Or.inl (by walk_at "sqL") | exact Or.inr (by walk_at "sqT")))
  | ((with_reducible refine st_name ?_); (try dsimp only [List.set_cons_zero, List.set_cons_succ])) | with_reducible refine st_par ?_
  | with_reducible refine st_gcons ?_ | with_reducible refine st_gnil ?_ | with_reducible refine st_gsub ?_ | with_reducible refine st_sFld ?_
  | ((with_reducible refine' st_gtup ?hq ?hl ?_); (case hq => walk_at "sqT"); (case hl => rfl))
  | ((with_reducible refine' st_setL ?hq ?hl ?_); (case hq => walk_at "hp"); (case hl => first | rfl | exact ix0 | exact ixN_nat (by assumption)); (try simp only [Int.reduceToNat, List.set_cons_zero, List.set_cons_succ]))
  | with_reducible refine st_intI ?_ | with_reducible refine st_abs ?_
  | ((with_reducible refine' st_popAt ?hq ?hk ?hy ?_); (case hq => walk_at "hp"); (case hk => exact seq0); (case hy => rfl))
  | ((with_reducible refine' and_left ?ht ?_); (case ht => walk_at "ty"))
  | with_reducible refine st_lc ?_ | with_reducible refine st_for ?_ | with_reducible refine st_iL ?_ | with_reducible refine st_iT ?_ | with_reducible refine st_iR1 ?_ | with_reducible refine st_iR2 ?_ | with_reducible refine st_iZ ?_
  | ((with_reducible refine' st_refL ?hq ?_); (case hq => walk_at "sqL")) | ((with_reducible refine' st_refT ?hq ?_); (case hq => walk_at "sqT"))
  | ((with_reducible refine' st_rng1 ?hq ?_); (case hq => walk_at "side")) | ((with_reducible refine' st_rng2 ?hq ?_); (case hq => walk_at "side"))
  | ((with_reducible refine' st_zip ?hq ?hr ?_); (case hq => walk_at "sqb"); (case hr => walk_at "sqb"))
  | ((with_reducible refine' st_size ?hw ?_); (case hw => walk_at "line"))
  | ((with_reducible refine' st_sum ?hq ?_); (case hq => walk_at "sqL"))
  | with_reducible refine st_two ?_ | with_reducible refine st_yes ?_ | ((with_reducible refine' st_wipe ?hw ?_); (case hw => rfl))
  | ((with_reducible refine' st_slL ?hq ?_); (case hq => walk_at "sqL"))
  | ((with_reducible refine' st_cat ?hq ?hr ?hl ?_); (case hq => walk_at "hp"); (case hr => walk_at "hp"); (case hl => walk_at "line"))
  | ((with_reducible refine' st_isi ?hk ?he ?_); (case hk => walk_at "kd"); (case he => walk_at "kit"))
  | ((with_reducible refine' st_ins ?hq ?hc ?hn ?hl ?_); (case hq => walk_at "hp"); (case hc => with_reducible assumption); (case hn => with_reducible assumption); (case hl => walk_at "flen"); walk_at "puts")
  | ((with_reducible refine' st_att ?hq ?hc ?hn ?hl ?_); (case hq => walk_at "hp"); (case hc => with_reducible assumption); (case hn => with_reducible assumption); (case hl => walk_at "lk"))
  | ((with_reducible refine' st_mt ?hq ?hl ?_); (case hq => walk_at "hp"); (case hl => walk_at "lk"))
  | ((with_reducible refine' st_extend ?hq ?hr ?hl ?_); (case hq => walk_at "hp"); (case hr => walk_at "hp"); (case hl => walk_at "line"))
  | with_reducible refine st_next ?_ | with_reducible refine st_retN ?_ | (with_reducible refine iteNT ?_) | (with_reducible refine iteNF ?_) | (with_reducible refine iteT ?_) | (with_reducible refine iteF ?_))
local macro_rules | `(tactic| walk_at "side") => `(tactic| first | omega | decide | assumption | exact ⟨by omega, by omega⟩ | exact Or.inr ⟨by omega, by omega⟩ | exact Or.inl ⟨by omega, by omega⟩ | (simp only [List.length_map, List.length_cons, List.length_nil, List.length_append] at *; omega))
local macro_rules | `(tactic| walk_at "hp") => `(tactic| first | assumption | exact upd_same | ((with_reducible refine' upd_old ?ho ?hb); (case ho => assumption); (case hb => walk_at "hp")) | (rw [upd_ne (by first | assumption | exact Ne.symm (by assumption))]; walk_at "hp"))
local macro_rules | `(tactic| walk_at "sqL") => `(tactic| first | assumption | exact SqL.of (by walk_at "hp"))
local macro_rules | `(tactic| walk_at "sqT") => `(tactic| first | assumption | exact SqT.of (by walk_at "hp"))
local macro_rules | `(tactic| walk_at "sqb") => `(tactic| (unfold SqB; first | ((with_reducible change SqL _ _ _ _); walk_at "sqL") | ((with_reducible change SqT _ _ _ _); walk_at "sqT")))
local macro_rules | `(tactic| walk_at "line") => `(tactic| first | assumption | decide | (apply line_of; walk_at "side") | (apply line_lt; walk_at "side"))
local macro_rules | `(tactic| walk_at "ty") => `(tactic| ((with_reducible refine' ty_lst ?hq); (case hq => walk_at "hp")))
local macro_rules | `(tactic| walk_at "at") => `(tactic| with_reducible first | assumption | exact at0 | exact at1 | exact at2 | exact at3 | exact at4 | exact at5 | exact at6 | exact at7 | exact at8)
local macro_rules | `(tactic| walk_at "st") => `(tactic| (repeat walk_at "st1"))
local macro_rules | `(tactic| walk_at "lk") => `(tactic| first | with_reducible assumption | rfl)
local macro_rules | `(tactic| walk_at "kd") => `(tactic| first | exact .base (.int _) | exact .base .non | exact .base (.bl _) | exact .base (.str _) | exact .base (.tup (by walk_at "hp")) | exact .base (.lst (by walk_at "hp")) | exact .base (.dK (by walk_at "hp")) | exact .base (.dT (by walk_at "hp")))
local macro_rules | `(tactic| walk_at "kit") => `(tactic| with_reducible first
  | exact kit_NoneType_bool
  | exact kit_NoneType_int
  | exact kit_NoneType_str
  | exact kit_NoneType_tuple
  | exact kit_NoneType_list
  | exact kit_NoneType_dict
  | exact kit_bool_bool
  | exact kit_bool_int
  | exact kit_bool_str
  | exact kit_bool_tuple
  | exact kit_bool_list
  | exact kit_bool_dict
  | exact kit_int_bool
  | exact kit_int_int
  | exact kit_int_str
  | exact kit_int_tuple
  | exact kit_int_list
  | exact kit_int_dict
  | exact kit_str_bool
  | exact kit_str_int
  | exact kit_str_str
  | exact kit_str_tuple
  | exact kit_str_list
  | exact kit_str_dict
  | exact kit_tuple_bool
  | exact kit_tuple_int
  | exact kit_tuple_str
  | exact kit_tuple_tuple
  | exact kit_tuple_list
  | exact kit_tuple_dict
  | exact kit_list_bool
  | exact kit_list_int
  | exact kit_list_str
  | exact kit_list_tuple
  | exact kit_list_list
  | exact kit_list_dict
  | exact kit_dict_bool
  | exact kit_dict_int
  | exact kit_dict_str
  | exact kit_dict_tuple
  | exact kit_dict_list
  | exact kit_dict_dict)
local macro_rules | `(tactic| walk_at "flen") => `(tactic| decide)
local macro_rules | `(tactic| walk_at "puts") => `(tactic| skip)

local macro_rules | `(tactic| walk_at "st1") => `(tactic| first
  | with_reducible refine st_dc ?_ | with_reducible refine st_dgetS ?_ | with_reducible refine st_dinS ?_ | with_reducible refine st_dninS ?_ | with_reducible refine st_dputS ?_ | with_reducible refine st_newT ?_ | with_reducible refine iteNN ?_ | with_reducible refine iteYN ?_
  | ((with_reducible refine' st_getT ?hq ?hk ?hv ?_); (case hq => walk_at "hp"); (case hk => walk_at "key"); (case hv => with_reducible assumption))
  | ((with_reducible refine' st_inT ?hq ?hk ?_); (case hq => walk_at "hp"); (case hk => walk_at "key"))
  | ((with_reducible refine' st_ninT ?hq ?hk ?_); (case hq => walk_at "hp"); (case hk => walk_at "key"))
  | ((with_reducible refine' st_putT ?hq ?hk ?hl ?_); (case hq => walk_at "hp"); (case hk => walk_at "key"); (case hl => walk_at "line"))
  | ((with_reducible refine' st_cputT ?hq ?hk ?hl ?_); (case hq => walk_at "hp"); (case hk => walk_at "key"); (case hl => walk_at "line"))
  | ((with_reducible refine' st_ixB ?hq ?he ?_); (case hq => first | assumption | exact Or.inl (by walk_at "sqL") | exact Or.inr (by walk_at "sqT")); (case he => walk_at "at")))
local macro_rules | `(tactic| walk_at "key") => `(tactic| with_reducible assumption)

local macro_rules | `(tactic| walk_at "lk") => `(tactic| with_reducible first | assumption | exact FlowF_get_params | exact FlowF_get_names | exact FlowF_get_first | exact FlowF_get_rows | exact TextF_get_tables | exact TextF_get_functions | exact TextF_get_flows | exact FlowF_no (by decide +kernel) (by decide +kernel) (by decide +kernel) (by decide +kernel) | exact TextF_no (by decide +kernel) (by decide +kernel) (by decide +kernel))
local macro_rules | `(tactic| walk_at "puts") => `(tactic| try simp only [FlowF_put_params, FlowF_put_names, FlowF_put_first, FlowF_put_rows, TextF_put_tables, TextF_put_functions, TextF_put_flows, FlowF0_put, FlowF1_put, FlowF2_put, FlowF3_put, TextF0_put, TextF1_put, TextF2_put])
local macro_rules | `(tactic| walk_at "flen") => `(tactic| first | with_reducible assumption | with_reducible (first | exact FlowF_len | exact TextF_len | exact FlowF0_len | exact FlowF1_len | exact FlowF2_len | exact FlowF3_len | exact TextF0_len | exact TextF1_len | exact TextF2_len) | decide)
section
variable {Z : Ads} {P : Program} {w : World} {K : PySem.W.Frag} {mg : Str → Option Value} {base : Heap}
/-! ### the law's own going through a function -/
inductive Bx (ns ts : List Str) (os : List (Str × Nat)) (n : Nat) (x : Str) (ds : List PyData) : Prop
  | plain : x ≠ "if" → x ≠ "while" → innerOf n (.tuple (.str x :: ds)) = [] → Bx ns ts os n x ds
  | if_ {j : Nat} {e : PyData} {b c : List PyData} : x = "if" → n = j + 1 → ds = [e, .tuple b, .tuple c] → (∀ s ∈ b, GS ns ts os j s) → (∀ s ∈ c, GS ns ts os j s) → innerOf n (.tuple (.str x :: ds)) = allIn j b ++ allIn j c → Bx ns ts os n x ds
  | while_ {j : Nat} {e : PyData} {b : List PyData} : x = "while" → n = j + 1 → ds = [e, .tuple b] → (∀ s ∈ b, GS ns ts os j s) → innerOf n (.tuple (.str x :: ds)) = allIn j b → Bx ns ts os n x ds
theorem GS.bx {ns ts : List Str} {os : List (Str × Nat)} {n : Nat} {d : PyData} (h : GS ns ts os n d) : ∃ x ds, d = .tuple (.str x :: ds) ∧ Bx ns ts os n x ds := by
  cases h with
  | plain hp =>
    obtain ⟨x, ds, rfl, _, n1, n2⟩ := hp.word
    refine ⟨x, ds, rfl, .plain n1 n2 ?_⟩
    have e := (allIn_plain hp n).1
    rw [allIn_eq, List.flatMap_cons, List.flatMap_nil, List.append_nil] at e
    injection e
  | @if_ j x e b c hx ge hb hc gb gc => exact ⟨_, _, rfl, .if_ hx rfl rfl gb gc (inner_if hx)⟩
  | @while_ j x e b hx ge hb gb => exact ⟨_, _, rfl, .while_ hx rfl rfl gb (inner_while hx)⟩
theorem in_comp {x : Str} : inV (V.str x) [V.str "if", V.str "while"] = isComp x := by
  unfold isComp
  by_cases a : x = "if"
  · rw [a]; decide +kernel
  · by_cases b : x = "while"
    · rw [b]; decide +kernel
    · simp [inV, eqV, a, b, Ne.symm a, Ne.symm b]
abbrev s_law_statements : Stmt := top 59
theorem sc_law_statements : FnScope ["block", "found", "s"] ["block"] (defScope s_law_statements) := ⟨rfl, rfl, rfl, by decide +kernel, rfl, by decide +kernel, by decide +kernel⟩
theorem step_law_statements {ns ts : List Str} {os : List (Str × Nat)} {f : Addr} {fd : FuncData} (F : Fun K "_law_statements" "_law_statements" s_law_statements f fd) (T : Txt K mg Z) (n : Nat)
    (D_law_statements : Dn P w K mg base "_law_statements" (1 + n) ["block"] (fun vs H Q E => ∃ m, m < n ∧ spAllIn ns ts os m vs H Q E)) : FnOk P w K mg base (L2.CX P w) (1 + n + 1) f fd ["block"] (spAllIn ns ts os n) := by
  refine okN F sc_law_statements (fun vs H Q E h => ?_) (fun cdv A outer s0 H vs Q E hr h => ?_)
  · obtain ⟨v, ss, rfl, _⟩ := h
    rfl
  · obtain ⟨v, ss, rfl, hv, hG, hsz, q⟩ := h
    rw [allIn_eq] at hsz q
    cases hv with
    | @tup a zs _ ha hT =>
    have hl := hT.length
    refine ⟨_, [some _, none, none], rfl, (pss_cons (ps_set (i := 1) sc_law_statements.nd rfl (by first | exact Or.inl rfl | exact Or.inr rfl) (pe_lst pa_nil))
      (pss_cons (ps_for PassesOwn.never rfl (kPiT (K := K) (pv 0)) (pg_name (i := 2) sc_law_statements.nd rfl (by first | exact Or.inl rfl | exact Or.inr rfl))
      (pss_cons (ps_expr (kApp (K := K) (pv 1) (pv 2)))
      (pss_cons (ps_if (pt_cmpR (kIn (K := K)) (pe_ix (kIxT (K := K)) (pv 2) pe_int (fun _ _ => rfl)) (pe_tup (pa_cons pe_str (pa_cons pe_str pa_nil))) (by first | exact nomark _ | rfl)) (pss_one (ps_expr (kBm (K := K) PySem.F.plainAttrs_list PySem.F.slot_list_extend PySem.F.type_list_extend mt_extend (pv 1) (pa_cons (pe_d D_law_statements E0 (hr.mono (by first | decide | omega)) (by rfl) passL (pa_cons (pe_ix (kIxT (K := K)) (pv 2) pe_int (fun _ _ => rfl)) pa_nil)) pa_nil)))) pss_nil)
      (pss_one (ps_if (pt_cmpR op_eq (pe_ix (kIxT (K := K)) (pv 2) pe_int (fun _ _ => rfl)) pe_str (by first | exact nomark _ | rfl)) (pss_one (ps_expr (kBm (K := K) PySem.F.plainAttrs_list PySem.F.slot_list_extend PySem.F.type_list_extend mt_extend (pv 1) (pa_cons (pe_d D_law_statements E0 (hr.mono (by first | decide | omega)) (by rfl) passL (pa_cons (pe_ix (kIxT (K := K)) (pv 2) pe_int (fun _ _ => rfl)) pa_nil)) pa_nil)))) pss_nil)))))
      (pss_one (ps_ret (pv 1))))), ?_⟩
    walk_at "st"
    intro u hu
    walk_at "st"
    refine for_it (walk_tup (xs := zs)) (fun i σ H' => ∃ xs o1, σ = [some (.ref a), some (.ref u), o1] ∧ Fr [] H H' ∧ H' u = some (.lst xs) ∧ TDs H' xs ((ss.take i).flatMap fun s => s :: innerOf n s)) ⟨[], none, rfl, Fr.up hu, upd_same, .nil⟩ (fun i σ H' _ ⟨_, _, _, f, _⟩ => SqT.of (f.tup _ _ ha)) ?_ ?_
    · rintro i x σ H1 H2 hi ⟨xs, o1, rfl, f1, e1, t1⟩ ⟨rfl, hxi⟩
      obtain ⟨s, hs, ts'⟩ := TDs.at_ (TDs.mono f1.tup _ _ hT) hxi
      have gs := hG s (List.mem_of_getElem? hs)
      have b1 := flatLe (g := fun s => s :: innerOf n s) ss (i + 1)
      rw [flatSnoc hs] at b1 ⊢
      rw [List.length_append, List.length_cons] at b1
      have lx := t1.length
      obtain ⟨y, ds, rfl, hB⟩ := gs.bx
      cases ts' with
      | @tup sa zs' _ hsa hTs =>
      cases hTs with
      | @cons z1 zs2 _ _ tz1 hTs =>
      cases tz1
      walk_at "st"
      have f2 : Fr [u] H2 (upd H2 u (.lst (xs ++ [.ref sa]))) := (Fr.refl H2).wl e1 (.inl (by simp))
      have g2 : Fr [] H (upd H2 u (.lst (xs ++ [.ref sa]))) := f1.wl e1 (.inr hu)
      have e2 : upd H2 u (.lst (xs ++ [.ref sa])) u = some (.lst (xs ++ [.ref sa])) := upd_same
      have hs2 := f2.tup _ _ hsa
      have hT2 := TDs.mono f2.tup _ _ hTs
      have t2 : TDs (upd H2 u (.lst (xs ++ [.ref sa]))) (xs ++ [.ref sa]) ((ss.take i).flatMap (fun s => s :: innerOf n s) ++ [.tuple (.str y :: ds)]) := TDs.snoc (TDs.mono f2.tup _ _ t1) (.tup hs2 (.cons (.str y) hT2))
      generalize upd H2 u (.lst (xs ++ [.ref sa])) = H3 at f2 g2 e2 t2 hs2 hT2 ⊢
      have lxs : (xs ++ [V.ref sa]).length = xs.length + 1 := by rw [List.length_append]; rfl
      have eR : (ss.take i).flatMap (fun s => s :: innerOf n s) ++ (PyData.tuple (.str y :: ds) :: innerOf n (.tuple (.str y :: ds))) = ((ss.take i).flatMap (fun s => s :: innerOf n s) ++ [.tuple (.str y :: ds)]) ++ innerOf n (.tuple (.str y :: ds)) := by
        rw [List.append_assoc]
        rfl
      rw [eR]
      generalize (ss.take i).flatMap (fun s => s :: innerOf n s) ++ [.tuple (.str y :: ds)] = R at t2 ⊢
      generalize xs ++ [V.ref sa] = ys at e2 t2 lxs ⊢
      walk_at "st"
      intro p hp
      have fp : Fr [] H3 (upd H3 p (.tup [.str "if", .str "while"])) := Fr.up hp
      have hs3 := fp.tup _ _ hs2
      have hT3 := TDs.mono fp.tup _ _ hT2
      have e3 := fp.same _ _ e2
      have t3 := TDs.mono fp.tup _ _ t2
      have g3 := g2.trans fp
      walk_at "st"
      refine ⟨p, _, rfl, .inr (SqT.of upd_same), rfl, rfl, ?_⟩
      rw [if_neg Bool.false_ne_true, in_comp]
      generalize upd H3 p (.tup [.str "if", .str "while"]) = H4 at fp hs3 hT3 e3 t3 g3 ⊢
      cases hB with
      | plain n1 n2 ei =>
        rw [ei, List.append_nil]
        rw [show isComp y = false by unfold isComp; rw [decide_eq_false n1, decide_eq_false n2]; rfl]
        walk_at "st"
        refine iteD (fun h => absurd (V.str.inj h) n1) (fun _ => ?_)
        walk_at "st"
        exact ⟨ys, _, rfl, g3, e3, t3⟩
      | @while_ j e b hx hn ed gb ei =>
        subst ed
        subst hn
        rw [ei] at b1 ⊢
        rw [show isComp y = true by rw [hx]; decide +kernel]
        cases hT3 with
        | @cons z2 _ _ _ tz2 hT3 =>
        cases hT3 with
        | @cons z3 _ _ _ tz3 hT3 =>
        walk_at "st"
        refine ⟨j, by omega, z3, b, rfl, tz3, gb, by omega, fun H5 r zr hr0 hr1 tr f5 => ?_⟩
        have e5 := f5.same _ _ e3
        have lr := tr.length
        have hs5 := f5.tup _ _ hs3
        walk_at "st"
        have f6 : Fr [u] H5 (upd H5 u (.lst (ys ++ zr))) := (Fr.refl H5).wl e5 (.inl (by simp))
        have hs6 := f6.tup _ _ hs5
        have t6 := TDs.app (TDs.mono (f5.tup.trans f6.tup) _ _ t3) (TDs.mono f6.tup _ _ tr)
        have e6 : upd H5 u (.lst (ys ++ zr)) u = some (.lst (ys ++ zr)) := upd_same
        have g6 := (g3.trans f5).wl (o' := .lst (ys ++ zr)) e5 (.inr hu)
        generalize upd H5 u (.lst (ys ++ zr)) = H6 at f6 hs6 t6 e6 g6 ⊢
        walk_at "st"
        refine iteD (fun h => absurd (V.str.inj h) (str_ne hx (by decide +kernel))) (fun _ => ?_)
        walk_at "st"
        exact ⟨_, _, rfl, g6, e6, t6⟩
      | @if_ j e b c hx hn ed gb gc ei =>
        subst ed
        subst hn
        rw [ei] at b1 ⊢
        rw [List.length_append] at b1
        rw [show isComp y = true by rw [hx]; decide +kernel]
        cases hT3 with
        | @cons z2 _ _ _ tz2 hT3 =>
        cases hT3 with
        | @cons z3 _ _ _ tz3 hT3 =>
        cases hT3 with
        | @cons z4 _ _ _ tz4 hT3 =>
        cases hT3
        walk_at "st"
        refine ⟨j, by omega, z3, b, rfl, tz3, gb, by omega, fun H5 r zr hr0 hr1 tr f5 => ?_⟩
        have e5 := f5.same _ _ e3
        have lr := tr.length
        have hs5 := f5.tup _ _ hs3
        walk_at "st"
        have f6 : Fr [u] H5 (upd H5 u (.lst (ys ++ zr))) := (Fr.refl H5).wl e5 (.inl (by simp))
        have hs6 := f6.tup _ _ hs5
        have t6 := TDs.app (TDs.mono (f5.tup.trans f6.tup) _ _ t3) (TDs.mono f6.tup _ _ tr)
        have e6 : upd H5 u (.lst (ys ++ zr)) u = some (.lst (ys ++ zr)) := upd_same
        have g6 := (g3.trans f5).wl (o' := .lst (ys ++ zr)) e5 (.inr hu)
        have tc := TD.mono (f5.tup.trans f6.tup) _ _ tz4
        generalize upd H5 u (.lst (ys ++ zr)) = H6 at f6 hs6 t6 e6 g6 tc ⊢
        walk_at "st"
        refine iteD (fun _ => ?_) (fun h => absurd (by rw [hx]) h)
        walk_at "st"
        refine ⟨j, by omega, z4, c, rfl, tc, gc, by omega, fun H7 r7 zr7 hr70 hr71 tr7 f7 => ?_⟩
        have e7 := f7.same _ _ e6
        have lr7 := tr7.length
        have lz : (ys ++ zr).length = ys.length + zr.length := List.length_append
        walk_at "st"
        have f8 : Fr [u] H7 (upd H7 u (.lst (ys ++ zr ++ zr7))) := (Fr.refl H7).wl e7 (.inl (by simp))
        refine ⟨_, _, rfl, (g6.trans f7).wl e7 (.inr hu), upd_same, ?_⟩
        rw [← List.append_assoc]
        exact TDs.app (TDs.mono (f7.tup.trans f8.tup) _ _ t6) (TDs.mono f8.tup _ _ tr7)
    · rintro σ H1 ⟨xs, o1, rfl, f1, e1, t1⟩
      rw [List.take_of_length_le (by omega)] at t1
      walk_at "st"
      exact q _ u xs hu e1 t1 f1
theorem w4_no {x : Str} (h : x ∈ W4) : x ≠ "make" ∧ x ≠ "call" ∧ x ∉ W3 ∧ x ≠ "put" ∧ x ≠ "read" := by
  simp only [W4, List.mem_cons, List.not_mem_nil, or_false] at h
  rcases h with rfl | rfl | rfl | rfl <;> decide +kernel
abbrev s_law_expressions : Stmt := top 60
theorem sc_law_expressions : FnScope ["s"] ["s"] (defScope s_law_expressions) := ⟨rfl, rfl, rfl, by decide +kernel, rfl, by decide +kernel, by decide +kernel⟩
theorem ok_law_expressions {ns ts : List Str} {os : List (Str × Nat)} {n : Nat} {f : Addr} {fd : FuncData} (F : Fun K "_law_expressions" "_law_expressions" s_law_expressions f fd) (T : Txt K mg Z) : FnOk P w K mg base (L2.CX P w) 1 f fd ["s"] (spExprsIn ns ts os n) := by
  refine okN F sc_law_expressions (fun vs H Q E h => ?_) (fun cdv A outer s0 H vs Q E hr h => ?_)
  · obtain ⟨v, d, rfl, _⟩ := h
    rfl
  · obtain ⟨v, d, rfl, hv, hG, q⟩ := h
    obtain ⟨x, ds, hS⟩ := hG.sts
    obtain ⟨rfl, hE, hg, hl4, _⟩ := hS
    generalize exprsOf (.tuple (.str x :: ds)) = es at hE hg hl4 q
    cases hv with
    | @tup a zs _ ha hT =>
    cases hT with
    | @cons z1 zs' _ _ t1 hT =>
    cases t1
    refine ⟨_, [some _], rfl, (pss_cons (ps_if (pt_cmpR (kIn (K := K)) (pe_ix (kIxT (K := K)) (pv 0) pe_int (fun _ _ => rfl)) (pe_tup (pa_cons pe_str pa_nil)) (by first | exact nomark _ | rfl)) (pss_one (ps_ret (pe_callTy (kListOf (K := K)) (by rfl) T.n_list (by decide +kernel) (pa_cons (pe_ix (kIxT (K := K)) (pv 0) pe_int (fun _ _ => rfl)) pa_nil)))) pss_nil)
      (pss_cons (ps_if (pt_cmpR op_eq (pe_ix (kIxT (K := K)) (pv 0) pe_int (fun _ _ => rfl)) pe_str (by first | exact nomark _ | rfl)) (pss_one (ps_ret (pe_callTy (kListOf (K := K)) (by rfl) T.n_list (by decide +kernel) (pa_cons (pe_ix (kIxT (K := K)) (pv 0) pe_int (fun _ _ => rfl)) pa_nil)))) pss_nil)
      (pss_cons (ps_if (pt_cmpR (kIn (K := K)) (pe_ix (kIxT (K := K)) (pv 0) pe_int (fun _ _ => rfl)) (pe_tup (pa_cons pe_str (pa_cons pe_str (pa_cons pe_str pa_nil)))) (by first | exact nomark _ | rfl)) (pss_one (ps_ret (pe_lst (pa_cons (pe_ix (kIxT (K := K)) (pv 0) pe_int (fun _ _ => rfl)) pa_nil)))) pss_nil)
      (pss_cons (ps_if (pt_cmpR op_eq (pe_ix (kIxT (K := K)) (pv 0) pe_int (fun _ _ => rfl)) pe_str (by first | exact nomark _ | rfl)) (pss_one (ps_ret (pe_lst (pa_cons (pe_ix (kIxT (K := K)) (pv 0) pe_int (fun _ _ => rfl)) (pa_cons (pe_ix (kIxT (K := K)) (pv 0) pe_int (fun _ _ => rfl)) pa_nil))))) pss_nil)
      (pss_one (ps_ret (pe_ifExp (pt_cmpR op_eq (pe_ix (kIxT (K := K)) (pv 0) pe_int (fun _ _ => rfl)) pe_str (by first | exact nomark _ | rfl)) (pe_lst pa_nil) (pe_lst (pa_cons (pe_ix (kIxT (K := K)) (pv 0) pe_int (fun _ _ => rfl)) pa_nil))))))))), ?_⟩
    walk_at "st"
    intro u hu
    have fu : Fr [] H (upd H u (.tup [.str "make"])) := Fr.up hu
    have ha1 := fu.tup _ _ ha
    have hT1 := TDs.mono fu.tup _ _ hT
    walk_at "st"
    refine ⟨u, _, rfl, .inr (SqT.of upd_same), rfl, rfl, ?_⟩
    rw [if_neg Bool.false_ne_true, show inV (V.str x) [V.str "make"] = decide (x ∈ (["make"] : List Str)) from inV_strs x ["make"]]
    generalize upd H u (.tup [.str "make"]) = H1 at fu ha1 hT1 ⊢
    have nm : ∀ {b : Bool}, x ≠ "make" → decide (x ∈ (["make"] : List Str)) = false := fun h => decide_eq_false (by simpa using h)
    cases hE with
    | w4 hx e1 e2 =>
      subst e1
      subst e2
      obtain ⟨n1, n2, n3, n4, n5⟩ := w4_no hx
      rw [nm (b := true) n1]
      walk_at "st"
      refine iteD (fun h => absurd (V.str.inj h) n2) (fun _ => ?_)
      walk_at "st"
      intro u2 hu2
      have f2 : Fr [] H1 (upd H1 u2 (.tup [.str "if", .str "while", .str "end"])) := Fr.up hu2
      have ha2 := f2.tup _ _ ha1
      have hT2 := TDs.mono f2.tup _ _ hT1
      walk_at "st"
      refine ⟨u2, _, rfl, .inr (SqT.of upd_same), rfl, rfl, ?_⟩
      rw [if_neg Bool.false_ne_true, in3, decide_eq_false n3]
      cases hT2 with
      | @cons z2 _ _ _ t2 hT2 =>
      cases hT2 with
      | @cons z3 _ _ _ t3 hT2 =>
      walk_at "st"
      refine iteD (fun h => absurd (V.str.inj h) n4) (fun _ => ?_)
      walk_at "st"
      refine iteD (fun h => absurd (V.str.inj h) n5) (fun _ => ?_)
      walk_at "st"
      intro p hp
      exact q _ p _ ((fu.trans f2).free hp) upd_same (.cons (TD.mono (up_tp hp) _ _ t3) .nil) ((fu.trans f2).new hp)
    | make hx e1 =>
      subst e1
      cases hT1 with
      | @cons z2 _ _ _ t2 hT1 =>
      cases hT1 with
      | @cons z3 _ _ _ t3 hT1 =>
      cases hT1
      cases t3 with
      | @tup b xs _ hb hX =>
      rw [decide_eq_true (by rw [hx]; decide +kernel)]
      walk_at "st"
      intro p hp
      exact q _ p _ (fu.free hp) upd_same (TDs.mono (up_tp hp) _ _ hX) (fu.new hp)
    | call hx e1 =>
      subst e1
      cases hT1 with
      | @cons z2 _ _ _ t2 hT1 =>
      cases hT1 with
      | @cons z3 _ _ _ t3 hT1 =>
      cases hT1 with
      | @cons z4 _ _ _ t4 hT1 =>
      cases hT1
      cases t4 with
      | @tup b xs _ hb hX =>
      rw [nm (b := true) (str_ne hx (by decide +kernel))]
      walk_at "st"
      refine iteD (fun _ => ?_) (fun h => absurd (by rw [hx]) h)
      walk_at "st"
      intro p hp
      exact q _ p _ (fu.free hp) upd_same (TDs.mono (up_tp hp) _ _ hX) (fu.new hp)
    | w3 hx e1 e2 =>
      subst e1
      subst e2
      obtain ⟨n1, n2, n3, n4⟩ := w3_no hx
      rw [nm (b := true) n2]
      walk_at "st"
      refine iteD (fun h => absurd (V.str.inj h) n4) (fun _ => ?_)
      walk_at "st"
      intro u2 hu2
      have f2 : Fr [] H1 (upd H1 u2 (.tup [.str "if", .str "while", .str "end"])) := Fr.up hu2
      have ha2 := f2.tup _ _ ha1
      have hT2 := TDs.mono f2.tup _ _ hT1
      walk_at "st"
      refine ⟨u2, _, rfl, .inr (SqT.of upd_same), rfl, rfl, ?_⟩
      rw [if_neg Bool.false_ne_true, in3, decide_eq_true hx]
      cases hT2 with
      | @cons z2 _ _ _ t2 hT2 =>
      walk_at "st"
      intro p hp
      exact q _ p _ ((fu.trans f2).free hp) upd_same (.cons (TD.mono (up_tp hp) _ _ t2) .nil) ((fu.trans f2).new hp)
    | put hx e1 e2 =>
      subst e1
      subst e2
      rw [nm (b := true) (str_ne hx (by decide +kernel))]
      walk_at "st"
      refine iteD (fun h => absurd (V.str.inj h) (str_ne hx (by decide +kernel))) (fun _ => ?_)
      walk_at "st"
      intro u2 hu2
      have f2 : Fr [] H1 (upd H1 u2 (.tup [.str "if", .str "while", .str "end"])) := Fr.up hu2
      have ha2 := f2.tup _ _ ha1
      have hT2 := TDs.mono f2.tup _ _ hT1
      walk_at "st"
      refine ⟨u2, _, rfl, .inr (SqT.of upd_same), rfl, rfl, ?_⟩
      rw [if_neg Bool.false_ne_true, in3, decide_eq_false (by rw [hx]; decide +kernel)]
      cases hT2 with
      | @cons z2 _ _ _ t2 hT2 =>
      cases hT2 with
      | @cons z3 _ _ _ t3 hT2 =>
      cases hT2 with
      | @cons z4 _ _ _ t4 hT2 =>
      walk_at "st"
      refine iteD (fun _ => ?_) (fun h => absurd (by rw [hx]) h)
      walk_at "st"
      intro p hp
      exact q _ p _ ((fu.trans f2).free hp) upd_same (.cons (TD.mono (up_tp hp) _ _ t2) (.cons (TD.mono (up_tp hp) _ _ t4) .nil)) ((fu.trans f2).new hp)
    | read hx e1 e2 =>
      subst e1
      subst e2
      rw [nm (b := true) (str_ne hx (by decide +kernel))]
      walk_at "st"
      refine iteD (fun h => absurd (V.str.inj h) (str_ne hx (by decide +kernel))) (fun _ => ?_)
      walk_at "st"
      intro u2 hu2
      have f2 : Fr [] H1 (upd H1 u2 (.tup [.str "if", .str "while", .str "end"])) := Fr.up hu2
      have ha2 := f2.tup _ _ ha1
      have hT2 := TDs.mono f2.tup _ _ hT1
      walk_at "st"
      refine ⟨u2, _, rfl, .inr (SqT.of upd_same), rfl, rfl, ?_⟩
      rw [if_neg Bool.false_ne_true, in3, decide_eq_false (by rw [hx]; decide +kernel)]
      walk_at "st"
      refine iteD (fun h => absurd (V.str.inj h) (str_ne hx (by decide +kernel))) (fun _ => ?_)
      walk_at "st"
      refine iteD (fun _ => ?_) (fun h => absurd (by rw [hx]) h)
      walk_at "st"
      intro p hp
      exact q _ p _ ((fu.trans f2).free hp) upd_same .nil ((fu.trans f2).new hp)
abbrev s_law_named_in : Stmt := top 61
theorem sc_law_named_in : FnScope ["e"] ["e"] (defScope s_law_named_in) := ⟨rfl, rfl, rfl, by decide +kernel, rfl, by decide +kernel, by decide +kernel⟩
theorem step_law_named_in {ns : List Str} {f : Addr} {fd : FuncData} (F : Fun K "_law_named_in" "_law_named_in" s_law_named_in f fd) (T : Txt K mg Z) (n : Nat)
    (D_law_named_in : Dn P w K mg base "_law_named_in" (0 + n) ["e"] (fun vs H Q E => ∃ m, m < n ∧ spNamesIn ns m vs H Q E)) : FnOk P w K mg base (L2.CX P w) (0 + n + 1) f fd ["e"] (spNamesIn ns n) := by
  refine okN F sc_law_named_in (fun vs H Q E h => ?_) (fun cdv A outer s0 H vs Q E hr h => ?_)
  · obtain ⟨v, d, rfl, _⟩ := h
    rfl
  · obtain ⟨v, d, rfl, hv, hG, hn, k⟩ := h
    refine ⟨_, [some _], rfl, (pss_cons (ps_if (pt_cmpR (kIn (K := K)) (pe_ix (kIxT (K := K)) (pv 0) pe_int (fun _ _ => rfl)) (pe_tup (pa_cons pe_str (pa_cons pe_str pa_nil))) (by first | exact nomark _ | rfl)) (pss_one (ps_ret (pe_ifExp (pt_cmpR op_eq (pe_ix (kIxT (K := K)) (pv 0) pe_int (fun _ _ => rfl)) pe_str (by first | exact nomark _ | rfl)) (pe_lst (pa_cons (pe_ix (kIxT (K := K)) (pv 0) pe_int (fun _ _ => rfl)) pa_nil)) (pe_lst pa_nil)))) pss_nil)
      (pss_one (ps_ret (pe_op op_cat (pe_d D_law_named_in E0 (hr.mono (by first | decide | omega)) (by rfl) passL (pa_cons (pe_ix (kIxT (K := K)) (pv 0) pe_int (fun _ _ => rfl)) pa_nil)) (pe_d D_law_named_in E0 (hr.mono (by first | decide | omega)) (by rfl) passL (pa_cons (pe_ix (kIxT (K := K)) (pv 0) pe_int (fun _ _ => rfl)) pa_nil)))))), ?_⟩
    have inn : ∀ x : Str, inV (V.str x) [V.str "int", V.str "name"] = decide (x ∈ (["int", "name"] : List Str)) := fun x => inV_strs x ["int", "name"]
    cases hG with
    | @int j i x hx h1 h2 =>
      cases hv with
      | @tup a zs _ ha hT =>
      cases hT with
      | @cons z1 _ _ _ t1 hT =>
      cases hT with
      | @cons z2 _ _ _ t2 hT =>
      cases hT
      cases t1
      cases t2
      walk_at "st"
      intro u hu
      have fu : Fr [] H (upd H u (.tup [.str "int", .str "name"])) := Fr.up hu
      have ha1 := fu.tup _ _ ha
      walk_at "st"
      refine ⟨u, _, rfl, .inr (SqT.of upd_same), rfl, rfl, ?_⟩
      rw [if_neg Bool.false_ne_true, inn, decide_eq_true (by rw [hx]; decide +kernel)]
      walk_at "st"
      refine iteD (fun h => absurd (hx ▸ V.str.inj h) (by decide +kernel)) (fun _ => ?_)
      walk_at "st"
      intro p hp
      exact k _ p (fu.free hp) upd_same (fu.new hp)
    | @name j s x hx hs =>
      cases hv with
      | @tup a zs _ ha hT =>
      cases hT with
      | @cons z1 _ _ _ t1 hT =>
      cases hT with
      | @cons z2 _ _ _ t2 hT =>
      cases hT
      cases t1
      cases t2
      walk_at "st"
      intro u hu
      have fu : Fr [] H (upd H u (.tup [.str "int", .str "name"])) := Fr.up hu
      have ha1 := fu.tup _ _ ha
      walk_at "st"
      refine ⟨u, _, rfl, .inr (SqT.of upd_same), rfl, rfl, ?_⟩
      rw [if_neg Bool.false_ne_true, inn, decide_eq_true (by rw [hx]; decide +kernel)]
      walk_at "st"
      refine iteD (fun _ => ?_) (fun h => absurd (by rw [hx]) h)
      walk_at "st"
      intro p hp
      exact k _ p (fu.free hp) upd_same (fu.new hp)
    | @op j x a b hx ga gb =>
      have hne := ops_ne hx
      have l1 := namesE_len _ _ _ ga
      have l2 := namesE_len _ _ _ gb
      have lj : 2 ^ j ≤ 2 ^ 10 := Nat.pow_le_pow_right (by decide) (by omega)
      have e : namesE (j + 1) (.tuple [.str x, a, b]) = namesE j a ++ namesE j b := by
        cases a <;> rfl
      rw [e] at k
      cases hv with
      | @tup a' zs _ ha hT =>
      cases hT with
      | @cons z1 _ _ _ t1 hT =>
      cases hT with
      | @cons z2 _ _ _ t2 hT =>
      cases hT with
      | @cons z3 _ _ _ t3 hT =>
      cases hT
      cases t1
      walk_at "st"
      intro u hu
      have fu : Fr [] H (upd H u (.tup [.str "int", .str "name"])) := Fr.up hu
      have ha1 := fu.tup _ _ ha
      walk_at "st"
      refine ⟨u, _, rfl, .inr (SqT.of upd_same), rfl, rfl, ?_⟩
      rw [if_neg Bool.false_ne_true, inn, decide_eq_false (by simpa using hne)]
      walk_at "st"
      refine ⟨j, by omega, z2, _, rfl, TD.mono fu.tup _ _ t2, ga, by omega, fun H1 r1 hr10 hr1 f1 => ?_⟩
      have ha2 := f1.tup _ _ ha1
      have fu1 := fu.trans f1
      walk_at "st"
      refine ⟨j, by omega, z3, _, rfl, TD.mono fu1.tup _ _ t3, gb, by omega, fun H2 r2 hr20 hr2 f2 => ?_⟩
      have hr1' := f2.same _ _ hr1
      generalize ex : namesE j a = xs at *
      generalize ey : namesE j b = ys at *
      have hz : (xs.map V.str).length + (ys.map V.str).length ≤ 100000 := by
        rw [List.length_map, List.length_map]
        have : (2 : Nat) ^ 10 = 1024 := rfl
        omega
      walk_at "st"
      intro u hu
      rw [← List.map_append]
      exact k _ u ((fu1.trans f2).free hu) upd_same ((fu1.trans f2).new hu)
end

end K03

namespace K03
open PySem PySem.Spec PyProof.Rows L2 Hq
local macro_rules | `(tactic| walk_at "st1") => `(tactic| first
  | with_reducible refine st_seq ?_ | with_reducible refine st_ret ?_ | with_reducible refine st_ifS ?_ | with_reducible refine st_asg ?_ | with_reducible refine st_drop ?_
  | ((with_reducible refine' st_var ?hv ?_); (case hv => rfl)) | with_reducible refine st_c ?_ | with_reducible refine st_op ?_ | with_reducible refine st_un ?_
  | with_reducible refine st_I0 ?_ | with_reducible refine st_U ?_ | ((with_reducible refine' st_I ?hc ?_); (case hc => walk_at "side"))
  | ((with_reducible refine' st_eq ?hs ?_); (case hs => rfl)) | ((with_reducible refine' st_ne ?hs ?_); (case hs => rfl))
  | with_reducible refine st_test ?_ | with_reducible refine st_B ?_ | with_reducible refine st_bl ?_ | with_reducible refine st_isN ?_ | with_reducible refine st_notN ?_
  | with_reducible refine st_chain ?_ | with_reducible refine st_and ?_ | with_reducible refine st_or ?_ | with_reducible refine st_not ?_
  | with_reducible refine st_andV ?_ | with_reducible refine st_orV ?_ | with_reducible refine st_notV ?_ | with_reducible refine st_if ?_
  | with_reducible refine st_CB ?_ | with_reducible refine st_cons ?_ | with_reducible refine st_nil ?_ | with_reducible refine st_fld ?_
  | ((with_reducible refine st_tup ?_)) | ((with_reducible refine st_lst ?_))
  | with_reducible refine st_call ?_ | with_reducible refine st_meth ?_ | with_reducible refine st_make ?_
  | with_reducible refine st_sl ?_ | with_reducible refine st_noPart ?_ | with_reducible refine st_part ?_ | with_reducible refine st_int ?_
  | ((with_reducible refine' st_ixL ?hq ?he ?_); (case hq => walk_at "sqL"); (case he => walk_at "at"))
  | ((with_reducible refine' st_ixT ?hq ?he ?_); (case hq => walk_at "sqT"); (case he => walk_at "at"))
  | with_reducible refine st_bm ?_ | with_reducible refine st_app ?_
  | ((with_reducible refine' st_append ?hq ?hl ?_); (case hq => walk_at "hp"); (case hl => walk_at "line"))
  | ((with_reducible refine' st_len (n := 0) ?hq ?_); (case hq => first | exact Or.inl (by walk_at "sqL") | exact Or.inr (by walk_at "sqT")))
  | ((with_reducible refine' st_listOf ?hq ?_); (case hq => first | exact Or.inl (by walk_at "sqL") | exact Or.inr (by walk_at "sqT")))
  | ((with_reducible refine st_name ?_); (try dsimp only [List.set_cons_zero, List.set_cons_succ])) | with_reducible refine st_par ?_
  | with_reducible refine st_gcons ?_ | with_reducible refine st_gnil ?_ | with_reducible refine st_gsub ?_ | with_reducible refine st_sFld ?_
  | ((with_reducible refine' st_gtup ?hq ?hl ?_); (case hq => walk_at "sqT"); (case hl => rfl))
  | ((with_reducible refine' st_setL ?hq ?hl ?_); (case hq => walk_at "hp"); (case hl => first | rfl | exact ix0 | exact ixN_nat (by assumption)); (try simp only [Int.reduceToNat, List.set_cons_zero, List.set_cons_succ]))
  | with_reducible refine st_intI ?_ | with_reducible refine st_abs ?_
  | ((with_reducible refine' st_popAt ?hq ?hk ?hy ?_); (case hq => walk_at "hp"); (case hk => exact seq0); (case hy => rfl))
  | ((with_reducible refine' and_left ?ht ?_); (case ht => walk_at "ty"))
  | with_reducible refine st_lc ?_ | with_reducible refine st_for ?_ | with_reducible refine st_iL ?_ | with_reducible refine st_iT ?_ | with_reducible refine st_iR1 ?_ | with_reducible refine st_iR2 ?_ | with_reducible refine st_iZ ?_
  | ((with_reducible refine' st_refL ?hq ?_); (case hq => walk_at "sqL")) | ((with_reducible refine' st_refT ?hq ?_); (case hq => walk_at "sqT"))
  | ((with_reducible refine' st_rng1 ?hq ?_); (case hq => walk_at "side")) | ((with_reducible refine' st_rng2 ?hq ?_); (case hq => walk_at "side"))
  | ((with_reducible refine' st_zip ?hq ?hr ?_); (case hq => walk_at "sqb"); (case hr => walk_at "sqb"))
  | ((with_reducible refine' st_size ?hw ?_); (case hw => walk_at "line"))
  | ((with_reducible refine' st_sum ?hq ?_); (case hq => walk_at "sqL"))
  | with_reducible refine st_two ?_ | with_reducible refine st_yes ?_ | ((with_reducible refine' st_wipe ?hw ?_); (case hw => rfl))
  | ((with_reducible refine' st_slL ?hq ?_); (case hq => walk_at "sqL"))
  | ((with_reducible refine' st_cat ?hq ?hr ?hl ?_); (case hq => walk_at "hp"); (case hr => walk_at "hp"); (case hl => walk_at "line"))
  | ((with_reducible refine' st_isi ?hk ?he ?_); (case hk => walk_at "kd"); (case he => walk_at "kit"))
  | ((with_reducible refine' st_ins ?hq ?hc ?hn ?hl ?_); (case hq => walk_at "hp"); (case hc => with_reducible assumption); (case hn => with_reducible assumption); (case hl => walk_at "flen"); walk_at "puts")
  | ((with_reducible refine' st_att ?hq ?hc ?hn ?hl ?_); (case hq => walk_at "hp"); (case hc => with_reducible assumption); (case hn => with_reducible assumption); (case hl => walk_at "lk"))
  | ((with_reducible refine' st_mt ?hq ?hl ?_); (case hq => walk_at "hp"); (case hl => walk_at "lk"))
  | ((with_reducible refine' st_extend ?hq ?hr ?hl ?_); (case hq => walk_at "hp"); (case hr => walk_at "hp"); (case hl => walk_at "line"))
  | with_reducible refine st_next ?_ | with_reducible refine st_retN ?_ | (with_reducible refine iteNT ?_) | (with_reducible refine iteNF ?_) | (with_reducible refine iteT ?_) | (with_reducible refine iteF ?_))
local macro_rules | `(tactic| walk_at "side") => `(tactic| first | omega | decide | assumption | exact ⟨by omega, by omega⟩ | exact Or.inr ⟨by omega, by omega⟩ | exact Or.inl ⟨by omega, by omega⟩ | (simp only [List.length_map, List.length_cons, List.length_nil, List.length_append] at *; omega))
local macro_rules | `(tactic| walk_at "hp") => `(tactic| first | assumption | exact upd_same | ((with_reducible refine' upd_old ?ho ?hb); (case ho => assumption); (case hb => walk_at "hp")) | (rw [upd_ne (by first | assumption | exact Ne.symm (by assumption))]; walk_at "hp"))
local macro_rules | `(tactic| walk_at "sqL") => `(tactic| first | assumption | exact SqL.of (by walk_at "hp"))
local macro_rules | `(tactic| walk_at "sqT") => `(tactic| first | assumption | exact SqT.of (by walk_at "hp"))
local macro_rules | `(tactic| walk_at "sqb") => `(tactic| (unfold SqB; first | ((with_reducible change SqL _ _ _ _); walk_at "sqL") | ((with_reducible change SqT _ _ _ _); walk_at "sqT")))
local macro_rules | `(tactic| walk_at "line") => `(tactic| first | assumption | decide | (apply line_of; walk_at "side") | (apply line_lt; walk_at "side"))
local macro_rules | `(tactic| walk_at "ty") => `(tactic| ((with_reducible refine' ty_lst ?hq); (case hq => walk_at "hp")))
local macro_rules | `(tactic| walk_at "at") => `(tactic| with_reducible first | assumption | exact at0 | exact at1 | exact at2 | exact at3 | exact at4 | exact at5 | exact at6 | exact at7 | exact at8)
local macro_rules | `(tactic| walk_at "st") => `(tactic| (repeat walk_at "st1"))
local macro_rules | `(tactic| walk_at "lk") => `(tactic| first | with_reducible assumption | rfl)
local macro_rules | `(tactic| walk_at "kd") => `(tactic| first | exact .base (.int _) | exact .base .non | exact .base (.bl _) | exact .base (.str _) | exact .base (.tup (by walk_at "hp")) | exact .base (.lst (by walk_at "hp")) | exact .base (.dK (by walk_at "hp")) | exact .base (.dT (by walk_at "hp")))
local macro_rules | `(tactic| walk_at "kit") => `(tactic| with_reducible first
  | exact kit_NoneType_bool
  | exact kit_NoneType_int
  | exact kit_NoneType_str
  | exact kit_NoneType_tuple
  | exact kit_NoneType_list
  | exact kit_NoneType_dict
  | exact kit_bool_bool
  | exact kit_bool_int
  | exact kit_bool_str
  | exact kit_bool_tuple
  | exact kit_bool_list
  | exact kit_bool_dict
  | exact kit_int_bool
  | exact kit_int_int
  | exact kit_int_str
  | exact kit_int_tuple
  | exact kit_int_list
  | exact kit_int_dict
  | exact kit_str_bool
  | exact kit_str_int
  | exact kit_str_str
  | exact kit_str_tuple
  | exact kit_str_list
  | exact kit_str_dict
  | exact kit_tuple_bool
  | exact kit_tuple_int
  | exact kit_tuple_str
  | exact kit_tuple_tuple
  | exact kit_tuple_list
  | exact kit_tuple_dict
  | exact kit_list_bool
  | exact kit_list_int
  | exact kit_list_str
  | exact kit_list_tuple
  | exact kit_list_list
  | exact kit_list_dict
  | exact kit_dict_bool
  | exact kit_dict_int
  | exact kit_dict_str
  | exact kit_dict_tuple
  | exact kit_dict_list
  | exact kit_dict_dict)
local macro_rules | `(tactic| walk_at "flen") => `(tactic| decide)
local macro_rules | `(tactic| walk_at "puts") => `(tactic| skip)

local macro_rules | `(tactic| walk_at "st1") => `(tactic| first
  | with_reducible refine st_dc ?_ | with_reducible refine st_dgetS ?_ | with_reducible refine st_dinS ?_ | with_reducible refine st_dninS ?_ | with_reducible refine st_dputS ?_ | with_reducible refine st_newT ?_ | with_reducible refine iteNN ?_ | with_reducible refine iteYN ?_
  | ((with_reducible refine' st_getT ?hq ?hk ?hv ?_); (case hq => walk_at "hp"); (case hk => walk_at "key"); (case hv => with_reducible assumption))
  | ((with_reducible refine' st_inT ?hq ?hk ?_); (case hq => walk_at "hp"); (case hk => walk_at "key"))
  | ((with_reducible refine' st_ninT ?hq ?hk ?_); (case hq => walk_at "hp"); (case hk => walk_at "key"))
  | ((with_reducible refine' st_putT ?hq ?hk ?hl ?_); (case hq => walk_at "hp"); (case hk => walk_at "key"); (case hl => walk_at "line"))
  | ((with_reducible refine' st_cputT ?hq ?hk ?hl ?_); (case hq => walk_at "hp"); (case hk => walk_at "key"); (case hl => walk_at "line"))
  | ((with_reducible refine' st_ixB ?hq ?he ?_); (case hq => first | assumption | exact Or.inl (by walk_at "sqL") | exact Or.inr (by walk_at "sqT")); (case he => walk_at "at")))
local macro_rules | `(tactic| walk_at "key") => `(tactic| with_reducible assumption)

local macro_rules | `(tactic| walk_at "lk") => `(tactic| with_reducible first | assumption | exact FlowF_get_params | exact FlowF_get_names | exact FlowF_get_first | exact FlowF_get_rows | exact TextF_get_tables | exact TextF_get_functions | exact TextF_get_flows | exact FlowF_no (by decide +kernel) (by decide +kernel) (by decide +kernel) (by decide +kernel) | exact TextF_no (by decide +kernel) (by decide +kernel) (by decide +kernel))
local macro_rules | `(tactic| walk_at "puts") => `(tactic| try simp only [FlowF_put_params, FlowF_put_names, FlowF_put_first, FlowF_put_rows, TextF_put_tables, TextF_put_functions, TextF_put_flows, FlowF0_put, FlowF1_put, FlowF2_put, FlowF3_put, TextF0_put, TextF1_put, TextF2_put])
local macro_rules | `(tactic| walk_at "flen") => `(tactic| first | with_reducible assumption | with_reducible (first | exact FlowF_len | exact TextF_len | exact FlowF0_len | exact FlowF1_len | exact FlowF2_len | exact FlowF3_len | exact TextF0_len | exact TextF1_len | exact TextF2_len) | decide)
section
variable {Z : Ads} {P : Program} {w : World} {K : PySem.W.Frag} {mg : Str → Option Value} {base : Heap}
/-! ### the law's own names -/
def spLNames (i : Ix) : Sp := fun vs H Q _ => ∃ (v : V) (fn : Fnc), vs = [v] ∧ TD H v fn.d ∧ GoodF i fn ∧ ∀ (H' : Hp) (r : Addr) (ys : List Str), Told ys (namesF fn.ps fn.all) → H r = none → H' r = some (.lst (ys.map V.str)) → Fr [] H H' → Q (.ref r) H'
abbrev s_law_all_names : Stmt := top 62
theorem sc_law_all_names : FnScope ["f", "found", "name", "s", "e"] ["f"] (defScope s_law_all_names) := ⟨rfl, rfl, rfl, by decide +kernel, rfl, by decide +kernel, by decide +kernel⟩
theorem ok_law_all_names {i : Ix} {f : Addr} {fd : FuncData} (F : Fun K "_law_all_names" "_law_all_names" s_law_all_names f fd) (T : Txt K mg Z) (D_law_statements : Dn P w K mg base "_law_statements" 6 ["block"] (spAllIn i.ns i.ts i.os 4)) (D_law_named_in : Dn P w K mg base "_law_named_in" 5 ["e"] (spNamesIn i.ns 4)) (D_law_expressions : Dn P w K mg base "_law_expressions" 1 ["s"] (spExprsIn i.ns i.ts i.os 4)) :
    FnOk P w K mg base (L2.CX P w) 7 f fd ["f"] (spLNames i) := by
  refine okN F sc_law_all_names (fun vs H Q E h => ?_) (fun cdv A outer s0 H vs Q E hr h => ?_)
  · obtain ⟨v, fn, rfl, _⟩ := h
    rfl
  · obtain ⟨v, fn, rfl, hv, g, q⟩ := h
    obtain ⟨a, p, vb, rfl, ha, hp, tb⟩ := (FncAt.of hv).ok
    have hfal := g.al
    unfold Fnc.all at hfal q
    have hG := g.b
    have hps := g.pn
    have hpl := g.pl
    have hns := i.le
    have hA := allIn_gs 4 fn.b hG
    generalize fn.ps = ps at hp hps hpl q
    generalize fn.b = ss at tb hG hA hfal q
    generalize i.ns = ns at *
    generalize fn.name = nm at ha
    have hu := u1_of hr
    have hu0 := u0_of hr
    refine ⟨_, [some _, none, none, none, none], rfl, (pss_cons (ps_set (i := 1) sc_law_all_names.nd rfl (by first | exact Or.inl rfl | exact Or.inr rfl) pe_dnewK)
      (pss_cons (ps_for PassesOwn.never rfl (kPiT (K := K) (pe_ix (kIxT (K := K)) (pv 0) pe_int (fun _ _ => rfl))) (pg_name (i := 2) sc_law_all_names.nd rfl (by first | exact Or.inl rfl | exact Or.inr rfl))
      (pss_one (ps_dput hu (pv 1) (pv 2) pe_bl rfl)))
      (pss_cons (ps_for PassesOwn.never rfl (kPiL (K := K) (pe_d D_law_statements E0 (hr.mono (by first | decide | omega)) (by rfl) passL (pa_cons (pe_ix (kIxT (K := K)) (pv 0) pe_int (fun _ _ => rfl)) pa_nil))) (pg_name (i := 3) sc_law_all_names.nd rfl (by first | exact Or.inl rfl | exact Or.inr rfl))
      (C8.pss_cut (ps_if (pt_cmpR (kIn (K := K)) (pe_ix (kIxT (K := K)) (pv 3) pe_int (fun _ _ => rfl)) (pe_tup (pa_cons pe_str (pa_cons pe_str (pa_cons pe_str (pa_cons pe_str (pa_cons pe_str (pa_cons pe_str pa_nil))))))) (by first | exact nomark _ | rfl)) (pss_one (ps_dput hu (pv 1) (pe_ix (kIxT (K := K)) (pv 3) pe_int (fun _ _ => rfl)) pe_bl rfl)) pss_nil)
      (pss_one (ps_for PassesOwn.never rfl (kPiL (K := K) (pe_d D_law_expressions E0 (hr.mono (by first | decide | omega)) (by rfl) passL (pa_cons (pv 3) pa_nil))) (pg_name (i := 4) sc_law_all_names.nd rfl (by first | exact Or.inl rfl | exact Or.inr rfl))
      (pss_one (ps_for PassesOwn.never rfl (kPiL (K := K) (pe_d D_law_named_in E0 (hr.mono (by first | decide | omega)) (by rfl) passL (pa_cons (pv 4) pa_nil))) (pg_name (i := 2) sc_law_all_names.nd rfl (by first | exact Or.inl rfl | exact Or.inr rfl))
      (pss_one (ps_dput hu (pv 1) (pv 2) pe_bl rfl))))))))
      (pss_one (ps_ret (pe_callB (kSortS (K := K)) (by rfl) T.n_sorted (by decide +kernel) (pa_cons (pe_callTy (call_list_dK rfl) (by rfl) T.n_list (by decide +kernel) (pa_cons (pv 1) pa_nil)) pa_nil))))))), ?_⟩
    have hD : ∀ {xs : List Str}, (∀ x ∈ xs, x ∈ ns) → (addAll [] xs).length ≤ 40 := fun {xs} hx => Nat.le_trans (addAll_le List.nodup_nil (fun x h => (nomatch h)) hx) hns
    walk_at "st"
    intro D hDn
    walk_at "st"
    refine for_it (walk_tup (xs := ps.map V.str)) (fun i σ H' => ∃ o1, σ = [some (.ref a), some (.ref D), o1, none, none] ∧ Fr [] H H' ∧ H' D = some (.dK (dkN (addAll [] (ps.take i))))) ⟨none, rfl, Fr.up hDn, upd_same⟩ (fun i σ H' _ ⟨_, _, f1, _⟩ => SqT.of (f1.tup _ _ hp)) ?_ ?_
    · rintro i x σ H1 H2 hi ⟨o1, rfl, f1, e1⟩ ⟨rfl, hx⟩
      rw [List.getElem?_map] at hx
      obtain ⟨s, hs, rfl⟩ := Option.map_eq_some_iff.mp hx
      have l1 := hD (xs := ps.take i) fun x h => hps x (List.mem_of_mem_take h)
      walk_at "st"
      refine ⟨_, _, rfl, DPut.k (k := .inr s) e1 (line_lt (by rw [dkN_len]; omega)), ?_⟩
      refine ⟨_, rfl, f1.wr e1 trivial (.inr hDn), ?_⟩
      rw [upd_same, dkN_put, List.take_add_one, hs, addAll_append]
      rfl
    · rintro σ H1 ⟨o1, rfl, f1, e1⟩
      rw [List.length_map, List.take_of_length_le (Nat.le_refl _)] at e1
      have ha1 := f1.tup _ _ ha
      walk_at "st"
      refine ⟨vb, ss, rfl, TD.mono f1.tup _ _ tb, hG, by omega, fun H2 r xs hr0 hr1 hT f2 => ?_⟩
      have e2 := f2.same _ _ e1
      have f02 := f1.trans f2
      have hl := hT.length
      walk_at "st"
      refine for_it (walk_list (xs := xs)) (fun k σ H' => ∃ o1 o2 o3, σ = [some (.ref a), some (.ref D), o1, o2, o3] ∧ Fr [] H H' ∧ H' r = some (.lst xs) ∧ Tp H2 H' ∧ H' D = some (.dK (dkN (addAll (addAll [] ps) (((allIn 4 ss).take k).flatMap namesS))))) ⟨_, none, none, rfl, f02, hr1, Tp.refl _, e2⟩ (fun i σ H' _ ⟨_, _, _, _, _, h, _⟩ => SqL.of h) ?_ ?_
      · rintro k x σ H3 H4 hi ⟨o1', o2, o3, rfl, f3, r3, tp3, e3⟩ ⟨rfl, hxi⟩
        obtain ⟨s, hs, tds⟩ := TDs.at_ (TDs.mono tp3 _ _ hT) hxi
        have hsm := List.mem_of_getElem? hs
        have gs := hA s hsm
        obtain ⟨y, ds, hS⟩ := gs.sts
        obtain ⟨es, hex, hlp⟩ := (⟨hS.e, hS.l, hS.p⟩ : _ ∧ _ ∧ _)
        have hng := namesS_sub gs
        subst es
        cases tds with
        | @tup b zs _ hb hT3 =>
        cases hT3 with
        | @cons z1 zs' _ _ t1 hT3 =>
        cases t1
        have hsub : ∀ z ∈ ((allIn 4 ss).take k).flatMap namesS, z ∈ ns := fun z hz => by
          obtain ⟨s', hs', hz⟩ := List.mem_flatMap.mp hz
          exact namesS_sub (hA s' (List.mem_of_mem_take hs')) z hz
        have hBn : (addAll (addAll [] ps) (((allIn 4 ss).take k).flatMap namesS)).Nodup := addAll_nodup _ (addAll_nodup _ List.nodup_nil)
        have hBs : ∀ z ∈ addAll (addAll [] ps) (((allIn 4 ss).take k).flatMap namesS), z ∈ ns := fun z hz =>
          ((addAll_mem _ _ _).mp hz).elim (fun h => ((addAll_mem _ _ _).mp h).elim (fun h => (nomatch h)) (hps z)) (hsub z)
        rw [flatSnoc hs, addAll_append]
        generalize addAll (addAll [] ps) (((allIn 4 ss).take k).flatMap namesS) = B at e3 hBn hBs ⊢
        have hBl : B.length ≤ ns.length := hBn.length_le_of_subset hBs
        have hpl2 : ∀ z ∈ placeOf (.tuple (.str y :: ds)), z ∈ ns := fun z hz => hng z (List.mem_append_left _ hz)
        have hB2 : (addAll B (placeOf (.tuple (.str y :: ds)))).Nodup := addAll_nodup _ hBn
        have hB2s : ∀ z ∈ addAll B (placeOf (.tuple (.str y :: ds))), z ∈ ns := fun z hz => ((addAll_mem _ _ _).mp hz).elim (hBs z) (hpl2 z)
        walk_at "st"
        refine ⟨fun σ H' => σ = [some (.ref a), some (.ref D), o1', some (.ref b), o3] ∧ Fr [] H H' ∧ H' r = some (.lst xs) ∧ Tp H4 H' ∧ H' D = some (.dK (dkN (addAll B (placeOf (.tuple (.str y :: ds)))))), ?_, ?_⟩
        · walk_at "st"
          intro u hun
          have fu : Fr [] H4 (upd H4 u (.tup [.str "let", .str "make", .str "get", .str "read", .str "call", .str "wait"])) := Fr.up hun
          have hb1 := fu.tup _ _ hb
          have e31 := fu.same _ _ e3
          have r31 := fu.same _ _ r3
          walk_at "st"
          refine ⟨u, _, rfl, .inr (SqT.of upd_same), rfl, rfl, ?_⟩
          rw [if_neg Bool.false_ne_true, in6]
          generalize upd H4 u (.tup [.str "let", .str "make", .str "get", .str "read", .str "call", .str "wait"]) = H5 at fu hb1 e31 r31 ⊢
          rcases hlp with ⟨h6, s', r', eds, ep, hs'⟩ | ⟨h6, ep⟩
          · subst eds
            cases hT3 with
            | @cons z2 zs2 _ _ t2 hT3 =>
            cases t2
            rw [decide_eq_true h6, ep] at *
            walk_at "st"
            refine ⟨D, _, rfl, DPut.k (k := .inr s') e31 (line_lt (by rw [dkN_len]; omega)), ?_⟩
            have nr : r ≠ D := by
              intro e
              rw [e, e31] at r31
              exact nomatch r31
            refine ⟨rfl, (f3.trans fu).wr e31 trivial (.inr hDn), ?_, ?_, ?_⟩
            · rw [upd_ne nr]
              exact r31
            · intro q' o e
              have e' := fu.tup _ _ e
              rw [upd_ne (fun eq => by rw [eq, e31] at e'; exact nomatch e')]
              exact e'
            · rw [upd_same, dkN_put]
              rfl
          · rw [decide_eq_false h6, ep]
            walk_at "st"
            exact ⟨rfl, f3.trans fu, r31, fu.tup, e31⟩
        · rintro σ H5 ⟨rfl, f5, r5, tp5, e5⟩
          have hg := hS.g
          have eN : namesS (.tuple (.str y :: ds)) = placeOf (.tuple (.str y :: ds)) ++ (exprsOf (.tuple (.str y :: ds))).flatMap (namesE 4) := rfl
          rw [eN] at hng ⊢
          rw [addAll_append]
          have td5 : TD H5 (.ref b) (.tuple (.str y :: ds)) := .tup (tp5 _ _ hb) (.cons (.str y) (TDs.mono tp5 _ _ hT3))
          walk_at "st"
          refine ⟨.ref b, _, rfl, td5, gs, fun H6 r6 xs6 hr60 hr6 tE f6 => ?_⟩
          have e6 := f6.same _ _ e5
          have r61 := f6.same _ _ r5
          generalize addAll B (placeOf (.tuple (.str y :: ds))) = B2 at hB2 hB2s e5 e6 ⊢
          generalize exprsOf (.tuple (.str y :: ds)) = es at hex hg hng tE ⊢
          have hB2l : B2.length ≤ ns.length := hB2.length_le_of_subset hB2s
          have lE := tE.length
          walk_at "st"
          refine for_it (walk_list (xs := xs6)) (fun j σ H' => ∃ o1 o3, σ = [some (.ref a), some (.ref D), o1, some (.ref b), o3] ∧ Fr [] H H' ∧ H' r = some (.lst xs) ∧ H' r6 = some (.lst xs6) ∧ Tp H6 H' ∧ H' D = some (.dK (dkN (addAll B2 ((es.take j).flatMap (namesE 4)))))) ⟨_, _, rfl, f5.trans f6, r61, hr6, Tp.refl _, e6⟩ (fun i σ H' _ ⟨_, _, _, _, _, h, _⟩ => SqL.of h) ?_ ?_
          · rintro j x σ H7 H8 hj ⟨o1'', o3', rfl, f7, r7, r67, tp7, e7⟩ ⟨rfl, hxj⟩
            obtain ⟨e, he, te⟩ := TDs.at_ (TDs.mono tp7 _ _ tE) hxj
            have hem := List.mem_of_getElem? he
            have hsubJ : ∀ z ∈ (es.take j).flatMap (namesE 4), z ∈ ns := fun z hz => by
              obtain ⟨s', hs', hz⟩ := List.mem_flatMap.mp hz
              exact namesE_sub _ _ _ (hg s' (List.mem_of_mem_take hs')) z hz
            have hBJn : (addAll B2 ((es.take j).flatMap (namesE 4))).Nodup := addAll_nodup _ hB2
            have hBJs : ∀ z ∈ addAll B2 ((es.take j).flatMap (namesE 4)), z ∈ ns := fun z hz => ((addAll_mem _ _ _).mp hz).elim (hB2s z) (hsubJ z)
            rw [flatSnoc he, addAll_append]
            generalize addAll B2 ((es.take j).flatMap (namesE 4)) = BJ at e7 hBJn hBJs ⊢
            have sN := namesE_sub 4 e ns (hg e hem)
            walk_at "st"
            refine ⟨x, e, rfl, te, hg e hem, by decide, fun H9 r9 hr90 hr9 f9 => ?_⟩
            generalize namesE 4 e = nE at sN hr9 ⊢
            have e9 := f9.same _ _ e7
            have r19 := f9.same _ _ r7
            have r69 := f9.same _ _ r67
            have nr : r ≠ D := by
              intro eq
              rw [eq, e9] at r19
              exact nomatch r19
            have nr6 : r6 ≠ D := by
              intro eq
              rw [eq, e9] at r69
              exact nomatch r69
            have nr9 : r9 ≠ D := by
              intro eq
              rw [eq, e9] at hr9
              exact nomatch hr9
            walk_at "st"
            refine for_it (walk_list (xs := nE.map V.str)) (fun l σ H' => ∃ o1, σ = [some (.ref a), some (.ref D), o1, some (.ref b), some x] ∧ Fr [] H H' ∧ H' r = some (.lst xs) ∧ H' r6 = some (.lst xs6) ∧ H' r9 = some (.lst (nE.map V.str)) ∧ Tp H9 H' ∧ H' D = some (.dK (dkN (addAll BJ (nE.take l))))) ⟨_, rfl, f7.trans f9, r19, r69, hr9, Tp.refl _, e9⟩ (fun i σ H' _ ⟨_, _, _, _, _, h, _⟩ => SqL.of h) ?_ ?_
            · rintro l x' σ Ha Hb hl' ⟨o1, rfl, fa, ra, ra6, ra9, tpa, ea⟩ ⟨rfl, hx'⟩
              rw [List.getElem?_map] at hx'
              obtain ⟨s', hs', rfl⟩ := Option.map_eq_some_iff.mp hx'
              have hL : (addAll BJ (nE.take l)).length ≤ ns.length := addAll_le hBJn hBJs fun z hz => sN z (List.mem_of_mem_take hz)
              walk_at "st"
              refine ⟨D, _, rfl, DPut.k (k := .inr s') ea (line_lt (by rw [dkN_len]; omega)), ?_⟩
              refine ⟨_, rfl, fa.wr ea trivial (.inr hDn), ?_, ?_, ?_, ?_, ?_⟩
              · rw [upd_ne nr]
                exact ra
              · rw [upd_ne nr6]
                exact ra6
              · rw [upd_ne nr9]
                exact ra9
              · intro q' o' e'
                have e'' := tpa _ _ e'
                rw [upd_ne (fun eq => by rw [eq, ea] at e''; exact nomatch e'')]
                exact e''
              · rw [upd_same, dkN_put, List.take_add_one, hs', addAll_append]
                rfl
            · rintro σ Ha ⟨o1, rfl, fa, ra, ra6, ra9, tpa, ea⟩
              rw [List.length_map, List.take_of_length_le (Nat.le_refl _)] at ea
              exact ⟨_, _, rfl, fa, ra, ra6, fun q' o' e' => tpa _ _ (f9.tup _ _ (tp7 _ _ e')), ea⟩
          · rintro σ H7 ⟨o1'', o3', rfl, f7, r7, r67, tp7, e7⟩
            rw [List.take_of_length_le (by omega)] at e7
            exact ⟨_, _, _, rfl, f7, r7, fun q' o' e' => tp7 _ _ (f6.tup _ _ (tp5 _ _ (tp3 _ _ e'))), e7⟩
      · rintro σ H3 ⟨o1', o2, o3, rfl, f3, r3, tp3, e3⟩
        rw [List.take_of_length_le (by omega)] at e3
        have hl40 := namesF_le (all := allIn 4 ss) hps (fun s hs => namesS_sub (hA s hs))
        walk_at "st"
        refine ⟨D, _, rfl, e3, fun p1 hp1 => ?_⟩
        have f4 := f3.new (o := .lst ((dkN (namesF ps (allIn 4 ss))).map fun kv => kV kv.1)) hp1
        have eL : (dkN (namesF ps (allIn 4 ss))).map (fun kv => kV kv.1) = (namesF ps (allIn 4 ss)).map V.str := by
          unfold dkN
          rw [List.map_map]
          rfl
        have q4 : upd H3 p1 (.lst ((dkN (namesF ps (allIn 4 ss))).map fun kv => kV kv.1)) p1 = some (.lst ((namesF ps (allIn 4 ss)).map V.str)) := by rw [upd_same, eL]
        show tNil _ (upd H3 p1 (.lst ((dkN (namesF ps (allIn 4 ss))).map fun kv => kV kv.1))) _
        generalize upd H3 p1 (.lst ((dkN (namesF ps (allIn 4 ss))).map fun kv => kV kv.1)) = H4 at f4 q4 ⊢
        walk_at "st"
        refine ⟨p1, namesF ps (allIn 4 ss), rfl, SqL.of q4, by omega, fun ys p2 hp2 hs2 hn2 => ?_⟩
        exact q _ p2 ys ⟨hp2, hs2⟩ (f4.free hn2) upd_same (f4.new hn2)
end

end K03

namespace K03
open PySem PySem.Spec PyProof.Rows L2 Hq
local macro_rules | `(tactic| walk_at "st1") => `(tactic| first
  | with_reducible refine st_seq ?_ | with_reducible refine st_ret ?_ | with_reducible refine st_ifS ?_ | with_reducible refine st_asg ?_ | with_reducible refine st_drop ?_
  | ((with_reducible refine' st_var ?hv ?_); (case hv => rfl)) | with_reducible refine st_c ?_ | with_reducible refine st_op ?_ | with_reducible refine st_un ?_
  | with_reducible refine st_I0 ?_ | with_reducible refine st_U ?_ | ((with_reducible refine' st_I ?hc ?_); (case hc => walk_at "side"))
  | ((with_reducible refine' st_eq ?hs ?_); (case hs => rfl)) | ((with_reducible refine' st_ne ?hs ?_); (case hs => rfl))
  | with_reducible refine st_test ?_ | with_reducible refine st_B ?_ | with_reducible refine st_bl ?_ | with_reducible refine st_isN ?_ | with_reducible refine st_notN ?_
  | with_reducible refine st_chain ?_ | with_reducible refine st_and ?_ | with_reducible refine st_or ?_ | with_reducible refine st_not ?_
  | with_reducible refine st_andV ?_ | with_reducible refine st_orV ?_ | with_reducible refine st_notV ?_ | with_reducible refine st_if ?_
  | with_reducible refine st_CB ?_ | with_reducible refine st_cons ?_ | with_reducible refine st_nil ?_ | with_reducible refine st_fld ?_
  | ((with_reducible refine st_tup ?_)) | ((with_reducible refine st_lst ?_))
  | with_reducible refine st_call ?_ | with_reducible refine st_meth ?_ | with_reducible refine st_make ?_
  | with_reducible refine st_sl ?_ | with_reducible refine st_noPart ?_ | with_reducible refine st_part ?_ | with_reducible refine st_int ?_
  | ((with_reducible refine' st_ixL ?hq ?he ?_); (case hq => walk_at "sqL"); (case he => walk_at "at"))
  | ((with_reducible refine' st_ixT ?hq ?he ?_); (case hq => walk_at "sqT"); (case he => walk_at "at"))
  | with_reducible refine st_bm ?_ | with_reducible refine st_app ?_
  | ((with_reducible refine' st_append ?hq ?hl ?_); (case hq => walk_at "hp"); (case hl => walk_at "line"))
  | ((with_reducible refine' st_len (n := 0) ?hq ?_); (case hq => first | exact Or.inl (by walk_at "sqL") | exact Or.inr (by walk_at "sqT")))
  | ((with_reducible refine' st_listOf ?hq ?_); (case hq => first | exact Or.inl (by walk_at "sqL") | exact Or.inr (by walk_at "sqT")))
  | ((with_reducible refine st_name ?_); (try dsimp only [List.set_cons_zero, List.set_cons_succ])) | with_reducible refine st_par ?_
  | with_reducible refine st_gcons ?_ | with_reducible refine st_gnil ?_ | with_reducible refine st_gsub ?_ | with_reducible refine st_sFld ?_
  | ((with_reducible refine' st_gtup ?hq ?hl ?_); (case hq => walk_at "sqT"); (case hl => rfl))
  | ((with_reducible refine' st_setL ?hq ?hl ?_); (case hq => walk_at "hp"); (case hl => first | rfl | exact ix0 | exact ixN_nat (by assumption)); (try simp only [Int.reduceToNat, List.set_cons_zero, List.set_cons_succ]))
  | with_reducible refine st_intI ?_ | with_reducible refine st_abs ?_
  | ((with_reducible refine' st_popAt ?hq ?hk ?hy ?_); (case hq => walk_at "hp"); (case hk => exact seq0); (case hy => rfl))
  | ((with_reducible refine' and_left ?ht ?_); (case ht => walk_at "ty"))
  | with_reducible refine st_lc ?_ | with_reducible refine st_for ?_ | with_reducible refine st_iL ?_ | with_reducible refine st_iT ?_ | with_reducible refine st_iR1 ?_ | with_reducible refine st_iR2 ?_ | with_reducible refine st_iZ ?_
  | ((with_reducible refine' st_refL ?hq ?_); (case hq => walk_at "sqL")) | ((with_reducible refine' st_refT ?hq ?_); (case hq => walk_at "sqT"))
  | ((with_reducible refine' st_rng1 ?hq ?_); (case hq => walk_at "side")) | ((with_reducible refine' st_rng2 ?hq ?_); (case hq => walk_at "side"))
  | ((with_reducible refine' st_zip ?hq ?hr ?_); (case hq => walk_at "sqb"); (case hr => walk_at "sqb"))
  | ((with_reducible refine' st_size ?hw ?_); (case hw => walk_at "line"))
  | ((with_reducible refine' st_sum ?hq ?_); (case hq => walk_at "sqL"))
  | with_reducible refine st_two ?_ | with_reducible refine st_yes ?_ | ((with_reducible refine' st_wipe ?hw ?_); (case hw => rfl))
  | ((with_reducible refine' st_slL ?hq ?_); (case hq => walk_at "sqL"))
  | ((with_reducible refine' st_cat ?hq ?hr ?hl ?_); (case hq => walk_at "hp"); (case hr => walk_at "hp"); (case hl => walk_at "line"))
  | ((with_reducible refine' st_isi ?hk ?he ?_); (case hk => walk_at "kd"); (case he => walk_at "kit"))
  | ((with_reducible refine' st_ins ?hq ?hc ?hn ?hl ?_); (case hq => walk_at "hp"); (case hc => with_reducible assumption); (case hn => with_reducible assumption); (case hl => walk_at "flen"); walk_at "puts")
  | ((with_reducible refine' st_att ?hq ?hc ?hn ?hl ?_); (case hq => walk_at "hp"); (case hc => with_reducible assumption); (case hn => with_reducible assumption); (case hl => walk_at "lk"))
  | ((with_reducible refine' st_mt ?hq ?hl ?_); (case hq => walk_at "hp"); (case hl => walk_at "lk"))
  | ((with_reducible refine' st_extend ?hq ?hr ?hl ?_); (case hq => walk_at "hp"); (case hr => walk_at "hp"); (case hl => walk_at "line"))
  | with_reducible refine st_next ?_ | with_reducible refine st_retN ?_ | (with_reducible refine iteNT ?_) | (with_reducible refine iteNF ?_) | (with_reducible refine iteT ?_) | (with_reducible refine iteF ?_))
local macro_rules | `(tactic| walk_at "side") => `(tactic| first | omega | decide | assumption | exact ⟨by omega, by omega⟩ | exact Or.inr ⟨by omega, by omega⟩ | exact Or.inl ⟨by omega, by omega⟩ | (simp only [List.length_map, List.length_cons, List.length_nil, List.length_append] at *; omega))
local macro_rules | `(tactic| walk_at "hp") => `(tactic| first | assumption | exact upd_same | ((with_reducible refine' upd_old ?ho ?hb); (case ho => assumption); (case hb => walk_at "hp")) | (rw [upd_ne (by first | assumption | exact Ne.symm (by assumption))]; walk_at "hp"))
local macro_rules | `(tactic| walk_at "sqL") => `(tactic| first | assumption | exact SqL.of (by walk_at "hp"))
local macro_rules | `(tactic| walk_at "sqT") => `(tactic| first | assumption | exact SqT.of (by walk_at "hp"))
local macro_rules | `(tactic| walk_at "sqb") => `(tactic| (unfold SqB; first | ((with_reducible change SqL _ _ _ _); walk_at "sqL") | ((with_reducible change SqT _ _ _ _); walk_at "sqT")))
local macro_rules | `(tactic| walk_at "line") => `(tactic| first | assumption | decide | (apply line_of; walk_at "side") | (apply line_lt; walk_at "side"))
local macro_rules | `(tactic| walk_at "ty") => `(tactic| ((with_reducible refine' ty_lst ?hq); (case hq => walk_at "hp")))
local macro_rules | `(tactic| walk_at "at") => `(tactic| with_reducible first | assumption | exact at0 | exact at1 | exact at2 | exact at3 | exact at4 | exact at5 | exact at6 | exact at7 | exact at8)
local macro_rules | `(tactic| walk_at "st") => `(tactic| (repeat walk_at "st1"))
local macro_rules | `(tactic| walk_at "lk") => `(tactic| first | with_reducible assumption | rfl)
local macro_rules | `(tactic| walk_at "kd") => `(tactic| first | exact .base (.int _) | exact .base .non | exact .base (.bl _) | exact .base (.str _) | exact .base (.tup (by walk_at "hp")) | exact .base (.lst (by walk_at "hp")) | exact .base (.dK (by walk_at "hp")) | exact .base (.dT (by walk_at "hp")))
local macro_rules | `(tactic| walk_at "kit") => `(tactic| with_reducible first
  | exact kit_NoneType_bool
  | exact kit_NoneType_int
  | exact kit_NoneType_str
  | exact kit_NoneType_tuple
  | exact kit_NoneType_list
  | exact kit_NoneType_dict
  | exact kit_bool_bool
  | exact kit_bool_int
  | exact kit_bool_str
  | exact kit_bool_tuple
  | exact kit_bool_list
  | exact kit_bool_dict
  | exact kit_int_bool
  | exact kit_int_int
  | exact kit_int_str
  | exact kit_int_tuple
  | exact kit_int_list
  | exact kit_int_dict
  | exact kit_str_bool
  | exact kit_str_int
  | exact kit_str_str
  | exact kit_str_tuple
  | exact kit_str_list
  | exact kit_str_dict
  | exact kit_tuple_bool
  | exact kit_tuple_int
  | exact kit_tuple_str
  | exact kit_tuple_tuple
  | exact kit_tuple_list
  | exact kit_tuple_dict
  | exact kit_list_bool
  | exact kit_list_int
  | exact kit_list_str
  | exact kit_list_tuple
  | exact kit_list_list
  | exact kit_list_dict
  | exact kit_dict_bool
  | exact kit_dict_int
  | exact kit_dict_str
  | exact kit_dict_tuple
  | exact kit_dict_list
  | exact kit_dict_dict)
local macro_rules | `(tactic| walk_at "flen") => `(tactic| decide)
local macro_rules | `(tactic| walk_at "puts") => `(tactic| skip)

local macro_rules | `(tactic| walk_at "st1") => `(tactic| first
  | with_reducible refine st_dc ?_ | with_reducible refine st_dgetS ?_ | with_reducible refine st_dinS ?_ | with_reducible refine st_dninS ?_ | with_reducible refine st_dputS ?_ | with_reducible refine st_newT ?_ | with_reducible refine iteNN ?_ | with_reducible refine iteYN ?_
  | ((with_reducible refine' st_getT ?hq ?hk ?hv ?_); (case hq => walk_at "hp"); (case hk => walk_at "key"); (case hv => with_reducible assumption))
  | ((with_reducible refine' st_inT ?hq ?hk ?_); (case hq => walk_at "hp"); (case hk => walk_at "key"))
  | ((with_reducible refine' st_ninT ?hq ?hk ?_); (case hq => walk_at "hp"); (case hk => walk_at "key"))
  | ((with_reducible refine' st_putT ?hq ?hk ?hl ?_); (case hq => walk_at "hp"); (case hk => walk_at "key"); (case hl => walk_at "line"))
  | ((with_reducible refine' st_cputT ?hq ?hk ?hl ?_); (case hq => walk_at "hp"); (case hk => walk_at "key"); (case hl => walk_at "line"))
  | ((with_reducible refine' st_ixB ?hq ?he ?_); (case hq => first | assumption | exact Or.inl (by walk_at "sqL") | exact Or.inr (by walk_at "sqT")); (case he => walk_at "at")))
local macro_rules | `(tactic| walk_at "key") => `(tactic| with_reducible assumption)

local macro_rules | `(tactic| walk_at "lk") => `(tactic| with_reducible first | assumption | exact FlowF_get_params | exact FlowF_get_names | exact FlowF_get_first | exact FlowF_get_rows | exact TextF_get_tables | exact TextF_get_functions | exact TextF_get_flows | exact FlowF_no (by decide +kernel) (by decide +kernel) (by decide +kernel) (by decide +kernel) | exact TextF_no (by decide +kernel) (by decide +kernel) (by decide +kernel))
local macro_rules | `(tactic| walk_at "puts") => `(tactic| try simp only [FlowF_put_params, FlowF_put_names, FlowF_put_first, FlowF_put_rows, TextF_put_tables, TextF_put_functions, TextF_put_flows, FlowF0_put, FlowF1_put, FlowF2_put, FlowF3_put, TextF0_put, TextF1_put, TextF2_put])
local macro_rules | `(tactic| walk_at "flen") => `(tactic| first | with_reducible assumption | with_reducible (first | exact FlowF_len | exact TextF_len | exact FlowF0_len | exact FlowF1_len | exact FlowF2_len | exact FlowF3_len | exact TextF0_len | exact TextF1_len | exact TextF2_len) | decide)
section
variable {Z : Ads} {P : Program} {w : World} {K : PySem.W.Frag} {mg : Str → Option Value} {base : Heap}
/-! ### alike things -/
inductive Eqv (H : Hp) : Nat → V → V → Prop
  | str {n : Nat} (s : Str) : Eqv H n (.str s) (.str s)
  | tup {n : Nat} {a b : Addr} {xs ys : List V} : H a = some (.tup xs) → H b = some (.tup ys) → xs.length = ys.length → xs.length ≤ 1000 → (∀ (i : Nat) (x y : V), xs[i]? = some x → ys[i]? = some y → Eqv H n x y) → Eqv H (n + 1) (.ref a) (.ref b)
  | lst {n : Nat} {a b : Addr} {xs ys : List V} : H a = some (.lst xs) → H b = some (.lst ys) → xs.length = ys.length → xs.length ≤ 1000 → (∀ (i : Nat) (x y : V), xs[i]? = some x → ys[i]? = some y → Eqv H n x y) → Eqv H (n + 1) (.ref a) (.ref b)
theorem Eqv.fr {H H' : Hp} (f : Fr [] H H') {n : Nat} {v u : V} (h : Eqv H n v u) : Eqv H' n v u := by
  induction h with
  | str s => exact .str s
  | tup a b c d _ ih => exact .tup (f.tup _ _ a) (f.tup _ _ b) c d ih
  | lst a b c d _ ih => exact .lst (f.same _ _ a) (f.same _ _ b) c d ih
theorem isi2 {H : Hp} {x : V} {tp : Addr} {Q : VK} {t : String} {b1 b2 b : Bool} (h : H tp = some (.tup [.ty "tuple", .ty "list"])) (hk : TyX K H x (.type t)) (k1 : kitB t "tuple" = some b1) (k2 : kitB t "list" = some b2) (e1 : b1 = true → b = true) (e2 : b1 = false → b = b2) (q : Q (.bl b) H) : rIsiT K [x, .ref tp] H Q := by
  refine ⟨x, tp, _, .type t, [.type "tuple", .type "list"], b, rfl, h, .cons (.ty _) (.cons (.ty _) .nil), hk, kitAny_cons (b := b1) (kit_ty k1) (fun hb => ?_) e1, q⟩
  refine kitAny_cons (b := b2) (kit_ty k2) (fun hb2 => ?_) fun hb2 => ?_
  · rw [kitAny_nil, e2 hb, hb2]
  · rw [e2 hb, hb2]
def spLIs (n : Nat) : Sp := fun vs H Q _ => ∃ (v u : V), vs = [v, u] ∧ Eqv H n v u ∧ ∀ H', Fr [] H H' → Q (.bl true) H'
abbrev s_law_is : Stmt := top 49
theorem sc_law_is : FnScope ["thing", "due", "one", "other"] ["thing", "due"] (defScope s_law_is) := ⟨rfl, rfl, rfl, by decide +kernel, rfl, by decide +kernel, by decide +kernel⟩
theorem step_law_is {f : Addr} {fd : FuncData} (F : Fun K "_law_is" "_law_is" s_law_is f fd) (T : Txt K mg Z) (n : Nat)
    (D_law_is : Dn P w K mg base "_law_is" (0 + n) ["thing", "due"] (fun vs H Q E => ∃ m, m < n ∧ spLIs m vs H Q E)) : FnOk P w K mg base (L2.CX P w) (0 + n + 1) f fd ["thing", "due"] (spLIs n) := by
  refine okN F sc_law_is (fun vs H Q E h => ?_) (fun cdv A outer s0 H vs Q E hr h => ?_)
  · obtain ⟨v, u, rfl, _⟩ := h
    rfl
  · obtain ⟨v, u, rfl, hE, k⟩ := h
    cases hE with
    | str s =>
      refine ⟨_, [some _, some _, none, none], rfl, (pss_cons (ps_if (pt_val (pe_callB (kIsiT (K := K)) (by rfl) T.n_isinstance (by decide +kernel) (pa_cons (pv 1) (pa_cons (pe_tup (pa_cons (pe_ty "tuple" (by rfl) T.n_tuple (by decide +kernel)) (pa_cons (pe_ty "list" (by rfl) T.n_list (by decide +kernel)) pa_nil))) pa_nil)))) (pss_cons (ps_if (PW.pt (pw_or (pt_cmpR op_ne (pe_callB (kIsi (K := K)) (by rfl) T.n_isinstance (by decide +kernel) (pa_cons (pv 0) (pa_cons (pe_ty "tuple" (by rfl) T.n_tuple (by decide +kernel)) pa_nil))) (pe_callB (kIsi (K := K)) (by rfl) T.n_isinstance (by decide +kernel) (pa_cons (pv 1) (pa_cons (pe_ty "tuple" (by rfl) T.n_tuple (by decide +kernel)) pa_nil))) (by first | exact nomark _ | rfl)) (pw_or1 (pt_cmpR op_ne (pe_callB (kIsi (K := K)) (by rfl) T.n_isinstance (by decide +kernel) (pa_cons (pv 0) (pa_cons (pe_ty "list" (by rfl) T.n_list (by decide +kernel)) pa_nil))) (pe_callB (kIsi (K := K)) (by rfl) T.n_isinstance (by decide +kernel) (pa_cons (pv 1) (pa_cons (pe_ty "list" (by rfl) T.n_list (by decide +kernel)) pa_nil))) (by first | exact nomark _ | rfl))))) (pss_one (ps_ret pe_bl)) pss_nil)
      (pss_one (ps_ret (pe_and (pe_cmpR op_eq (pe_callB (kLen (K := K)) (by rfl) T.n_len (by decide +kernel) (pa_cons (pv 0) pa_nil)) (pe_callB (kLen (K := K)) (by rfl) T.n_len (by decide +kernel) (pa_cons (pv 1) pa_nil)) (by first | exact nomark _ | rfl)) (pe_one (pe_callB (kAll (K := K)) (by rfl) T.n_all (by decide +kernel) (pa_cons (pe_lc (own := [("one", 2), ("other", 3)]) (g := (gTup K 2 (gCons (gName 2) (gCons (gName 3) gNil)))) (tt := tYes) rfl sc_law_is.nd (kZip true true (K := K) (by rfl) T.n_zip (pa_cons (pv 0) (pa_cons (pv 1) pa_nil))) (blkOk_by (N := ["thing", "due", "one", "other"]) (sc := defScope s_law_is) (by decide +kernel)) (fun _ _ _ _ _ => (kTupT (K := K) (n := 2) (pgs_cons (pg_name (i := 2) sc_law_is.nd rfl (by first | exact Or.inl rfl | exact Or.inr rfl)) (pgs_cons (pg_name (i := 3) sc_law_is.nd rfl (by first | exact Or.inl rfl | exact Or.inr rfl)) pgs_nil)))) (fun _ _ _ _ _ => pts_nil) (fun _ _ _ _ _ => (pe_d D_law_is E0 (hr.mono (by first | decide | omega)) (by rfl) passL (pa_cons (pv 2) (pa_cons (pv 3) pa_nil))))) pa_nil))))))) pss_nil)
      (pss_cons (ps_if (PW.pt (pw_or (pt_cmp (pc_isN (pv 1))) (pw_or1 (pt_cmp (pc_isN (pv 0)))))) (pss_one (ps_ret (pe_and (pe_cmp (pc_isN (pv 1))) (pe_one (pe_cmp (pc_isN (pv 0))))))) pss_nil)
      (pss_cons (ps_if (PW.pt (pw_or (pt_cmpR op_ne (pe_callB (kIsi (K := K)) (by rfl) T.n_isinstance (by decide +kernel) (pa_cons (pv 0) (pa_cons (pe_ty "bool" (by rfl) T.n_bool (by decide +kernel)) pa_nil))) (pe_callB (kIsi (K := K)) (by rfl) T.n_isinstance (by decide +kernel) (pa_cons (pv 1) (pa_cons (pe_ty "bool" (by rfl) T.n_bool (by decide +kernel)) pa_nil))) (by first | exact nomark _ | rfl)) (pw_or1 (pt_cmpR op_ne (pe_callB (kIsi (K := K)) (by rfl) T.n_isinstance (by decide +kernel) (pa_cons (pv 0) (pa_cons (pe_ty "int" (by rfl) T.n_int (by decide +kernel)) pa_nil))) (pe_callB (kIsi (K := K)) (by rfl) T.n_isinstance (by decide +kernel) (pa_cons (pv 1) (pa_cons (pe_ty "int" (by rfl) T.n_int (by decide +kernel)) pa_nil))) (by first | exact nomark _ | rfl))))) (pss_one (ps_ret pe_bl)) pss_nil)
      (pss_one (ps_ret (pe_and (pe_cmpR op_eq (pe_callB (kIsi (K := K)) (by rfl) T.n_isinstance (by decide +kernel) (pa_cons (pv 0) (pa_cons (pe_ty "str" (by rfl) T.n_str (by decide +kernel)) pa_nil))) (pe_callB (kIsi (K := K)) (by rfl) T.n_isinstance (by decide +kernel) (pa_cons (pv 1) (pa_cons (pe_ty "str" (by rfl) T.n_str (by decide +kernel)) pa_nil))) (by first | exact nomark _ | rfl)) (pe_one (pe_cmpR op_eq (pv 0) (pv 1) (by first | exact nomark _ | rfl))))))))), ?_⟩
      walk_at "st"
      intro p hp
      have fp := Fr.up (ms := []) (o := .tup [.ty "tuple", .ty "list"]) hp
      walk_at "st"
      refine isi2 upd_same (t := "str") (.base (.str _)) kit_str_tuple kit_str_list (fun h => nomatch h) (fun _ => rfl) ?_
      walk_at "st"
      refine iteD (fun h => nomatch h) (fun _ => ?_)
      walk_at "st"
      refine iteD (fun h => nomatch h) (fun _ => ?_)
      walk_at "st"
      refine iteDN (fun _ => ?_) (fun h => absurd rfl h)
      walk_at "st"
      refine iteDN (fun _ => ?_) (fun h => absurd rfl h)
      walk_at "st"
      refine iteD (fun _ => ?_) (fun h => absurd rfl h)
      walk_at "st"
      rw [decide_eq_true rfl]
      exact k _ fp
    | @tup n a b xs ys ha hb hl hl9 hx =>
      refine ⟨_, [some _, some _, none, none], rfl, (pss_cons (ps_if (pt_val (pe_callB (kIsiT (K := K)) (by rfl) T.n_isinstance (by decide +kernel) (pa_cons (pv 1) (pa_cons (pe_tup (pa_cons (pe_ty "tuple" (by rfl) T.n_tuple (by decide +kernel)) (pa_cons (pe_ty "list" (by rfl) T.n_list (by decide +kernel)) pa_nil))) pa_nil)))) (pss_cons (ps_if (PW.pt (pw_or (pt_cmpR op_ne (pe_callB (kIsi (K := K)) (by rfl) T.n_isinstance (by decide +kernel) (pa_cons (pv 0) (pa_cons (pe_ty "tuple" (by rfl) T.n_tuple (by decide +kernel)) pa_nil))) (pe_callB (kIsi (K := K)) (by rfl) T.n_isinstance (by decide +kernel) (pa_cons (pv 1) (pa_cons (pe_ty "tuple" (by rfl) T.n_tuple (by decide +kernel)) pa_nil))) (by first | exact nomark _ | rfl)) (pw_or1 (pt_cmpR op_ne (pe_callB (kIsi (K := K)) (by rfl) T.n_isinstance (by decide +kernel) (pa_cons (pv 0) (pa_cons (pe_ty "list" (by rfl) T.n_list (by decide +kernel)) pa_nil))) (pe_callB (kIsi (K := K)) (by rfl) T.n_isinstance (by decide +kernel) (pa_cons (pv 1) (pa_cons (pe_ty "list" (by rfl) T.n_list (by decide +kernel)) pa_nil))) (by first | exact nomark _ | rfl))))) (pss_one (ps_ret pe_bl)) pss_nil)
      (pss_one (ps_ret (pe_and (pe_cmpR op_eq (pe_callB (kLen (K := K)) (by rfl) T.n_len (by decide +kernel) (pa_cons (pv 0) pa_nil)) (pe_callB (kLen (K := K)) (by rfl) T.n_len (by decide +kernel) (pa_cons (pv 1) pa_nil)) (by first | exact nomark _ | rfl)) (pe_one (pe_callB (kAll (K := K)) (by rfl) T.n_all (by decide +kernel) (pa_cons (pe_lc (own := [("one", 2), ("other", 3)]) (g := (gTup K 2 (gCons (gName 2) (gCons (gName 3) gNil)))) (tt := tYes) rfl sc_law_is.nd (kZip true true (K := K) (by rfl) T.n_zip (pa_cons (pv 0) (pa_cons (pv 1) pa_nil))) (blkOk_by (N := ["thing", "due", "one", "other"]) (sc := defScope s_law_is) (by decide +kernel)) (fun _ _ _ _ _ => (kTupT (K := K) (n := 2) (pgs_cons (pg_name (i := 2) sc_law_is.nd rfl (by first | exact Or.inl rfl | exact Or.inr rfl)) (pgs_cons (pg_name (i := 3) sc_law_is.nd rfl (by first | exact Or.inl rfl | exact Or.inr rfl)) pgs_nil)))) (fun _ _ _ _ _ => pts_nil) (fun _ _ _ _ _ => (pe_d D_law_is E0 (hr.mono (by first | decide | omega)) (by rfl) passL (pa_cons (pv 2) (pa_cons (pv 3) pa_nil))))) pa_nil))))))) pss_nil)
      (pss_cons (ps_if (PW.pt (pw_or (pt_cmp (pc_isN (pv 1))) (pw_or1 (pt_cmp (pc_isN (pv 0)))))) (pss_one (ps_ret (pe_and (pe_cmp (pc_isN (pv 1))) (pe_one (pe_cmp (pc_isN (pv 0))))))) pss_nil)
      (pss_cons (ps_if (PW.pt (pw_or (pt_cmpR op_ne (pe_callB (kIsi (K := K)) (by rfl) T.n_isinstance (by decide +kernel) (pa_cons (pv 0) (pa_cons (pe_ty "bool" (by rfl) T.n_bool (by decide +kernel)) pa_nil))) (pe_callB (kIsi (K := K)) (by rfl) T.n_isinstance (by decide +kernel) (pa_cons (pv 1) (pa_cons (pe_ty "bool" (by rfl) T.n_bool (by decide +kernel)) pa_nil))) (by first | exact nomark _ | rfl)) (pw_or1 (pt_cmpR op_ne (pe_callB (kIsi (K := K)) (by rfl) T.n_isinstance (by decide +kernel) (pa_cons (pv 0) (pa_cons (pe_ty "int" (by rfl) T.n_int (by decide +kernel)) pa_nil))) (pe_callB (kIsi (K := K)) (by rfl) T.n_isinstance (by decide +kernel) (pa_cons (pv 1) (pa_cons (pe_ty "int" (by rfl) T.n_int (by decide +kernel)) pa_nil))) (by first | exact nomark _ | rfl))))) (pss_one (ps_ret pe_bl)) pss_nil)
      (pss_one (ps_ret (pe_and (pe_cmpR op_eq (pe_callB (kIsi (K := K)) (by rfl) T.n_isinstance (by decide +kernel) (pa_cons (pv 0) (pa_cons (pe_ty "str" (by rfl) T.n_str (by decide +kernel)) pa_nil))) (pe_callB (kIsi (K := K)) (by rfl) T.n_isinstance (by decide +kernel) (pa_cons (pv 1) (pa_cons (pe_ty "str" (by rfl) T.n_str (by decide +kernel)) pa_nil))) (by first | exact nomark _ | rfl)) (pe_one (pe_cmpR op_eq (pv 0) (pv 1) (by first | exact nomark _ | rfl))))))))), ?_⟩
      walk_at "st"
      intro p hp
      have fp := Fr.up (ms := []) (o := .tup [.ty "tuple", .ty "list"]) hp
      walk_at "st"
      refine isi2 upd_same (t := "tuple") (.base (.tup (fp.tup _ _ hb))) kit_tuple_tuple kit_tuple_list (fun _ => rfl) (fun h => nomatch h) ?_
      have ha1 := fp.tup _ _ ha
      have hb1 := fp.tup _ _ hb
      clear ha hb
      generalize upd H p (.tup [.ty "tuple", .ty "list"]) = H1 at fp ha1 hb1 ⊢
      walk_at "st"
      refine iteDN (fun _ => ?_) (fun h => absurd rfl h)
      walk_at "st"
      refine iteDN (fun _ => ?_) (fun h => absurd rfl h)
      walk_at "st"
      refine iteD (fun _ => ?_) (fun h => absurd (by rw [hl]) h)
      walk_at "st"
      intro D hD
      refine lc_it (walkZ (n := xs.length) (by omega)) (fun i H' => Fr [] H1 H' ∧ H' D = some (.lst ((List.replicate i true).map V.bl))) ⟨Fr.up hD, upd_same⟩ (fun i H' _ h => ⟨SqT.of (h.1.tup _ _ ha1), SqT.of (h.1.tup _ _ hb1)⟩) ?_ ?_
      · rintro i x H2 H3 hi ⟨f2, e2⟩ ⟨t, y, z, rfl, ht, rfl, hy, hz⟩
        have hyz := (hx i y z hy hz).fr (fp.trans f2)
        have ft := Fr.up (ms := []) (o := .tup [y, z]) ht
        walk_at "st"
        refine ⟨n, by omega, y, z, rfl, hyz.fr ft, fun H4 f4 => ?_⟩
        have e4 := f4.same _ _ (ft.same _ _ e2)
        refine ⟨_, e4, line_lt (by simp; omega), ((f2.trans ft).trans f4).wl e4 (.inr hD), ?_⟩
        rw [upd_same, List.replicate_succ', List.map_append]
        rfl
      · rintro H2 ⟨f2, e2⟩
        walk_at "st"
        refine st_all (SqL.of e2) ?_
        rw [show ∀ n, (List.replicate n true).all id = true from fun n => by simp]
        exact k _ (fp.trans f2)
    | @lst n a b xs ys ha hb hl hl9 hx =>
      refine ⟨_, [some _, some _, none, none], rfl, (pss_cons (ps_if (pt_val (pe_callB (kIsiT (K := K)) (by rfl) T.n_isinstance (by decide +kernel) (pa_cons (pv 1) (pa_cons (pe_tup (pa_cons (pe_ty "tuple" (by rfl) T.n_tuple (by decide +kernel)) (pa_cons (pe_ty "list" (by rfl) T.n_list (by decide +kernel)) pa_nil))) pa_nil)))) (pss_cons (ps_if (PW.pt (pw_or (pt_cmpR op_ne (pe_callB (kIsi (K := K)) (by rfl) T.n_isinstance (by decide +kernel) (pa_cons (pv 0) (pa_cons (pe_ty "tuple" (by rfl) T.n_tuple (by decide +kernel)) pa_nil))) (pe_callB (kIsi (K := K)) (by rfl) T.n_isinstance (by decide +kernel) (pa_cons (pv 1) (pa_cons (pe_ty "tuple" (by rfl) T.n_tuple (by decide +kernel)) pa_nil))) (by first | exact nomark _ | rfl)) (pw_or1 (pt_cmpR op_ne (pe_callB (kIsi (K := K)) (by rfl) T.n_isinstance (by decide +kernel) (pa_cons (pv 0) (pa_cons (pe_ty "list" (by rfl) T.n_list (by decide +kernel)) pa_nil))) (pe_callB (kIsi (K := K)) (by rfl) T.n_isinstance (by decide +kernel) (pa_cons (pv 1) (pa_cons (pe_ty "list" (by rfl) T.n_list (by decide +kernel)) pa_nil))) (by first | exact nomark _ | rfl))))) (pss_one (ps_ret pe_bl)) pss_nil)
      (pss_one (ps_ret (pe_and (pe_cmpR op_eq (pe_callB (kLen (K := K)) (by rfl) T.n_len (by decide +kernel) (pa_cons (pv 0) pa_nil)) (pe_callB (kLen (K := K)) (by rfl) T.n_len (by decide +kernel) (pa_cons (pv 1) pa_nil)) (by first | exact nomark _ | rfl)) (pe_one (pe_callB (kAll (K := K)) (by rfl) T.n_all (by decide +kernel) (pa_cons (pe_lc (own := [("one", 2), ("other", 3)]) (g := (gTup K 2 (gCons (gName 2) (gCons (gName 3) gNil)))) (tt := tYes) rfl sc_law_is.nd (kZip false false (K := K) (by rfl) T.n_zip (pa_cons (pv 0) (pa_cons (pv 1) pa_nil))) (blkOk_by (N := ["thing", "due", "one", "other"]) (sc := defScope s_law_is) (by decide +kernel)) (fun _ _ _ _ _ => (kTupT (K := K) (n := 2) (pgs_cons (pg_name (i := 2) sc_law_is.nd rfl (by first | exact Or.inl rfl | exact Or.inr rfl)) (pgs_cons (pg_name (i := 3) sc_law_is.nd rfl (by first | exact Or.inl rfl | exact Or.inr rfl)) pgs_nil)))) (fun _ _ _ _ _ => pts_nil) (fun _ _ _ _ _ => (pe_d D_law_is E0 (hr.mono (by first | decide | omega)) (by rfl) passL (pa_cons (pv 2) (pa_cons (pv 3) pa_nil))))) pa_nil))))))) pss_nil)
      (pss_cons (ps_if (PW.pt (pw_or (pt_cmp (pc_isN (pv 1))) (pw_or1 (pt_cmp (pc_isN (pv 0)))))) (pss_one (ps_ret (pe_and (pe_cmp (pc_isN (pv 1))) (pe_one (pe_cmp (pc_isN (pv 0))))))) pss_nil)
      (pss_cons (ps_if (PW.pt (pw_or (pt_cmpR op_ne (pe_callB (kIsi (K := K)) (by rfl) T.n_isinstance (by decide +kernel) (pa_cons (pv 0) (pa_cons (pe_ty "bool" (by rfl) T.n_bool (by decide +kernel)) pa_nil))) (pe_callB (kIsi (K := K)) (by rfl) T.n_isinstance (by decide +kernel) (pa_cons (pv 1) (pa_cons (pe_ty "bool" (by rfl) T.n_bool (by decide +kernel)) pa_nil))) (by first | exact nomark _ | rfl)) (pw_or1 (pt_cmpR op_ne (pe_callB (kIsi (K := K)) (by rfl) T.n_isinstance (by decide +kernel) (pa_cons (pv 0) (pa_cons (pe_ty "int" (by rfl) T.n_int (by decide +kernel)) pa_nil))) (pe_callB (kIsi (K := K)) (by rfl) T.n_isinstance (by decide +kernel) (pa_cons (pv 1) (pa_cons (pe_ty "int" (by rfl) T.n_int (by decide +kernel)) pa_nil))) (by first | exact nomark _ | rfl))))) (pss_one (ps_ret pe_bl)) pss_nil)
      (pss_one (ps_ret (pe_and (pe_cmpR op_eq (pe_callB (kIsi (K := K)) (by rfl) T.n_isinstance (by decide +kernel) (pa_cons (pv 0) (pa_cons (pe_ty "str" (by rfl) T.n_str (by decide +kernel)) pa_nil))) (pe_callB (kIsi (K := K)) (by rfl) T.n_isinstance (by decide +kernel) (pa_cons (pv 1) (pa_cons (pe_ty "str" (by rfl) T.n_str (by decide +kernel)) pa_nil))) (by first | exact nomark _ | rfl)) (pe_one (pe_cmpR op_eq (pv 0) (pv 1) (by first | exact nomark _ | rfl))))))))), ?_⟩
      walk_at "st"
      intro p hp
      have fp := Fr.up (ms := []) (o := .tup [.ty "tuple", .ty "list"]) hp
      walk_at "st"
      refine isi2 upd_same (t := "list") (.base (.lst (fp.same _ _ hb))) kit_list_tuple kit_list_list (fun h => nomatch h) (fun _ => rfl) ?_
      have ha1 := fp.same _ _ ha
      have hb1 := fp.same _ _ hb
      clear ha hb
      generalize upd H p (.tup [.ty "tuple", .ty "list"]) = H1 at fp ha1 hb1 ⊢
      walk_at "st"
      refine iteDN (fun _ => ?_) (fun h => absurd rfl h)
      walk_at "st"
      refine iteDN (fun _ => ?_) (fun h => absurd rfl h)
      walk_at "st"
      refine iteD (fun _ => ?_) (fun h => absurd (by rw [hl]) h)
      walk_at "st"
      intro D hD
      refine lc_it (walkZ (n := xs.length) (by omega)) (fun i H' => Fr [] H1 H' ∧ H' D = some (.lst ((List.replicate i true).map V.bl))) ⟨Fr.up hD, upd_same⟩ (fun i H' _ h => ⟨SqL.of (h.1.same _ _ ha1), SqL.of (h.1.same _ _ hb1)⟩) ?_ ?_
      · rintro i x H2 H3 hi ⟨f2, e2⟩ ⟨t, y, z, rfl, ht, rfl, hy, hz⟩
        have hyz := (hx i y z hy hz).fr (fp.trans f2)
        have ft := Fr.up (ms := []) (o := .tup [y, z]) ht
        walk_at "st"
        refine ⟨n, by omega, y, z, rfl, hyz.fr ft, fun H4 f4 => ?_⟩
        have e4 := f4.same _ _ (ft.same _ _ e2)
        refine ⟨_, e4, line_lt (by simp; omega), ((f2.trans ft).trans f4).wl e4 (.inr hD), ?_⟩
        rw [upd_same, List.replicate_succ', List.map_append]
        rfl
      · rintro H2 ⟨f2, e2⟩
        walk_at "st"
        refine st_all (SqL.of e2) ?_
        rw [show ∀ n, (List.replicate n true).all id = true from fun n => by simp]
        exact k _ (fp.trans f2)
def spLDeep : Sp := fun vs H Q _ => ∃ (h c : Addr), vs = [.ref h] ∧ Hand H h c ∧ ∀ H' a xs, (H' a = some (.tup xs) ∨ (H' a = some (.lst xs) ∧ a ≠ h ∧ a ≠ c)) → Hand H' h c → Fr [h] H H' → Q (.ref a) H'
abbrev s_law_deep : Stmt := top 51
theorem sc_law_deep : FnScope ["hand", "thing", "turn"] ["hand"] (defScope s_law_deep) := ⟨rfl, rfl, rfl, by decide +kernel, rfl, by decide +kernel, by decide +kernel⟩
theorem ok_law_deep {f : Addr} {fd : FuncData} (F : Fun K "_law_deep" "_law_deep" s_law_deep f fd) (T : Txt K mg Z) (D_law_draw : Dn P w K mg base "_law_draw" 1 ["hand", "span"] spDraw) (D_law_some : Dn P w K mg base "_law_some" 2 ["hand", "things"] (spSome K)) : FnOk P w K mg base (L2.CX P w) 3 f fd ["hand"] spLDeep := by
  refine okN F sc_law_deep (fun vs H Q E h => ?_) (fun cdv A outer s0 H vs Q E hr h => ?_)
  · obtain ⟨h, c, rfl, _⟩ := h
    rfl
  · obtain ⟨h, c, rfl, hH, k⟩ := h
    refine ⟨_, [some _, none, none], rfl, (pss_cons (ps_set (i := 1) sc_law_deep.nd rfl (by first | exact Or.inl rfl | exact Or.inr rfl) (pe_d D_law_some E0 (hr.mono (by first | decide | omega)) (by rfl) passL (pa_cons (pv 0) (pa_cons (pe_lst (pa_cons pe_non (pa_cons (pe_un un_neg pe_int) (pa_cons pe_str pa_nil)))) pa_nil))))
      (pss_cons (ps_for PassesOwn.never rfl (pi_range1 (by rfl) T.n_range (pa_cons (pe_op op_add pe_int (pe_d D_law_draw E0 (hr.mono (by first | decide | omega)) (by rfl) passL (pa_cons (pv 0) (pa_cons pe_int pa_nil)))) pa_nil)) (pg_name (i := 2) sc_law_deep.nd rfl (by first | exact Or.inl rfl | exact Or.inr rfl))
      (pss_one (ps_set (i := 1) sc_law_deep.nd rfl (by first | exact Or.inl rfl | exact Or.inr rfl) (pe_d D_law_some E0 (hr.mono (by first | decide | omega)) (by rfl) passL (pa_cons (pv 0) (pa_cons (pe_lst (pa_cons (pe_tup (pa_cons (pv 1) pa_nil)) (pa_cons (pe_lst (pa_cons (pv 1) pa_nil)) pa_nil))) pa_nil))))))
      (pss_one (ps_ret (pv 1))))), ?_⟩
    walk_at "st"
    intro u hu
    have fu := Fr.up (ms := []) (o := .lst [.non, .int (-1), .str "A"]) hu
    walk_at "st"
    refine ⟨h, c, u, _, rfl, hH.keep fu, .inr ⟨upd_same, hH.out hu⟩, by decide, by decide, fun H1 v _ hH1 f1 => ?_⟩
    have F1 : Fr [h] H H1 := (fu.mono (by simp)).trans f1
    walk_at "st"
    refine ⟨h, c, 20, rfl, hH1, by decide, by decide, fun H2 n n0 n9 hH2 f2 => ?_⟩
    walk_at "st"
    refine for_it walk_range (fun i σ H' => ∃ v o, σ = [some (.ref h), some v, o] ∧ Hand H' h c ∧ Fr [h] H H' ∧ (0 < i → ∃ a xs, v = .ref a ∧ (H' a = some (.tup xs) ∨ (H' a = some (.lst xs) ∧ a ≠ h ∧ a ≠ c)))) ⟨v, none, rfl, hH2, F1.trans f2, fun h => absurd h (by omega)⟩ (fun _ _ _ _ _ => trivial) ?_ ?_
    · rintro i y σ H3 H4 hi ⟨v, o, rfl, hH3, f3, _⟩ ⟨rfl, rfl⟩
      walk_at "st"
      intro p1 hp1
      have fp1 := Fr.up (ms := []) (o := .tup [v]) hp1
      walk_at "st"
      intro p2 hp2
      have fp2 := Fr.up (ms := []) (o := .lst [v]) hp2
      have np2 := (hH3.keep fp1).out hp2
      walk_at "st"
      intro p3 hp3
      have fp3 := Fr.up (ms := []) (o := .lst [.ref p1, .ref p2]) hp3
      have hH5 := ((hH3.keep fp1).keep fp2).keep fp3
      have np3 := ((hH3.keep fp1).keep fp2).out hp3
      have e3 : upd (upd (upd H4 p1 (.tup [v])) p2 (.lst [v])) p3 (.lst [.ref p1, .ref p2]) p3 = some (.lst [.ref p1, .ref p2]) := upd_same
      have e1 := fp3.tup _ _ (fp2.tup p1 [v] upd_same)
      have e2 := fp3.same p2 (.lst [v]) upd_same
      have F5 := f3.trans ((((fp1.trans fp2).trans fp3)).mono (ns := [h]) (by simp))
      generalize upd (upd (upd H4 p1 (.tup [v])) p2 (.lst [v])) p3 (.lst [.ref p1, .ref p2]) = H5 at hH5 e3 e1 e2 F5 ⊢
      walk_at "st"
      refine ⟨h, c, p3, _, rfl, hH5, .inr ⟨e3, np3⟩, Nat.zero_lt_succ _, (show 2 < 1000 by decide), fun H6 x hx hH6 f6 => ?_⟩
      walk_at "st"
      refine ⟨_, _, rfl, hH6, F5.trans f6, fun _ => ?_⟩
      simp only [List.mem_cons, List.not_mem_nil, or_false] at hx
      rcases hx with rfl | rfl
      · exact ⟨p1, [v], rfl, .inl (f6.tup _ _ e1)⟩
      · exact ⟨p2, [v], rfl, .inr ⟨f6.keep _ _ (by simpa using np2.1) e2, np2⟩⟩
    · rintro σ H3 ⟨v, o, rfl, hH3, f3, hv⟩
      obtain ⟨a, xs, rfl, ha⟩ := hv (by omega)
      walk_at "st"
      exact k _ a xs ha hH3 f3
end

end K03

namespace K03
open PySem PySem.Spec PyProof.Rows L2 Hq
local macro_rules | `(tactic| walk_at "st1") => `(tactic| first
  | with_reducible refine st_seq ?_ | with_reducible refine st_ret ?_ | with_reducible refine st_ifS ?_ | with_reducible refine st_asg ?_ | with_reducible refine st_drop ?_
  | ((with_reducible refine' st_var ?hv ?_); (case hv => rfl)) | with_reducible refine st_c ?_ | with_reducible refine st_op ?_ | with_reducible refine st_un ?_
  | with_reducible refine st_I0 ?_ | with_reducible refine st_U ?_ | ((with_reducible refine' st_I ?hc ?_); (case hc => walk_at "side"))
  | ((with_reducible refine' st_eq ?hs ?_); (case hs => rfl)) | ((with_reducible refine' st_ne ?hs ?_); (case hs => rfl))
  | with_reducible refine st_test ?_ | with_reducible refine st_B ?_ | with_reducible refine st_bl ?_ | with_reducible refine st_isN ?_ | with_reducible refine st_notN ?_
  | with_reducible refine st_chain ?_ | with_reducible refine st_and ?_ | with_reducible refine st_or ?_ | with_reducible refine st_not ?_
  | with_reducible refine st_andV ?_ | with_reducible refine st_orV ?_ | with_reducible refine st_notV ?_ | with_reducible refine st_if ?_
  | with_reducible refine st_CB ?_ | with_reducible refine st_cons ?_ | with_reducible refine st_nil ?_ | with_reducible refine st_fld ?_
  | ((with_reducible refine st_tup ?_)) | ((with_reducible refine st_lst ?_))
  | with_reducible refine st_call ?_ | with_reducible refine st_meth ?_ | with_reducible refine st_make ?_
  | with_reducible refine st_sl ?_ | with_reducible refine st_noPart ?_ | with_reducible refine st_part ?_ | with_reducible refine st_int ?_
  | ((with_reducible refine' st_ixL ?hq ?he ?_); (case hq => walk_at "sqL"); (case he => walk_at "at"))
  | ((with_reducible refine' st_ixT ?hq ?he ?_); (case hq => walk_at "sqT"); (case he => walk_at "at"))
  | with_reducible refine st_bm ?_ | with_reducible refine st_app ?_
  | ((with_reducible refine' st_append ?hq ?hl ?_); (case hq => walk_at "hp"); (case hl => walk_at "line"))
  | ((with_reducible refine' st_len (n := 0) ?hq ?_); (case hq => first | exact Or.inl (by walk_at "sqL") | exact Or.inr (by walk_at "sqT")))
  | ((with_reducible refine' st_listOf ?hq ?_); (case hq => first | exact Or.inl (by walk_at "sqL") | exact Or.inr (by walk_at "sqT")))
  | ((with_reducible refine st_name ?_); (try dsimp only [List.set_cons_zero, List.set_cons_succ])) | with_reducible refine st_par ?_
  | with_reducible refine st_gcons ?_ | with_reducible refine st_gnil ?_ | with_reducible refine st_gsub ?_ | with_reducible refine st_sFld ?_
  | ((with_reducible refine' st_gtup ?hq ?hl ?_); (case hq => walk_at "sqT"); (case hl => rfl))
  | ((with_reducible refine' st_setL ?hq ?hl ?_); (case hq => walk_at "hp"); (case hl => first | rfl | exact ix0 | exact ixN_nat (by assumption)); (try simp only [Int.reduceToNat, List.set_cons_zero, List.set_cons_succ]))
  | with_reducible refine st_intI ?_ | with_reducible refine st_abs ?_
  | ((with_reducible refine' st_popAt ?hq ?hk ?hy ?_); (case hq => walk_at "hp"); (case hk => exact seq0); (case hy => rfl))
  | ((with_reducible refine' and_left ?ht ?_); (case ht => walk_at "ty"))
  | with_reducible refine st_lc ?_ | with_reducible refine st_for ?_ | with_reducible refine st_iL ?_ | with_reducible refine st_iT ?_ | with_reducible refine st_iR1 ?_ | with_reducible refine st_iR2 ?_ | with_reducible refine st_iZ ?_
  | ((with_reducible refine' st_refL ?hq ?_); (case hq => walk_at "sqL")) | ((with_reducible refine' st_refT ?hq ?_); (case hq => walk_at "sqT"))
  | ((with_reducible refine' st_rng1 ?hq ?_); (case hq => walk_at "side")) | ((with_reducible refine' st_rng2 ?hq ?_); (case hq => walk_at "side"))
  | ((with_reducible refine' st_zip ?hq ?hr ?_); (case hq => walk_at "sqb"); (case hr => walk_at "sqb"))
  | ((with_reducible refine' st_size ?hw ?_); (case hw => walk_at "line"))
  | ((with_reducible refine' st_sum ?hq ?_); (case hq => walk_at "sqL"))
  | with_reducible refine st_two ?_ | with_reducible refine st_yes ?_ | ((with_reducible refine' st_wipe ?hw ?_); (case hw => rfl))
  | ((with_reducible refine' st_slL ?hq ?_); (case hq => walk_at "sqL"))
  | ((with_reducible refine' st_cat ?hq ?hr ?hl ?_); (case hq => walk_at "hp"); (case hr => walk_at "hp"); (case hl => walk_at "line"))
  | ((with_reducible refine' st_isi ?hk ?he ?_); (case hk => walk_at "kd"); (case he => walk_at "kit"))
  | ((with_reducible refine' st_ins ?hq ?hc ?hn ?hl ?_); (case hq => walk_at "hp"); (case hc => with_reducible assumption); (case hn => with_reducible assumption); (case hl => walk_at "flen"); walk_at "puts")
  | ((with_reducible refine' st_att ?hq ?hc ?hn ?hl ?_); (case hq => walk_at "hp"); (case hc => with_reducible assumption); (case hn => with_reducible assumption); (case hl => walk_at "lk"))
  | ((with_reducible refine' st_mt ?hq ?hl ?_); (case hq => walk_at "hp"); (case hl => walk_at "lk"))
  | ((with_reducible refine' st_extend ?hq ?hr ?hl ?_); (case hq => walk_at "hp"); (case hr => walk_at "hp"); (case hl => walk_at "line"))
  | with_reducible refine st_next ?_ | with_reducible refine st_retN ?_ | (with_reducible refine iteNT ?_) | (with_reducible refine iteNF ?_) | (with_reducible refine iteT ?_) | (with_reducible refine iteF ?_))
local macro_rules | `(tactic| walk_at "side") => `(tactic| first | omega | decide | assumption | exact ⟨by omega, by omega⟩ | exact Or.inr ⟨by omega, by omega⟩ | exact Or.inl ⟨by omega, by omega⟩ | (simp only [List.length_map, List.length_cons, List.length_nil, List.length_append] at *; omega))
local macro_rules | `(tactic| walk_at "hp") => `(tactic| first | assumption | exact upd_same | ((with_reducible refine' upd_old ?ho ?hb); (case ho => assumption); (case hb => walk_at "hp")) | (rw [upd_ne (by first | assumption | exact Ne.symm (by assumption))]; walk_at "hp"))
local macro_rules | `(tactic| walk_at "sqL") => `(tactic| first | assumption | exact SqL.of (by walk_at "hp"))
local macro_rules | `(tactic| walk_at "sqT") => `(tactic| first | assumption | exact SqT.of (by walk_at "hp"))
local macro_rules | `(tactic| walk_at "sqb") => `(tactic| (unfold SqB; first | ((with_reducible change SqL _ _ _ _); walk_at "sqL") | ((with_reducible change SqT _ _ _ _); walk_at "sqT")))
local macro_rules | `(tactic| walk_at "line") => `(tactic| first | assumption | decide | (apply line_of; walk_at "side") | (apply line_lt; walk_at "side"))
local macro_rules | `(tactic| walk_at "ty") => `(tactic| ((with_reducible refine' ty_lst ?hq); (case hq => walk_at "hp")))
local macro_rules | `(tactic| walk_at "at") => `(tactic| with_reducible first | assumption | exact at0 | exact at1 | exact at2 | exact at3 | exact at4 | exact at5 | exact at6 | exact at7 | exact at8)
local macro_rules | `(tactic| walk_at "st") => `(tactic| (repeat walk_at "st1"))
local macro_rules | `(tactic| walk_at "lk") => `(tactic| first | with_reducible assumption | rfl)
local macro_rules | `(tactic| walk_at "kd") => `(tactic| first | exact .base (.int _) | exact .base .non | exact .base (.bl _) | exact .base (.str _) | exact .base (.tup (by walk_at "hp")) | exact .base (.lst (by walk_at "hp")) | exact .base (.dK (by walk_at "hp")) | exact .base (.dT (by walk_at "hp")))
local macro_rules | `(tactic| walk_at "kit") => `(tactic| with_reducible first
  | exact kit_NoneType_bool
  | exact kit_NoneType_int
  | exact kit_NoneType_str
  | exact kit_NoneType_tuple
  | exact kit_NoneType_list
  | exact kit_NoneType_dict
  | exact kit_bool_bool
  | exact kit_bool_int
  | exact kit_bool_str
  | exact kit_bool_tuple
  | exact kit_bool_list
  | exact kit_bool_dict
  | exact kit_int_bool
  | exact kit_int_int
  | exact kit_int_str
  | exact kit_int_tuple
  | exact kit_int_list
  | exact kit_int_dict
  | exact kit_str_bool
  | exact kit_str_int
  | exact kit_str_str
  | exact kit_str_tuple
  | exact kit_str_list
  | exact kit_str_dict
  | exact kit_tuple_bool
  | exact kit_tuple_int
  | exact kit_tuple_str
  | exact kit_tuple_tuple
  | exact kit_tuple_list
  | exact kit_tuple_dict
  | exact kit_list_bool
  | exact kit_list_int
  | exact kit_list_str
  | exact kit_list_tuple
  | exact kit_list_list
  | exact kit_list_dict
  | exact kit_dict_bool
  | exact kit_dict_int
  | exact kit_dict_str
  | exact kit_dict_tuple
  | exact kit_dict_list
  | exact kit_dict_dict)
local macro_rules | `(tactic| walk_at "flen") => `(tactic| decide)
local macro_rules | `(tactic| walk_at "puts") => `(tactic| skip)

local macro_rules | `(tactic| walk_at "st1") => `(tactic| first
  | with_reducible refine st_dc ?_ | with_reducible refine st_dgetS ?_ | with_reducible refine st_dinS ?_ | with_reducible refine st_dninS ?_ | with_reducible refine st_dputS ?_ | with_reducible refine st_newT ?_ | with_reducible refine iteNN ?_ | with_reducible refine iteYN ?_
  | ((with_reducible refine' st_getT ?hq ?hk ?hv ?_); (case hq => walk_at "hp"); (case hk => walk_at "key"); (case hv => with_reducible assumption))
  | ((with_reducible refine' st_inT ?hq ?hk ?_); (case hq => walk_at "hp"); (case hk => walk_at "key"))
  | ((with_reducible refine' st_ninT ?hq ?hk ?_); (case hq => walk_at "hp"); (case hk => walk_at "key"))
  | ((with_reducible refine' st_putT ?hq ?hk ?hl ?_); (case hq => walk_at "hp"); (case hk => walk_at "key"); (case hl => walk_at "line"))
  | ((with_reducible refine' st_cputT ?hq ?hk ?hl ?_); (case hq => walk_at "hp"); (case hk => walk_at "key"); (case hl => walk_at "line"))
  | ((with_reducible refine' st_ixB ?hq ?he ?_); (case hq => first | assumption | exact Or.inl (by walk_at "sqL") | exact Or.inr (by walk_at "sqT")); (case he => walk_at "at")))
local macro_rules | `(tactic| walk_at "key") => `(tactic| with_reducible assumption)

local macro_rules | `(tactic| walk_at "lk") => `(tactic| with_reducible first | assumption | exact FlowF_get_params | exact FlowF_get_names | exact FlowF_get_first | exact FlowF_get_rows | exact TextF_get_tables | exact TextF_get_functions | exact TextF_get_flows | exact FlowF_no (by decide +kernel) (by decide +kernel) (by decide +kernel) (by decide +kernel) | exact TextF_no (by decide +kernel) (by decide +kernel) (by decide +kernel))
local macro_rules | `(tactic| walk_at "puts") => `(tactic| try simp only [FlowF_put_params, FlowF_put_names, FlowF_put_first, FlowF_put_rows, TextF_put_tables, TextF_put_functions, TextF_put_flows, FlowF0_put, FlowF1_put, FlowF2_put, FlowF3_put, TextF0_put, TextF1_put, TextF2_put])
local macro_rules | `(tactic| walk_at "flen") => `(tactic| first | with_reducible assumption | with_reducible (first | exact FlowF_len | exact TextF_len | exact FlowF0_len | exact FlowF1_len | exact FlowF2_len | exact FlowF3_len | exact TextF0_len | exact TextF1_len | exact TextF2_len) | decide)
section
variable {Z : Ads} {P : Program} {w : World} {K : PySem.W.Frag} {mg : Str → Option Value} {base : Heap}
/-! ### names that stand in one place alone -/
theorem made {H H2 : Hp} {C x dx : Addr} (hx : H x = none) (hdx : H dx = none) (n : dx ≠ x) (f : Fr [x] (upd (upd H dx (.own x)) x (.ins C dx [])) H2) : Fr [] H H2 := by
  have f1 : Fr [] H _ := ((Fr.refl H).new (o := .own x) hdx).new (o := .ins C dx []) (by rw [upd_ne n.symm]; exact hx)
  exact ((f1.mono (ns := [] ++ [x]) (by simp)).trans (f.mono (by simp))).cut (fun b hb => by rw [List.mem_singleton.mp hb]; exact hx)
def ns1 : List Str := ["only"]
def ts1 : List Str := ["t"]
def os1 : List (Str × Nat) := [("f", 0), ("g", 2)]
theorem on1 : ("only" : Str) ∈ ns1 := List.mem_cons_self
theorem t1m : ("t" : Str) ∈ ts1 := List.mem_cons_self
theorem b0 : -(10 : Int) ^ 18 ≤ 0 ∧ (0 : Int) ≤ (10 : Int) ^ 18 := by decide +kernel
theorem b1 : -(10 : Int) ^ 18 ≤ 1 ∧ (1 : Int) ≤ (10 : Int) ^ 18 := by decide +kernel
theorem ge1 {k : Nat} : GE ns1 (k + 1) (.tuple [.str "int", .int 1]) := .int rfl b1.1 b1.2
theorem ge0 {k : Nat} {ns : List Str} : GE ns (k + 1) (.tuple [.str "int", .int 0]) := .int rfl b0.1 b0.2
theorem geN {k : Nat} : GE ns1 (k + 1) (.tuple [.str "name", .str "only"]) := .name rfl on1
structure Sn (i : Nat) (d : PyData) : Prop where
  gs : GS ns1 ts1 os1 i d
  sz : ∀ n, i ≤ n → (allIn n [d]).length ≤ i
  on : ∀ n, i ≤ n → ("only" : Str) ∈ (allIn n [d]).flatMap namesS
theorem Sn.plain {d : PyData} (h : GP ns1 ts1 os1 d) (m : ("only" : Str) ∈ namesS d) : Sn 1 d := by
  refine ⟨.plain h, fun n _ => ?_, fun n _ => ?_⟩
  · rw [(allIn_plain h n).1]
    exact Nat.le_refl _
  · rw [(allIn_plain h n).1, List.flatMap_cons, List.flatMap_nil, List.append_nil]
    exact m
theorem allIn_nil (n : Nat) : allIn n [] = [] := by
  rw [allIn_eq]
  rfl
theorem Sn.up_while {i : Nat} {d e : PyData} (h : Sn i d) (ge : GE ns1 4 e) : Sn (i + 1) (.tuple [.str "while", e, .tuple [d]]) := by
  refine ⟨.while_ rfl ge (show 1 ≤ 40 by decide) fun s hs => (List.mem_singleton.mp hs) ▸ h.gs, fun n hn => ?_, fun n hn => ?_⟩
  all_goals obtain ⟨m, rfl⟩ : ∃ m, n = m + 1 := ⟨n - 1, by omega⟩
  all_goals rw [allIn_while]
  · have := h.sz m (by omega)
    rw [List.length_cons]
    omega
  · rw [List.flatMap_cons]
    exact List.mem_append_right _ (h.on m (by omega))
theorem Sn.up_if {i : Nat} {d e : PyData} (h : Sn i d) (ge : GE ns1 4 e) : Sn (i + 1) (.tuple [.str "if", e, .tuple [d], .tuple []]) := by
  refine ⟨.if_ rfl ge (show 1 ≤ 40 by decide) (by decide) (fun s hs => (List.mem_singleton.mp hs) ▸ h.gs) (by simp), fun n hn => ?_, fun n hn => ?_⟩
  all_goals obtain ⟨m, rfl⟩ : ∃ m, n = m + 1 := ⟨n - 1, by omega⟩
  all_goals rw [allIn_if, allIn_nil, List.append_nil]
  · have := h.sz m (by omega)
    rw [List.length_cons]
    omega
  · rw [List.flatMap_cons]
    exact List.mem_append_right _ (h.on m (by omega))
theorem Sn.up_else {i : Nat} {d e : PyData} (h : Sn i d) (ge : GE ns1 4 e) : Sn (i + 1) (.tuple [.str "if", e, .tuple [], .tuple [d]]) := by
  refine ⟨.if_ rfl ge (by decide) (show 1 ≤ 40 by decide) (by simp) (fun s hs => (List.mem_singleton.mp hs) ▸ h.gs), fun n hn => ?_, fun n hn => ?_⟩
  all_goals obtain ⟨m, rfl⟩ : ∃ m, n = m + 1 := ⟨n - 1, by omega⟩
  all_goals rw [allIn_if, allIn_nil, List.nil_append]
  · have := h.sz m (by omega)
    rw [List.length_cons]
    omega
  · rw [List.flatMap_cons]
    exact List.mem_append_right _ (h.on m (by omega))
theorem Sn.if0 {e : PyData} (ge : GE ns1 4 e) (on : ("only" : Str) ∈ namesE 4 e) : Sn 1 (.tuple [.str "if", e, .tuple [], .tuple []]) := by
  refine ⟨.if_ rfl ge (by decide) (by decide) (by simp) (by simp), fun n hn => ?_, fun n hn => ?_⟩
  all_goals obtain ⟨m, rfl⟩ : ∃ m, n = m + 1 := ⟨n - 1, by omega⟩
  all_goals rw [allIn_if, allIn_nil, List.append_nil]
  · exact Nat.le_refl _
  · rw [List.flatMap_cons, List.flatMap_nil, List.append_nil]
    show ("only" : Str) ∈ (namesE 4 e ++ [])
    rw [List.append_nil]
    exact on
theorem Sn.while0 {e : PyData} (ge : GE ns1 4 e) (on : ("only" : Str) ∈ namesE 4 e) : Sn 1 (.tuple [.str "while", e, .tuple []]) := by
  refine ⟨.while_ rfl ge (by decide) (by simp), fun n hn => ?_, fun n hn => ?_⟩
  all_goals obtain ⟨m, rfl⟩ : ∃ m, n = m + 1 := ⟨n - 1, by omega⟩
  all_goals rw [allIn_while, allIn_nil]
  · exact Nat.le_refl _
  · rw [List.flatMap_cons, List.flatMap_nil, List.append_nil]
    show ("only" : Str) ∈ (namesE 4 e ++ [])
    rw [List.append_nil]
    exact on
def endD : PyData := .tuple [.str "end", .tuple [.str "int", .int 0]]
theorem endP {ns ts : List Str} {os : List (Str × Nat)} : GP ns ts os endD := .end_ rfl ge0
def fD (d : PyData) : Fnc := ⟨"f", [], [endD, d]⟩
def gD : Fnc := ⟨"g", ["q", "b"], []⟩
def ixF : Ix := ⟨ns1, ts1, os1, ⟨by decide +kernel, by decide +kernel, by decide +kernel⟩, by decide⟩
def ixG : Ix := ⟨["q", "b"], ts1, os1, ⟨by decide +kernel, by decide +kernel, by decide +kernel⟩, by decide⟩
theorem fD_all (d : PyData) : (fD d).all = endD :: allIn 4 [d] := by
  show allIn 4 ([endD] ++ [d]) = _
  rw [allIn_app, (allIn_plain (endP (ns := ns1) (ts := ts1) (os := os1)) 4).1]
  rfl
theorem fD_names {d : PyData} {i : Nat} (h : Sn i d) (hi : i ≤ 4) {ys : List Str} (t : Told ys (namesF (fD d).ps (fD d).all)) : ys = (["only"] : List Str) := by
  have sub := namesF_sub (ns := ns1) (ps := (fD d).ps) (all := (fD d).all) (by simp [fD]) fun s hs => by
    rw [fD_all] at hs
    rcases List.mem_cons.mp hs with rfl | hs
    · exact namesS_sub (ts := ts1) (os := os1) (.plain (k := 4) endP)
    · exact namesS_sub (allIn_gs 4 [d] (fun s hs => (List.mem_singleton.mp hs) ▸ h.gs.mono hi) s hs)
  have nd := namesF_nodup (fD d).ps (fD d).all
  have on : ("only" : Str) ∈ namesF (fD d).ps (fD d).all := by
    unfold namesF
    rw [addAll_mem, fD_all, List.flatMap_cons]
    exact .inr (List.mem_append_right _ (h.on 4 hi))
  generalize namesF (fD d).ps (fD d).all = N at sub nd on t
  have e : N = (["only"] : List Str) := by
    match N, sub, nd, on with
    | [x], s, _, _ => rw [List.mem_singleton.mp (s x List.mem_cons_self)]
    | x :: y :: r, s, n, _ =>
      have ex := List.mem_singleton.mp (s x List.mem_cons_self)
      have ey := List.mem_singleton.mp (s y (List.mem_cons_of_mem _ List.mem_cons_self))
      rw [ex, ey] at n
      exact absurd List.mem_cons_self (List.nodup_cons.mp n).1
  rw [e] at t
  exact List.perm_singleton.mp t.1
theorem gD_names {ys : List Str} (t : Told ys (namesF gD.ps gD.all)) : ys = (["b", "q"] : List Str) := by
  have e : namesF gD.ps gD.all = (["q", "b"] : List Str) := by decide +kernel
  rw [e] at t
  exact sortedS_eq t.2 (by decide +kernel) (t.1.trans (List.Perm.swap _ _ _))
theorem good1 {d : PyData} {i : Nat} (h : Sn i d) (hi : i ≤ 4) : GoodT ts1 [fD d, gD] := by
  have asc1 : Asc ts1 := fun i x y hx hy => by
    match i, hx, hy with
    | 0, _, hy => exact nomatch hy
  refine ⟨by decide +kernel, by decide +kernel, asc1, by decide, Nat.zero_lt_succ _, (show 2 ≤ 8 by decide), fun i x y hx hy => ?_, ?_, fun f hf => ?_⟩
  · have hx' : (["f", "g"] : List Str)[i]? = some x := hx
    have hy' : (["f", "g"] : List Str)[i + 1]? = some y := hy
    match i, hx', hy' with
    | 0, hx, hy =>
      cases hx
      cases hy
      decide +kernel
    | i + 1, _, hy => exact nomatch hy
  · show (["f", "g"] : List Str).Nodup
    decide +kernel
  · simp only [List.mem_cons, List.not_mem_nil, or_false] at hf
    rcases hf with rfl | rfl
    · have hl : (fD d).all.length ≤ 5 := by
        rw [fD_all, List.length_cons]
        have := h.sz 4 hi
        omega
      refine ⟨ixF, rfl, rfl, (show nameOk "f" = true by decide +kernel), List.nodup_nil, (fun x hx => nomatch hx), Nat.zero_le _, fun s hs => ?_, (show 2 ≤ 40 by decide), by omega, Nat.le_trans (List.length_filter_le _ _) (by omega), ?_⟩
      · have hs' : s ∈ [endD, d] := hs
        simp only [List.mem_cons, List.not_mem_nil, or_false] at hs'
        rcases hs' with rfl | rfl
        · exact .plain endP
        · exact h.gs.mono hi
      · refine Nat.le_trans (namesF_le (ns := ns1) (fun x hx => nomatch hx) fun s hs => ?_) (by decide)
        rw [fD_all] at hs
        rcases List.mem_cons.mp hs with rfl | hs
        · exact namesS_sub (ts := ts1) (os := os1) (.plain (k := 4) endP)
        · exact namesS_sub (allIn_gs 4 [d] (fun s hs => (List.mem_singleton.mp hs) ▸ h.gs.mono hi) s hs)
    · exact ⟨ixG, rfl, rfl, (show nameOk "g" = true by decide +kernel), (show (["q", "b"] : List Str).Nodup by decide +kernel), fun x hx => hx, (show 2 ≤ 4 by decide), (fun s hs => nomatch hs), Nat.zero_le _, (show 0 ≤ 40 by decide), (show 0 ≤ 8 by decide), by decide +kernel⟩
def spAlone : Sp := fun vs H Q _ => ∃ (h c : Addr), vs = [.ref h] ∧ Hand H h c ∧ ∀ H', Hand H' h c → Fr [h] H H' → Q (.bl true) H'
abbrev s_law_is_alone_right : Stmt := top 64
theorem sc_law_is_alone_right : FnScope ["hand", "e", "x", "some", "s", "deep", "text"] ["hand"] (defScope s_law_is_alone_right) := ⟨rfl, rfl, rfl, by decide +kernel, rfl, by decide +kernel, by decide +kernel⟩
theorem ok_law_is_alone_right {f : Addr} {fd : FuncData} (F : Fun K "_law_is_alone_right" "_law_is_alone_right" s_law_is_alone_right f fd) (T : Txt K mg Z) (D_law_draw : Dn P w K mg base "_law_draw" 1 ["hand", "span"] spDraw) (D_law_some : Dn P w K mg base "_law_some" 2 ["hand", "things"] (spSome K))
    (D_law_is : Dn P w K mg base "_law_is" 4 ["thing", "due"] (spLIs 2)) (D_names_of : Dn P w K mg base "names_of" 4 ["text", "f"] (spNamesOf K Z.Text Z.Flow Z.NoFunction)) (C_Text : Cn P w K mg base "Text" Z.Text 23 ["self", "tables", "functions"] (spTextInit Z.Text Z.Flow)) :
    FnOk P w K mg base (L2.CX P w) 25 f fd ["hand"] spAlone := by
  refine okN F sc_law_is_alone_right (fun vs H Q E h => ?_) (fun cdv A outer s0 H vs Q E hr h => ?_)
  · obtain ⟨h, c, rfl, _⟩ := h
    rfl
  · obtain ⟨h, c, rfl, hH, k⟩ := h
    refine ⟨_, [some _, none, none, none, none, none, none], rfl, (pss_cons (ps_asg (pe_tup (pa_cons (pe_tup (pa_cons pe_str (pa_cons pe_str pa_nil))) (pa_cons pe_str pa_nil))) (kTupT (K := K) (n := 2) (pgs_cons (pg_name (i := 1) sc_law_is_alone_right.nd rfl (by first | exact Or.inl rfl | exact Or.inr rfl)) (pgs_cons (pg_name (i := 2) sc_law_is_alone_right.nd rfl (by first | exact Or.inl rfl | exact Or.inr rfl)) pgs_nil))))
      (pss_cons (ps_set (i := 3) sc_law_is_alone_right.nd rfl (by first | exact Or.inl rfl | exact Or.inr rfl) (pe_lst (pa_cons (pe_tup (pa_cons pe_str (pa_cons (pv 2) (pa_cons (pe_tup (pa_cons pe_str (pa_cons pe_int pa_nil))) pa_nil)))) (pa_cons (pe_tup (pa_cons pe_str (pa_cons (pv 2) (pa_cons (pe_tup (pa_cons (pe_tup (pa_cons pe_str (pa_cons pe_int pa_nil))) pa_nil)) pa_nil)))) (pa_cons (pe_tup (pa_cons pe_str (pa_cons (pv 2) (pa_cons (pe_tup (pa_cons pe_str (pa_cons pe_int pa_nil))) (pa_cons pe_int pa_nil))))) (pa_cons (pe_tup (pa_cons pe_str (pa_cons (pv 2) (pa_cons pe_str pa_nil)))) pa_nil))))))
      (pss_cons (ps_set (i := 3) sc_law_is_alone_right.nd rfl (by first | exact Or.inl rfl | exact Or.inr rfl) (pe_op op_cat (pv 3) (pe_lst (pa_cons (pe_tup (pa_cons pe_str (pa_cons (pv 2) (pa_cons pe_str (pa_cons (pe_tup pa_nil) pa_nil))))) (pa_cons (pe_tup (pa_cons pe_str (pa_cons (pv 2) (pa_cons (pe_tup (pa_cons pe_str (pa_cons pe_int pa_nil))) pa_nil)))) (pa_cons (pe_tup (pa_cons pe_str (pa_cons (pv 1) (pa_cons pe_int (pa_cons (pe_tup (pa_cons pe_str (pa_cons pe_int pa_nil))) pa_nil))))) (pa_cons (pe_tup (pa_cons pe_str (pa_cons (pe_tup (pa_cons pe_str (pa_cons pe_int pa_nil))) (pa_cons pe_int (pa_cons (pv 1) pa_nil))))) pa_nil)))))))
      (pss_cons (ps_set (i := 3) sc_law_is_alone_right.nd rfl (by first | exact Or.inl rfl | exact Or.inr rfl) (pe_op op_cat (pv 3) (pe_lst (pa_cons (pe_tup (pa_cons pe_str (pa_cons pe_str (pa_cons (pv 1) pa_nil)))) (pa_cons (pe_tup (pa_cons pe_str (pa_cons (pv 1) (pa_cons (pe_tup pa_nil) (pa_cons (pe_tup pa_nil) pa_nil))))) (pa_cons (pe_tup (pa_cons pe_str (pa_cons (pv 1) (pa_cons (pe_tup pa_nil) pa_nil)))) (pa_cons (pe_tup (pa_cons pe_str (pa_cons (pe_tup (pa_cons pe_str (pa_cons (pe_tup (pa_cons pe_str (pa_cons pe_int pa_nil))) (pa_cons (pe_tup (pa_cons pe_str (pa_cons (pv 1) (pa_cons (pv 1) pa_nil)))) pa_nil)))) pa_nil))) pa_nil)))))))
      (pss_cons (ps_set (i := 4) sc_law_is_alone_right.nd rfl (by first | exact Or.inl rfl | exact Or.inr rfl) (pe_d D_law_some E0 (hr.mono (by first | decide | omega)) (by rfl) passL (pa_cons (pv 0) (pa_cons (pv 3) pa_nil))))
      (pss_cons (ps_for PassesOwn.never rfl (pi_range1 (by rfl) T.n_range (pa_cons (pe_d D_law_draw E0 (hr.mono (by first | decide | omega)) (by rfl) passL (pa_cons (pv 0) (pa_cons pe_int pa_nil))) pa_nil)) (pg_name (i := 5) sc_law_is_alone_right.nd rfl (by first | exact Or.inl rfl | exact Or.inr rfl))
      (pss_one (ps_set (i := 4) sc_law_is_alone_right.nd rfl (by first | exact Or.inl rfl | exact Or.inr rfl) (pe_d D_law_some E0 (hr.mono (by first | decide | omega)) (by rfl) passL (pa_cons (pv 0) (pa_cons (pe_lst (pa_cons (pe_tup (pa_cons pe_str (pa_cons (pe_tup (pa_cons pe_str (pa_cons pe_int pa_nil))) (pa_cons (pe_tup pa_nil) (pa_cons (pe_tup (pa_cons (pv 4) pa_nil)) pa_nil))))) (pa_cons (pe_tup (pa_cons pe_str (pa_cons (pe_tup (pa_cons pe_str (pa_cons pe_int pa_nil))) (pa_cons (pe_tup (pa_cons (pv 4) pa_nil)) (pa_cons (pe_tup pa_nil) pa_nil))))) (pa_cons (pe_tup (pa_cons pe_str (pa_cons (pe_tup (pa_cons pe_str (pa_cons pe_int pa_nil))) (pa_cons (pe_tup (pa_cons (pv 4) pa_nil)) pa_nil)))) pa_nil)))) pa_nil))))))
      (pss_cons (ps_set (i := 6) sc_law_is_alone_right.nd rfl (by first | exact Or.inl rfl | exact Or.inr rfl) (pe_c C_Text E0 (hr.mono (by first | decide | omega)) (by rfl) passL (pa_cons (pe_tup (pa_cons pe_str pa_nil)) (pa_cons (pe_tup (pa_cons (pe_tup (pa_cons pe_str (pa_cons (pe_tup pa_nil) (pa_cons (pe_tup (pa_cons (pe_tup (pa_cons pe_str (pa_cons (pe_tup (pa_cons pe_str (pa_cons pe_int pa_nil))) pa_nil))) (pa_cons (pv 4) pa_nil))) pa_nil)))) (pa_cons (pe_tup (pa_cons pe_str (pa_cons (pe_tup (pa_cons pe_str (pa_cons pe_str pa_nil))) (pa_cons (pe_tup pa_nil) pa_nil)))) pa_nil))) pa_nil))))
      (pss_one (ps_ret (pe_d D_law_is E0 (hr.mono (by first | decide | omega)) (by rfl) passL (pa_cons (pe_lst (pa_cons (pe_d D_names_of E0 (hr.mono (by first | decide | omega)) (by rfl) passL (pa_cons (pv 6) (pa_cons pe_str pa_nil))) (pa_cons (pe_d D_names_of E0 (hr.mono (by first | decide | omega)) (by rfl) passL (pa_cons (pv 6) (pa_cons pe_str pa_nil))) pa_nil))) (pa_cons (pe_lst (pa_cons (pe_tup (pa_cons pe_str pa_nil)) (pa_cons (pe_tup (pa_cons pe_str (pa_cons pe_str pa_nil))) pa_nil))) pa_nil)))))))))))), ?_⟩
    have F0 : Fr [] H H := Fr.refl H
    have L0 : Lv H [] := Lv.nil
    walk_at "st"
    intro u1 hu1
    have F1 := F0.new (o := .tup [.str "name", .str "only"]) hu1
    have L1 := L0.put hu1 (show TDs H [.str "name", .str "only"] [.str "name", .str "only"] from (.cons (.str _) (.cons (.str _) .nil)))
    clear F0 L0 hu1
    generalize upd H u1 (.tup [.str "name", .str "only"]) = H'1 at F1 L1 ⊢
    walk_at "st"
    intro u2 hu2
    have F2 := F1.new (o := .tup [.ref u1, .str "only"]) hu2
    have L2 := L1.put hu2 (show TDs H'1 [.ref u1, .str "only"] [.tuple [.str "name", .str "only"], .str "only"] from (.cons (L1.at List.mem_cons_self) (.cons (.str _) .nil)))
    clear F1 L1 hu2
    have E2 : upd H'1 u2 (.tup [.ref u1, .str "only"]) u2 = some (.tup [.ref u1, .str "only"]) := upd_same
    generalize upd H'1 u2 (.tup [.ref u1, .str "only"]) = H'2 at F2 L2 E2 ⊢
    walk_at "st"
    clear E2
    walk_at "st"
    intro u3 hu3
    have F3 := F2.new (o := .tup [.str "int", .int 1]) hu3
    have L3 := L2.put hu3 (show TDs H'2 [.str "int", .int 1] [.str "int", .int 1] from (.cons (.str _) (.cons (.int _) .nil)))
    clear F2 L2 hu3
    generalize upd H'2 u3 (.tup [.str "int", .int 1]) = H'3 at F3 L3 ⊢
    walk_at "st"
    intro u4 hu4
    have F4 := F3.new (o := .tup [.str "let", .str "only", .ref u3]) hu4
    have L4 := L3.put hu4 (show TDs H'3 [.str "let", .str "only", .ref u3] [.str "let", .str "only", .tuple [.str "int", .int 1]] from (.cons (.str _) (.cons (.str _) (.cons (L3.at List.mem_cons_self) .nil))))
    clear F3 L3 hu4
    generalize upd H'3 u4 (.tup [.str "let", .str "only", .ref u3]) = H'4 at F4 L4 ⊢
    walk_at "st"
    intro u5 hu5
    have F5 := F4.new (o := .tup [.str "int", .int 1]) hu5
    have L5 := L4.put hu5 (show TDs H'4 [.str "int", .int 1] [.str "int", .int 1] from (.cons (.str _) (.cons (.int _) .nil)))
    clear F4 L4 hu5
    generalize upd H'4 u5 (.tup [.str "int", .int 1]) = H'5 at F5 L5 ⊢
    walk_at "st"
    intro u6 hu6
    have F6 := F5.new (o := .tup [.ref u5]) hu6
    have L6 := L5.put hu6 (show TDs H'5 [.ref u5] [.tuple [.str "int", .int 1]] from (.cons (L5.at List.mem_cons_self) .nil))
    clear F5 L5 hu6
    generalize upd H'5 u6 (.tup [.ref u5]) = H'6 at F6 L6 ⊢
    walk_at "st"
    intro u7 hu7
    have F7 := F6.new (o := .tup [.str "make", .str "only", .ref u6]) hu7
    have L7 := L6.put hu7 (show TDs H'6 [.str "make", .str "only", .ref u6] [.str "make", .str "only", .tuple [.tuple [.str "int", .int 1]]] from (.cons (.str _) (.cons (.str _) (.cons (L6.at List.mem_cons_self) .nil))))
    clear F6 L6 hu7
    generalize upd H'6 u7 (.tup [.str "make", .str "only", .ref u6]) = H'7 at F7 L7 ⊢
    walk_at "st"
    intro u8 hu8
    have F8 := F7.new (o := .tup [.str "int", .int 1]) hu8
    have L8 := L7.put hu8 (show TDs H'7 [.str "int", .int 1] [.str "int", .int 1] from (.cons (.str _) (.cons (.int _) .nil)))
    clear F7 L7 hu8
    generalize upd H'7 u8 (.tup [.str "int", .int 1]) = H'8 at F8 L8 ⊢
    walk_at "st"
    intro u9 hu9
    have F9 := F8.new (o := .tup [.str "get", .str "only", .ref u8, .int 0]) hu9
    have L9 := L8.put hu9 (show TDs H'8 [.str "get", .str "only", .ref u8, .int 0] [.str "get", .str "only", .tuple [.str "int", .int 1], .int 0] from (.cons (.str _) (.cons (.str _) (.cons (L8.at List.mem_cons_self) (.cons (.int _) .nil)))))
    clear F8 L8 hu9
    generalize upd H'8 u9 (.tup [.str "get", .str "only", .ref u8, .int 0]) = H'9 at F9 L9 ⊢
    walk_at "st"
    intro u10 hu10
    have F10 := F9.new (o := .tup [.str "read", .str "only", .str "t"]) hu10
    have L10 := L9.put hu10 (show TDs H'9 [.str "read", .str "only", .str "t"] [.str "read", .str "only", .str "t"] from (.cons (.str _) (.cons (.str _) (.cons (.str _) .nil))))
    clear F9 L9 hu10
    generalize upd H'9 u10 (.tup [.str "read", .str "only", .str "t"]) = H'10 at F10 L10 ⊢
    walk_at "st"
    intro u11 hu11
    have F11 := F10.new (o := .lst [.ref u4, .ref u7, .ref u9, .ref u10]) hu11
    have L11 := L10.new (o := .lst [.ref u4, .ref u7, .ref u9, .ref u10]) hu11
    have E11 : upd H'10 u11 (.lst [.ref u4, .ref u7, .ref u9, .ref u10]) u11 = some (.lst [.ref u4, .ref u7, .ref u9, .ref u10]) := upd_same
    clear F10 L10
    generalize upd H'10 u11 (.lst [.ref u4, .ref u7, .ref u9, .ref u10]) = H'11 at F11 L11 E11 ⊢
    have G11 : Fr [] H'11 H'11 := Fr.refl _
    have B := Fr.refl (ms := []) H'11
    walk_at "st"
    intro u12 hu12
    have F12 := F11.new (o := .tup []) hu12
    replace B := B.new (o := .tup []) hu12
    have L12 := L11.put hu12 (show TDs H'11 [] [] from .nil)
    clear F11 L11 hu12
    generalize upd H'11 u12 (.tup []) = H'12 at F12 L12 B ⊢
    walk_at "st"
    intro u13 hu13
    have F13 := F12.new (o := .tup [.str "call", .str "only", .str "f", .ref u12]) hu13
    replace B := B.new (o := .tup [.str "call", .str "only", .str "f", .ref u12]) hu13
    have L13 := L12.put hu13 (show TDs H'12 [.str "call", .str "only", .str "f", .ref u12] [.str "call", .str "only", .str "f", .tuple []] from (.cons (.str _) (.cons (.str _) (.cons (.str _) (.cons (L12.at List.mem_cons_self) .nil)))))
    clear F12 L12 hu13
    generalize upd H'12 u13 (.tup [.str "call", .str "only", .str "f", .ref u12]) = H'13 at F13 L13 B ⊢
    walk_at "st"
    intro u14 hu14
    have F14 := F13.new (o := .tup [.str "int", .int 1]) hu14
    replace B := B.new (o := .tup [.str "int", .int 1]) hu14
    have L14 := L13.put hu14 (show TDs H'13 [.str "int", .int 1] [.str "int", .int 1] from (.cons (.str _) (.cons (.int _) .nil)))
    clear F13 L13 hu14
    generalize upd H'13 u14 (.tup [.str "int", .int 1]) = H'14 at F14 L14 B ⊢
    walk_at "st"
    intro u15 hu15
    have F15 := F14.new (o := .tup [.str "wait", .str "only", .ref u14]) hu15
    replace B := B.new (o := .tup [.str "wait", .str "only", .ref u14]) hu15
    have L15 := L14.put hu15 (show TDs H'14 [.str "wait", .str "only", .ref u14] [.str "wait", .str "only", .tuple [.str "int", .int 1]] from (.cons (.str _) (.cons (.str _) (.cons (L14.at List.mem_cons_self) .nil))))
    clear F14 L14 hu15
    generalize upd H'14 u15 (.tup [.str "wait", .str "only", .ref u14]) = H'15 at F15 L15 B ⊢
    walk_at "st"
    intro u16 hu16
    have F16 := F15.new (o := .tup [.str "int", .int 1]) hu16
    replace B := B.new (o := .tup [.str "int", .int 1]) hu16
    have L16 := L15.put hu16 (show TDs H'15 [.str "int", .int 1] [.str "int", .int 1] from (.cons (.str _) (.cons (.int _) .nil)))
    clear F15 L15 hu16
    generalize upd H'15 u16 (.tup [.str "int", .int 1]) = H'16 at F16 L16 B ⊢
    walk_at "st"
    intro u17 hu17
    have F17 := F16.new (o := .tup [.str "put", .ref u1, .int 0, .ref u16]) hu17
    replace B := B.new (o := .tup [.str "put", .ref u1, .int 0, .ref u16]) hu17
    have L17 := L16.put hu17 (show TDs H'16 [.str "put", .ref u1, .int 0, .ref u16] [.str "put", .tuple [.str "name", .str "only"], .int 0, .tuple [.str "int", .int 1]] from (.cons (.str _) (.cons (L16.at (List.mem_cons_of_mem _ (List.mem_cons_of_mem _ (List.mem_cons_of_mem _ (List.mem_cons_of_mem _ (List.mem_cons_of_mem _ (List.mem_cons_of_mem _ (List.mem_cons_of_mem _ (List.mem_cons_of_mem _ (List.mem_cons_of_mem _ (List.mem_cons_of_mem _ (List.mem_cons_of_mem _ (List.mem_cons_of_mem _ (List.mem_cons_of_mem _ (List.mem_cons_of_mem _ List.mem_cons_self))))))))))))))) (.cons (.int _) (.cons (L16.at List.mem_cons_self) .nil)))))
    clear F16 L16 hu17
    generalize upd H'16 u17 (.tup [.str "put", .ref u1, .int 0, .ref u16]) = H'17 at F17 L17 B ⊢
    walk_at "st"
    intro u18 hu18
    have F18 := F17.new (o := .tup [.str "int", .int 1]) hu18
    replace B := B.new (o := .tup [.str "int", .int 1]) hu18
    have L18 := L17.put hu18 (show TDs H'17 [.str "int", .int 1] [.str "int", .int 1] from (.cons (.str _) (.cons (.int _) .nil)))
    clear F17 L17 hu18
    generalize upd H'17 u18 (.tup [.str "int", .int 1]) = H'18 at F18 L18 B ⊢
    walk_at "st"
    intro u19 hu19
    have F19 := F18.new (o := .tup [.str "put", .ref u18, .int 0, .ref u1]) hu19
    replace B := B.new (o := .tup [.str "put", .ref u18, .int 0, .ref u1]) hu19
    have L19 := L18.put hu19 (show TDs H'18 [.str "put", .ref u18, .int 0, .ref u1] [.str "put", .tuple [.str "int", .int 1], .int 0, .tuple [.str "name", .str "only"]] from (.cons (.str _) (.cons (L18.at List.mem_cons_self) (.cons (.int _) (.cons (L18.at (List.mem_cons_of_mem _ (List.mem_cons_of_mem _ (List.mem_cons_of_mem _ (List.mem_cons_of_mem _ (List.mem_cons_of_mem _ (List.mem_cons_of_mem _ (List.mem_cons_of_mem _ (List.mem_cons_of_mem _ (List.mem_cons_of_mem _ (List.mem_cons_of_mem _ (List.mem_cons_of_mem _ (List.mem_cons_of_mem _ (List.mem_cons_of_mem _ (List.mem_cons_of_mem _ (List.mem_cons_of_mem _ (List.mem_cons_of_mem _ List.mem_cons_self))))))))))))))))) .nil)))))
    clear F18 L18 hu19
    generalize upd H'18 u19 (.tup [.str "put", .ref u18, .int 0, .ref u1]) = H'19 at F19 L19 B ⊢
    have E11' := B.same _ _ E11
    clear B E11
    walk_at "st"
    intro u20 hu20
    have F20 := F19.new (o := .lst [.ref u13, .ref u15, .ref u17, .ref u19]) hu20
    have L20 := L19.new (o := .lst [.ref u13, .ref u15, .ref u17, .ref u19]) hu20
    have E20 : upd H'19 u20 (.lst [.ref u13, .ref u15, .ref u17, .ref u19]) u20 = some (.lst [.ref u13, .ref u15, .ref u17, .ref u19]) := upd_same
    have E11'' := (Fr.up (ms := []) (o := .lst [.ref u13, .ref u15, .ref u17, .ref u19]) hu20).same _ _ E11'
    clear F19 L19 E11'
    generalize upd H'19 u20 (.lst [.ref u13, .ref u15, .ref u17, .ref u19]) = H'20 at F20 L20 E20 E11'' ⊢
    walk_at "st"
    intro u21 hu21
    have F21 := F20.new (o := .lst [.ref u4, .ref u7, .ref u9, .ref u10, .ref u13, .ref u15, .ref u17, .ref u19]) hu21
    have L21 := L20.new (o := .lst [.ref u4, .ref u7, .ref u9, .ref u10, .ref u13, .ref u15, .ref u17, .ref u19]) hu21
    have N21 := (hH.keep F20).out hu21
    have E21 : upd H'20 u21 (.lst [.ref u4, .ref u7, .ref u9, .ref u10, .ref u13, .ref u15, .ref u17, .ref u19]) u21 = some (.lst [.ref u4, .ref u7, .ref u9, .ref u10, .ref u13, .ref u15, .ref u17, .ref u19]) := upd_same
    clear F20 L20 E11'' E20 hu21
    dsimp only [List.cons_append, List.nil_append]
    generalize upd H'20 u21 (.lst [.ref u4, .ref u7, .ref u9, .ref u10, .ref u13, .ref u15, .ref u17, .ref u19]) = H'21 at F21 L21 E21 ⊢
    have B := Fr.refl (ms := []) H'21
    walk_at "st"
    intro u22 hu22
    have F22 := F21.new (o := .tup [.str "write", .str "t", .ref u1]) hu22
    replace B := B.new (o := .tup [.str "write", .str "t", .ref u1]) hu22
    have L22 := L21.put hu22 (show TDs H'21 [.str "write", .str "t", .ref u1] [.str "write", .str "t", .tuple [.str "name", .str "only"]] from (.cons (.str _) (.cons (.str _) (.cons (L21.at (List.mem_cons_of_mem _ (List.mem_cons_of_mem _ (List.mem_cons_of_mem _ (List.mem_cons_of_mem _ (List.mem_cons_of_mem _ (List.mem_cons_of_mem _ (List.mem_cons_of_mem _ (List.mem_cons_of_mem _ (List.mem_cons_of_mem _ (List.mem_cons_of_mem _ (List.mem_cons_of_mem _ (List.mem_cons_of_mem _ (List.mem_cons_of_mem _ (List.mem_cons_of_mem _ (List.mem_cons_of_mem _ (List.mem_cons_of_mem _ (List.mem_cons_of_mem _ List.mem_cons_self)))))))))))))))))) .nil))))
    clear F21 L21 hu22
    generalize upd H'21 u22 (.tup [.str "write", .str "t", .ref u1]) = H'22 at F22 L22 B ⊢
    walk_at "st"
    intro u23 hu23
    have F23 := F22.new (o := .tup []) hu23
    replace B := B.new (o := .tup []) hu23
    have L23 := L22.put hu23 (show TDs H'22 [] [] from .nil)
    clear F22 L22 hu23
    generalize upd H'22 u23 (.tup []) = H'23 at F23 L23 B ⊢
    walk_at "st"
    intro u24 hu24
    have F24 := F23.new (o := .tup []) hu24
    replace B := B.new (o := .tup []) hu24
    have L24 := L23.put hu24 (show TDs H'23 [] [] from .nil)
    clear F23 L23 hu24
    generalize upd H'23 u24 (.tup []) = H'24 at F24 L24 B ⊢
    walk_at "st"
    intro u25 hu25
    have F25 := F24.new (o := .tup [.str "if", .ref u1, .ref u23, .ref u24]) hu25
    replace B := B.new (o := .tup [.str "if", .ref u1, .ref u23, .ref u24]) hu25
    have L25 := L24.put hu25 (show TDs H'24 [.str "if", .ref u1, .ref u23, .ref u24] [.str "if", .tuple [.str "name", .str "only"], .tuple [], .tuple []] from (.cons (.str _) (.cons (L24.at (List.mem_cons_of_mem _ (List.mem_cons_of_mem _ (List.mem_cons_of_mem _ (List.mem_cons_of_mem _ (List.mem_cons_of_mem _ (List.mem_cons_of_mem _ (List.mem_cons_of_mem _ (List.mem_cons_of_mem _ (List.mem_cons_of_mem _ (List.mem_cons_of_mem _ (List.mem_cons_of_mem _ (List.mem_cons_of_mem _ (List.mem_cons_of_mem _ (List.mem_cons_of_mem _ (List.mem_cons_of_mem _ (List.mem_cons_of_mem _ (List.mem_cons_of_mem _ (List.mem_cons_of_mem _ (List.mem_cons_of_mem _ (List.mem_cons_of_mem _ List.mem_cons_self))))))))))))))))))))) (.cons (L24.at (List.mem_cons_of_mem _ List.mem_cons_self)) (.cons (L24.at List.mem_cons_self) .nil)))))
    clear F24 L24 hu25
    generalize upd H'24 u25 (.tup [.str "if", .ref u1, .ref u23, .ref u24]) = H'25 at F25 L25 B ⊢
    walk_at "st"
    intro u26 hu26
    have F26 := F25.new (o := .tup []) hu26
    replace B := B.new (o := .tup []) hu26
    have L26 := L25.put hu26 (show TDs H'25 [] [] from .nil)
    clear F25 L25 hu26
    generalize upd H'25 u26 (.tup []) = H'26 at F26 L26 B ⊢
    walk_at "st"
    intro u27 hu27
    have F27 := F26.new (o := .tup [.str "while", .ref u1, .ref u26]) hu27
    replace B := B.new (o := .tup [.str "while", .ref u1, .ref u26]) hu27
    have L27 := L26.put hu27 (show TDs H'26 [.str "while", .ref u1, .ref u26] [.str "while", .tuple [.str "name", .str "only"], .tuple []] from (.cons (.str _) (.cons (L26.at (List.mem_cons_of_mem _ (List.mem_cons_of_mem _ (List.mem_cons_of_mem _ (List.mem_cons_of_mem _ (List.mem_cons_of_mem _ (List.mem_cons_of_mem _ (List.mem_cons_of_mem _ (List.mem_cons_of_mem _ (List.mem_cons_of_mem _ (List.mem_cons_of_mem _ (List.mem_cons_of_mem _ (List.mem_cons_of_mem _ (List.mem_cons_of_mem _ (List.mem_cons_of_mem _ (List.mem_cons_of_mem _ (List.mem_cons_of_mem _ (List.mem_cons_of_mem _ (List.mem_cons_of_mem _ (List.mem_cons_of_mem _ (List.mem_cons_of_mem _ (List.mem_cons_of_mem _ (List.mem_cons_of_mem _ List.mem_cons_self))))))))))))))))))))))) (.cons (L26.at List.mem_cons_self) .nil))))
    clear F26 L26 hu27
    generalize upd H'26 u27 (.tup [.str "while", .ref u1, .ref u26]) = H'27 at F27 L27 B ⊢
    walk_at "st"
    intro u28 hu28
    have F28 := F27.new (o := .tup [.str "int", .int 1]) hu28
    replace B := B.new (o := .tup [.str "int", .int 1]) hu28
    have L28 := L27.put hu28 (show TDs H'27 [.str "int", .int 1] [.str "int", .int 1] from (.cons (.str _) (.cons (.int _) .nil)))
    clear F27 L27 hu28
    generalize upd H'27 u28 (.tup [.str "int", .int 1]) = H'28 at F28 L28 B ⊢
    walk_at "st"
    intro u29 hu29
    have F29 := F28.new (o := .tup [.str "mul", .ref u1, .ref u1]) hu29
    replace B := B.new (o := .tup [.str "mul", .ref u1, .ref u1]) hu29
    have L29 := L28.put hu29 (show TDs H'28 [.str "mul", .ref u1, .ref u1] [.str "mul", .tuple [.str "name", .str "only"], .tuple [.str "name", .str "only"]] from (.cons (.str _) (.cons (L28.at (List.mem_cons_of_mem _ (List.mem_cons_of_mem _ (List.mem_cons_of_mem _ (List.mem_cons_of_mem _ (List.mem_cons_of_mem _ (List.mem_cons_of_mem _ (List.mem_cons_of_mem _ (List.mem_cons_of_mem _ (List.mem_cons_of_mem _ (List.mem_cons_of_mem _ (List.mem_cons_of_mem _ (List.mem_cons_of_mem _ (List.mem_cons_of_mem _ (List.mem_cons_of_mem _ (List.mem_cons_of_mem _ (List.mem_cons_of_mem _ (List.mem_cons_of_mem _ (List.mem_cons_of_mem _ (List.mem_cons_of_mem _ (List.mem_cons_of_mem _ (List.mem_cons_of_mem _ (List.mem_cons_of_mem _ (List.mem_cons_of_mem _ (List.mem_cons_of_mem _ List.mem_cons_self))))))))))))))))))))))))) (.cons (L28.at (List.mem_cons_of_mem _ (List.mem_cons_of_mem _ (List.mem_cons_of_mem _ (List.mem_cons_of_mem _ (List.mem_cons_of_mem _ (List.mem_cons_of_mem _ (List.mem_cons_of_mem _ (List.mem_cons_of_mem _ (List.mem_cons_of_mem _ (List.mem_cons_of_mem _ (List.mem_cons_of_mem _ (List.mem_cons_of_mem _ (List.mem_cons_of_mem _ (List.mem_cons_of_mem _ (List.mem_cons_of_mem _ (List.mem_cons_of_mem _ (List.mem_cons_of_mem _ (List.mem_cons_of_mem _ (List.mem_cons_of_mem _ (List.mem_cons_of_mem _ (List.mem_cons_of_mem _ (List.mem_cons_of_mem _ (List.mem_cons_of_mem _ (List.mem_cons_of_mem _ List.mem_cons_self))))))))))))))))))))))))) .nil))))
    clear F28 L28 hu29
    generalize upd H'28 u29 (.tup [.str "mul", .ref u1, .ref u1]) = H'29 at F29 L29 B ⊢
    walk_at "st"
    intro u30 hu30
    have F30 := F29.new (o := .tup [.str "add", .ref u28, .ref u29]) hu30
    replace B := B.new (o := .tup [.str "add", .ref u28, .ref u29]) hu30
    have L30 := L29.put hu30 (show TDs H'29 [.str "add", .ref u28, .ref u29] [.str "add", .tuple [.str "int", .int 1], .tuple [.str "mul", .tuple [.str "name", .str "only"], .tuple [.str "name", .str "only"]]] from (.cons (.str _) (.cons (L29.at (List.mem_cons_of_mem _ List.mem_cons_self)) (.cons (L29.at List.mem_cons_self) .nil))))
    clear F29 L29 hu30
    generalize upd H'29 u30 (.tup [.str "add", .ref u28, .ref u29]) = H'30 at F30 L30 B ⊢
    walk_at "st"
    intro u31 hu31
    have F31 := F30.new (o := .tup [.str "end", .ref u30]) hu31
    replace B := B.new (o := .tup [.str "end", .ref u30]) hu31
    have L31 := L30.put hu31 (show TDs H'30 [.str "end", .ref u30] [.str "end", .tuple [.str "add", .tuple [.str "int", .int 1], .tuple [.str "mul", .tuple [.str "name", .str "only"], .tuple [.str "name", .str "only"]]]] from (.cons (.str _) (.cons (L30.at List.mem_cons_self) .nil)))
    clear F30 L30 hu31
    generalize upd H'30 u31 (.tup [.str "end", .ref u30]) = H'31 at F31 L31 B ⊢
    have E21' := B.same _ _ E21
    clear B E21
    walk_at "st"
    intro u32 hu32
    have F32 := F31.new (o := .lst [.ref u22, .ref u25, .ref u27, .ref u31]) hu32
    have L32 := L31.new (o := .lst [.ref u22, .ref u25, .ref u27, .ref u31]) hu32
    have E32 : upd H'31 u32 (.lst [.ref u22, .ref u25, .ref u27, .ref u31]) u32 = some (.lst [.ref u22, .ref u25, .ref u27, .ref u31]) := upd_same
    have E21'' := (Fr.up (ms := []) (o := .lst [.ref u22, .ref u25, .ref u27, .ref u31]) hu32).same _ _ E21'
    clear F31 L31 E21'
    generalize upd H'31 u32 (.lst [.ref u22, .ref u25, .ref u27, .ref u31]) = H'32 at F32 L32 E32 E21'' ⊢
    walk_at "st"
    intro u33 hu33
    have F33 := F32.new (o := .lst [.ref u4, .ref u7, .ref u9, .ref u10, .ref u13, .ref u15, .ref u17, .ref u19, .ref u22, .ref u25, .ref u27, .ref u31]) hu33
    have L33 := L32.new (o := .lst [.ref u4, .ref u7, .ref u9, .ref u10, .ref u13, .ref u15, .ref u17, .ref u19, .ref u22, .ref u25, .ref u27, .ref u31]) hu33
    have N33 := (hH.keep F32).out hu33
    have E33 : upd H'32 u33 (.lst [.ref u4, .ref u7, .ref u9, .ref u10, .ref u13, .ref u15, .ref u17, .ref u19, .ref u22, .ref u25, .ref u27, .ref u31]) u33 = some (.lst [.ref u4, .ref u7, .ref u9, .ref u10, .ref u13, .ref u15, .ref u17, .ref u19, .ref u22, .ref u25, .ref u27, .ref u31]) := upd_same
    clear F32 L32 E21'' E32 hu33
    dsimp only [List.cons_append, List.nil_append]
    generalize upd H'32 u33 (.lst [.ref u4, .ref u7, .ref u9, .ref u10, .ref u13, .ref u15, .ref u17, .ref u19, .ref u22, .ref u25, .ref u27, .ref u31]) = H'33 at F33 L33 E33 ⊢
    have S33 : ∀ x ∈ ([.ref u4, .ref u7, .ref u9, .ref u10, .ref u13, .ref u15, .ref u17, .ref u19, .ref u22, .ref u25, .ref u27, .ref u31] : List V), ∃ d, TD H'33 x d ∧ Sn 1 d := by
      intro x hx
      simp only [List.mem_cons, List.not_mem_nil, or_false] at hx
      rcases hx with rfl | rfl | rfl | rfl | rfl | rfl | rfl | rfl | rfl | rfl | rfl | rfl
      · exact ⟨_, L33.at (List.mem_cons_of_mem _ (List.mem_cons_of_mem _ (List.mem_cons_of_mem _ (List.mem_cons_of_mem _ (List.mem_cons_of_mem _ (List.mem_cons_of_mem _ (List.mem_cons_of_mem _ (List.mem_cons_of_mem _ (List.mem_cons_of_mem _ (List.mem_cons_of_mem _ (List.mem_cons_of_mem _ (List.mem_cons_of_mem _ (List.mem_cons_of_mem _ (List.mem_cons_of_mem _ (List.mem_cons_of_mem _ (List.mem_cons_of_mem _ (List.mem_cons_of_mem _ (List.mem_cons_of_mem _ (List.mem_cons_of_mem _ (List.mem_cons_of_mem _ (List.mem_cons_of_mem _ (List.mem_cons_of_mem _ (List.mem_cons_of_mem _ (List.mem_cons_of_mem _ List.mem_cons_self)))))))))))))))))))))))), .plain (.let_ (.inl rfl) on1 ge1) (by decide +kernel)⟩
      · exact ⟨_, L33.at (List.mem_cons_of_mem _ (List.mem_cons_of_mem _ (List.mem_cons_of_mem _ (List.mem_cons_of_mem _ (List.mem_cons_of_mem _ (List.mem_cons_of_mem _ (List.mem_cons_of_mem _ (List.mem_cons_of_mem _ (List.mem_cons_of_mem _ (List.mem_cons_of_mem _ (List.mem_cons_of_mem _ (List.mem_cons_of_mem _ (List.mem_cons_of_mem _ (List.mem_cons_of_mem _ (List.mem_cons_of_mem _ (List.mem_cons_of_mem _ (List.mem_cons_of_mem _ (List.mem_cons_of_mem _ (List.mem_cons_of_mem _ (List.mem_cons_of_mem _ (List.mem_cons_of_mem _ List.mem_cons_self))))))))))))))))))))), .plain (.make rfl on1 (by decide) (by decide) (by simpa using ge1)) (by decide +kernel)⟩
      · exact ⟨_, L33.at (List.mem_cons_of_mem _ (List.mem_cons_of_mem _ (List.mem_cons_of_mem _ (List.mem_cons_of_mem _ (List.mem_cons_of_mem _ (List.mem_cons_of_mem _ (List.mem_cons_of_mem _ (List.mem_cons_of_mem _ (List.mem_cons_of_mem _ (List.mem_cons_of_mem _ (List.mem_cons_of_mem _ (List.mem_cons_of_mem _ (List.mem_cons_of_mem _ (List.mem_cons_of_mem _ (List.mem_cons_of_mem _ (List.mem_cons_of_mem _ (List.mem_cons_of_mem _ (List.mem_cons_of_mem _ (List.mem_cons_of_mem _ List.mem_cons_self))))))))))))))))))), .plain (.get rfl on1 ge1 (by decide) (by decide)) (by decide +kernel)⟩
      · exact ⟨_, L33.at (List.mem_cons_of_mem _ (List.mem_cons_of_mem _ (List.mem_cons_of_mem _ (List.mem_cons_of_mem _ (List.mem_cons_of_mem _ (List.mem_cons_of_mem _ (List.mem_cons_of_mem _ (List.mem_cons_of_mem _ (List.mem_cons_of_mem _ (List.mem_cons_of_mem _ (List.mem_cons_of_mem _ (List.mem_cons_of_mem _ (List.mem_cons_of_mem _ (List.mem_cons_of_mem _ (List.mem_cons_of_mem _ (List.mem_cons_of_mem _ (List.mem_cons_of_mem _ (List.mem_cons_of_mem _ List.mem_cons_self)))))))))))))))))), .plain (.read rfl on1 t1m) (by decide +kernel)⟩
      · exact ⟨_, L33.at (List.mem_cons_of_mem _ (List.mem_cons_of_mem _ (List.mem_cons_of_mem _ (List.mem_cons_of_mem _ (List.mem_cons_of_mem _ (List.mem_cons_of_mem _ (List.mem_cons_of_mem _ (List.mem_cons_of_mem _ (List.mem_cons_of_mem _ (List.mem_cons_of_mem _ (List.mem_cons_of_mem _ (List.mem_cons_of_mem _ (List.mem_cons_of_mem _ (List.mem_cons_of_mem _ (List.mem_cons_of_mem _ (List.mem_cons_of_mem _ List.mem_cons_self)))))))))))))))), .plain (.call rfl on1 (by decide +kernel) (by decide) (by simp)) (by decide +kernel)⟩
      · exact ⟨_, L33.at (List.mem_cons_of_mem _ (List.mem_cons_of_mem _ (List.mem_cons_of_mem _ (List.mem_cons_of_mem _ (List.mem_cons_of_mem _ (List.mem_cons_of_mem _ (List.mem_cons_of_mem _ (List.mem_cons_of_mem _ (List.mem_cons_of_mem _ (List.mem_cons_of_mem _ (List.mem_cons_of_mem _ (List.mem_cons_of_mem _ (List.mem_cons_of_mem _ (List.mem_cons_of_mem _ List.mem_cons_self)))))))))))))), .plain (.let_ (.inr rfl) on1 ge1) (by decide +kernel)⟩
      · exact ⟨_, L33.at (List.mem_cons_of_mem _ (List.mem_cons_of_mem _ (List.mem_cons_of_mem _ (List.mem_cons_of_mem _ (List.mem_cons_of_mem _ (List.mem_cons_of_mem _ (List.mem_cons_of_mem _ (List.mem_cons_of_mem _ (List.mem_cons_of_mem _ (List.mem_cons_of_mem _ (List.mem_cons_of_mem _ (List.mem_cons_of_mem _ List.mem_cons_self)))))))))))), .plain (.put rfl geN (by decide) (by decide) ge1) (by decide +kernel)⟩
      · exact ⟨_, L33.at (List.mem_cons_of_mem _ (List.mem_cons_of_mem _ (List.mem_cons_of_mem _ (List.mem_cons_of_mem _ (List.mem_cons_of_mem _ (List.mem_cons_of_mem _ (List.mem_cons_of_mem _ (List.mem_cons_of_mem _ (List.mem_cons_of_mem _ (List.mem_cons_of_mem _ List.mem_cons_self)))))))))), .plain (.put rfl ge1 (by decide) (by decide) geN) (by decide +kernel)⟩
      · exact ⟨_, L33.at (List.mem_cons_of_mem _ (List.mem_cons_of_mem _ (List.mem_cons_of_mem _ (List.mem_cons_of_mem _ (List.mem_cons_of_mem _ (List.mem_cons_of_mem _ (List.mem_cons_of_mem _ (List.mem_cons_of_mem _ (List.mem_cons_of_mem _ List.mem_cons_self))))))))), .plain (.write rfl t1m geN) (by decide +kernel)⟩
      · exact ⟨_, L33.at (List.mem_cons_of_mem _ (List.mem_cons_of_mem _ (List.mem_cons_of_mem _ (List.mem_cons_of_mem _ (List.mem_cons_of_mem _ (List.mem_cons_of_mem _ List.mem_cons_self)))))), .if0 geN (by decide +kernel)⟩
      · exact ⟨_, L33.at (List.mem_cons_of_mem _ (List.mem_cons_of_mem _ (List.mem_cons_of_mem _ (List.mem_cons_of_mem _ List.mem_cons_self)))), .while0 geN (by decide +kernel)⟩
      · exact ⟨_, L33.at List.mem_cons_self, .plain (.end_ rfl (.op (by decide +kernel) ge1 (.op (by decide +kernel) geN geN))) (by decide +kernel)⟩
    have X9 : ([.ref u4, .ref u7, .ref u9, .ref u10, .ref u13, .ref u15, .ref u17, .ref u19, .ref u22, .ref u25, .ref u27, .ref u31] : List V).length = 12 := rfl
    clear L33
    generalize ([.ref u4, .ref u7, .ref u9, .ref u10, .ref u13, .ref u15, .ref u17, .ref u19, .ref u22, .ref u25, .ref u27, .ref u31] : List V) = xs at S33 E33 X9
    walk_at "st"
    refine ⟨h, c, u33, xs, rfl, hH.keep F33, .inr ⟨E33, N33⟩, by omega, by omega, fun Ha x hx hHa fa => ?_⟩
    obtain ⟨d, td, sd⟩ := S33 x hx
    replace td := TD.mono fa.tup _ _ td
    have Fa : Fr [h] H Ha := (F33.mono (by simp)).trans fa
    clear F33 S33 E33
    walk_at "st"
    refine ⟨h, c, 4, rfl, hHa, by decide, by decide, fun Hb n n0 n4 hHb fb => ?_⟩
    walk_at "st"
    refine for_it walk_range (fun i σ H' => ∃ x o d, σ = [some (.ref h), some (.ref u1), some (.str "only"), some (.ref u33), some x, o, none] ∧ Hand H' h c ∧ Fr [h] H H' ∧ TD H' x d ∧ Sn (i + 1) d) ⟨x, none, d, rfl, hHb, Fa.trans fb, TD.mono fb.tup _ _ td, sd⟩ (fun _ _ _ _ _ => trivial) ?_ ?_
    · rintro i y σ Hc Hd hi ⟨x, o, d, rfl, hHc, fc, td, sd⟩ ⟨rfl, rfl⟩
      have F0 : Fr [] Hd Hd := Fr.refl Hd
      have L0 : Lv Hd [(x, d)] := Lv.nil.cons td
      walk_at "st"
      intro u1 hu1
      have F1 := F0.new (o := .tup [.str "int", .int 0]) hu1
      have L1 := L0.put hu1 (show TDs Hd [.str "int", .int 0] [.str "int", .int 0] from (.cons (.str _) (.cons (.int _) .nil)))
      clear F0 L0 hu1
      generalize upd Hd u1 (.tup [.str "int", .int 0]) = H'1 at F1 L1 ⊢
      walk_at "st"
      intro u2 hu2
      have F2 := F1.new (o := .tup []) hu2
      have L2 := L1.put hu2 (show TDs H'1 [] [] from .nil)
      clear F1 L1 hu2
      generalize upd H'1 u2 (.tup []) = H'2 at F2 L2 ⊢
      walk_at "st"
      intro u3 hu3
      have F3 := F2.new (o := .tup [x]) hu3
      have L3 := L2.put hu3 (show TDs H'2 [x] [d] from (.cons (L2.at (List.mem_cons_of_mem _ (List.mem_cons_of_mem _ List.mem_cons_self))) .nil))
      clear F2 L2 hu3
      generalize upd H'2 u3 (.tup [x]) = H'3 at F3 L3 ⊢
      walk_at "st"
      intro u4 hu4
      have F4 := F3.new (o := .tup [.str "if", .ref u1, .ref u2, .ref u3]) hu4
      have L4 := L3.put hu4 (show TDs H'3 [.str "if", .ref u1, .ref u2, .ref u3] [.str "if", .tuple [.str "int", .int 0], .tuple [], .tuple [d]] from (.cons (.str _) (.cons (L3.at (List.mem_cons_of_mem _ (List.mem_cons_of_mem _ List.mem_cons_self))) (.cons (L3.at (List.mem_cons_of_mem _ List.mem_cons_self)) (.cons (L3.at List.mem_cons_self) .nil)))))
      clear F3 L3 hu4
      generalize upd H'3 u4 (.tup [.str "if", .ref u1, .ref u2, .ref u3]) = H'4 at F4 L4 ⊢
      walk_at "st"
      intro u5 hu5
      have F5 := F4.new (o := .tup [.str "int", .int 0]) hu5
      have L5 := L4.put hu5 (show TDs H'4 [.str "int", .int 0] [.str "int", .int 0] from (.cons (.str _) (.cons (.int _) .nil)))
      clear F4 L4 hu5
      generalize upd H'4 u5 (.tup [.str "int", .int 0]) = H'5 at F5 L5 ⊢
      walk_at "st"
      intro u6 hu6
      have F6 := F5.new (o := .tup [x]) hu6
      have L6 := L5.put hu6 (show TDs H'5 [x] [d] from (.cons (L5.at (List.mem_cons_of_mem _ (List.mem_cons_of_mem _ (List.mem_cons_of_mem _ (List.mem_cons_of_mem _ (List.mem_cons_of_mem _ List.mem_cons_self)))))) .nil))
      clear F5 L5 hu6
      generalize upd H'5 u6 (.tup [x]) = H'6 at F6 L6 ⊢
      walk_at "st"
      intro u7 hu7
      have F7 := F6.new (o := .tup []) hu7
      have L7 := L6.put hu7 (show TDs H'6 [] [] from .nil)
      clear F6 L6 hu7
      generalize upd H'6 u7 (.tup []) = H'7 at F7 L7 ⊢
      walk_at "st"
      intro u8 hu8
      have F8 := F7.new (o := .tup [.str "if", .ref u5, .ref u6, .ref u7]) hu8
      have L8 := L7.put hu8 (show TDs H'7 [.str "if", .ref u5, .ref u6, .ref u7] [.str "if", .tuple [.str "int", .int 0], .tuple [d], .tuple []] from (.cons (.str _) (.cons (L7.at (List.mem_cons_of_mem _ (List.mem_cons_of_mem _ List.mem_cons_self))) (.cons (L7.at (List.mem_cons_of_mem _ List.mem_cons_self)) (.cons (L7.at List.mem_cons_self) .nil)))))
      clear F7 L7 hu8
      generalize upd H'7 u8 (.tup [.str "if", .ref u5, .ref u6, .ref u7]) = H'8 at F8 L8 ⊢
      walk_at "st"
      intro u9 hu9
      have F9 := F8.new (o := .tup [.str "int", .int 0]) hu9
      have L9 := L8.put hu9 (show TDs H'8 [.str "int", .int 0] [.str "int", .int 0] from (.cons (.str _) (.cons (.int _) .nil)))
      clear F8 L8 hu9
      generalize upd H'8 u9 (.tup [.str "int", .int 0]) = H'9 at F9 L9 ⊢
      walk_at "st"
      intro u10 hu10
      have F10 := F9.new (o := .tup [x]) hu10
      have L10 := L9.put hu10 (show TDs H'9 [x] [d] from (.cons (L9.at (List.mem_cons_of_mem _ (List.mem_cons_of_mem _ (List.mem_cons_of_mem _ (List.mem_cons_of_mem _ (List.mem_cons_of_mem _ (List.mem_cons_of_mem _ (List.mem_cons_of_mem _ (List.mem_cons_of_mem _ (List.mem_cons_of_mem _ List.mem_cons_self)))))))))) .nil))
      clear F9 L9 hu10
      generalize upd H'9 u10 (.tup [x]) = H'10 at F10 L10 ⊢
      walk_at "st"
      intro u11 hu11
      have F11 := F10.new (o := .tup [.str "while", .ref u9, .ref u10]) hu11
      have L11 := L10.put hu11 (show TDs H'10 [.str "while", .ref u9, .ref u10] [.str "while", .tuple [.str "int", .int 0], .tuple [d]] from (.cons (.str _) (.cons (L10.at (List.mem_cons_of_mem _ List.mem_cons_self)) (.cons (L10.at List.mem_cons_self) .nil))))
      clear F10 L10 hu11
      generalize upd H'10 u11 (.tup [.str "while", .ref u9, .ref u10]) = H'11 at F11 L11 ⊢
      walk_at "st"
      intro u12 hu12
      have F12 := F11.new (o := .lst [.ref u4, .ref u8, .ref u11]) hu12
      have L12 := L11.new (o := .lst [.ref u4, .ref u8, .ref u11]) hu12
      have N12 := (hHc.keep F11).out hu12
      have E12 : upd H'11 u12 (.lst [.ref u4, .ref u8, .ref u11]) u12 = some (.lst [.ref u4, .ref u8, .ref u11]) := upd_same
      clear F11 L11
      generalize upd H'11 u12 (.lst [.ref u4, .ref u8, .ref u11]) = He at F12 L12 E12 ⊢
      walk_at "st"
      refine ⟨h, c, u12, _, rfl, hHc.keep F12, .inr ⟨E12, N12⟩, Nat.zero_lt_succ _, (show 3 < 1000 by decide), fun Hf z hz hHf ff => ?_⟩
      walk_at "st"
      have tz : ∃ d, TD He z d ∧ Sn (i + 1 + 1) d := by
        simp only [List.mem_cons, List.not_mem_nil, or_false] at hz
        rcases hz with rfl | rfl | rfl
        · exact ⟨_, L12.at (List.mem_cons_of_mem _ (List.mem_cons_of_mem _ (List.mem_cons_of_mem _ (List.mem_cons_of_mem _ (List.mem_cons_of_mem _ (List.mem_cons_of_mem _ (List.mem_cons_of_mem _ List.mem_cons_self))))))), sd.up_else ge0⟩
        · exact ⟨_, L12.at (List.mem_cons_of_mem _ (List.mem_cons_of_mem _ (List.mem_cons_of_mem _ List.mem_cons_self))), sd.up_if ge0⟩
        · exact ⟨_, L12.at List.mem_cons_self, sd.up_while ge0⟩
      obtain ⟨d2, td2, sd2⟩ := tz
      exact ⟨z, _, d2, rfl, hHf, (fc.trans (F12.mono (by simp))).trans ff, TD.mono ff.tup _ _ td2, sd2⟩
    rintro σ Hc ⟨x, o, d, rfl, hHc, fc, td, sd⟩
    have F0 : Fr [] Hc Hc := Fr.refl Hc
    have L0 : Lv Hc [(x, d)] := Lv.nil.cons td
    walk_at "st"
    intro u1 hu1
    have F1 := F0.new (o := .tup [.str "t"]) hu1
    have L1 := L0.put hu1 (show TDs Hc [.str "t"] [.str "t"] from (.cons (.str _) .nil))
    clear F0 L0 hu1
    generalize upd Hc u1 (.tup [.str "t"]) = H'1 at F1 L1 ⊢
    walk_at "st"
    intro u2 hu2
    have F2 := F1.new (o := .tup []) hu2
    have L2 := L1.put hu2 (show TDs H'1 [] [] from .nil)
    clear F1 L1 hu2
    generalize upd H'1 u2 (.tup []) = H'2 at F2 L2 ⊢
    walk_at "st"
    intro u3 hu3
    have F3 := F2.new (o := .tup [.str "int", .int 0]) hu3
    have L3 := L2.put hu3 (show TDs H'2 [.str "int", .int 0] [.str "int", .int 0] from (.cons (.str _) (.cons (.int _) .nil)))
    clear F2 L2 hu3
    generalize upd H'2 u3 (.tup [.str "int", .int 0]) = H'3 at F3 L3 ⊢
    walk_at "st"
    intro u4 hu4
    have F4 := F3.new (o := .tup [.str "end", .ref u3]) hu4
    have L4 := L3.put hu4 (show TDs H'3 [.str "end", .ref u3] [.str "end", .tuple [.str "int", .int 0]] from (.cons (.str _) (.cons (L3.at List.mem_cons_self) .nil)))
    clear F3 L3 hu4
    generalize upd H'3 u4 (.tup [.str "end", .ref u3]) = H'4 at F4 L4 ⊢
    walk_at "st"
    intro u5 hu5
    have F5 := F4.new (o := .tup [.ref u4, x]) hu5
    have L5 := L4.put hu5 (show TDs H'4 [.ref u4, x] [.tuple [.str "end", .tuple [.str "int", .int 0]], d] from (.cons (L4.at List.mem_cons_self) (.cons (L4.at (List.mem_cons_of_mem _ (List.mem_cons_of_mem _ (List.mem_cons_of_mem _ (List.mem_cons_of_mem _ List.mem_cons_self))))) .nil)))
    clear F4 L4 hu5
    generalize upd H'4 u5 (.tup [.ref u4, x]) = H'5 at F5 L5 ⊢
    walk_at "st"
    intro u6 hu6
    have F6 := F5.new (o := .tup [.str "f", .ref u2, .ref u5]) hu6
    have L6 := L5.put hu6 (show TDs H'5 [.str "f", .ref u2, .ref u5] [.str "f", .tuple [], .tuple [.tuple [.str "end", .tuple [.str "int", .int 0]], d]] from (.cons (.str _) (.cons (L5.at (List.mem_cons_of_mem _ (List.mem_cons_of_mem _ (List.mem_cons_of_mem _ List.mem_cons_self)))) (.cons (L5.at List.mem_cons_self) .nil))))
    clear F5 L5 hu6
    generalize upd H'5 u6 (.tup [.str "f", .ref u2, .ref u5]) = H'6 at F6 L6 ⊢
    walk_at "st"
    intro u7 hu7
    have F7 := F6.new (o := .tup [.str "q", .str "b"]) hu7
    have L7 := L6.put hu7 (show TDs H'6 [.str "q", .str "b"] [.str "q", .str "b"] from (.cons (.str _) (.cons (.str _) .nil)))
    clear F6 L6 hu7
    generalize upd H'6 u7 (.tup [.str "q", .str "b"]) = H'7 at F7 L7 ⊢
    walk_at "st"
    intro u8 hu8
    have F8 := F7.new (o := .tup []) hu8
    have L8 := L7.put hu8 (show TDs H'7 [] [] from .nil)
    clear F7 L7 hu8
    generalize upd H'7 u8 (.tup []) = H'8 at F8 L8 ⊢
    walk_at "st"
    intro u9 hu9
    have F9 := F8.new (o := .tup [.str "g", .ref u7, .ref u8]) hu9
    have L9 := L8.put hu9 (show TDs H'8 [.str "g", .ref u7, .ref u8] [.str "g", .tuple [.str "q", .str "b"], .tuple []] from (.cons (.str _) (.cons (L8.at (List.mem_cons_of_mem _ List.mem_cons_self)) (.cons (L8.at List.mem_cons_self) .nil))))
    clear F8 L8 hu9
    generalize upd H'8 u9 (.tup [.str "g", .ref u7, .ref u8]) = H'9 at F9 L9 ⊢
    walk_at "st"
    intro u10 hu10
    have F10 := F9.new (o := .tup [.ref u6, .ref u9]) hu10
    have L10 := L9.put hu10 (show TDs H'9 [.ref u6, .ref u9] [.tuple [.str "f", .tuple [], .tuple [.tuple [.str "end", .tuple [.str "int", .int 0]], d]], .tuple [.str "g", .tuple [.str "q", .str "b"], .tuple []]] from (.cons (L9.at (List.mem_cons_of_mem _ (List.mem_cons_of_mem _ (List.mem_cons_of_mem _ List.mem_cons_self)))) (.cons (L9.at List.mem_cons_self) .nil)))
    clear F9 L9 hu10
    generalize upd H'9 u10 (.tup [.ref u6, .ref u9]) = H'10 at F10 L10 ⊢
    walk_at "st"
    intro t dx ht0 hdx0 dxt
    have Tb := L10.at (d := .tuple [.str "t"]) (List.mem_cons_of_mem _ (List.mem_cons_of_mem _ (List.mem_cons_of_mem _ (List.mem_cons_of_mem _ (List.mem_cons_of_mem _ (List.mem_cons_of_mem _ (List.mem_cons_of_mem _ (List.mem_cons_of_mem _ (List.mem_cons_of_mem _ List.mem_cons_self)))))))))
    have Tf := L10.at (d := .tuple [.tuple [.str "f", .tuple [], .tuple [.tuple [.str "end", .tuple [.str "int", .int 0]], d]], .tuple [.str "g", .tuple [.str "q", .str "b"], .tuple []]]) List.mem_cons_self
    have fm : Fr [] H'10 (upd (upd H'10 dx (.own t)) t (.ins Z.Text dx [])) := ((Fr.refl _).new hdx0).new (by rw [upd_ne dxt.symm]; exact ht0)
    have Tb2 : upd (upd H'10 dx (.own t)) t (.ins Z.Text dx []) u1 = some (.tup (ts1.map V.str)) := by
      cases Tb with
      | tup e hs =>
        cases hs with
        | cons h1 h2 =>
          cases h1
          cases h2
          exact fm.tup _ _ e
    refine ⟨t, dx, u1, .ref u10, ts1, [fD d, gD], rfl, upd_same, Tb2, TD.mono fm.tup _ _ Tf, good1 sd (by omega), fun Hg tx fg => ⟨rfl, ?_⟩⟩
    have Fg := made ht0 hdx0 dxt fg
    have F9 : Fr [h] H Hg := fc.trans ((F10.trans Fg).mono (by simp))
    have hHg := (hHc.keep F10).keep Fg
    walk_at "st"
    refine ⟨t, _, [fD d, gD], rfl, tx, .inl ⟨fD d, List.mem_cons_self, rfl, fun n1 ys1 h1 t1 => ?_⟩⟩
    obtain rfl := fD_names sd (by omega) t1
    walk_at "st"
    refine ⟨t, _, [fD d, gD], rfl, tx, .inl ⟨gD, List.mem_cons_of_mem _ List.mem_cons_self, rfl, fun n2 ys2 h2 t2 => ?_⟩⟩
    obtain rfl := gD_names t2
    walk_at "st"
    intro p1 hp1
    have g1 := Fr.up (ms := []) (o := .lst [.ref n1, .ref n2]) hp1
    walk_at "st"
    intro p2 hp2
    have g2 := Fr.up (ms := []) (o := .tup [.str "only"]) hp2
    walk_at "st"
    intro p3 hp3
    have g3 := Fr.up (ms := []) (o := .tup [.str "b", .str "q"]) hp3
    walk_at "st"
    intro p4 hp4
    have g4 := Fr.up (ms := []) (o := .lst [.ref p2, .ref p3]) hp4
    have q1 := g4.same _ _ (g3.same _ _ (g2.same p1 (.lst [.ref n1, .ref n2]) upd_same))
    have q2 := g4.same _ _ (g3.same p2 (.tup [.str "only"]) (upd_same))
    have q3 := g4.same p3 (.tup [.str "b", .str "q"]) upd_same
    have gg := ((g1.trans g2).trans g3).trans g4
    have r1 := gg.tup _ _ h1
    have r2 := gg.tup _ _ h2
    walk_at "st"
    refine ⟨.ref p1, .ref p4, rfl, ?_, fun Hh fh => k _ (((hHg.keep gg)).keep fh) (F9.trans ((gg.trans fh).mono (by simp)))⟩
    refine .lst q1 upd_same rfl (by show 2 ≤ 1000; decide) fun i x y hx hy => ?_
    match i, hx, hy with
    | 0, hx, hy =>
      cases hx; cases hy
      refine .tup r1 q2 rfl (by show 1 ≤ 1000; decide) fun i x y hx hy => ?_
      match i, hx, hy with
      | 0, hx, hy => cases hx; cases hy; exact .str _
      | i + 1, hx, _ => exact nomatch hx
    | 1, hx, hy =>
      cases hx; cases hy
      refine .tup r2 q3 rfl (by show 2 ≤ 1000; decide) fun i x y hx hy => ?_
      match i, hx, hy with
      | 0, hx, hy => cases hx; cases hy; exact .str _
      | 1, hx, hy => cases hx; cases hy; exact .str _
      | i + 2, hx, _ => exact nomatch hx
    | i + 2, hx, _ => exact nomatch hx
end

end K03

namespace K03
open PySem PySem.Spec PyProof.Rows L2 Hq LamX
local macro_rules | `(tactic| walk_at "st1") => `(tactic| first
  | with_reducible refine st_seq ?_ | with_reducible refine st_ret ?_ | with_reducible refine st_ifS ?_ | with_reducible refine st_asg ?_ | with_reducible refine st_drop ?_
  | ((with_reducible refine' st_var ?hv ?_); (case hv => rfl)) | with_reducible refine st_c ?_ | with_reducible refine st_op ?_ | with_reducible refine st_un ?_
  | with_reducible refine st_I0 ?_ | with_reducible refine st_U ?_ | ((with_reducible refine' st_I ?hc ?_); (case hc => walk_at "side"))
  | ((with_reducible refine' st_eq ?hs ?_); (case hs => rfl)) | ((with_reducible refine' st_ne ?hs ?_); (case hs => rfl))
  | with_reducible refine st_test ?_ | with_reducible refine st_B ?_ | with_reducible refine st_bl ?_ | with_reducible refine st_isN ?_ | with_reducible refine st_notN ?_
  | with_reducible refine st_chain ?_ | with_reducible refine st_and ?_ | with_reducible refine st_or ?_ | with_reducible refine st_not ?_
  | with_reducible refine st_andV ?_ | with_reducible refine st_orV ?_ | with_reducible refine st_notV ?_ | with_reducible refine st_if ?_
  | with_reducible refine st_CB ?_ | with_reducible refine st_cons ?_ | with_reducible refine st_nil ?_ | with_reducible refine st_fld ?_
  | ((with_reducible refine st_tup ?_)) | ((with_reducible refine st_lst ?_))
  | with_reducible refine st_call ?_ | with_reducible refine st_meth ?_ | with_reducible refine st_make ?_
  | with_reducible refine st_sl ?_ | with_reducible refine st_noPart ?_ | with_reducible refine st_part ?_ | with_reducible refine st_int ?_
  | ((with_reducible refine' st_ixL ?hq ?he ?_); (case hq => walk_at "sqL"); (case he => walk_at "at"))
  | ((with_reducible refine' st_ixT ?hq ?he ?_); (case hq => walk_at "sqT"); (case he => walk_at "at"))
  | with_reducible refine st_bm ?_ | with_reducible refine st_app ?_
  | ((with_reducible refine' st_append ?hq ?hl ?_); (case hq => walk_at "hp"); (case hl => walk_at "line"))
  | ((with_reducible refine' st_len (n := 0) ?hq ?_); (case hq => first | exact Or.inl (by walk_at "sqL") | exact Or.inr (by walk_at "sqT")))
  | ((with_reducible refine' st_listOf ?hq ?_); (case hq => first | exact Or.inl (by walk_at "sqL") | exact Or.inr (by walk_at "sqT")))
  | ((with_reducible refine st_name ?_); (try dsimp only [List.set_cons_zero, List.set_cons_succ])) | with_reducible refine st_par ?_
  | with_reducible refine st_gcons ?_ | with_reducible refine st_gnil ?_ | with_reducible refine st_gsub ?_ | with_reducible refine st_sFld ?_
  | ((with_reducible refine' st_gtup ?hq ?hl ?_); (case hq => walk_at "sqT"); (case hl => rfl))
  | ((with_reducible refine' st_setL ?hq ?hl ?_); (case hq => walk_at "hp"); (case hl => first | rfl | exact ix0 | exact ixN_nat (by assumption)); (try simp only [Int.reduceToNat, List.set_cons_zero, List.set_cons_succ]))
  | with_reducible refine st_intI ?_ | with_reducible refine st_abs ?_
  | ((with_reducible refine' st_popAt ?hq ?hk ?hy ?_); (case hq => walk_at "hp"); (case hk => exact seq0); (case hy => rfl))
  | ((with_reducible refine' and_left ?ht ?_); (case ht => walk_at "ty"))
  | with_reducible refine st_lc ?_ | with_reducible refine st_for ?_ | with_reducible refine st_iL ?_ | with_reducible refine st_iT ?_ | with_reducible refine st_iR1 ?_ | with_reducible refine st_iR2 ?_ | with_reducible refine st_iZ ?_
  | ((with_reducible refine' st_refL ?hq ?_); (case hq => walk_at "sqL")) | ((with_reducible refine' st_refT ?hq ?_); (case hq => walk_at "sqT"))
  | ((with_reducible refine' st_rng1 ?hq ?_); (case hq => walk_at "side")) | ((with_reducible refine' st_rng2 ?hq ?_); (case hq => walk_at "side"))
  | ((with_reducible refine' st_zip ?hq ?hr ?_); (case hq => walk_at "sqb"); (case hr => walk_at "sqb"))
  | ((with_reducible refine' st_size ?hw ?_); (case hw => walk_at "line"))
  | ((with_reducible refine' st_sum ?hq ?_); (case hq => walk_at "sqL"))
  | with_reducible refine st_two ?_ | with_reducible refine st_yes ?_ | ((with_reducible refine' st_wipe ?hw ?_); (case hw => rfl))
  | ((with_reducible refine' st_slL ?hq ?_); (case hq => walk_at "sqL"))
  | ((with_reducible refine' st_cat ?hq ?hr ?hl ?_); (case hq => walk_at "hp"); (case hr => walk_at "hp"); (case hl => walk_at "line"))
  | ((with_reducible refine' st_isi ?hk ?he ?_); (case hk => walk_at "kd"); (case he => walk_at "kit"))
  | ((with_reducible refine' st_ins ?hq ?hc ?hn ?hl ?_); (case hq => walk_at "hp"); (case hc => with_reducible assumption); (case hn => with_reducible assumption); (case hl => walk_at "flen"); walk_at "puts")
  | ((with_reducible refine' st_att ?hq ?hc ?hn ?hl ?_); (case hq => walk_at "hp"); (case hc => with_reducible assumption); (case hn => with_reducible assumption); (case hl => walk_at "lk"))
  | ((with_reducible refine' st_mt ?hq ?hl ?_); (case hq => walk_at "hp"); (case hl => walk_at "lk"))
  | ((with_reducible refine' st_extend ?hq ?hr ?hl ?_); (case hq => walk_at "hp"); (case hr => walk_at "hp"); (case hl => walk_at "line"))
  | with_reducible refine st_next ?_ | with_reducible refine st_retN ?_ | (with_reducible refine iteNT ?_) | (with_reducible refine iteNF ?_) | (with_reducible refine iteT ?_) | (with_reducible refine iteF ?_))
local macro_rules | `(tactic| walk_at "side") => `(tactic| first | omega | decide | assumption | exact ⟨by omega, by omega⟩ | exact Or.inr ⟨by omega, by omega⟩ | exact Or.inl ⟨by omega, by omega⟩ | (simp only [List.length_map, List.length_cons, List.length_nil, List.length_append] at *; omega))
local macro_rules | `(tactic| walk_at "hp") => `(tactic| first | assumption | exact upd_same | ((with_reducible refine' upd_old ?ho ?hb); (case ho => assumption); (case hb => walk_at "hp")) | (rw [upd_ne (by first | assumption | exact Ne.symm (by assumption))]; walk_at "hp"))
local macro_rules | `(tactic| walk_at "sqL") => `(tactic| first | assumption | exact SqL.of (by walk_at "hp"))
local macro_rules | `(tactic| walk_at "sqT") => `(tactic| first | assumption | exact SqT.of (by walk_at "hp"))
local macro_rules | `(tactic| walk_at "sqb") => `(tactic| (unfold SqB; first | ((with_reducible change SqL _ _ _ _); walk_at "sqL") | ((with_reducible change SqT _ _ _ _); walk_at "sqT")))
local macro_rules | `(tactic| walk_at "line") => `(tactic| first | assumption | decide | (apply line_of; walk_at "side") | (apply line_lt; walk_at "side"))
local macro_rules | `(tactic| walk_at "ty") => `(tactic| ((with_reducible refine' ty_lst ?hq); (case hq => walk_at "hp")))
local macro_rules | `(tactic| walk_at "at") => `(tactic| with_reducible first | assumption | exact at0 | exact at1 | exact at2 | exact at3 | exact at4 | exact at5 | exact at6 | exact at7 | exact at8)
local macro_rules | `(tactic| walk_at "st") => `(tactic| (repeat walk_at "st1"))
local macro_rules | `(tactic| walk_at "lk") => `(tactic| first | with_reducible assumption | rfl)
local macro_rules | `(tactic| walk_at "kd") => `(tactic| first | exact .base (.int _) | exact .base .non | exact .base (.bl _) | exact .base (.str _) | exact .base (.tup (by walk_at "hp")) | exact .base (.lst (by walk_at "hp")) | exact .base (.dK (by walk_at "hp")) | exact .base (.dT (by walk_at "hp")))
local macro_rules | `(tactic| walk_at "kit") => `(tactic| with_reducible first
  | exact kit_NoneType_bool
  | exact kit_NoneType_int
  | exact kit_NoneType_str
  | exact kit_NoneType_tuple
  | exact kit_NoneType_list
  | exact kit_NoneType_dict
  | exact kit_bool_bool
  | exact kit_bool_int
  | exact kit_bool_str
  | exact kit_bool_tuple
  | exact kit_bool_list
  | exact kit_bool_dict
  | exact kit_int_bool
  | exact kit_int_int
  | exact kit_int_str
  | exact kit_int_tuple
  | exact kit_int_list
  | exact kit_int_dict
  | exact kit_str_bool
  | exact kit_str_int
  | exact kit_str_str
  | exact kit_str_tuple
  | exact kit_str_list
  | exact kit_str_dict
  | exact kit_tuple_bool
  | exact kit_tuple_int
  | exact kit_tuple_str
  | exact kit_tuple_tuple
  | exact kit_tuple_list
  | exact kit_tuple_dict
  | exact kit_list_bool
  | exact kit_list_int
  | exact kit_list_str
  | exact kit_list_tuple
  | exact kit_list_list
  | exact kit_list_dict
  | exact kit_dict_bool
  | exact kit_dict_int
  | exact kit_dict_str
  | exact kit_dict_tuple
  | exact kit_dict_list
  | exact kit_dict_dict)
local macro_rules | `(tactic| walk_at "flen") => `(tactic| decide)
local macro_rules | `(tactic| walk_at "puts") => `(tactic| skip)

local macro_rules | `(tactic| walk_at "st1") => `(tactic| first
  | with_reducible refine st_dc ?_ | with_reducible refine st_dgetS ?_ | with_reducible refine st_dinS ?_ | with_reducible refine st_dninS ?_ | with_reducible refine st_dputS ?_ | with_reducible refine st_newT ?_ | with_reducible refine iteNN ?_ | with_reducible refine iteYN ?_
  | ((with_reducible refine' st_getT ?hq ?hk ?hv ?_); (case hq => walk_at "hp"); (case hk => walk_at "key"); (case hv => with_reducible assumption))
  | ((with_reducible refine' st_inT ?hq ?hk ?_); (case hq => walk_at "hp"); (case hk => walk_at "key"))
  | ((with_reducible refine' st_ninT ?hq ?hk ?_); (case hq => walk_at "hp"); (case hk => walk_at "key"))
  | ((with_reducible refine' st_putT ?hq ?hk ?hl ?_); (case hq => walk_at "hp"); (case hk => walk_at "key"); (case hl => walk_at "line"))
  | ((with_reducible refine' st_cputT ?hq ?hk ?hl ?_); (case hq => walk_at "hp"); (case hk => walk_at "key"); (case hl => walk_at "line"))
  | ((with_reducible refine' st_ixB ?hq ?he ?_); (case hq => first | assumption | exact Or.inl (by walk_at "sqL") | exact Or.inr (by walk_at "sqT")); (case he => walk_at "at")))
local macro_rules | `(tactic| walk_at "key") => `(tactic| with_reducible assumption)

section
variable {Z : Ads} {P : Program} {w : World} {K : PySem.W.Frag} {mg : Str → Option Value} {base : Heap}
/-! ### a lambda handed to a def that tells how it ends -/
structure TxE (K : PySem.W.Frag) (Z : Ads) : Prop where
  ex : ExcC K Z.NoFunction
  em : PySem.W.exmOne K (.ref Z.NoFunction) (.ref Z.RunError) = some true
  ki : PySem.W.kitOne K (.ref Z.NoFunction) (.ref Z.NoFunction) = some true
  kv : PySem.W.kitOne K (.ref Z.NoFunction) (.type "ValueError") = some true
abbrev s_law_word : Stmt := top 63
theorem sc_law_word : FnScope ["call", "word", "error"] ["call"] (defScope s_law_word) := ⟨rfl, rfl, rfl, by decide +kernel, rfl, by decide +kernel, by decide +kernel⟩
def wordEnd (Z : Ads) (Q : VK) : XK := fun cls d H' => cls = .ref Z.NoFunction ∧ d = none ∧ Q (.str "none") H'
def TWord (Z : Ads) : (XK → Hp → VK → Prop) → Hp → VK → Prop := fun tl H Q => tl (wordEnd Z Q) H (fun _ H' => Q (.str "let") H')
theorem word_gives {X : Cx} {q : Str} {g : Addr} {cdg : Value} (T : Txt X.K X.mg Z) (TE : TxE X.K Z) : GivesTo X ["call", "word", "error"] "_law_word" (defScope s_law_word) g cdg (defBody s_law_word) "call" q (TWord Z) := by
  intro f c' s H Q tl act hc h
  obtain ⟨uR, hR, rR⟩ := id T.g_RunError
  cases (show uR = .ref Z.RunError from rR)
  refine ⟨_, pss_cons (ps_set (i := 1) sc_law_word.nd rfl (Or.inl rfl) pe_str) (pss_cons (ps_try_as (i := 2) (X := (cxOf C8.CX0 X.prog X.w X.K X.mg X.base _ "_law_word" (defScope s_law_word) g cdg X.A X.stack s H C8.E0).nox) (c := .ref Z.RunError)
      (tb := fun W D σ H => ∃ Ech : XK, (∀ cls d σ' H', Ech cls d H' → σ'.length = 3 → W cls d σ' H') ∧ σ[0]? = some (some (.ref f)) ∧ H c' = some (CodeO c' q) ∧ tl Ech H (fun _ H' => D.nx σ H'))
      (ts := fun a cls d D σ H => ∃ x y, σ = [x, y, some (.ref a)] ∧ cls = .ref Z.NoFunction ∧ d = none ∧ D.nx [x, some (.str "none"), some (.ref a)] H)
      rfl rfl sc_law_word.nd rfl rfl ⟨rfl, by decide, .inl hR⟩ LamX.takes0 (fun W pn xe tk _ => ?_) (fun a oe cls d pn hz hf => ?_)) (pss_one (ps_ret (pv 1)))), ?_⟩
  · refine ⟨fun pins s' σ H' D I h' => ?_⟩
    obtain ⟨Ech, hW, h1, h2, h3⟩ := h'
    exact (pss_one (ps_expr (act (fun c d σ H => σ.length = 3 → W c d σ H) pn xe Ech _ _ (takes_len tk) hW))).run pins s' σ H' D I ⟨h1, h2, h3⟩
  · by_cases hcd : cls = .ref Z.NoFunction ∧ d = none
    · obtain ⟨rfl, rfl⟩ := hcd
      refine ⟨fun pins s' σ H' D I h' => ?_⟩
      obtain ⟨x, y, rfl, _, _, h3⟩ := h'
      refine ((pss_one (ps_set (i := 1) sc_law_word.nd rfl (by first | exact Or.inl rfl | exact Or.inr rfl) (pe_ifExp (PW.pt (pw_and (pt_val (pe_callB (call_isE (X := (cxOf C8.CX0 X.prog X.w X.K X.mg X.base _ "_law_word" (defScope s_law_word) g cdg X.A X.stack s H C8.E0).nox) TE.ex hz hf) (by rfl) T.n_isinstance (by decide +kernel) (pa_cons (pv 2) (pa_cons (pe_gl (by rfl) T.g_NoFunction) pa_nil)))) (pw_and1 (pt_val (pe_callB (call_isE (X := (cxOf C8.CX0 X.prog X.w X.K X.mg X.base _ "_law_word" (defScope s_law_word) g cdg X.A X.stack s H C8.E0).nox) TE.ex hz hf) (by rfl) T.n_isinstance (by decide +kernel) (pa_cons (pv 2) (pa_cons (pe_ty "ValueError" (by rfl) T.n_ValueError (by decide +kernel)) pa_nil))))))) pe_str pe_str)))).run pins s' _ H' D I ?_
      walk_at "st"
      refine ⟨.ref Z.NoFunction, .ref Z.NoFunction, true, rfl, fun u hu => hu, TE.ki, true, rfl, ?_⟩
      rw [if_pos rfl]
      walk_at "st"
      refine ⟨.ty "ValueError", .type "ValueError", true, rfl, fun u hu => hu, TE.kv, true, rfl, ?_⟩
      rw [if_pos rfl]
      walk_at "st"
      exact h3
    · refine ⟨fun pins s' σ H' D I h' => ?_⟩
      obtain ⟨x, y, _, h1, h2, _⟩ := h'
      exact absurd ⟨h1, h2⟩ hcd
  · walk_at "st"
    refine ⟨wordEnd Z Q, fun cls d σ' H' he hl => ?_, rfl, hc, ?_⟩
    · obtain ⟨rfl, rfl, hq⟩ := he
      obtain ⟨x, y, z, rfl⟩ := len3 hl
      refine ⟨true, TE.em, fun _ a ha => ⟨x, y, rfl, rfl, rfl, ?_⟩, fun z => nomatch z⟩
      show tRet (tVar 1) _ [x, some (.str "none"), none] H'
      walk_at "st"
      exact hq
    · have e : ∀ D : Ends, D.rt = Q → (fun (_ : V) H' => tRet (tVar 1) D [some (.ref f), some (.str "let"), none] H') = fun _ H' => Q (.str "let") H' := by
        intro D hD
        subst hD
        funext v H'
        exact propext ⟨fun ⟨v, hv, q⟩ => by cases hv; exact q, fun q => ⟨_, rfl, q⟩⟩
      exact Eq.mpr (congrArg (tl (wordEnd Z Q) H) (e _ rfl)) h
/-- the def that is handed a lambda -/
structure WordDef (K : PySem.W.Frag) (mg : Str → Option Value) : Prop where
  ok : ∃ (g : Addr) (oc : Value) (od : Option Addr) (kV doc pm : Value) (an : Option Addr) (cdv ct : Value) (osl : Array (Option Value)), mg "_law_word" = some (.ref g) ∧ PySem.W.keepIn K (.ref g) = true ∧
    K.lookup g = some ⟨oc, od, .func (PySem.W.fnOf "_law_word" "_law_word" (defArgs s_law_word) (defBody s_law_word) (defScope s_law_word) .none kV doc pm an cdv ct), osl⟩ ∧ PySem.W.codeIn K cdv "_law_word" = true ∧
    L2.Binds K (PySem.W.fnOf "_law_word" "_law_word" (defArgs s_law_word) (defBody s_law_word) (defScope s_law_word) .none kV doc pm an cdv ct) ["call"] []
theorem pe_word {X : Cx} {Tb : List (Addr × Str)} {c Pt : Addr} {k : Nat} {params : Arguments} {body : Expr} {scope : Scope} {t : XK → TE} {p lpos pos : Pos} (W : WordDef X.K X.mg) (T : Txt X.K X.mg Z) (TE : TxE X.K Z) (hg : Gl X "_law_word")
    {qn : Str} (TB : TabB X.base X.mg c Pt) (hcode : X.env.code = .ref c) (hqn : X.env.qual = qn) (hmT : (Pt, qn ++ "<lambda>") ∈ Tb) (hu : ∀ p ∈ Tb, p.1 = Pt → p.2 = qn ++ "<lambda>") (hr : Room (k + 2) X.A) (L : LamS X.env.scope scope)
    (hbody : ∀ (A : Around) (outer : List Env) (s : Shared) (H : Hp) (E : XK) (f c' : Addr), Room k (A.deeper (lamEnv X scope s.heap.objs.size f c')) → PE (lamCx X A outer s H E scope f c') body (t E))
    (hdef : defaultsOf params X.env = ([], []) := by rfl)
    (hbind : ∀ (q : Str) (cl : List (Str × Addr)) (pm cv ctv : Value), bindArgs (PySem.W.kla_fn "<lambda>" q params body scope cl pm cv ctv) ⟨[], []⟩ = pure [] := by intro _ _ _ _ _; rfl) :
    PE X (.Call (.Name "_law_word" p) [.Lambda params body scope lpos] [] pos) (tLam Tb (TWord Z) t) := by
  subst hqn
  obtain ⟨g, oc, od, kV, doc, pm, an, cdv, ct, osl, hm, hk, lk, hcg, hb⟩ := W.ok
  exact pe_lamcall (Ng := ["call", "word", "error"]) hg hm hk lk hcg hb sc_law_word rfl (.inl rfl) (word_gives T TE) TB hcode hmT hu hr L hdef hbind hbody
end

end K03

namespace K03
open PySem PySem.Spec PyProof.Rows L2 Hq LamX
local macro_rules | `(tactic| walk_at "st1") => `(tactic| first
  | with_reducible refine st_seq ?_ | with_reducible refine st_ret ?_ | with_reducible refine st_ifS ?_ | with_reducible refine st_asg ?_ | with_reducible refine st_drop ?_
  | ((with_reducible refine' st_var ?hv ?_); (case hv => rfl)) | with_reducible refine st_c ?_ | with_reducible refine st_op ?_ | with_reducible refine st_un ?_
  | with_reducible refine st_I0 ?_ | with_reducible refine st_U ?_ | ((with_reducible refine' st_I ?hc ?_); (case hc => walk_at "side"))
  | ((with_reducible refine' st_eq ?hs ?_); (case hs => rfl)) | ((with_reducible refine' st_ne ?hs ?_); (case hs => rfl))
  | with_reducible refine st_test ?_ | with_reducible refine st_B ?_ | with_reducible refine st_bl ?_ | with_reducible refine st_isN ?_ | with_reducible refine st_notN ?_
  | with_reducible refine st_chain ?_ | with_reducible refine st_and ?_ | with_reducible refine st_or ?_ | with_reducible refine st_not ?_
  | with_reducible refine st_andV ?_ | with_reducible refine st_orV ?_ | with_reducible refine st_notV ?_ | with_reducible refine st_if ?_
  | with_reducible refine st_CB ?_ | with_reducible refine st_cons ?_ | with_reducible refine st_nil ?_ | with_reducible refine st_fld ?_
  | ((with_reducible refine st_tup ?_)) | ((with_reducible refine st_lst ?_))
  | with_reducible refine st_call ?_ | with_reducible refine st_meth ?_ | with_reducible refine st_make ?_
  | with_reducible refine st_sl ?_ | with_reducible refine st_noPart ?_ | with_reducible refine st_part ?_ | with_reducible refine st_int ?_
  | ((with_reducible refine' st_ixL ?hq ?he ?_); (case hq => walk_at "sqL"); (case he => walk_at "at"))
  | ((with_reducible refine' st_ixT ?hq ?he ?_); (case hq => walk_at "sqT"); (case he => walk_at "at"))
  | with_reducible refine st_bm ?_ | with_reducible refine st_app ?_
  | ((with_reducible refine' st_append ?hq ?hl ?_); (case hq => walk_at "hp"); (case hl => walk_at "line"))
  | ((with_reducible refine' st_len (n := 0) ?hq ?_); (case hq => first | exact Or.inl (by walk_at "sqL") | exact Or.inr (by walk_at "sqT")))
  | ((with_reducible refine' st_listOf ?hq ?_); (case hq => first | exact Or.inl (by walk_at "sqL") | exact Or.inr (by walk_at "sqT")))
  | ((with_reducible refine st_name ?_); (try dsimp only [List.set_cons_zero, List.set_cons_succ])) | with_reducible refine st_par ?_
  | with_reducible refine st_gcons ?_ | with_reducible refine st_gnil ?_ | with_reducible refine st_gsub ?_ | with_reducible refine st_sFld ?_
  | ((with_reducible refine' st_gtup ?hq ?hl ?_); (case hq => walk_at "sqT"); (case hl => rfl))
  | ((with_reducible refine' st_setL ?hq ?hl ?_); (case hq => walk_at "hp"); (case hl => first | rfl | exact ix0 | exact ixN_nat (by assumption)); (try simp only [Int.reduceToNat, List.set_cons_zero, List.set_cons_succ]))
  | with_reducible refine st_intI ?_ | with_reducible refine st_abs ?_
  | ((with_reducible refine' st_popAt ?hq ?hk ?hy ?_); (case hq => walk_at "hp"); (case hk => exact seq0); (case hy => rfl))
  | ((with_reducible refine' and_left ?ht ?_); (case ht => walk_at "ty"))
  | with_reducible refine st_lc ?_ | with_reducible refine st_for ?_ | with_reducible refine st_iL ?_ | with_reducible refine st_iT ?_ | with_reducible refine st_iR1 ?_ | with_reducible refine st_iR2 ?_ | with_reducible refine st_iZ ?_
  | ((with_reducible refine' st_refL ?hq ?_); (case hq => walk_at "sqL")) | ((with_reducible refine' st_refT ?hq ?_); (case hq => walk_at "sqT"))
  | ((with_reducible refine' st_rng1 ?hq ?_); (case hq => walk_at "side")) | ((with_reducible refine' st_rng2 ?hq ?_); (case hq => walk_at "side"))
  | ((with_reducible refine' st_zip ?hq ?hr ?_); (case hq => walk_at "sqb"); (case hr => walk_at "sqb"))
  | ((with_reducible refine' st_size ?hw ?_); (case hw => walk_at "line"))
  | ((with_reducible refine' st_sum ?hq ?_); (case hq => walk_at "sqL"))
  | with_reducible refine st_two ?_ | with_reducible refine st_yes ?_ | ((with_reducible refine' st_wipe ?hw ?_); (case hw => rfl))
  | ((with_reducible refine' st_slL ?hq ?_); (case hq => walk_at "sqL"))
  | ((with_reducible refine' st_cat ?hq ?hr ?hl ?_); (case hq => walk_at "hp"); (case hr => walk_at "hp"); (case hl => walk_at "line"))
  | ((with_reducible refine' st_isi ?hk ?he ?_); (case hk => walk_at "kd"); (case he => walk_at "kit"))
  | ((with_reducible refine' st_ins ?hq ?hc ?hn ?hl ?_); (case hq => walk_at "hp"); (case hc => with_reducible assumption); (case hn => with_reducible assumption); (case hl => walk_at "flen"); walk_at "puts")
  | ((with_reducible refine' st_att ?hq ?hc ?hn ?hl ?_); (case hq => walk_at "hp"); (case hc => with_reducible assumption); (case hn => with_reducible assumption); (case hl => walk_at "lk"))
  | ((with_reducible refine' st_mt ?hq ?hl ?_); (case hq => walk_at "hp"); (case hl => walk_at "lk"))
  | ((with_reducible refine' st_extend ?hq ?hr ?hl ?_); (case hq => walk_at "hp"); (case hr => walk_at "hp"); (case hl => walk_at "line"))
  | with_reducible refine st_next ?_ | with_reducible refine st_retN ?_ | (with_reducible refine iteNT ?_) | (with_reducible refine iteNF ?_) | (with_reducible refine iteT ?_) | (with_reducible refine iteF ?_))
local macro_rules | `(tactic| walk_at "side") => `(tactic| first | omega | decide | assumption | exact ⟨by omega, by omega⟩ | exact Or.inr ⟨by omega, by omega⟩ | exact Or.inl ⟨by omega, by omega⟩ | (simp only [List.length_map, List.length_cons, List.length_nil, List.length_append] at *; omega))
local macro_rules | `(tactic| walk_at "hp") => `(tactic| first | assumption | exact upd_same | ((with_reducible refine' upd_old ?ho ?hb); (case ho => assumption); (case hb => walk_at "hp")) | (rw [upd_ne (by first | assumption | exact Ne.symm (by assumption))]; walk_at "hp"))
local macro_rules | `(tactic| walk_at "sqL") => `(tactic| first | assumption | exact SqL.of (by walk_at "hp"))
local macro_rules | `(tactic| walk_at "sqT") => `(tactic| first | assumption | exact SqT.of (by walk_at "hp"))
local macro_rules | `(tactic| walk_at "sqb") => `(tactic| (unfold SqB; first | ((with_reducible change SqL _ _ _ _); walk_at "sqL") | ((with_reducible change SqT _ _ _ _); walk_at "sqT")))
local macro_rules | `(tactic| walk_at "line") => `(tactic| first | assumption | decide | (apply line_of; walk_at "side") | (apply line_lt; walk_at "side"))
local macro_rules | `(tactic| walk_at "ty") => `(tactic| ((with_reducible refine' ty_lst ?hq); (case hq => walk_at "hp")))
local macro_rules | `(tactic| walk_at "at") => `(tactic| with_reducible first | assumption | exact at0 | exact at1 | exact at2 | exact at3 | exact at4 | exact at5 | exact at6 | exact at7 | exact at8)
local macro_rules | `(tactic| walk_at "st") => `(tactic| (repeat walk_at "st1"))
local macro_rules | `(tactic| walk_at "lk") => `(tactic| first | with_reducible assumption | rfl)
local macro_rules | `(tactic| walk_at "kd") => `(tactic| first | exact .base (.int _) | exact .base .non | exact .base (.bl _) | exact .base (.str _) | exact .base (.tup (by walk_at "hp")) | exact .base (.lst (by walk_at "hp")) | exact .base (.dK (by walk_at "hp")) | exact .base (.dT (by walk_at "hp")))
local macro_rules | `(tactic| walk_at "kit") => `(tactic| with_reducible first
  | exact kit_NoneType_bool
  | exact kit_NoneType_int
  | exact kit_NoneType_str
  | exact kit_NoneType_tuple
  | exact kit_NoneType_list
  | exact kit_NoneType_dict
  | exact kit_bool_bool
  | exact kit_bool_int
  | exact kit_bool_str
  | exact kit_bool_tuple
  | exact kit_bool_list
  | exact kit_bool_dict
  | exact kit_int_bool
  | exact kit_int_int
  | exact kit_int_str
  | exact kit_int_tuple
  | exact kit_int_list
  | exact kit_int_dict
  | exact kit_str_bool
  | exact kit_str_int
  | exact kit_str_str
  | exact kit_str_tuple
  | exact kit_str_list
  | exact kit_str_dict
  | exact kit_tuple_bool
  | exact kit_tuple_int
  | exact kit_tuple_str
  | exact kit_tuple_tuple
  | exact kit_tuple_list
  | exact kit_tuple_dict
  | exact kit_list_bool
  | exact kit_list_int
  | exact kit_list_str
  | exact kit_list_tuple
  | exact kit_list_list
  | exact kit_list_dict
  | exact kit_dict_bool
  | exact kit_dict_int
  | exact kit_dict_str
  | exact kit_dict_tuple
  | exact kit_dict_list
  | exact kit_dict_dict)
local macro_rules | `(tactic| walk_at "flen") => `(tactic| decide)
local macro_rules | `(tactic| walk_at "puts") => `(tactic| skip)

local macro_rules | `(tactic| walk_at "st1") => `(tactic| first
  | with_reducible refine st_dc ?_ | with_reducible refine st_dgetS ?_ | with_reducible refine st_dinS ?_ | with_reducible refine st_dninS ?_ | with_reducible refine st_dputS ?_ | with_reducible refine st_newT ?_ | with_reducible refine iteNN ?_ | with_reducible refine iteYN ?_
  | ((with_reducible refine' st_getT ?hq ?hk ?hv ?_); (case hq => walk_at "hp"); (case hk => walk_at "key"); (case hv => with_reducible assumption))
  | ((with_reducible refine' st_inT ?hq ?hk ?_); (case hq => walk_at "hp"); (case hk => walk_at "key"))
  | ((with_reducible refine' st_ninT ?hq ?hk ?_); (case hq => walk_at "hp"); (case hk => walk_at "key"))
  | ((with_reducible refine' st_putT ?hq ?hk ?hl ?_); (case hq => walk_at "hp"); (case hk => walk_at "key"); (case hl => walk_at "line"))
  | ((with_reducible refine' st_cputT ?hq ?hk ?hl ?_); (case hq => walk_at "hp"); (case hk => walk_at "key"); (case hl => walk_at "line"))
  | ((with_reducible refine' st_ixB ?hq ?he ?_); (case hq => first | assumption | exact Or.inl (by walk_at "sqL") | exact Or.inr (by walk_at "sqT")); (case he => walk_at "at")))
local macro_rules | `(tactic| walk_at "key") => `(tactic| with_reducible assumption)

local macro_rules | `(tactic| walk_at "lk") => `(tactic| with_reducible first | assumption | exact FlowF_get_params | exact FlowF_get_names | exact FlowF_get_first | exact FlowF_get_rows | exact TextF_get_tables | exact TextF_get_functions | exact TextF_get_flows | exact FlowF_no (by decide +kernel) (by decide +kernel) (by decide +kernel) (by decide +kernel) | exact TextF_no (by decide +kernel) (by decide +kernel) (by decide +kernel))
local macro_rules | `(tactic| walk_at "puts") => `(tactic| try simp only [FlowF_put_params, FlowF_put_names, FlowF_put_first, FlowF_put_rows, TextF_put_tables, TextF_put_functions, TextF_put_flows, FlowF0_put, FlowF1_put, FlowF2_put, FlowF3_put, TextF0_put, TextF1_put, TextF2_put])
local macro_rules | `(tactic| walk_at "flen") => `(tactic| first | with_reducible assumption | with_reducible (first | exact FlowF_len | exact TextF_len | exact FlowF0_len | exact FlowF1_len | exact FlowF2_len | exact FlowF3_len | exact TextF0_len | exact TextF1_len | exact TextF2_len) | decide)
section
variable {Z : Ads} {P : Program} {w : World} {K : PySem.W.Frag} {mg : Str → Option Value} {base : Heap}
def spLaw (Tb : List (Addr × Str)) (K : PySem.W.Frag) : Sp := fun vs H Q _ => ∃ (a : Addr) (ns : List Int), vs = [.ref a] ∧ SqL K H a (ns.map V.int) ∧ ns.length ≤ 63 ∧ Tabs Tb H ∧ ∀ H', Q (.bl true) H'
theorem Hand.soft {H : Hp} {h c : Addr} (a : Hand H h c) : ∀ x ∈ [h], ∃ o, H x = some o ∧ Soft o := fun x hx => by
  rw [List.mem_singleton.mp hx]
  obtain ⟨⟨i, b, s, n, cs, e1, _⟩, _⟩ := a
  exact ⟨_, e1, .inl ⟨_, rfl⟩⟩
theorem Hand.ext {H H' : Hp} {h c : Addr} (a : Hand H h c) (e : ExtN H H') : Hand H' h c := by
  obtain ⟨⟨i, b, s, n, cs, e1, e2, e3⟩, ne⟩ := a
  exact ⟨⟨i, b, s, n, cs, extN_keep e e1, extN_keep e e2, e3⟩, ne⟩
/-- what is no list stays -/
def KeepN (H H' : Hp) : Prop := ∀ a o, H a = some o → (∀ ps, o ≠ .tbl ps) → (∀ xs, o ≠ .lst xs) → H' a = some o
theorem Hand.keepN {H H' : Hp} {h c : Addr} (a : Hand H h c) (f : Fr [h] H H') : KeepN H H' := fun b o e _ nl => f.keep b o (fun z => by
  rw [List.mem_singleton.mp z] at e
  obtain ⟨⟨i, b', s, n, cs, e1, _⟩, _⟩ := a
  rw [e1] at e
  cases e
  exact nl _ rfl) e
theorem ext_keepN {H H' : Hp} (e : ExtN H H') : KeepN H H' := fun a o h n _ => e a o h n
theorem TextAt.mono {Ct Cf : Addr} {H H' : Hp} {t : Addr} {fs : List Fnc} (T : TextAt Ct Cf H t fs) (k : KeepN H H') : TextAt Ct Cf H' t fs := by
  obtain ⟨⟨dx, d, tb, fn, ks, ht, hd, hp⟩, nd⟩ := T
  refine ⟨⟨dx, d, tb, fn, ks, k _ _ ht (by intro _ z; cases z) (by intro _ z; cases z), k _ _ hd (by intro _ z; cases z) (by intro _ z; cases z), Paired.mapP hp fun kv f q => ?_⟩, nd⟩
  obtain ⟨e, a, ys, e2, ⟨dx2, n2, p2, g2, r2, h1, h2⟩, h3⟩ := q
  exact ⟨e, a, ys, e2, ⟨dx2, n2, p2, g2, r2, k _ _ h1 (by intro _ z; cases z) (by intro _ z; cases z), k _ _ h2 (by intro _ z; cases z) (by intro _ z; cases z)⟩, h3⟩
/-- things that are no function's name -/
inductive OddK (fs : List Fnc) (h : Addr) (H : Hp) : V → Prop
  | str {s : Str} : s ∉ fs.map Fnc.name → OddK fs h H (.str s)
  | non : OddK fs h H .non
  | int {i : Int} : OddK fs h H (.int i)
  | tup {a : Addr} {xs : List V} : H a = some (.tup xs) → OddK fs h H (.ref a)
  | lst {a : Addr} {xs : List V} : H a = some (.lst xs) → a ≠ h → OddK fs h H (.ref a)
  | dct {a : Addr} {ks : List (List Key × V)} : H a = some (.dT ks) → a ≠ h → OddK fs h H (.ref a)
theorem OddK.keep {fs : List Fnc} {h : Addr} {H H' : Hp} {v : V} (o : OddK fs h H v) (k : ∀ a o, a ≠ h → H a = some o → (∀ ps, o ≠ .tbl ps) → H' a = some o) (t : Tp H H') : OddK fs h H' v := by
  cases o with
  | str n => exact .str n
  | non => exact .non
  | int => exact .int
  | tup e => exact .tup (t _ _ e)
  | lst e n => exact .lst (k _ _ n e (by intro _ z; cases z)) n
  | dct e n => exact .dct (k _ _ n e (by intro _ z; cases z)) n
theorem OddK.odd {K : PySem.W.Frag} {fs : List Fnc} {h : Addr} {H : Hp} {v : V} (o : OddK fs h H v) : OddF K H v fs := by
  cases o with
  | str n => exact .inr ⟨_, rfl, n⟩
  | non => exact .inl ⟨_, .base .non, kit_ty kit_NoneType_str⟩
  | int => exact .inl ⟨_, .base (.int _), kit_ty kit_int_str⟩
  | tup e => exact .inl ⟨_, .base (.tup e), kit_ty kit_tuple_str⟩
  | lst e n => exact .inl ⟨_, .base (.lst e), kit_ty kit_list_str⟩
  | dct e n => exact .inl ⟨_, .base (.dT e), kit_ty kit_dict_str⟩
theorem no_name {fs : List Fnc} (h : ∀ f ∈ fs, f.name ∈ namesL) {s : Str} (n : s ∉ namesL) : s ∉ fs.map Fnc.name := fun z => by
  obtain ⟨f, hf, rfl⟩ := List.mem_map.mp z
  exact n (h f hf)
abbrev s_law : Stmt := top 65
theorem sc_law : FnScope ["script", "hand", "turn", "tables", "functions", "text", "f", "said", "names", "odd"] ["script"] (defScope s_law) := ⟨rfl, rfl, rfl, by decide +kernel, rfl, by decide +kernel, by decide +kernel⟩
theorem ok_law {oc : Value} {od : Option Addr} {kV doc pm : Value} {an : Option Addr} {c Pt : Addr} {ct : Value} {osl : Array (Option Value)} {f : Addr} {Tb : List (Addr × Str)}
    (lk : K.lookup f = some ⟨oc, od, .func (PySem.W.fnOf "law" "law" (defArgs s_law) (defBody s_law) (defScope s_law) .none kV doc pm an (.ref c) ct), osl⟩) (hcd : PySem.W.codeIn K (.ref c) "law" = true)
    (T : Txt K mg Z) (TE : TxE K Z) (WD : WordDef K mg) (TB : TabB base mg c Pt) (hmT : (Pt, (("law" : Str) ++ ".<locals>.") ++ "<lambda>") ∈ Tb) (huT : ∀ p ∈ Tb, p.1 = Pt → p.2 = (("law" : Str) ++ ".<locals>.") ++ "<lambda>")
    (D_law_hand : Dn P w K mg base "_law_hand" 1 ["script"] (spHand K)) (D_law_is_alone_right : Dn P w K mg base "_law_is_alone_right" 25 ["hand"] spAlone) (D_law_parts : Dn P w K mg base "_law_parts" 21 ["hand"] spLParts) (C_Text : Cn P w K mg base "Text" Z.Text 23 ["self", "tables", "functions"] (spTextInit Z.Text Z.Flow))
    (D_names_of : Dn P w K mg base "names_of" 4 ["text", "f"] (spNamesOf K Z.Text Z.Flow Z.NoFunction)) (D_law_is : Dn P w K mg base "_law_is" 4 ["thing", "due"] (spLIs 2)) (D_law_all_names : Dn P w K mg base "_law_all_names" 7 ["f"] (spA spLNames)) (D_law_some : Dn P w K mg base "_law_some" 2 ["hand", "things"] (spSome K)) (D_law_deep : Dn P w K mg base "_law_deep" 3 ["hand"] spLDeep) :
    FnOk P w K mg base (L2.CX P w) 27 f (PySem.W.fnOf "law" "law" (defArgs s_law) (defBody s_law) (defScope s_law) .none kV doc pm an (.ref c) ct) ["script"] (spLaw Tb K) := by
  refine okL lk hcd sc_law (fun vs H Q E h => ?_) (fun A outer s0 H vs Q E hr h => ?_)
  · obtain ⟨a, ns, rfl, _⟩ := h
    rfl
  · obtain ⟨a, ns, rfl, hS, hlen, hT, k⟩ := h
    refine ⟨_, [some _, none, none, none, none, none, none, none, none, none], rfl, (pss_cons (ps_set (i := 1) sc_law.nd rfl (by first | exact Or.inl rfl | exact Or.inr rfl) (pe_d D_law_hand E0 (hr.mono (by first | decide | omega)) (by rfl) passL (pa_cons (pv 0) pa_nil)))
      (pss_cons (ps_if (PW.pt (pw_or (pt_not (pt_val (pe_d D_law_is_alone_right E0 (hr.mono (by first | decide | omega)) (by rfl) passL (pa_cons (pv 1) pa_nil)))) (pw_or1 (pt_not (pt_val (pe_d D_law_is_alone_right E0 (hr.mono (by first | decide | omega)) (by rfl) passL (pa_cons (pv 1) pa_nil))))))) (pss_one (ps_ret pe_bl)) pss_nil)
      (pss_cons (ps_for PassesOwn.never rfl (pi_range1 (by rfl) T.n_range (pa_cons pe_int pa_nil)) (pg_name (i := 2) sc_law.nd rfl (by first | exact Or.inl rfl | exact Or.inr rfl))
      (pss_cons (ps_asg (pe_d D_law_parts E0 (hr.mono (by first | decide | omega)) (by rfl) passL (pa_cons (pv 1) pa_nil)) (kTupT (K := K) (n := 2) (pgs_cons (pg_name (i := 3) sc_law.nd rfl (by first | exact Or.inl rfl | exact Or.inr rfl)) (pgs_cons (pg_name (i := 4) sc_law.nd rfl (by first | exact Or.inl rfl | exact Or.inr rfl)) pgs_nil))))
      (pss_cons (ps_set (i := 5) sc_law.nd rfl (by first | exact Or.inl rfl | exact Or.inr rfl) (pe_c C_Text E0 (hr.mono (by first | decide | omega)) (by rfl) passL (pa_cons (pv 3) (pa_cons (pv 4) pa_nil))))
      (pss_cons (ps_for PassesOwn.never rfl (kPiT (K := K) (pv 4)) (pg_name (i := 6) sc_law.nd rfl (by first | exact Or.inl rfl | exact Or.inr rfl))
      (pss_cons (ps_set (i := 7) sc_law.nd rfl (by first | exact Or.inl rfl | exact Or.inr rfl) (pe_d D_names_of E0 (hr.mono (by first | decide | omega)) (by rfl) passL (pa_cons (pv 5) (pa_cons (pe_ix (kIxT (K := K)) (pv 6) pe_int (fun _ _ => rfl)) pa_nil))))
      (pss_one (ps_if (PW.pt (pw_or (pt_not (pt_val (pe_d D_law_is E0 (hr.mono (by first | decide | omega)) (by rfl) passL (pa_cons (pv 7) (pa_cons (pe_callTy (kTupOf (K := K)) (by rfl) T.n_tuple (by decide +kernel) (pa_cons (pe_d D_law_all_names E0 (hr.mono (by first | decide | omega)) (by rfl) passL (pa_cons (pv 6) pa_nil)) pa_nil)) pa_nil))))) (pw_or1 (pt_cmpR op_gt (pe_callB (kLen (K := K)) (by rfl) T.n_len (by decide +kernel) (pa_cons (pv 7) pa_nil)) pe_int (by first | exact nomark _ | rfl))))) (pss_one (ps_ret pe_bl)) pss_nil))))
      (pss_cons (ps_setLc (i := 8) (own := [("f", 6)]) (g := (gName 6)) (tt := tYes) rfl sc_law.nd rfl rfl (sw_true rfl rfl rfl (by decide +kernel)) (kPiT (K := K) (pv 4)) (blkOk_by (N := ["script", "hand", "turn", "tables", "functions", "text", "f", "said", "names", "odd"]) (sc := defScope s_law) (by decide +kernel)) (fun _ _ _ _ _ => (pg_name (i := 6) sc_law.nd rfl (by first | exact Or.inl rfl | exact Or.inr rfl))) (fun _ _ _ _ _ => pts_nil) (fun _ _ _ _ _ => (pe_ix (kIxT (K := K)) (pv 6) pe_int (fun _ _ => rfl))))
      (pss_cons (ps_set (i := 9) sc_law.nd rfl (by first | exact Or.inl rfl | exact Or.inr rfl) (pe_d D_law_some E0 (hr.mono (by first | decide | omega)) (by rfl) passL (pa_cons (pv 1) (pa_cons (pe_lst (pa_cons pe_str (pa_cons pe_str (pa_cons pe_str (pa_cons pe_non (pa_cons pe_int (pa_cons (pe_tup (pa_cons (pe_ix (kIxL (K := K)) (pv 8) pe_int (fun _ _ => rfl)) pa_nil)) (pa_cons (pe_lst (pa_cons (pe_ix (kIxL (K := K)) (pv 8) pe_int (fun _ _ => rfl)) pa_nil)) (pa_cons pe_dnewT (pa_cons (pe_ix (kIxT (K := K)) (pv 4) pe_int (fun _ _ => rfl)) (pa_cons (pe_d D_law_deep E0 (hr.mono (by first | decide | omega)) (by rfl) passL (pa_cons (pv 1) pa_nil)) pa_nil))))))))))) pa_nil))))
      (pss_one (ps_if (pt_cmpR op_ne (pe_word WD T TE (by rfl) TB (by rfl) (by rfl) hmT huT (hr.mono (by first | decide | omega)) (LamX.lamS_by (sc := defScope s_law) (by decide +kernel)) (fun A' outer' s' H' E' f' c' hr' => (pe_d D_names_of E' hr' (by rfl) (passes_call (takes_of rfl rfl rfl rfl) fun _ _ _ _ h => h) (pa_cons (pv 5) (pa_cons (pv 9) pa_nil))))) pe_str (by first | exact nomark _ | rfl)) (pss_one (ps_ret pe_bl)) pss_nil))))))))
      (pss_one (ps_ret pe_bl))))), ?_⟩
    walk_at "st"
    refine ⟨a, ns, rfl, hS, hlen, fun H1 h c hH1 f1 hh0 hc0 => ?_⟩
    have hT1 := hT.ext f1.same
    walk_at "st"
    refine ⟨h, c, rfl, hH1, fun H2 hH2 f2 => ?_⟩
    have hT2 := tabs_fr hT1 f2 hH1.soft
    walk_at "st"
    refine ⟨h, c, rfl, hH2, fun H3 hH3 f3 => ?_⟩
    have hT3 := tabs_fr hT2 f3 hH2.soft
    walk_at "st"
    refine for_it walk_range (fun i σ H' => ∃ o2 o3 o4 o5 o6 o7 o8 o9, σ = [some (.ref a), some (.ref h), o2, o3, o4, o5, o6, o7, o8, o9] ∧ Hand H' h c ∧ Tabs Tb H') ⟨_, _, _, _, _, _, _, _, rfl, hH3, hT3⟩ (fun _ _ _ _ _ => trivial) ?_ ?_
    rotate_left
    · rintro σ H4 ⟨o2, o3, o4, o5, o6, o7, o8, o9, rfl, _, _⟩
      walk_at "st"
      exact k _
    rintro i y σ H4 H5 hi ⟨o2, o3, o4, o5, o6, o7, o8, o9, rfl, hH4, hT4⟩ ⟨rfl, rfl⟩
    clear hT3 hT2 hT1 hH3 hH2 hH1 f1 f2 f3 hT hh0 hc0
    walk_at "st"
    refine ⟨h, c, rfl, hH4, fun H6 r tb v ts fs hr6 htb htd good hnm hH6 f6 => ?_⟩
    have hT6 := tabs_fr hT4 f6 hH4.soft
    walk_at "st"
    intro t dx ht0 hdx0 dxt
    have fm : Fr [] H6 (upd (upd H6 dx (.own t)) t (.ins Z.Text dx [])) := ((Fr.refl _).new hdx0).new (by rw [upd_ne dxt.symm]; exact ht0)
    refine ⟨t, dx, tb, v, ts, fs, rfl, upd_same, fm.tup _ _ htb, TD.mono fm.tup _ _ htd, good, fun H7 tx fg => ⟨rfl, ?_⟩⟩
    have F7 := made ht0 hdx0 dxt fg
    have hH7 := hH6.keep F7
    have hT7 := hT6.ext F7.same
    have td7 := TD.mono F7.tup _ _ htd
    clear fg fm ht0 hdx0 dxt hr6 htb htd hT6 hT4 hH4 f6 hH6 F7
    cases td7 with
    | @tup b zs _ hb hT0 =>
    have lz := hT0.length
    rw [List.length_map] at lz
    have gfl := good.fl
    have gf0 := good.f0
    walk_at "st"
    refine for_it (walk_tup (xs := zs)) (fun j σ H' => ∃ o6 o7, σ = [some (.ref a), some (.ref h), some (V.int (0 + (i : Nat))), some (.ref tb), some (.ref b), some (.ref t), o6, o7, o8, o9] ∧ Hand H' h c ∧ Tabs Tb H' ∧ Fr [] H7 H') ⟨o6, o7, rfl, hH7, hT7, Fr.refl _⟩ (fun i σ H' _ ⟨_, _, _, _, _, f⟩ => SqT.of (f.tup _ _ hb)) ?_ ?_
    · rintro j x σ H8 H9 hj ⟨o6', o7', rfl, hH8, hT8, f8⟩ ⟨rfl, hxj⟩
      obtain ⟨d, hd, td⟩ := TDs.at_ (TDs.mono f8.tup _ _ hT0) hxj
      rw [List.getElem?_map] at hd
      obtain ⟨fn, hfn, rfl⟩ := Option.map_eq_some_iff.mp hd
      have hfm := List.mem_of_getElem? hfn
      obtain ⟨ix, j1, j2, gf⟩ := good.fg fn hfm
      obtain ⟨fa, fp, vb, rfl, hfa, hfp, _⟩ := (FncAt.of td).ok
      have tx8 := tx.mono (hH7.keepN (f8.mono (by simp)))
      walk_at "st"
      refine ⟨t, _, fs, rfl, tx8, .inl ⟨fn, hfm, rfl, fun n ys hn told => ?_⟩⟩
      walk_at "st"
      refine ⟨ix, .ref fa, fn, rfl, td, gf, fun H10 q zs' told' hq0 hq f10 => ?_⟩
      have e : zs' = ys := sortedS_eq told'.2 told.2 (told'.1.trans told.1.symm)
      subst e
      have ly : zs'.length ≤ 12 := by rw [told.1.length_eq]; exact gf.nl
      walk_at "st"
      refine st_tupOf (SqL.of hq) fun p hp => ?_
      have fp := Fr.up (ms := []) (o := .tup (zs'.map V.str)) hp
      walk_at "st"
      refine ⟨.ref n, .ref p, rfl, .tup (fp.tup _ _ (f10.tup _ _ hn)) upd_same rfl (by rw [List.length_map]; omega) fun i x y hx hy => ?_, fun H11 f11 => ?_⟩
      · rw [hx] at hy
        cases hy
        rw [List.getElem?_map] at hx
        obtain ⟨s, _, rfl⟩ := Option.map_eq_some_iff.mp hx
        exact .str s
      have f9 := (f10.trans fp).trans f11
      have hn11 := f9.tup _ _ hn
      walk_at "st"
      refine iteD (fun h => absurd h (by rw [List.length_map]; omega)) (fun _ => ?_)
      walk_at "st"
      exact ⟨_, _, rfl, hH8.keep f9, hT8.ext f9.same, f8.trans f9⟩
    rintro σ H8 ⟨o6', o7', rfl, hH8, hT8, f8⟩
    have tx8 := tx.mono (hH7.keepN (f8.mono (by simp)))
    have hT8' := TDs.mono f8.tup _ _ hT0
    have hb8 := f8.tup _ _ hb
    clear f8 hT0 hb tx hT7 hH7
    walk_at "st"
    intro D hD
    refine lc_it (walk_tup (xs := zs)) (fun i H' => Fr [] H8 H' ∧ ∃ acc, H' D = some (.lst acc) ∧ acc.length = i) ⟨Fr.up hD, [], upd_same, rfl⟩ (fun i H' _ h => SqT.of (h.1.tup _ _ hb8)) ?_ ?_
    · rintro j x Ha Hb hj ⟨fa, acc, ea, la⟩ ⟨rfl, hxj⟩
      obtain ⟨d, hd, td⟩ := TDs.at_ (TDs.mono fa.tup _ _ hT8') hxj
      rw [List.getElem?_map] at hd
      obtain ⟨fn, hfn, rfl⟩ := Option.map_eq_some_iff.mp hd
      obtain ⟨fb, fp, vb, rfl, hfa, hfp, _⟩ := (FncAt.of td).ok
      walk_at "st"
      exact ⟨acc, ea, line_lt (by omega), fa.wl ea (.inr hD), _, upd_same, by rw [List.length_append, la]; rfl⟩
    rintro H9 ⟨f9, acc, e9, l9⟩
    have hH9 := hH8.keep f9
    have hT9 := hT8.ext f9.same
    have tx9 := tx8.mono (hH8.keepN (f9.mono (by simp)))
    have hb9 := f9.tup _ _ hb8
    have hT9' := TDs.mono f9.tup _ _ hT8'
    obtain ⟨x0, acc', rfl⟩ : ∃ x0 acc', acc = x0 :: acc' := by
      cases acc with
      | nil => simp at l9; omega
      | cons x l => exact ⟨x, l, rfl⟩
    obtain ⟨fn0, fs', rfl⟩ : ∃ f0 fs', fs = f0 :: fs' := by
      cases fs with
      | nil => simp at gf0
      | cons x l => exact ⟨x, l, rfl⟩
    cases hT9' with
    | @cons z0 zs' _ _ t0 hT9' =>
    obtain ⟨fa, fp, vb, rfl, hfa, hfp, _⟩ := (FncAt.of t0).ok
    have nD := hH8.out hD
    clear f9 hT8' hb8 hT8 hH8 tx8 hT9' t0 hfp
    walk_at "st"
    intro p1 hp1
    have g1 := Fr.up (ms := []) (o := .tup [x0]) hp1
    have E1 : OddK (fn0 :: fs') h (upd H9 p1 (.tup [x0])) (.ref p1) := .tup upd_same
    have hfa1 := g1.tup _ _ hfa
    have e91 := g1.same _ _ e9
    have hHA := hH9.keep g1
    have hTA := hT9.ext g1.same
    have txA := tx9.mono (hH9.keepN (g1.mono (by simp)))
    have hb1 := g1.tup _ _ hb9
    clear hfa e9 hH9 hT9 tx9 hb9
    generalize upd H9 p1 (.tup [x0]) = HA at g1 E1 hfa1 e91 hHA hTA txA hb1 ⊢
    walk_at "st"
    intro p2 hp2
    have g2 := Fr.up (ms := []) (o := .lst [x0]) hp2
    have E2 : OddK (fn0 :: fs') h (upd HA p2 (.lst [x0])) (.ref p2) := .lst upd_same (hHA.out hp2).1
    have kk : ∀ {H H' : Hp}, Fr [] H H' → ∀ a o, a ≠ h → H a = some o → (∀ ps, o ≠ .tbl ps) → H' a = some o := fun f a o _ e _ => f.same _ _ e
    replace E1 := E1.keep (kk g2) g2.tup
    have hfa2 := g2.tup _ _ hfa1
    have hHB := hHA.keep g2
    have hTB := hTA.ext g2.same
    have txB := txA.mono (hHA.keepN (g2.mono (by simp)))
    have hb2 := g2.tup _ _ hb1
    clear hfa1 e91 hHA hTA txA hb1
    generalize upd HA p2 (.lst [x0]) = HB at g2 E1 E2 hfa2 hHB hTB txB hb2 ⊢
    walk_at "st"
    intro p3 hp3
    have g3 := Fr.up (ms := []) (o := .dT []) hp3
    have E3 : OddK (fn0 :: fs') h (upd HB p3 (.dT [])) (.ref p3) := .dct upd_same (hHB.out hp3).1
    replace E1 := E1.keep (kk g3) g3.tup
    replace E2 := E2.keep (kk g3) g3.tup
    have hfa3 := g3.tup _ _ hfa2
    have hHC := hHB.keep g3
    have hTC := hTB.ext g3.same
    have txC := txB.mono (hHB.keepN (g3.mono (by simp)))
    have hb3 := g3.tup _ _ hb2
    clear hfa2 hHB hTB txB hb2
    generalize upd HB p3 (.dT []) = HC at g3 E1 E2 E3 hfa3 hHC hTC txC hb3 ⊢
    walk_at "st"
    refine ⟨h, c, rfl, hHC, fun HD a4 xs4 ha4 hHD f4 => ?_⟩
    have E4 : OddK (fn0 :: fs') h HD (.ref a4) := ha4.elim (fun e => .tup e) fun e => .lst e.1 e.2.1
    have kh : ∀ {H H' : Hp}, Fr [h] H H' → ∀ a o, a ≠ h → H a = some o → (∀ ps, o ≠ .tbl ps) → H' a = some o := fun f a o n e _ => f.keep _ _ (by simpa using n) e
    replace E1 := E1.keep (kh f4) f4.tup
    replace E2 := E2.keep (kh f4) f4.tup
    replace E3 := E3.keep (kh f4) f4.tup
    have E5 : OddK (fn0 :: fs') h HD (.ref fa) := .tup (f4.tup _ _ hfa3)
    have hTD := tabs_fr hTC f4 hHC.soft
    have txD := txC.mono (hHC.keepN f4)
    clear hfa3 hTC hHC txC hb3 f4 ha4
    walk_at "st"
    intro p5 hp5
    have n5 := hHD.out hp5
    have g5 := Fr.up (ms := []) (o := .lst [.str "nosuch", .str "", .str "A", .non, .int 0, .ref p1, .ref p2, .ref p3, .ref fa, .ref a4]) hp5
    walk_at "st"
    refine ⟨h, c, p5, _, rfl, hHD.keep g5, .inr ⟨upd_same, n5⟩, Nat.zero_lt_succ _, (show 10 < 1000 by decide), fun HE x hx hHE f5 => ?_⟩
    have k5 := kh ((g5.mono (ns := [h]) (by simp)).trans f5)
    have t5 := ((g5.mono (ns := [h]) (by simp)).trans f5).tup
    have odd : OddK (fn0 :: fs') h HE x := by
      simp only [List.mem_cons, List.not_mem_nil, or_false] at hx
      rcases hx with rfl | rfl | rfl | rfl | rfl | rfl | rfl | rfl | rfl | rfl
      · exact .str (no_name hnm (by decide +kernel))
      · exact .str (no_name hnm (by decide +kernel))
      · exact .str (no_name hnm (by decide +kernel))
      · exact .non
      · exact .int
      · exact E1.keep k5 t5
      · exact E2.keep k5 t5
      · exact E3.keep k5 t5
      · exact E5.keep k5 t5
      · exact E4.keep k5 t5
    have hTE := tabs_fr (hTD.ext g5.same) f5 (hHD.keep g5).soft
    have txE := (txD.mono (hHD.keepN (g5.mono (by simp)))).mono ((hHD.keep g5).keepN f5)
    clear E1 E2 E3 E4 E5 hx f5 g5 hTD txD hp5 n5 hHD
    walk_at "st"
    refine ⟨hTE, fun HF eF hTF => ?_⟩
    unfold TWord
    walk_at "st"
    refine ⟨t, x, _, rfl, txE.mono (ext_keepN eF), .inr ⟨(odd.keep (fun a o _ e n => eF a o e n) (extN_tp eF)).odd, rfl, rfl, ?_⟩⟩
    iterate 3 walk_at "st1"
    refine iteDN (fun _ => ?_) (fun h => absurd rfl h)
    walk_at "st"
    exact ⟨_, _, _, _, _, _, _, _, rfl, hHE.ext eF, hTF⟩
end

end K03

namespace K03
open PySem PySem.Spec PyProof.Rows L2 Hq LamX
local macro_rules | `(tactic| walk_at "st1") => `(tactic| first
  | with_reducible refine st_seq ?_ | with_reducible refine st_ret ?_ | with_reducible refine st_ifS ?_ | with_reducible refine st_asg ?_ | with_reducible refine st_drop ?_
  | ((with_reducible refine' st_var ?hv ?_); (case hv => rfl)) | with_reducible refine st_c ?_ | with_reducible refine st_op ?_ | with_reducible refine st_un ?_
  | with_reducible refine st_I0 ?_ | with_reducible refine st_U ?_ | ((with_reducible refine' st_I ?hc ?_); (case hc => walk_at "side"))
  | ((with_reducible refine' st_eq ?hs ?_); (case hs => rfl)) | ((with_reducible refine' st_ne ?hs ?_); (case hs => rfl))
  | with_reducible refine st_test ?_ | with_reducible refine st_B ?_ | with_reducible refine st_bl ?_ | with_reducible refine st_isN ?_ | with_reducible refine st_notN ?_
  | with_reducible refine st_chain ?_ | with_reducible refine st_and ?_ | with_reducible refine st_or ?_ | with_reducible refine st_not ?_
  | with_reducible refine st_andV ?_ | with_reducible refine st_orV ?_ | with_reducible refine st_notV ?_ | with_reducible refine st_if ?_
  | with_reducible refine st_CB ?_ | with_reducible refine st_cons ?_ | with_reducible refine st_nil ?_ | with_reducible refine st_fld ?_
  | ((with_reducible refine st_tup ?_)) | ((with_reducible refine st_lst ?_))
  | with_reducible refine st_call ?_ | with_reducible refine st_meth ?_ | with_reducible refine st_make ?_
  | with_reducible refine st_sl ?_ | with_reducible refine st_noPart ?_ | with_reducible refine st_part ?_ | with_reducible refine st_int ?_
  | ((with_reducible refine' st_ixL ?hq ?he ?_); (case hq => walk_at "sqL"); (case he => walk_at "at"))
  | ((with_reducible refine' st_ixT ?hq ?he ?_); (case hq => walk_at "sqT"); (case he => walk_at "at"))
  | with_reducible refine st_bm ?_ | with_reducible refine st_app ?_
  | ((with_reducible refine' st_append ?hq ?hl ?_); (case hq => walk_at "hp"); (case hl => walk_at "line"))
  | ((with_reducible refine' st_len (n := 0) ?hq ?_); (case hq => first | exact Or.inl (by walk_at "sqL") | exact Or.inr (by walk_at "sqT")))
  | ((with_reducible refine' st_listOf ?hq ?_); (case hq => first | exact Or.inl (by walk_at "sqL") | exact Or.inr (by walk_at "sqT")))
  | ((with_reducible refine st_name ?_); (try dsimp only [List.set_cons_zero, List.set_cons_succ])) | with_reducible refine st_par ?_
  | with_reducible refine st_gcons ?_ | with_reducible refine st_gnil ?_ | with_reducible refine st_gsub ?_ | with_reducible refine st_sFld ?_
  | ((with_reducible refine' st_gtup ?hq ?hl ?_); (case hq => walk_at "sqT"); (case hl => rfl))
  | ((with_reducible refine' st_setL ?hq ?hl ?_); (case hq => walk_at "hp"); (case hl => first | rfl | exact ix0 | exact ixN_nat (by assumption)); (try simp only [Int.reduceToNat, List.set_cons_zero, List.set_cons_succ]))
  | with_reducible refine st_intI ?_ | with_reducible refine st_abs ?_
  | ((with_reducible refine' st_popAt ?hq ?hk ?hy ?_); (case hq => walk_at "hp"); (case hk => exact seq0); (case hy => rfl))
  | ((with_reducible refine' and_left ?ht ?_); (case ht => walk_at "ty"))
  | with_reducible refine st_lc ?_ | with_reducible refine st_for ?_ | with_reducible refine st_iL ?_ | with_reducible refine st_iT ?_ | with_reducible refine st_iR1 ?_ | with_reducible refine st_iR2 ?_ | with_reducible refine st_iZ ?_
  | ((with_reducible refine' st_refL ?hq ?_); (case hq => walk_at "sqL")) | ((with_reducible refine' st_refT ?hq ?_); (case hq => walk_at "sqT"))
  | ((with_reducible refine' st_rng1 ?hq ?_); (case hq => walk_at "side")) | ((with_reducible refine' st_rng2 ?hq ?_); (case hq => walk_at "side"))
  | ((with_reducible refine' st_zip ?hq ?hr ?_); (case hq => walk_at "sqb"); (case hr => walk_at "sqb"))
  | ((with_reducible refine' st_size ?hw ?_); (case hw => walk_at "line"))
  | ((with_reducible refine' st_sum ?hq ?_); (case hq => walk_at "sqL"))
  | with_reducible refine st_two ?_ | with_reducible refine st_yes ?_ | ((with_reducible refine' st_wipe ?hw ?_); (case hw => rfl))
  | ((with_reducible refine' st_slL ?hq ?_); (case hq => walk_at "sqL"))
  | ((with_reducible refine' st_cat ?hq ?hr ?hl ?_); (case hq => walk_at "hp"); (case hr => walk_at "hp"); (case hl => walk_at "line"))
  | ((with_reducible refine' st_isi ?hk ?he ?_); (case hk => walk_at "kd"); (case he => walk_at "kit"))
  | ((with_reducible refine' st_ins ?hq ?hc ?hn ?hl ?_); (case hq => walk_at "hp"); (case hc => with_reducible assumption); (case hn => with_reducible assumption); (case hl => walk_at "flen"); walk_at "puts")
  | ((with_reducible refine' st_att ?hq ?hc ?hn ?hl ?_); (case hq => walk_at "hp"); (case hc => with_reducible assumption); (case hn => with_reducible assumption); (case hl => walk_at "lk"))
  | ((with_reducible refine' st_mt ?hq ?hl ?_); (case hq => walk_at "hp"); (case hl => walk_at "lk"))
  | ((with_reducible refine' st_extend ?hq ?hr ?hl ?_); (case hq => walk_at "hp"); (case hr => walk_at "hp"); (case hl => walk_at "line"))
  | with_reducible refine st_next ?_ | with_reducible refine st_retN ?_ | (with_reducible refine iteNT ?_) | (with_reducible refine iteNF ?_) | (with_reducible refine iteT ?_) | (with_reducible refine iteF ?_))
local macro_rules | `(tactic| walk_at "side") => `(tactic| first | omega | decide | assumption | exact ⟨by omega, by omega⟩ | exact Or.inr ⟨by omega, by omega⟩ | exact Or.inl ⟨by omega, by omega⟩ | (simp only [List.length_map, List.length_cons, List.length_nil, List.length_append] at *; omega))
local macro_rules | `(tactic| walk_at "hp") => `(tactic| first | assumption | exact upd_same | ((with_reducible refine' upd_old ?ho ?hb); (case ho => assumption); (case hb => walk_at "hp")) | (rw [upd_ne (by first | assumption | exact Ne.symm (by assumption))]; walk_at "hp"))
local macro_rules | `(tactic| walk_at "sqL") => `(tactic| first | assumption | exact SqL.of (by walk_at "hp"))
local macro_rules | `(tactic| walk_at "sqT") => `(tactic| first | assumption | exact SqT.of (by walk_at "hp"))
local macro_rules | `(tactic| walk_at "sqb") => `(tactic| (unfold SqB; first | ((with_reducible change SqL _ _ _ _); walk_at "sqL") | ((with_reducible change SqT _ _ _ _); walk_at "sqT")))
local macro_rules | `(tactic| walk_at "line") => `(tactic| first | assumption | decide | (apply line_of; walk_at "side") | (apply line_lt; walk_at "side"))
local macro_rules | `(tactic| walk_at "ty") => `(tactic| ((with_reducible refine' ty_lst ?hq); (case hq => walk_at "hp")))
local macro_rules | `(tactic| walk_at "at") => `(tactic| with_reducible first | assumption | exact at0 | exact at1 | exact at2 | exact at3 | exact at4 | exact at5 | exact at6 | exact at7 | exact at8)
local macro_rules | `(tactic| walk_at "st") => `(tactic| (repeat walk_at "st1"))
local macro_rules | `(tactic| walk_at "lk") => `(tactic| first | with_reducible assumption | rfl)
local macro_rules | `(tactic| walk_at "kd") => `(tactic| first | exact .base (.int _) | exact .base .non | exact .base (.bl _) | exact .base (.str _) | exact .base (.tup (by walk_at "hp")) | exact .base (.lst (by walk_at "hp")) | exact .base (.dK (by walk_at "hp")) | exact .base (.dT (by walk_at "hp")))
local macro_rules | `(tactic| walk_at "kit") => `(tactic| with_reducible first
  | exact kit_NoneType_bool
  | exact kit_NoneType_int
  | exact kit_NoneType_str
  | exact kit_NoneType_tuple
  | exact kit_NoneType_list
  | exact kit_NoneType_dict
  | exact kit_bool_bool
  | exact kit_bool_int
  | exact kit_bool_str
  | exact kit_bool_tuple
  | exact kit_bool_list
  | exact kit_bool_dict
  | exact kit_int_bool
  | exact kit_int_int
  | exact kit_int_str
  | exact kit_int_tuple
  | exact kit_int_list
  | exact kit_int_dict
  | exact kit_str_bool
  | exact kit_str_int
  | exact kit_str_str
  | exact kit_str_tuple
  | exact kit_str_list
  | exact kit_str_dict
  | exact kit_tuple_bool
  | exact kit_tuple_int
  | exact kit_tuple_str
  | exact kit_tuple_tuple
  | exact kit_tuple_list
  | exact kit_tuple_dict
  | exact kit_list_bool
  | exact kit_list_int
  | exact kit_list_str
  | exact kit_list_tuple
  | exact kit_list_list
  | exact kit_list_dict
  | exact kit_dict_bool
  | exact kit_dict_int
  | exact kit_dict_str
  | exact kit_dict_tuple
  | exact kit_dict_list
  | exact kit_dict_dict)
local macro_rules | `(tactic| walk_at "flen") => `(tactic| decide)
local macro_rules | `(tactic| walk_at "puts") => `(tactic| skip)

local macro_rules | `(tactic| walk_at "st1") => `(tactic| first
  | with_reducible refine st_dc ?_ | with_reducible refine st_dgetS ?_ | with_reducible refine st_dinS ?_ | with_reducible refine st_dninS ?_ | with_reducible refine st_dputS ?_ | with_reducible refine st_newT ?_ | with_reducible refine iteNN ?_ | with_reducible refine iteYN ?_
  | ((with_reducible refine' st_getT ?hq ?hk ?hv ?_); (case hq => walk_at "hp"); (case hk => walk_at "key"); (case hv => with_reducible assumption))
  | ((with_reducible refine' st_inT ?hq ?hk ?_); (case hq => walk_at "hp"); (case hk => walk_at "key"))
  | ((with_reducible refine' st_ninT ?hq ?hk ?_); (case hq => walk_at "hp"); (case hk => walk_at "key"))
  | ((with_reducible refine' st_putT ?hq ?hk ?hl ?_); (case hq => walk_at "hp"); (case hk => walk_at "key"); (case hl => walk_at "line"))
  | ((with_reducible refine' st_cputT ?hq ?hk ?hl ?_); (case hq => walk_at "hp"); (case hk => walk_at "key"); (case hl => walk_at "line"))
  | ((with_reducible refine' st_ixB ?hq ?he ?_); (case hq => first | assumption | exact Or.inl (by walk_at "sqL") | exact Or.inr (by walk_at "sqT")); (case he => walk_at "at")))
local macro_rules | `(tactic| walk_at "key") => `(tactic| with_reducible assumption)

section
variable {Z : Ads} {P : Program} {w : World} {K : PySem.W.Frag} {mg : Str → Option Value} {base : Heap}
/-! ### the error made without arguments; what is never asked; blocks of all depths -/
structure TxV (K : PySem.W.Frag) (mg : Str → Option Value) : Prop where
  n_ValueError : mg "ValueError" = none
  vV : PySem.W.findCls K (.type "ValueError") (.type "type") "__init__" = some (.val (.builtin "ValueError.__init__"))
theorem st_vei {K : PySem.W.Frag} {ta : TA} {σ : L2.St} {H : Hp} {Q : VK} (q : ta σ H fun vs H1 => ∃ (a C : Addr) (ws : List V), vs = .ref a :: ws ∧ ws.length ≤ 1000 ∧ OexC K C ∧ H1 a = some (exo a C none) ∧ Q .non H1) : tVeI K ta σ H Q := q
abbrev s_RunError___init__ : Stmt := inClass (top 12) 0
theorem sc_RunError___init__ : FnScope ["self"] ["self"] (defScope s_RunError___init__) := ⟨rfl, rfl, rfl, by decide +kernel, rfl, by decide +kernel, by decide +kernel⟩
theorem ok_RunError_init {f : Addr} {fd : FuncData} (F : Fun K "__init__" "RunError.__init__" s_RunError___init__ f fd) (T : TxV K mg) : FnOk P w K mg base (L2.CX P w) 1 f fd ["self"] (spErr0 K) := by
  refine okN F sc_RunError___init__ (fun vs H Q E h => ?_) (fun cdv A outer s0 H vs Q E hr h => ?_)
  · obtain ⟨a, C, rfl, _⟩ := h
    rfl
  · obtain ⟨a, C, rfl, hC, ha, k⟩ := h
    refine ⟨_, [some _], rfl, (pss_one (ps_expr (pe_veinit (by rfl) T.n_ValueError T.vV (pa_cons (pv 0) pa_nil)))), ?_⟩
    walk_at "st"
    refine st_vei ?_
    walk_at "st"
    exact ⟨a, C, [], rfl, by decide, hC, ha, k⟩
theorem fn_none {f : Addr} {fd : FuncData} {k : Nat} {ps : List Str} {sp : Sp} (h : ∀ vs H Q E, ¬ sp vs H Q E) : FnOk P w K mg base (L2.CX P w) k f fd ps sp :=
  ⟨fun vs H Q E q => (h vs H Q E q).elim, fun A outer s H args us vs Q E hr he hb hv q => (h vs H Q E q).elim⟩
theorem blocks_ok {i : Ix} {fs fb : Addr} {ds db : FuncData} (Fs : Fun K "is_statement" "is_statement" s_is_statement fs ds) (Fb : Fun K "is_block" "is_block" s_is_block fb db) (ms : mg "is_statement" = some (.ref fs)) (mb : mg "is_block" = some (.ref fb)) (bs : Binds K ds ["thing", "deep"] []) (bb : Binds K db ["thing", "deep"] []) (T : Txt K mg Z) (S : TxS K w Z)
    (D_is_tuple : Dn P w K mg base "is_tuple" 1 ["thing", "least", "most"] spTuple) (D_is_right_part : Dn P w K mg base "is_right_part" 9 ["thing"] (spRight i.ns)) (D_is_plain_statement : Dn P w K mg base "is_plain_statement" 11 ["thing"] (spPlain i.ns i.ts i.os)) :
    ∀ n, FnOk P w K mg base (L2.CX P w) (11 + 2 * n) fb db ["thing", "deep"] (spBlock i.ns i.ts i.os n)
  | 0 => fn_none fun vs H Q E ⟨_, _, j, _, hj, _⟩ => by omega
  | n + 1 => by
    have Db := dn_mk (mg := mg) (base := base) (P := P) (w := w) Fb mb bb (blocks_ok Fs Fb ms mb bs bb T S D_is_tuple D_is_right_part D_is_plain_statement n)
    have Ds := dn_mk (mg := mg) (base := base) (P := P) (w := w) Fs ms bs (step_is_statement Fs T S i.ok (11 + 2 * n) n (by omega) D_is_right_part D_is_plain_statement Db)
    exact (step_is_block Fb T D_is_tuple (11 + 2 * n + 1) n (by omega) Ds).mono (by omega)
theorem ops_tup {a : Addr} {o : Obj} {its : Array Value} {n : Nat} (h : K.lookup a = some o) (c : o.cls = .type "tuple") (d : o.data = .seq its n) (v : Vals (opsL.map V.str) its.toList) :
    ∃ (o : Obj) (its : Array Value) (n : Nat), K.lookup a = some o ∧ o.cls = .type "tuple" ∧ o.data = .seq its n ∧ its.size ≤ sizeLine ∧ Vals (opsL.map V.str) its.toList :=
  ⟨o, its, n, h, c, d, by
    have l := v.length
    have e : its.toList.length = its.size := Array.length_toList
    have e5 : (opsL.map V.str).length = 5 := rfl
    exact line_of (by omega), v⟩
end

end K03

namespace K03
open PySem PySem.Spec PyProof.Rows L2 Hq LamX
theorem all_mk {q : Program} {l : PySem.W.OpenLaw} {w : World} {K : PySem.W.Frag} {h : Heap} {mg : Str → Option Value} {fa : Addr} (X : K.In h) (G : h.Ns mainGlobals mg) (own : OwnTabs q K mg h) (hfa : mg "law" = some (.ref fa))
    {C_RunError : Addr}
    {C_NoFunction : Addr}
    {C_BadText : Addr}
    {C_Text : Addr}
    {C_Flow : Addr}
    {f_is_integer : Addr} {od_is_integer an_is_integer : Option Addr} {sl_is_integer : Array (Option Value)} {oc_is_integer kV_is_integer dc_is_integer pm_is_integer cd_is_integer ct_is_integer : Value}
    {f_is_between : Addr} {od_is_between an_is_between : Option Addr} {sl_is_between : Array (Option Value)} {oc_is_between kV_is_between dc_is_between pm_is_between cd_is_between ct_is_between : Value}
    {f_is_whole : Addr} {od_is_whole an_is_whole : Option Addr} {sl_is_whole : Array (Option Value)} {oc_is_whole kV_is_whole dc_is_whole pm_is_whole cd_is_whole ct_is_whole : Value}
    {f_is_name : Addr} {od_is_name an_is_name : Option Addr} {sl_is_name : Array (Option Value)} {oc_is_name kV_is_name dc_is_name pm_is_name cd_is_name ct_is_name : Value}
    {f_is_tuple : Addr} {od_is_tuple an_is_tuple : Option Addr} {sl_is_tuple : Array (Option Value)} {oc_is_tuple kV_is_tuple dc_is_tuple pm_is_tuple cd_is_tuple ct_is_tuple : Value}
    {f_does_ascend : Addr} {od_does_ascend an_does_ascend : Option Addr} {sl_does_ascend : Array (Option Value)} {oc_does_ascend kV_does_ascend dc_does_ascend pm_does_ascend cd_does_ascend ct_does_ascend : Value}
    {f_are_names : Addr} {od_are_names an_are_names : Option Addr} {sl_are_names : Array (Option Value)} {oc_are_names kV_are_names dc_are_names pm_are_names cd_are_names ct_are_names : Value}
    {f_RunError___init__ : Addr} {od_RunError___init__ an_RunError___init__ : Option Addr} {sl_RunError___init__ : Array (Option Value)} {oc_RunError___init__ kV_RunError___init__ dc_RunError___init__ pm_RunError___init__ cd_RunError___init__ ct_RunError___init__ : Value}
    {f_is_expression : Addr} {od_is_expression an_is_expression : Option Addr} {sl_is_expression : Array (Option Value)} {oc_is_expression kV_is_expression dc_is_expression pm_is_expression cd_is_expression ct_is_expression : Value}
    {f_is_right_part : Addr} {od_is_right_part an_is_right_part : Option Addr} {sl_is_right_part : Array (Option Value)} {oc_is_right_part kV_is_right_part dc_is_right_part pm_is_right_part cd_is_right_part ct_is_right_part : Value}
    {f_are_right : Addr} {od_are_right an_are_right : Option Addr} {sl_are_right : Array (Option Value)} {oc_are_right kV_are_right dc_are_right pm_are_right cd_are_right ct_are_right : Value}
    {f_is_plain_statement : Addr} {od_is_plain_statement an_is_plain_statement : Option Addr} {sl_is_plain_statement : Array (Option Value)} {oc_is_plain_statement kV_is_plain_statement dc_is_plain_statement pm_is_plain_statement cd_is_plain_statement ct_is_plain_statement : Value}
    {f_is_statement : Addr} {od_is_statement an_is_statement : Option Addr} {sl_is_statement : Array (Option Value)} {oc_is_statement kV_is_statement dc_is_statement pm_is_statement cd_is_statement ct_is_statement : Value}
    {f_is_block : Addr} {od_is_block an_is_block : Option Addr} {sl_is_block : Array (Option Value)} {oc_is_block kV_is_block dc_is_block pm_is_block cd_is_block ct_is_block : Value}
    {f_blocks_in : Addr} {od_blocks_in an_blocks_in : Option Addr} {sl_blocks_in : Array (Option Value)} {oc_blocks_in kV_blocks_in dc_blocks_in pm_blocks_in cd_blocks_in ct_blocks_in : Value}
    {f_size_of : Addr} {od_size_of an_size_of : Option Addr} {sl_size_of : Array (Option Value)} {oc_size_of kV_size_of dc_size_of pm_size_of cd_size_of ct_size_of : Value}
    {f_all_in : Addr} {od_all_in an_all_in : Option Addr} {sl_all_in : Array (Option Value)} {oc_all_in kV_all_in dc_all_in pm_all_in cd_all_in ct_all_in : Value}
    {f_names_in : Addr} {od_names_in an_names_in : Option Addr} {sl_names_in : Array (Option Value)} {oc_names_in kV_names_in dc_names_in pm_names_in cd_names_in ct_names_in : Value}
    {f_expressions_in : Addr} {od_expressions_in an_expressions_in : Option Addr} {sl_expressions_in : Array (Option Value)} {oc_expressions_in kV_expressions_in dc_expressions_in pm_expressions_in cd_expressions_in ct_expressions_in : Value}
    {f_names_told : Addr} {od_names_told an_names_told : Option Addr} {sl_names_told : Array (Option Value)} {oc_names_told kV_names_told dc_names_told pm_names_told cd_names_told ct_names_told : Value}
    {f_laid : Addr} {od_laid an_laid : Option Addr} {sl_laid : Array (Option Value)} {oc_laid kV_laid dc_laid pm_laid cd_laid ct_laid : Value}
    {f_Flow___init__ : Addr} {od_Flow___init__ an_Flow___init__ : Option Addr} {sl_Flow___init__ : Array (Option Value)} {oc_Flow___init__ kV_Flow___init__ dc_Flow___init__ pm_Flow___init__ cd_Flow___init__ ct_Flow___init__ : Value}
    {f_is_function : Addr} {od_is_function an_is_function : Option Addr} {sl_is_function : Array (Option Value)} {oc_is_function kV_is_function dc_is_function pm_is_function cd_is_function ct_is_function : Value}
    {f_Text___init__ : Addr} {od_Text___init__ an_Text___init__ : Option Addr} {sl_Text___init__ : Array (Option Value)} {oc_Text___init__ kV_Text___init__ dc_Text___init__ pm_Text___init__ cd_Text___init__ ct_Text___init__ : Value}
    {f_Text_sizes_of : Addr} {od_Text_sizes_of an_Text_sizes_of : Option Addr} {sl_Text_sizes_of : Array (Option Value)} {oc_Text_sizes_of kV_Text_sizes_of dc_Text_sizes_of pm_Text_sizes_of cd_Text_sizes_of ct_Text_sizes_of : Value}
    {f_Text_goes_with : Addr} {od_Text_goes_with an_Text_goes_with : Option Addr} {sl_Text_goes_with : Array (Option Value)} {oc_Text_goes_with kV_Text_goes_with dc_Text_goes_with pm_Text_goes_with cd_Text_goes_with ct_Text_goes_with : Value}
    {f_check_function : Addr} {od_check_function an_check_function : Option Addr} {sl_check_function : Array (Option Value)} {oc_check_function kV_check_function dc_check_function pm_check_function cd_check_function ct_check_function : Value}
    {f_names_of : Addr} {od_names_of an_names_of : Option Addr} {sl_names_of : Array (Option Value)} {oc_names_of kV_names_of dc_names_of pm_names_of cd_names_of ct_names_of : Value}
    {f_law_draw : Addr} {od_law_draw an_law_draw : Option Addr} {sl_law_draw : Array (Option Value)} {oc_law_draw kV_law_draw dc_law_draw pm_law_draw cd_law_draw ct_law_draw : Value}
    {f_law_some : Addr} {od_law_some an_law_some : Option Addr} {sl_law_some : Array (Option Value)} {oc_law_some kV_law_some dc_law_some pm_law_some cd_law_some ct_law_some : Value}
    {f_law_is : Addr} {od_law_is an_law_is : Option Addr} {sl_law_is : Array (Option Value)} {oc_law_is kV_law_is dc_law_is pm_law_is cd_law_is ct_law_is : Value}
    {f_law_mixed : Addr} {od_law_mixed an_law_mixed : Option Addr} {sl_law_mixed : Array (Option Value)} {oc_law_mixed kV_law_mixed dc_law_mixed pm_law_mixed cd_law_mixed ct_law_mixed : Value}
    {f_law_deep : Addr} {od_law_deep an_law_deep : Option Addr} {sl_law_deep : Array (Option Value)} {oc_law_deep kV_law_deep dc_law_deep pm_law_deep cd_law_deep ct_law_deep : Value}
    {f_law_hand : Addr} {od_law_hand an_law_hand : Option Addr} {sl_law_hand : Array (Option Value)} {oc_law_hand kV_law_hand dc_law_hand pm_law_hand cd_law_hand ct_law_hand : Value}
    {f_law_whole : Addr} {od_law_whole an_law_whole : Option Addr} {sl_law_whole : Array (Option Value)} {oc_law_whole kV_law_whole dc_law_whole pm_law_whole cd_law_whole ct_law_whole : Value}
    {f_law_expression : Addr} {od_law_expression an_law_expression : Option Addr} {sl_law_expression : Array (Option Value)} {oc_law_expression kV_law_expression dc_law_expression pm_law_expression cd_law_expression ct_law_expression : Value}
    {f_law_statement : Addr} {od_law_statement an_law_statement : Option Addr} {sl_law_statement : Array (Option Value)} {oc_law_statement kV_law_statement dc_law_statement pm_law_statement cd_law_statement ct_law_statement : Value}
    {f_law_block : Addr} {od_law_block an_law_block : Option Addr} {sl_law_block : Array (Option Value)} {oc_law_block kV_law_block dc_law_block pm_law_block cd_law_block ct_law_block : Value}
    {f_law_names : Addr} {od_law_names an_law_names : Option Addr} {sl_law_names : Array (Option Value)} {oc_law_names kV_law_names dc_law_names pm_law_names cd_law_names ct_law_names : Value}
    {f_law_parts : Addr} {od_law_parts an_law_parts : Option Addr} {sl_law_parts : Array (Option Value)} {oc_law_parts kV_law_parts dc_law_parts pm_law_parts cd_law_parts ct_law_parts : Value}
    {f_law_statements : Addr} {od_law_statements an_law_statements : Option Addr} {sl_law_statements : Array (Option Value)} {oc_law_statements kV_law_statements dc_law_statements pm_law_statements cd_law_statements ct_law_statements : Value}
    {f_law_expressions : Addr} {od_law_expressions an_law_expressions : Option Addr} {sl_law_expressions : Array (Option Value)} {oc_law_expressions kV_law_expressions dc_law_expressions pm_law_expressions cd_law_expressions ct_law_expressions : Value}
    {f_law_named_in : Addr} {od_law_named_in an_law_named_in : Option Addr} {sl_law_named_in : Array (Option Value)} {oc_law_named_in kV_law_named_in dc_law_named_in pm_law_named_in cd_law_named_in ct_law_named_in : Value}
    {f_law_all_names : Addr} {od_law_all_names an_law_all_names : Option Addr} {sl_law_all_names : Array (Option Value)} {oc_law_all_names kV_law_all_names dc_law_all_names pm_law_all_names cd_law_all_names ct_law_all_names : Value}
    {f_law_word : Addr} {od_law_word an_law_word : Option Addr} {sl_law_word : Array (Option Value)} {oc_law_word kV_law_word dc_law_word pm_law_word cd_law_word ct_law_word : Value}
    {f_law_is_alone_right : Addr} {od_law_is_alone_right an_law_is_alone_right : Option Addr} {sl_law_is_alone_right : Array (Option Value)} {oc_law_is_alone_right kV_law_is_alone_right dc_law_is_alone_right pm_law_is_alone_right cd_law_is_alone_right ct_law_is_alone_right : Value}
    {f_law : Addr} {od_law an_law : Option Addr} {sl_law : Array (Option Value)} {oc_law kV_law dc_law pm_law ct_law : Value}
    {t_LETTERS : Tok}
    {t_MOST_WHOLE : Tok}
    {t_OFF : Tok}
    {t_LONGEST : Tok}
    {t_MOST_DEEP : Tok}
    {t_MOST_FIELDS : Tok}
    {t_MOST_PARAMS : Tok}
    {t_MOST_STATEMENTS : Tok}
    {t_MOST_IFS : Tok}
    {t_MOST_BLOCKS : Tok}
    {t_MOST_NAMES : Tok}
    {t_MOST_TABLES : Tok}
    {t_MOST_FUNCTIONS : Tok}
    {xnm_NoFunction : _} {xq_NoFunction : _} {xN_NoFunction : _} {xbs_NoFunction : _} {xbm_NoFunction : _} {xsn_NoFunction : _} {xsub_NoFunction : _} {xab_NoFunction : _} {xcol_NoFunction : _} {xdd_NoFunction : _} {xk0_NoFunction : _} {xk1_NoFunction : _} {xk2_NoFunction : _} {xk3_NoFunction : _} {xk5_NoFunction : _}
    {cc_law P_law : Addr} {te_law : Value} {td_law : Option Addr} {tv_law : Array Value} {ts_law : Array (Option Value)}
    {a_SIZES a_OPS : Addr} {es_SIZES : Array DictEntry} {n_SIZES n_OPS : Nat} {its_OPS : Array Value} {o_OPS : Obj}
    (aC_RunError : PySem.W.nsIn K mainGlobals "RunError" = some (some (.ref C_RunError)))
    (aC_NoFunction : PySem.W.nsIn K mainGlobals "NoFunction" = some (some (.ref C_NoFunction)))
    (aC_BadText : PySem.W.nsIn K mainGlobals "BadText" = some (some (.ref C_BadText)))
    (aC_Text : PySem.W.nsIn K mainGlobals "Text" = some (some (.ref C_Text)))
    (pg_Text : PySem.W.plainGet K C_Text Str.empty = true)
    (hd_Text : PySem.W.hasDictIn K C_Text = true)
    (po_Text : PySem.W.plainOver K C_Text = true)
    (sa_Text : PySem.W.findIn K (.ref C_Text) "__setattr__" = some (some (.builtin "object.__setattr__")))
    (mk_Text : PySem.W.makesIn K C_Text = true)
    (kc_Text : PySem.W.keepIn K (.ref C_Text) = true)
    (aC_Flow : PySem.W.nsIn K mainGlobals "Flow" = some (some (.ref C_Flow)))
    (pg_Flow : PySem.W.plainGet K C_Flow Str.empty = true)
    (hd_Flow : PySem.W.hasDictIn K C_Flow = true)
    (po_Flow : PySem.W.plainOver K C_Flow = true)
    (sa_Flow : PySem.W.findIn K (.ref C_Flow) "__setattr__" = some (some (.builtin "object.__setattr__")))
    (mk_Flow : PySem.W.makesIn K C_Flow = true)
    (kc_Flow : PySem.W.keepIn K (.ref C_Flow) = true)
    (a_is_integer : PySem.W.nsIn K mainGlobals "is_integer" = some (some (.ref f_is_integer)))
    (l_is_integer : K.lookup f_is_integer = some ⟨oc_is_integer, od_is_integer, .func (PySem.W.fnOf "is_integer" "is_integer" (defArgs s_is_integer) (defBody s_is_integer) (defScope s_is_integer) .none kV_is_integer dc_is_integer pm_is_integer an_is_integer cd_is_integer ct_is_integer), sl_is_integer⟩)
    (c_is_integer : PySem.W.codeIn K cd_is_integer "is_integer" = true)
    (k_is_integer : PySem.W.keepIn K (.ref f_is_integer) = true)
    (a_is_between : PySem.W.nsIn K mainGlobals "is_between" = some (some (.ref f_is_between)))
    (l_is_between : K.lookup f_is_between = some ⟨oc_is_between, od_is_between, .func (PySem.W.fnOf "is_between" "is_between" (defArgs s_is_between) (defBody s_is_between) (defScope s_is_between) .none kV_is_between dc_is_between pm_is_between an_is_between cd_is_between ct_is_between), sl_is_between⟩)
    (c_is_between : PySem.W.codeIn K cd_is_between "is_between" = true)
    (k_is_between : PySem.W.keepIn K (.ref f_is_between) = true)
    (a_is_whole : PySem.W.nsIn K mainGlobals "is_whole" = some (some (.ref f_is_whole)))
    (l_is_whole : K.lookup f_is_whole = some ⟨oc_is_whole, od_is_whole, .func (PySem.W.fnOf "is_whole" "is_whole" (defArgs s_is_whole) (defBody s_is_whole) (defScope s_is_whole) .none kV_is_whole dc_is_whole pm_is_whole an_is_whole cd_is_whole ct_is_whole), sl_is_whole⟩)
    (c_is_whole : PySem.W.codeIn K cd_is_whole "is_whole" = true)
    (k_is_whole : PySem.W.keepIn K (.ref f_is_whole) = true)
    (a_is_name : PySem.W.nsIn K mainGlobals "is_name" = some (some (.ref f_is_name)))
    (l_is_name : K.lookup f_is_name = some ⟨oc_is_name, od_is_name, .func (PySem.W.fnOf "is_name" "is_name" (defArgs s_is_name) (defBody s_is_name) (defScope s_is_name) .none kV_is_name dc_is_name pm_is_name an_is_name cd_is_name ct_is_name), sl_is_name⟩)
    (c_is_name : PySem.W.codeIn K cd_is_name "is_name" = true)
    (k_is_name : PySem.W.keepIn K (.ref f_is_name) = true)
    (a_is_tuple : PySem.W.nsIn K mainGlobals "is_tuple" = some (some (.ref f_is_tuple)))
    (l_is_tuple : K.lookup f_is_tuple = some ⟨oc_is_tuple, od_is_tuple, .func (PySem.W.fnOf "is_tuple" "is_tuple" (defArgs s_is_tuple) (defBody s_is_tuple) (defScope s_is_tuple) .none kV_is_tuple dc_is_tuple pm_is_tuple an_is_tuple cd_is_tuple ct_is_tuple), sl_is_tuple⟩)
    (c_is_tuple : PySem.W.codeIn K cd_is_tuple "is_tuple" = true)
    (k_is_tuple : PySem.W.keepIn K (.ref f_is_tuple) = true)
    (a_does_ascend : PySem.W.nsIn K mainGlobals "does_ascend" = some (some (.ref f_does_ascend)))
    (l_does_ascend : K.lookup f_does_ascend = some ⟨oc_does_ascend, od_does_ascend, .func (PySem.W.fnOf "does_ascend" "does_ascend" (defArgs s_does_ascend) (defBody s_does_ascend) (defScope s_does_ascend) .none kV_does_ascend dc_does_ascend pm_does_ascend an_does_ascend cd_does_ascend ct_does_ascend), sl_does_ascend⟩)
    (c_does_ascend : PySem.W.codeIn K cd_does_ascend "does_ascend" = true)
    (k_does_ascend : PySem.W.keepIn K (.ref f_does_ascend) = true)
    (a_are_names : PySem.W.nsIn K mainGlobals "are_names" = some (some (.ref f_are_names)))
    (l_are_names : K.lookup f_are_names = some ⟨oc_are_names, od_are_names, .func (PySem.W.fnOf "are_names" "are_names" (defArgs s_are_names) (defBody s_are_names) (defScope s_are_names) .none kV_are_names dc_are_names pm_are_names an_are_names cd_are_names ct_are_names), sl_are_names⟩)
    (c_are_names : PySem.W.codeIn K cd_are_names "are_names" = true)
    (k_are_names : PySem.W.keepIn K (.ref f_are_names) = true)
    (a_RunError___init__ : PySem.W.findIn K (.ref C_RunError) "__init__" = some (some (.ref f_RunError___init__)))
    (i_RunError___init__ : PySem.W.isFn K (.ref f_RunError___init__) = true)
    (l_RunError___init__ : K.lookup f_RunError___init__ = some ⟨oc_RunError___init__, od_RunError___init__, .func (PySem.W.fnOf "__init__" "RunError.__init__" (defArgs s_RunError___init__) (defBody s_RunError___init__) (defScope s_RunError___init__) .none kV_RunError___init__ dc_RunError___init__ pm_RunError___init__ an_RunError___init__ cd_RunError___init__ ct_RunError___init__), sl_RunError___init__⟩)
    (c_RunError___init__ : PySem.W.codeIn K cd_RunError___init__ "RunError.__init__" = true)
    (k_RunError___init__ : PySem.W.keepIn K (.ref f_RunError___init__) = true)
    (a_is_expression : PySem.W.nsIn K mainGlobals "is_expression" = some (some (.ref f_is_expression)))
    (l_is_expression : K.lookup f_is_expression = some ⟨oc_is_expression, od_is_expression, .func (PySem.W.fnOf "is_expression" "is_expression" (defArgs s_is_expression) (defBody s_is_expression) (defScope s_is_expression) .none kV_is_expression dc_is_expression pm_is_expression an_is_expression cd_is_expression ct_is_expression), sl_is_expression⟩)
    (c_is_expression : PySem.W.codeIn K cd_is_expression "is_expression" = true)
    (k_is_expression : PySem.W.keepIn K (.ref f_is_expression) = true)
    (a_is_right_part : PySem.W.nsIn K mainGlobals "is_right_part" = some (some (.ref f_is_right_part)))
    (l_is_right_part : K.lookup f_is_right_part = some ⟨oc_is_right_part, od_is_right_part, .func (PySem.W.fnOf "is_right_part" "is_right_part" (defArgs s_is_right_part) (defBody s_is_right_part) (defScope s_is_right_part) .none kV_is_right_part dc_is_right_part pm_is_right_part an_is_right_part cd_is_right_part ct_is_right_part), sl_is_right_part⟩)
    (c_is_right_part : PySem.W.codeIn K cd_is_right_part "is_right_part" = true)
    (k_is_right_part : PySem.W.keepIn K (.ref f_is_right_part) = true)
    (a_are_right : PySem.W.nsIn K mainGlobals "are_right" = some (some (.ref f_are_right)))
    (l_are_right : K.lookup f_are_right = some ⟨oc_are_right, od_are_right, .func (PySem.W.fnOf "are_right" "are_right" (defArgs s_are_right) (defBody s_are_right) (defScope s_are_right) .none kV_are_right dc_are_right pm_are_right an_are_right cd_are_right ct_are_right), sl_are_right⟩)
    (c_are_right : PySem.W.codeIn K cd_are_right "are_right" = true)
    (k_are_right : PySem.W.keepIn K (.ref f_are_right) = true)
    (a_is_plain_statement : PySem.W.nsIn K mainGlobals "is_plain_statement" = some (some (.ref f_is_plain_statement)))
    (l_is_plain_statement : K.lookup f_is_plain_statement = some ⟨oc_is_plain_statement, od_is_plain_statement, .func (PySem.W.fnOf "is_plain_statement" "is_plain_statement" (defArgs s_is_plain_statement) (defBody s_is_plain_statement) (defScope s_is_plain_statement) .none kV_is_plain_statement dc_is_plain_statement pm_is_plain_statement an_is_plain_statement cd_is_plain_statement ct_is_plain_statement), sl_is_plain_statement⟩)
    (c_is_plain_statement : PySem.W.codeIn K cd_is_plain_statement "is_plain_statement" = true)
    (k_is_plain_statement : PySem.W.keepIn K (.ref f_is_plain_statement) = true)
    (a_is_statement : PySem.W.nsIn K mainGlobals "is_statement" = some (some (.ref f_is_statement)))
    (l_is_statement : K.lookup f_is_statement = some ⟨oc_is_statement, od_is_statement, .func (PySem.W.fnOf "is_statement" "is_statement" (defArgs s_is_statement) (defBody s_is_statement) (defScope s_is_statement) .none kV_is_statement dc_is_statement pm_is_statement an_is_statement cd_is_statement ct_is_statement), sl_is_statement⟩)
    (c_is_statement : PySem.W.codeIn K cd_is_statement "is_statement" = true)
    (k_is_statement : PySem.W.keepIn K (.ref f_is_statement) = true)
    (a_is_block : PySem.W.nsIn K mainGlobals "is_block" = some (some (.ref f_is_block)))
    (l_is_block : K.lookup f_is_block = some ⟨oc_is_block, od_is_block, .func (PySem.W.fnOf "is_block" "is_block" (defArgs s_is_block) (defBody s_is_block) (defScope s_is_block) .none kV_is_block dc_is_block pm_is_block an_is_block cd_is_block ct_is_block), sl_is_block⟩)
    (c_is_block : PySem.W.codeIn K cd_is_block "is_block" = true)
    (k_is_block : PySem.W.keepIn K (.ref f_is_block) = true)
    (a_blocks_in : PySem.W.nsIn K mainGlobals "blocks_in" = some (some (.ref f_blocks_in)))
    (l_blocks_in : K.lookup f_blocks_in = some ⟨oc_blocks_in, od_blocks_in, .func (PySem.W.fnOf "blocks_in" "blocks_in" (defArgs s_blocks_in) (defBody s_blocks_in) (defScope s_blocks_in) .none kV_blocks_in dc_blocks_in pm_blocks_in an_blocks_in cd_blocks_in ct_blocks_in), sl_blocks_in⟩)
    (c_blocks_in : PySem.W.codeIn K cd_blocks_in "blocks_in" = true)
    (k_blocks_in : PySem.W.keepIn K (.ref f_blocks_in) = true)
    (a_size_of : PySem.W.nsIn K mainGlobals "size_of" = some (some (.ref f_size_of)))
    (l_size_of : K.lookup f_size_of = some ⟨oc_size_of, od_size_of, .func (PySem.W.fnOf "size_of" "size_of" (defArgs s_size_of) (defBody s_size_of) (defScope s_size_of) .none kV_size_of dc_size_of pm_size_of an_size_of cd_size_of ct_size_of), sl_size_of⟩)
    (c_size_of : PySem.W.codeIn K cd_size_of "size_of" = true)
    (k_size_of : PySem.W.keepIn K (.ref f_size_of) = true)
    (a_all_in : PySem.W.nsIn K mainGlobals "all_in" = some (some (.ref f_all_in)))
    (l_all_in : K.lookup f_all_in = some ⟨oc_all_in, od_all_in, .func (PySem.W.fnOf "all_in" "all_in" (defArgs s_all_in) (defBody s_all_in) (defScope s_all_in) .none kV_all_in dc_all_in pm_all_in an_all_in cd_all_in ct_all_in), sl_all_in⟩)
    (c_all_in : PySem.W.codeIn K cd_all_in "all_in" = true)
    (k_all_in : PySem.W.keepIn K (.ref f_all_in) = true)
    (a_names_in : PySem.W.nsIn K mainGlobals "names_in" = some (some (.ref f_names_in)))
    (l_names_in : K.lookup f_names_in = some ⟨oc_names_in, od_names_in, .func (PySem.W.fnOf "names_in" "names_in" (defArgs s_names_in) (defBody s_names_in) (defScope s_names_in) .none kV_names_in dc_names_in pm_names_in an_names_in cd_names_in ct_names_in), sl_names_in⟩)
    (c_names_in : PySem.W.codeIn K cd_names_in "names_in" = true)
    (k_names_in : PySem.W.keepIn K (.ref f_names_in) = true)
    (a_expressions_in : PySem.W.nsIn K mainGlobals "expressions_in" = some (some (.ref f_expressions_in)))
    (l_expressions_in : K.lookup f_expressions_in = some ⟨oc_expressions_in, od_expressions_in, .func (PySem.W.fnOf "expressions_in" "expressions_in" (defArgs s_expressions_in) (defBody s_expressions_in) (defScope s_expressions_in) .none kV_expressions_in dc_expressions_in pm_expressions_in an_expressions_in cd_expressions_in ct_expressions_in), sl_expressions_in⟩)
    (c_expressions_in : PySem.W.codeIn K cd_expressions_in "expressions_in" = true)
    (k_expressions_in : PySem.W.keepIn K (.ref f_expressions_in) = true)
    (a_names_told : PySem.W.nsIn K mainGlobals "names_told" = some (some (.ref f_names_told)))
    (l_names_told : K.lookup f_names_told = some ⟨oc_names_told, od_names_told, .func (PySem.W.fnOf "names_told" "names_told" (defArgs s_names_told) (defBody s_names_told) (defScope s_names_told) .none kV_names_told dc_names_told pm_names_told an_names_told cd_names_told ct_names_told), sl_names_told⟩)
    (c_names_told : PySem.W.codeIn K cd_names_told "names_told" = true)
    (k_names_told : PySem.W.keepIn K (.ref f_names_told) = true)
    (a_laid : PySem.W.nsIn K mainGlobals "laid" = some (some (.ref f_laid)))
    (l_laid : K.lookup f_laid = some ⟨oc_laid, od_laid, .func (PySem.W.fnOf "laid" "laid" (defArgs s_laid) (defBody s_laid) (defScope s_laid) .none kV_laid dc_laid pm_laid an_laid cd_laid ct_laid), sl_laid⟩)
    (c_laid : PySem.W.codeIn K cd_laid "laid" = true)
    (k_laid : PySem.W.keepIn K (.ref f_laid) = true)
    (a_Flow___init__ : PySem.W.findIn K (.ref C_Flow) "__init__" = some (some (.ref f_Flow___init__)))
    (i_Flow___init__ : PySem.W.isFn K (.ref f_Flow___init__) = true)
    (l_Flow___init__ : K.lookup f_Flow___init__ = some ⟨oc_Flow___init__, od_Flow___init__, .func (PySem.W.fnOf "__init__" "Flow.__init__" (defArgs s_Flow___init__) (defBody s_Flow___init__) (defScope s_Flow___init__) .none kV_Flow___init__ dc_Flow___init__ pm_Flow___init__ an_Flow___init__ cd_Flow___init__ ct_Flow___init__), sl_Flow___init__⟩)
    (c_Flow___init__ : PySem.W.codeIn K cd_Flow___init__ "Flow.__init__" = true)
    (k_Flow___init__ : PySem.W.keepIn K (.ref f_Flow___init__) = true)
    (a_is_function : PySem.W.nsIn K mainGlobals "is_function" = some (some (.ref f_is_function)))
    (l_is_function : K.lookup f_is_function = some ⟨oc_is_function, od_is_function, .func (PySem.W.fnOf "is_function" "is_function" (defArgs s_is_function) (defBody s_is_function) (defScope s_is_function) .none kV_is_function dc_is_function pm_is_function an_is_function cd_is_function ct_is_function), sl_is_function⟩)
    (c_is_function : PySem.W.codeIn K cd_is_function "is_function" = true)
    (k_is_function : PySem.W.keepIn K (.ref f_is_function) = true)
    (a_Text___init__ : PySem.W.findIn K (.ref C_Text) "__init__" = some (some (.ref f_Text___init__)))
    (i_Text___init__ : PySem.W.isFn K (.ref f_Text___init__) = true)
    (l_Text___init__ : K.lookup f_Text___init__ = some ⟨oc_Text___init__, od_Text___init__, .func (PySem.W.fnOf "__init__" "Text.__init__" (defArgs s_Text___init__) (defBody s_Text___init__) (defScope s_Text___init__) .none kV_Text___init__ dc_Text___init__ pm_Text___init__ an_Text___init__ cd_Text___init__ ct_Text___init__), sl_Text___init__⟩)
    (c_Text___init__ : PySem.W.codeIn K cd_Text___init__ "Text.__init__" = true)
    (k_Text___init__ : PySem.W.keepIn K (.ref f_Text___init__) = true)
    (a_Text_sizes_of : PySem.W.findIn K (.ref C_Text) "sizes_of" = some (some (.ref f_Text_sizes_of)))
    (i_Text_sizes_of : PySem.W.isFn K (.ref f_Text_sizes_of) = true)
    (l_Text_sizes_of : K.lookup f_Text_sizes_of = some ⟨oc_Text_sizes_of, od_Text_sizes_of, .func (PySem.W.fnOf "sizes_of" "Text.sizes_of" (defArgs s_Text_sizes_of) (defBody s_Text_sizes_of) (defScope s_Text_sizes_of) .none kV_Text_sizes_of dc_Text_sizes_of pm_Text_sizes_of an_Text_sizes_of cd_Text_sizes_of ct_Text_sizes_of), sl_Text_sizes_of⟩)
    (c_Text_sizes_of : PySem.W.codeIn K cd_Text_sizes_of "Text.sizes_of" = true)
    (k_Text_sizes_of : PySem.W.keepIn K (.ref f_Text_sizes_of) = true)
    (a_Text_goes_with : PySem.W.findIn K (.ref C_Text) "goes_with" = some (some (.ref f_Text_goes_with)))
    (i_Text_goes_with : PySem.W.isFn K (.ref f_Text_goes_with) = true)
    (l_Text_goes_with : K.lookup f_Text_goes_with = some ⟨oc_Text_goes_with, od_Text_goes_with, .func (PySem.W.fnOf "goes_with" "Text.goes_with" (defArgs s_Text_goes_with) (defBody s_Text_goes_with) (defScope s_Text_goes_with) .none kV_Text_goes_with dc_Text_goes_with pm_Text_goes_with an_Text_goes_with cd_Text_goes_with ct_Text_goes_with), sl_Text_goes_with⟩)
    (c_Text_goes_with : PySem.W.codeIn K cd_Text_goes_with "Text.goes_with" = true)
    (k_Text_goes_with : PySem.W.keepIn K (.ref f_Text_goes_with) = true)
    (a_check_function : PySem.W.nsIn K mainGlobals "check_function" = some (some (.ref f_check_function)))
    (l_check_function : K.lookup f_check_function = some ⟨oc_check_function, od_check_function, .func (PySem.W.fnOf "check_function" "check_function" (defArgs s_check_function) (defBody s_check_function) (defScope s_check_function) .none kV_check_function dc_check_function pm_check_function an_check_function cd_check_function ct_check_function), sl_check_function⟩)
    (c_check_function : PySem.W.codeIn K cd_check_function "check_function" = true)
    (k_check_function : PySem.W.keepIn K (.ref f_check_function) = true)
    (a_names_of : PySem.W.nsIn K mainGlobals "names_of" = some (some (.ref f_names_of)))
    (l_names_of : K.lookup f_names_of = some ⟨oc_names_of, od_names_of, .func (PySem.W.fnOf "names_of" "names_of" (defArgs s_names_of) (defBody s_names_of) (defScope s_names_of) .none kV_names_of dc_names_of pm_names_of an_names_of cd_names_of ct_names_of), sl_names_of⟩)
    (c_names_of : PySem.W.codeIn K cd_names_of "names_of" = true)
    (k_names_of : PySem.W.keepIn K (.ref f_names_of) = true)
    (a_law_draw : PySem.W.nsIn K mainGlobals "_law_draw" = some (some (.ref f_law_draw)))
    (l_law_draw : K.lookup f_law_draw = some ⟨oc_law_draw, od_law_draw, .func (PySem.W.fnOf "_law_draw" "_law_draw" (defArgs s_law_draw) (defBody s_law_draw) (defScope s_law_draw) .none kV_law_draw dc_law_draw pm_law_draw an_law_draw cd_law_draw ct_law_draw), sl_law_draw⟩)
    (c_law_draw : PySem.W.codeIn K cd_law_draw "_law_draw" = true)
    (k_law_draw : PySem.W.keepIn K (.ref f_law_draw) = true)
    (a_law_some : PySem.W.nsIn K mainGlobals "_law_some" = some (some (.ref f_law_some)))
    (l_law_some : K.lookup f_law_some = some ⟨oc_law_some, od_law_some, .func (PySem.W.fnOf "_law_some" "_law_some" (defArgs s_law_some) (defBody s_law_some) (defScope s_law_some) .none kV_law_some dc_law_some pm_law_some an_law_some cd_law_some ct_law_some), sl_law_some⟩)
    (c_law_some : PySem.W.codeIn K cd_law_some "_law_some" = true)
    (k_law_some : PySem.W.keepIn K (.ref f_law_some) = true)
    (a_law_is : PySem.W.nsIn K mainGlobals "_law_is" = some (some (.ref f_law_is)))
    (l_law_is : K.lookup f_law_is = some ⟨oc_law_is, od_law_is, .func (PySem.W.fnOf "_law_is" "_law_is" (defArgs s_law_is) (defBody s_law_is) (defScope s_law_is) .none kV_law_is dc_law_is pm_law_is an_law_is cd_law_is ct_law_is), sl_law_is⟩)
    (c_law_is : PySem.W.codeIn K cd_law_is "_law_is" = true)
    (k_law_is : PySem.W.keepIn K (.ref f_law_is) = true)
    (a_law_mixed : PySem.W.nsIn K mainGlobals "_law_mixed" = some (some (.ref f_law_mixed)))
    (l_law_mixed : K.lookup f_law_mixed = some ⟨oc_law_mixed, od_law_mixed, .func (PySem.W.fnOf "_law_mixed" "_law_mixed" (defArgs s_law_mixed) (defBody s_law_mixed) (defScope s_law_mixed) .none kV_law_mixed dc_law_mixed pm_law_mixed an_law_mixed cd_law_mixed ct_law_mixed), sl_law_mixed⟩)
    (c_law_mixed : PySem.W.codeIn K cd_law_mixed "_law_mixed" = true)
    (k_law_mixed : PySem.W.keepIn K (.ref f_law_mixed) = true)
    (a_law_deep : PySem.W.nsIn K mainGlobals "_law_deep" = some (some (.ref f_law_deep)))
    (l_law_deep : K.lookup f_law_deep = some ⟨oc_law_deep, od_law_deep, .func (PySem.W.fnOf "_law_deep" "_law_deep" (defArgs s_law_deep) (defBody s_law_deep) (defScope s_law_deep) .none kV_law_deep dc_law_deep pm_law_deep an_law_deep cd_law_deep ct_law_deep), sl_law_deep⟩)
    (c_law_deep : PySem.W.codeIn K cd_law_deep "_law_deep" = true)
    (k_law_deep : PySem.W.keepIn K (.ref f_law_deep) = true)
    (a_law_hand : PySem.W.nsIn K mainGlobals "_law_hand" = some (some (.ref f_law_hand)))
    (l_law_hand : K.lookup f_law_hand = some ⟨oc_law_hand, od_law_hand, .func (PySem.W.fnOf "_law_hand" "_law_hand" (defArgs s_law_hand) (defBody s_law_hand) (defScope s_law_hand) .none kV_law_hand dc_law_hand pm_law_hand an_law_hand cd_law_hand ct_law_hand), sl_law_hand⟩)
    (c_law_hand : PySem.W.codeIn K cd_law_hand "_law_hand" = true)
    (k_law_hand : PySem.W.keepIn K (.ref f_law_hand) = true)
    (a_law_whole : PySem.W.nsIn K mainGlobals "_law_whole" = some (some (.ref f_law_whole)))
    (l_law_whole : K.lookup f_law_whole = some ⟨oc_law_whole, od_law_whole, .func (PySem.W.fnOf "_law_whole" "_law_whole" (defArgs s_law_whole) (defBody s_law_whole) (defScope s_law_whole) .none kV_law_whole dc_law_whole pm_law_whole an_law_whole cd_law_whole ct_law_whole), sl_law_whole⟩)
    (c_law_whole : PySem.W.codeIn K cd_law_whole "_law_whole" = true)
    (k_law_whole : PySem.W.keepIn K (.ref f_law_whole) = true)
    (a_law_expression : PySem.W.nsIn K mainGlobals "_law_expression" = some (some (.ref f_law_expression)))
    (l_law_expression : K.lookup f_law_expression = some ⟨oc_law_expression, od_law_expression, .func (PySem.W.fnOf "_law_expression" "_law_expression" (defArgs s_law_expression) (defBody s_law_expression) (defScope s_law_expression) .none kV_law_expression dc_law_expression pm_law_expression an_law_expression cd_law_expression ct_law_expression), sl_law_expression⟩)
    (c_law_expression : PySem.W.codeIn K cd_law_expression "_law_expression" = true)
    (k_law_expression : PySem.W.keepIn K (.ref f_law_expression) = true)
    (a_law_statement : PySem.W.nsIn K mainGlobals "_law_statement" = some (some (.ref f_law_statement)))
    (l_law_statement : K.lookup f_law_statement = some ⟨oc_law_statement, od_law_statement, .func (PySem.W.fnOf "_law_statement" "_law_statement" (defArgs s_law_statement) (defBody s_law_statement) (defScope s_law_statement) .none kV_law_statement dc_law_statement pm_law_statement an_law_statement cd_law_statement ct_law_statement), sl_law_statement⟩)
    (c_law_statement : PySem.W.codeIn K cd_law_statement "_law_statement" = true)
    (k_law_statement : PySem.W.keepIn K (.ref f_law_statement) = true)
    (a_law_block : PySem.W.nsIn K mainGlobals "_law_block" = some (some (.ref f_law_block)))
    (l_law_block : K.lookup f_law_block = some ⟨oc_law_block, od_law_block, .func (PySem.W.fnOf "_law_block" "_law_block" (defArgs s_law_block) (defBody s_law_block) (defScope s_law_block) .none kV_law_block dc_law_block pm_law_block an_law_block cd_law_block ct_law_block), sl_law_block⟩)
    (c_law_block : PySem.W.codeIn K cd_law_block "_law_block" = true)
    (k_law_block : PySem.W.keepIn K (.ref f_law_block) = true)
    (a_law_names : PySem.W.nsIn K mainGlobals "_law_names" = some (some (.ref f_law_names)))
    (l_law_names : K.lookup f_law_names = some ⟨oc_law_names, od_law_names, .func (PySem.W.fnOf "_law_names" "_law_names" (defArgs s_law_names) (defBody s_law_names) (defScope s_law_names) .none kV_law_names dc_law_names pm_law_names an_law_names cd_law_names ct_law_names), sl_law_names⟩)
    (c_law_names : PySem.W.codeIn K cd_law_names "_law_names" = true)
    (k_law_names : PySem.W.keepIn K (.ref f_law_names) = true)
    (a_law_parts : PySem.W.nsIn K mainGlobals "_law_parts" = some (some (.ref f_law_parts)))
    (l_law_parts : K.lookup f_law_parts = some ⟨oc_law_parts, od_law_parts, .func (PySem.W.fnOf "_law_parts" "_law_parts" (defArgs s_law_parts) (defBody s_law_parts) (defScope s_law_parts) .none kV_law_parts dc_law_parts pm_law_parts an_law_parts cd_law_parts ct_law_parts), sl_law_parts⟩)
    (c_law_parts : PySem.W.codeIn K cd_law_parts "_law_parts" = true)
    (k_law_parts : PySem.W.keepIn K (.ref f_law_parts) = true)
    (a_law_statements : PySem.W.nsIn K mainGlobals "_law_statements" = some (some (.ref f_law_statements)))
    (l_law_statements : K.lookup f_law_statements = some ⟨oc_law_statements, od_law_statements, .func (PySem.W.fnOf "_law_statements" "_law_statements" (defArgs s_law_statements) (defBody s_law_statements) (defScope s_law_statements) .none kV_law_statements dc_law_statements pm_law_statements an_law_statements cd_law_statements ct_law_statements), sl_law_statements⟩)
    (c_law_statements : PySem.W.codeIn K cd_law_statements "_law_statements" = true)
    (k_law_statements : PySem.W.keepIn K (.ref f_law_statements) = true)
    (a_law_expressions : PySem.W.nsIn K mainGlobals "_law_expressions" = some (some (.ref f_law_expressions)))
    (l_law_expressions : K.lookup f_law_expressions = some ⟨oc_law_expressions, od_law_expressions, .func (PySem.W.fnOf "_law_expressions" "_law_expressions" (defArgs s_law_expressions) (defBody s_law_expressions) (defScope s_law_expressions) .none kV_law_expressions dc_law_expressions pm_law_expressions an_law_expressions cd_law_expressions ct_law_expressions), sl_law_expressions⟩)
    (c_law_expressions : PySem.W.codeIn K cd_law_expressions "_law_expressions" = true)
    (k_law_expressions : PySem.W.keepIn K (.ref f_law_expressions) = true)
    (a_law_named_in : PySem.W.nsIn K mainGlobals "_law_named_in" = some (some (.ref f_law_named_in)))
    (l_law_named_in : K.lookup f_law_named_in = some ⟨oc_law_named_in, od_law_named_in, .func (PySem.W.fnOf "_law_named_in" "_law_named_in" (defArgs s_law_named_in) (defBody s_law_named_in) (defScope s_law_named_in) .none kV_law_named_in dc_law_named_in pm_law_named_in an_law_named_in cd_law_named_in ct_law_named_in), sl_law_named_in⟩)
    (c_law_named_in : PySem.W.codeIn K cd_law_named_in "_law_named_in" = true)
    (k_law_named_in : PySem.W.keepIn K (.ref f_law_named_in) = true)
    (a_law_all_names : PySem.W.nsIn K mainGlobals "_law_all_names" = some (some (.ref f_law_all_names)))
    (l_law_all_names : K.lookup f_law_all_names = some ⟨oc_law_all_names, od_law_all_names, .func (PySem.W.fnOf "_law_all_names" "_law_all_names" (defArgs s_law_all_names) (defBody s_law_all_names) (defScope s_law_all_names) .none kV_law_all_names dc_law_all_names pm_law_all_names an_law_all_names cd_law_all_names ct_law_all_names), sl_law_all_names⟩)
    (c_law_all_names : PySem.W.codeIn K cd_law_all_names "_law_all_names" = true)
    (k_law_all_names : PySem.W.keepIn K (.ref f_law_all_names) = true)
    (a_law_word : PySem.W.nsIn K mainGlobals "_law_word" = some (some (.ref f_law_word)))
    (l_law_word : K.lookup f_law_word = some ⟨oc_law_word, od_law_word, .func (PySem.W.fnOf "_law_word" "_law_word" (defArgs s_law_word) (defBody s_law_word) (defScope s_law_word) .none kV_law_word dc_law_word pm_law_word an_law_word cd_law_word ct_law_word), sl_law_word⟩)
    (c_law_word : PySem.W.codeIn K cd_law_word "_law_word" = true)
    (k_law_word : PySem.W.keepIn K (.ref f_law_word) = true)
    (a_law_is_alone_right : PySem.W.nsIn K mainGlobals "_law_is_alone_right" = some (some (.ref f_law_is_alone_right)))
    (l_law_is_alone_right : K.lookup f_law_is_alone_right = some ⟨oc_law_is_alone_right, od_law_is_alone_right, .func (PySem.W.fnOf "_law_is_alone_right" "_law_is_alone_right" (defArgs s_law_is_alone_right) (defBody s_law_is_alone_right) (defScope s_law_is_alone_right) .none kV_law_is_alone_right dc_law_is_alone_right pm_law_is_alone_right an_law_is_alone_right cd_law_is_alone_right ct_law_is_alone_right), sl_law_is_alone_right⟩)
    (c_law_is_alone_right : PySem.W.codeIn K cd_law_is_alone_right "_law_is_alone_right" = true)
    (k_law_is_alone_right : PySem.W.keepIn K (.ref f_law_is_alone_right) = true)
    (a_law : PySem.W.nsIn K mainGlobals "law" = some (some (.ref f_law)))
    (l_law : K.lookup f_law = some ⟨oc_law, od_law, .func (PySem.W.fnOf "law" "law" (defArgs s_law) (defBody s_law) (defScope s_law) .none kV_law dc_law pm_law an_law (.ref cc_law) ct_law), sl_law⟩)
    (c_law : PySem.W.codeIn K (.ref cc_law) "law" = true)
    (k_law : PySem.W.keepIn K (.ref f_law) = true)
    (no_Flow_params : PySem.W.findIn K (.ref C_Flow) "params" = some none)
    (no_Flow_names : PySem.W.findIn K (.ref C_Flow) "names" = some none)
    (no_Flow_first : PySem.W.findIn K (.ref C_Flow) "first" = some none)
    (no_Flow_rows : PySem.W.findIn K (.ref C_Flow) "rows" = some none)
    (no_Text_tables : PySem.W.findIn K (.ref C_Text) "tables" = some none)
    (no_Text_functions : PySem.W.findIn K (.ref C_Text) "functions" = some none)
    (no_Text_flows : PySem.W.findIn K (.ref C_Text) "flows" = some none)
    (z_len : PySem.W.nsIn K mainGlobals "len" = some none)
    (z_int : PySem.W.nsIn K mainGlobals "int" = some none)
    (z_bool : PySem.W.nsIn K mainGlobals "bool" = some none)
    (z_str : PySem.W.nsIn K mainGlobals "str" = some none)
    (z_tuple : PySem.W.nsIn K mainGlobals "tuple" = some none)
    (z_list : PySem.W.nsIn K mainGlobals "list" = some none)
    (z_isinstance : PySem.W.nsIn K mainGlobals "isinstance" = some none)
    (z_all : PySem.W.nsIn K mainGlobals "all" = some none)
    (z_abs : PySem.W.nsIn K mainGlobals "abs" = some none)
    (z_sum : PySem.W.nsIn K mainGlobals "sum" = some none)
    (z_range : PySem.W.nsIn K mainGlobals "range" = some none)
    (z_zip : PySem.W.nsIn K mainGlobals "zip" = some none)
    (z_set : PySem.W.nsIn K mainGlobals "set" = some none)
    (z_sorted : PySem.W.nsIn K mainGlobals "sorted" = some none)
    (z_enumerate : PySem.W.nsIn K mainGlobals "enumerate" = some none)
    (z_ValueError : PySem.W.nsIn K mainGlobals "ValueError" = some none)
    (g_LETTERS : PySem.W.nsIn K mainGlobals "LETTERS" = some (some (.str "abcdefghijklmnopqrstuvwxyz" t_LETTERS)))
    (g_MOST_WHOLE : PySem.W.nsIn K mainGlobals "MOST_WHOLE" = some (some (.int (10 ^ (18 : Int).toNat) t_MOST_WHOLE)))
    (g_OFF : PySem.W.nsIn K mainGlobals "OFF" = some (some (.int (-1) t_OFF)))
    (g_LONGEST : PySem.W.nsIn K mainGlobals "LONGEST" = some (some (.int 8 t_LONGEST)))
    (g_MOST_DEEP : PySem.W.nsIn K mainGlobals "MOST_DEEP" = some (some (.int 4 t_MOST_DEEP)))
    (g_MOST_FIELDS : PySem.W.nsIn K mainGlobals "MOST_FIELDS" = some (some (.int 4 t_MOST_FIELDS)))
    (g_MOST_PARAMS : PySem.W.nsIn K mainGlobals "MOST_PARAMS" = some (some (.int 4 t_MOST_PARAMS)))
    (g_MOST_STATEMENTS : PySem.W.nsIn K mainGlobals "MOST_STATEMENTS" = some (some (.int 40 t_MOST_STATEMENTS)))
    (g_MOST_IFS : PySem.W.nsIn K mainGlobals "MOST_IFS" = some (some (.int 8 t_MOST_IFS)))
    (g_MOST_BLOCKS : PySem.W.nsIn K mainGlobals "MOST_BLOCKS" = some (some (.int 5 t_MOST_BLOCKS)))
    (g_MOST_NAMES : PySem.W.nsIn K mainGlobals "MOST_NAMES" = some (some (.int 12 t_MOST_NAMES)))
    (g_MOST_TABLES : PySem.W.nsIn K mainGlobals "MOST_TABLES" = some (some (.int 4 t_MOST_TABLES)))
    (g_MOST_FUNCTIONS : PySem.W.nsIn K mainGlobals "MOST_FUNCTIONS" = some (some (.int 8 t_MOST_FUNCTIONS)))
    (lo_NoFunction : K.lookup C_NoFunction = some (excClassObj xnm_NoFunction xq_NoFunction C_NoFunction xN_NoFunction xbs_NoFunction xbm_NoFunction true xsn_NoFunction xsub_NoFunction xab_NoFunction xcol_NoFunction xdd_NoFunction xk0_NoFunction xk1_NoFunction xk2_NoFunction xk3_NoFunction xk5_NoFunction "ValueError.__new__"))
    (rv_NoFunction : PySem.HandSPX.refsVE xbm_NoFunction = true)
    (xsa_NoFunction : PySem.W.findIn K (.ref C_NoFunction) "__setattr__" = some (some (.builtin "object.__setattr__")))
    (xbe_NoFunction : PySem.W.subIn K (.ref C_NoFunction) (.type "BaseException") = some true)
    (xty_NoFunction : PySem.W.typeIn K (.ref C_NoFunction) = some (.type "type"))
    (xk_NoFunction : PySem.W.keepIn K (.ref C_NoFunction) = true)
    (xga_NoFunction : PySem.W.findIn K (.ref C_NoFunction) "__getattribute__" = some (some (.builtin "BaseException.__getattribute__")))
    (xgt_NoFunction : PySem.W.findIn K (.ref C_NoFunction) "__getattr__" = some none)
    (xhd_NoFunction : PySem.W.hasDictIn K C_NoFunction = true)
    (xcl_NoFunction : PySem.W.findIn K (.ref C_NoFunction) "__class__" = some (some (.builtin "object.__class__")))
    (xmr_NoFunction : PySem.W.mroIn K C_NoFunction (.type "object") = some true)
    (xsp : PySem.W.specialIn K (.builtin "object.__class__") "__get__" = some (some (.builtin "getset_descriptor.__get__")))
    (xtk : PySem.W.takesIn K (.builtin "object.__class__") = some true)
    (xvV : PySem.W.findCls K (.type "ValueError") (.type "type") "__init__" = some (.val (.builtin "ValueError.__init__")))
    (lc_law : K.lookup cc_law = some ⟨te_law, td_law, .fields tv_law, ts_law⟩)
    (lv_law : tv_law[11]? = some (.ref P_law))
    (lh_law : PySem.W.codeHdIn K cc_law P_law = true)
    (lo_law : K.lookup P_law = none)
    (lr_law : ((recsOf q).any fun e => e.name == ("law" : Str)) = true)
    (g_SIZES : PySem.W.nsIn K mainGlobals "SIZES" = some (some (.ref a_SIZES)))
    (q_SIZES : K.lookup a_SIZES = some ⟨.type "dict", none, .dict es_SIZES n_SIZES, #[]⟩)
    (r_SIZES : PySem.W.KeysLit w.params es_SIZES.toList)
    (l_SIZES : (a_SIZES == sysModules) = false)
    (s_SIZES_let : ∃ t, PySem.W.nsIn K a_SIZES "let" = some (some (.int 3 t)))
    (s_SIZES_make : ∃ t, PySem.W.nsIn K a_SIZES "make" = some (some (.int 3 t)))
    (s_SIZES_get : ∃ t, PySem.W.nsIn K a_SIZES "get" = some (some (.int 4 t)))
    (s_SIZES_put : ∃ t, PySem.W.nsIn K a_SIZES "put" = some (some (.int 4 t)))
    (s_SIZES_read : ∃ t, PySem.W.nsIn K a_SIZES "read" = some (some (.int 3 t)))
    (s_SIZES_write : ∃ t, PySem.W.nsIn K a_SIZES "write" = some (some (.int 3 t)))
    (s_SIZES_call : ∃ t, PySem.W.nsIn K a_SIZES "call" = some (some (.int 4 t)))
    (s_SIZES_wait : ∃ t, PySem.W.nsIn K a_SIZES "wait" = some (some (.int 3 t)))
    (s_SIZES_if : ∃ t, PySem.W.nsIn K a_SIZES "if" = some (some (.int 4 t)))
    (s_SIZES_while : ∃ t, PySem.W.nsIn K a_SIZES "while" = some (some (.int 3 t)))
    (s_SIZES_end : ∃ t, PySem.W.nsIn K a_SIZES "end" = some (some (.int 2 t)))
    (g_OPS : PySem.W.nsIn K mainGlobals "OPS" = some (some (.ref a_OPS)))
    (q_OPS : K.lookup a_OPS = some o_OPS)
    (r_OPS : o_OPS.cls = .type "tuple")
    (s_OPS : o_OPS.data = .seq its_OPS n_OPS)
    (t_OPS : Vals [.str "add", .str "sub", .str "mul", .str "less", .str "same"] its_OPS.toList)
    (ei_NoFunction : PySem.W.findIn K (.ref C_NoFunction) "__init__" = some (some (.ref f_RunError___init__)))
    (ty_RunError___init__ : PySem.W.typeIn K (.ref f_RunError___init__) = some (.type "function"))
    (x_em : PySem.W.exmOne K (.ref C_NoFunction) (.ref C_RunError) = some true)
    (x_ki : PySem.W.kitOne K (.ref C_NoFunction) (.ref C_NoFunction) = some true)
    (x_kiv : PySem.W.kitOne K (.ref C_NoFunction) (.type "ValueError") = some true)
    : LamX.LawAtS l w K (L2.CX l.prog w) 27 63 "script" mg fa h := by
  have e := hfa.symm.trans (PySem.W.mg_of X G a_law)
  cases e
  have F_is_integer := fun_mk (st := s_is_integer) l_is_integer c_is_integer k_is_integer
  have b_is_integer := F_is_integer.binds (ps := ["thing"]) fun _ _ _ _ _ _ us hl => match us, hl with | [_], _ => rfl
  have F_is_between := fun_mk (st := s_is_between) l_is_between c_is_between k_is_between
  have b_is_between := F_is_between.binds (ps := ["thing", "least", "most"]) fun _ _ _ _ _ _ us hl => match us, hl with | [_, _, _], _ => rfl
  have F_is_whole := fun_mk (st := s_is_whole) l_is_whole c_is_whole k_is_whole
  have b_is_whole := F_is_whole.binds (ps := ["thing"]) fun _ _ _ _ _ _ us hl => match us, hl with | [_], _ => rfl
  have F_is_name := fun_mk (st := s_is_name) l_is_name c_is_name k_is_name
  have b_is_name := F_is_name.binds (ps := ["thing"]) fun _ _ _ _ _ _ us hl => match us, hl with | [_], _ => rfl
  have F_is_tuple := fun_mk (st := s_is_tuple) l_is_tuple c_is_tuple k_is_tuple
  have b_is_tuple := F_is_tuple.binds (ps := ["thing", "least", "most"]) fun _ _ _ _ _ _ us hl => match us, hl with | [_, _, _], _ => rfl
  have F_does_ascend := fun_mk (st := s_does_ascend) l_does_ascend c_does_ascend k_does_ascend
  have b_does_ascend := F_does_ascend.binds (ps := ["things"]) fun _ _ _ _ _ _ us hl => match us, hl with | [_], _ => rfl
  have F_are_names := fun_mk (st := s_are_names) l_are_names c_are_names k_are_names
  have b_are_names := F_are_names.binds (ps := ["thing", "most"]) fun _ _ _ _ _ _ us hl => match us, hl with | [_, _], _ => rfl
  have F_RunError___init__ := fun_mk (st := s_RunError___init__) l_RunError___init__ c_RunError___init__ k_RunError___init__
  have b_RunError___init__ := F_RunError___init__.binds (ps := ["self"]) fun _ _ _ _ _ _ us hl => match us, hl with | [_], _ => rfl
  have F_is_expression := fun_mk (st := s_is_expression) l_is_expression c_is_expression k_is_expression
  have b_is_expression := F_is_expression.binds (ps := ["thing", "deep"]) fun _ _ _ _ _ _ us hl => match us, hl with | [_, _], _ => rfl
  have F_is_right_part := fun_mk (st := s_is_right_part) l_is_right_part c_is_right_part k_is_right_part
  have b_is_right_part := F_is_right_part.binds (ps := ["thing"]) fun _ _ _ _ _ _ us hl => match us, hl with | [_], _ => rfl
  have F_are_right := fun_mk (st := s_are_right) l_are_right c_are_right k_are_right
  have b_are_right := F_are_right.binds (ps := ["thing", "least", "most"]) fun _ _ _ _ _ _ us hl => match us, hl with | [_, _, _], _ => rfl
  have F_is_plain_statement := fun_mk (st := s_is_plain_statement) l_is_plain_statement c_is_plain_statement k_is_plain_statement
  have b_is_plain_statement := F_is_plain_statement.binds (ps := ["thing"]) fun _ _ _ _ _ _ us hl => match us, hl with | [_], _ => rfl
  have F_is_statement := fun_mk (st := s_is_statement) l_is_statement c_is_statement k_is_statement
  have b_is_statement := F_is_statement.binds (ps := ["thing", "deep"]) fun _ _ _ _ _ _ us hl => match us, hl with | [_, _], _ => rfl
  have F_is_block := fun_mk (st := s_is_block) l_is_block c_is_block k_is_block
  have b_is_block := F_is_block.binds (ps := ["thing", "deep"]) fun _ _ _ _ _ _ us hl => match us, hl with | [_, _], _ => rfl
  have F_blocks_in := fun_mk (st := s_blocks_in) l_blocks_in c_blocks_in k_blocks_in
  have b_blocks_in := F_blocks_in.binds (ps := ["statement"]) fun _ _ _ _ _ _ us hl => match us, hl with | [_], _ => rfl
  have F_size_of := fun_mk (st := s_size_of) l_size_of c_size_of k_size_of
  have b_size_of := F_size_of.binds (ps := ["statement"]) fun _ _ _ _ _ _ us hl => match us, hl with | [_], _ => rfl
  have F_all_in := fun_mk (st := s_all_in) l_all_in c_all_in k_all_in
  have b_all_in := F_all_in.binds (ps := ["block"]) fun _ _ _ _ _ _ us hl => match us, hl with | [_], _ => rfl
  have F_names_in := fun_mk (st := s_names_in) l_names_in c_names_in k_names_in
  have b_names_in := F_names_in.binds (ps := ["thing"]) fun _ _ _ _ _ _ us hl => match us, hl with | [_], _ => rfl
  have F_expressions_in := fun_mk (st := s_expressions_in) l_expressions_in c_expressions_in k_expressions_in
  have b_expressions_in := F_expressions_in.binds (ps := ["statement"]) fun _ _ _ _ _ _ us hl => match us, hl with | [_], _ => rfl
  have F_names_told := fun_mk (st := s_names_told) l_names_told c_names_told k_names_told
  have b_names_told := F_names_told.binds (ps := ["params", "block"]) fun _ _ _ _ _ _ us hl => match us, hl with | [_, _], _ => rfl
  have F_laid := fun_mk (st := s_laid) l_laid c_laid k_laid
  have b_laid := F_laid.binds (ps := ["rows", "block", "place", "behind"]) fun _ _ _ _ _ _ us hl => match us, hl with | [_, _, _, _], _ => rfl
  have F_Flow___init__ := fun_mk (st := s_Flow___init__) l_Flow___init__ c_Flow___init__ k_Flow___init__
  have b_Flow___init__ := F_Flow___init__.binds (ps := ["self", "params", "block"]) fun _ _ _ _ _ _ us hl => match us, hl with | [_, _, _], _ => rfl
  have F_is_function := fun_mk (st := s_is_function) l_is_function c_is_function k_is_function
  have b_is_function := F_is_function.binds (ps := ["thing"]) fun _ _ _ _ _ _ us hl => match us, hl with | [_], _ => rfl
  have F_Text___init__ := fun_mk (st := s_Text___init__) l_Text___init__ c_Text___init__ k_Text___init__
  have b_Text___init__ := F_Text___init__.binds (ps := ["self", "tables", "functions"]) fun _ _ _ _ _ _ us hl => match us, hl with | [_, _, _], _ => rfl
  have F_Text_sizes_of := fun_mk (st := s_Text_sizes_of) l_Text_sizes_of c_Text_sizes_of k_Text_sizes_of
  have b_Text_sizes_of := F_Text_sizes_of.binds (ps := ["self", "functions"]) fun _ _ _ _ _ _ us hl => match us, hl with | [_, _], _ => rfl
  have F_Text_goes_with := fun_mk (st := s_Text_goes_with) l_Text_goes_with c_Text_goes_with k_Text_goes_with
  have b_Text_goes_with := F_Text_goes_with.binds (ps := ["self", "tables", "sizes", "statement"]) fun _ _ _ _ _ _ us hl => match us, hl with | [_, _, _, _], _ => rfl
  have F_check_function := fun_mk (st := s_check_function) l_check_function c_check_function k_check_function
  have b_check_function := F_check_function.binds (ps := ["text", "f"]) fun _ _ _ _ _ _ us hl => match us, hl with | [_, _], _ => rfl
  have F_names_of := fun_mk (st := s_names_of) l_names_of c_names_of k_names_of
  have b_names_of := F_names_of.binds (ps := ["text", "f"]) fun _ _ _ _ _ _ us hl => match us, hl with | [_, _], _ => rfl
  have F_law_draw := fun_mk (st := s_law_draw) l_law_draw c_law_draw k_law_draw
  have b_law_draw := F_law_draw.binds (ps := ["hand", "span"]) fun _ _ _ _ _ _ us hl => match us, hl with | [_, _], _ => rfl
  have F_law_some := fun_mk (st := s_law_some) l_law_some c_law_some k_law_some
  have b_law_some := F_law_some.binds (ps := ["hand", "things"]) fun _ _ _ _ _ _ us hl => match us, hl with | [_, _], _ => rfl
  have F_law_is := fun_mk (st := s_law_is) l_law_is c_law_is k_law_is
  have b_law_is := F_law_is.binds (ps := ["thing", "due"]) fun _ _ _ _ _ _ us hl => match us, hl with | [_, _], _ => rfl
  have F_law_mixed := fun_mk (st := s_law_mixed) l_law_mixed c_law_mixed k_law_mixed
  have b_law_mixed := F_law_mixed.binds (ps := ["hand", "some"]) fun _ _ _ _ _ _ us hl => match us, hl with | [_, _], _ => rfl
  have F_law_deep := fun_mk (st := s_law_deep) l_law_deep c_law_deep k_law_deep
  have b_law_deep := F_law_deep.binds (ps := ["hand"]) fun _ _ _ _ _ _ us hl => match us, hl with | [_], _ => rfl
  have F_law_hand := fun_mk (st := s_law_hand) l_law_hand c_law_hand k_law_hand
  have b_law_hand := F_law_hand.binds (ps := ["script"]) fun _ _ _ _ _ _ us hl => match us, hl with | [_], _ => rfl
  have F_law_whole := fun_mk (st := s_law_whole) l_law_whole c_law_whole k_law_whole
  have b_law_whole := F_law_whole.binds (ps := ["hand"]) fun _ _ _ _ _ _ us hl => match us, hl with | [_], _ => rfl
  have F_law_expression := fun_mk (st := s_law_expression) l_law_expression c_law_expression k_law_expression
  have b_law_expression := F_law_expression.binds (ps := ["hand", "names", "deep"]) fun _ _ _ _ _ _ us hl => match us, hl with | [_, _, _], _ => rfl
  have F_law_statement := fun_mk (st := s_law_statement) l_law_statement c_law_statement k_law_statement
  have b_law_statement := F_law_statement.binds (ps := ["hand", "scene", "deep", "room"]) fun _ _ _ _ _ _ us hl => match us, hl with | [_, _, _, _], _ => rfl
  have F_law_block := fun_mk (st := s_law_block) l_law_block c_law_block k_law_block
  have b_law_block := F_law_block.binds (ps := ["hand", "scene", "deep", "room"]) fun _ _ _ _ _ _ us hl => match us, hl with | [_, _, _, _], _ => rfl
  have F_law_names := fun_mk (st := s_law_names) l_law_names c_law_names k_law_names
  have b_law_names := F_law_names.binds (ps := ["hand", "many"]) fun _ _ _ _ _ _ us hl => match us, hl with | [_, _], _ => rfl
  have F_law_parts := fun_mk (st := s_law_parts) l_law_parts c_law_parts k_law_parts
  have b_law_parts := F_law_parts.binds (ps := ["hand"]) fun _ _ _ _ _ _ us hl => match us, hl with | [_], _ => rfl
  have F_law_statements := fun_mk (st := s_law_statements) l_law_statements c_law_statements k_law_statements
  have b_law_statements := F_law_statements.binds (ps := ["block"]) fun _ _ _ _ _ _ us hl => match us, hl with | [_], _ => rfl
  have F_law_expressions := fun_mk (st := s_law_expressions) l_law_expressions c_law_expressions k_law_expressions
  have b_law_expressions := F_law_expressions.binds (ps := ["s"]) fun _ _ _ _ _ _ us hl => match us, hl with | [_], _ => rfl
  have F_law_named_in := fun_mk (st := s_law_named_in) l_law_named_in c_law_named_in k_law_named_in
  have b_law_named_in := F_law_named_in.binds (ps := ["e"]) fun _ _ _ _ _ _ us hl => match us, hl with | [_], _ => rfl
  have F_law_all_names := fun_mk (st := s_law_all_names) l_law_all_names c_law_all_names k_law_all_names
  have b_law_all_names := F_law_all_names.binds (ps := ["f"]) fun _ _ _ _ _ _ us hl => match us, hl with | [_], _ => rfl
  have F_law_word := fun_mk (st := s_law_word) l_law_word c_law_word k_law_word
  have b_law_word := F_law_word.binds (ps := ["call"]) fun _ _ _ _ _ _ us hl => match us, hl with | [_], _ => rfl
  have F_law_is_alone_right := fun_mk (st := s_law_is_alone_right) l_law_is_alone_right c_law_is_alone_right k_law_is_alone_right
  have b_law_is_alone_right := F_law_is_alone_right.binds (ps := ["hand"]) fun _ _ _ _ _ _ us hl => match us, hl with | [_], _ => rfl
  have F_law := fun_mk (st := s_law) l_law c_law k_law
  have o_law : h.get? P_law = some { cls := .none, data := .fields #[] } := own _ _ lr_law (PySem.W.mg_of X G a_law) _ _ _ _ _ _ _ _ l_law rfl rfl lc_law lv_law
  have b_law := F_law.binds (ps := ["script"]) fun _ _ _ _ _ _ us hl => match us, hl with | [_], _ => rfl
  have n_ : ∀ x, PySem.W.nsIn K mainGlobals x = some none → mg x = none := fun x h => PySem.W.mg_none_of X G h
  have T : Txt K mg ⟨C_RunError, C_NoFunction, C_BadText, C_Text, C_Flow, a_OPS, a_SIZES⟩ := ⟨⟨_, PySem.W.mg_of X G g_LETTERS, ⟨_, rfl⟩⟩, ⟨_, PySem.W.mg_of X G g_LONGEST, ⟨_, rfl⟩⟩, ⟨_, PySem.W.mg_of X G g_MOST_WHOLE, ⟨_, rfl⟩⟩, ⟨_, PySem.W.mg_of X G g_MOST_DEEP, ⟨_, rfl⟩⟩, ⟨_, PySem.W.mg_of X G g_MOST_FIELDS, ⟨_, rfl⟩⟩, ⟨_, PySem.W.mg_of X G g_MOST_PARAMS, ⟨_, rfl⟩⟩, ⟨_, PySem.W.mg_of X G g_MOST_STATEMENTS, ⟨_, rfl⟩⟩, ⟨_, PySem.W.mg_of X G g_MOST_IFS, ⟨_, rfl⟩⟩, ⟨_, PySem.W.mg_of X G g_MOST_BLOCKS, ⟨_, rfl⟩⟩, ⟨_, PySem.W.mg_of X G g_MOST_NAMES, ⟨_, rfl⟩⟩, ⟨_, PySem.W.mg_of X G g_MOST_TABLES, ⟨_, rfl⟩⟩, ⟨_, PySem.W.mg_of X G g_MOST_FUNCTIONS, ⟨_, rfl⟩⟩, ⟨_, PySem.W.mg_of X G g_OFF, ⟨_, rfl⟩⟩, ⟨_, PySem.W.mg_of X G g_OPS, rfl⟩, ops_tup q_OPS r_OPS s_OPS t_OPS, ⟨_, PySem.W.mg_of X G g_SIZES, rfl⟩, ⟨_, PySem.W.mg_of X G aC_RunError, rfl⟩, ⟨_, PySem.W.mg_of X G aC_NoFunction, rfl⟩,
    n_ _ z_len, n_ _ z_int, n_ _ z_bool, n_ _ z_str, n_ _ z_tuple, n_ _ z_list, n_ _ z_isinstance, n_ _ z_all, n_ _ z_abs, n_ _ z_sum, n_ _ z_range, n_ _ z_zip, n_ _ z_set, n_ _ z_sorted, n_ _ z_enumerate, n_ _ z_ValueError⟩
  have hTab : ∀ p ∈ [(cc_law, P_law)], h.get? p.2 = some { cls := .none, data := .fields #[] } := fun p hp => by
    rw [List.mem_singleton.mp hp]
    exact o_law
  have nTab : ∀ p ∈ [(cc_law, P_law)], K.lookup p.2 = none := fun p hp => by
    rw [List.mem_singleton.mp hp]
    exact lo_law
  have cTab : ∀ p ∈ [(cc_law, P_law)], PySem.W.CodeHd h p.1 p.2 := fun p hp => by
    rw [List.mem_singleton.mp hp]
    exact PySem.W.codeHd_of_K X lh_law
  refine ⟨PySem.W.fnOf "law" "law" (defArgs s_law) (defBody s_law) (defScope s_law) .none kV_law dc_law pm_law an_law (.ref cc_law) ct_law, [(cc_law, P_law)], spLaw [(P_law, ((("law" : Str) ++ ".<locals>.") ++ "<lambda>"))] K, hTab, nTab, cTab, fun s v => .of_eq rfl, fun H a ns hl _ hH hS => ⟨a, ns, rfl, hS, hl, ?_, fun _ => rfl⟩, fun base KB GB TB => ?_⟩
  · intro p hp
    rw [List.mem_singleton.mp hp]
    exact LamX.TabS.nil (hH (cc_law, P_law) tc_1)
  have TC : TxC K ⟨C_RunError, C_NoFunction, C_BadText, C_Text, C_Flow, a_OPS, a_SIZES⟩ := ⟨⟨pg_Flow, hd_Flow, po_Flow, sa_Flow⟩, no_Flow_params, no_Flow_names, no_Flow_first, no_Flow_rows, ⟨pg_Text, hd_Text, po_Text, sa_Text⟩, no_Text_tables, no_Text_functions, no_Text_flows⟩
  have TV : TxV K mg := ⟨n_ _ z_ValueError, xvV⟩
  have TS : TxS K w ⟨C_RunError, C_NoFunction, C_BadText, C_Text, C_Flow, a_OPS, a_SIZES⟩ := by
    refine ⟨⟨_, _, q_SIZES, r_SIZES, l_SIZES⟩, fun p hp => ?_⟩
    simp only [sizesL, List.mem_cons, List.not_mem_nil, or_false] at hp
    rcases hp with rfl | rfl | rfl | rfl | rfl | rfl | rfl | rfl | rfl | rfl | rfl
    · exact s_SIZES_let
    · exact s_SIZES_make
    · exact s_SIZES_get
    · exact s_SIZES_put
    · exact s_SIZES_read
    · exact s_SIZES_write
    · exact s_SIZES_call
    · exact s_SIZES_wait
    · exact s_SIZES_if
    · exact s_SIZES_while
    · exact s_SIZES_end
  have TE : TxE K ⟨C_RunError, C_NoFunction, C_BadText, C_Text, C_Flow, a_OPS, a_SIZES⟩ := ⟨⟨xga_NoFunction, xgt_NoFunction, xbe_NoFunction, xhd_NoFunction, xcl_NoFunction, xsp, xtk, xmr_NoFunction⟩, x_em, x_ki, x_kiv⟩
  have WD : WordDef K mg := ⟨_, _, _, _, _, _, _, _, _, _, PySem.W.mg_of X G a_law_word, k_law_word, l_law_word, c_law_word, b_law_word⟩
  have D_is_integer := dn_mk (mg := mg) (base := base) (P := l.prog) (w := w) F_is_integer (PySem.W.mg_of X G a_is_integer) b_is_integer (ok_is_integer F_is_integer T)
  have D_is_between := dn_mk (mg := mg) (base := base) (P := l.prog) (w := w) F_is_between (PySem.W.mg_of X G a_is_between) b_is_between (ok_is_between F_is_between T D_is_integer)
  have D_is_whole := dn_mk (mg := mg) (base := base) (P := l.prog) (w := w) F_is_whole (PySem.W.mg_of X G a_is_whole) b_is_whole (ok_is_whole F_is_whole T D_is_between)
  have D_is_name := dn_mk (mg := mg) (base := base) (P := l.prog) (w := w) F_is_name (PySem.W.mg_of X G a_is_name) b_is_name (ok_is_name F_is_name T)
  have D_is_tuple := dn_mk (mg := mg) (base := base) (P := l.prog) (w := w) F_is_tuple (PySem.W.mg_of X G a_is_tuple) b_is_tuple (ok_is_tuple F_is_tuple T)
  have D_does_ascend := dn_mk (mg := mg) (base := base) (P := l.prog) (w := w) F_does_ascend (PySem.W.mg_of X G a_does_ascend) b_does_ascend (ok_does_ascend F_does_ascend T)
  have D_are_names := dn_mk (mg := mg) (base := base) (P := l.prog) (w := w) F_are_names (PySem.W.mg_of X G a_are_names) b_are_names (ok_are_names F_are_names T D_is_name D_is_tuple)
  have D_is_expression := fun i : Ix => dn_mk (mg := mg) (base := base) (P := l.prog) (w := w) F_is_expression (PySem.W.mg_of X G a_is_expression) b_is_expression (fn_rec (k := 3) (sp := spExpr i.ns) F_is_expression (PySem.W.mg_of X G a_is_expression) b_is_expression (fun n D => step_is_expression F_is_expression T D_is_whole D_is_name n D) 4)
  have D_is_right_part := fun i : Ix => dn_mk (mg := mg) (base := base) (P := l.prog) (w := w) F_is_right_part (PySem.W.mg_of X G a_is_right_part) b_is_right_part (ok_is_right_part F_is_right_part T (D_is_expression i))
  have D_are_right := fun i : Ix => dn_mk (mg := mg) (base := base) (P := l.prog) (w := w) F_are_right (PySem.W.mg_of X G a_are_right) b_are_right (ok_are_right F_are_right T D_is_tuple (D_is_right_part i))
  have D_is_plain_statement := fun i : Ix => dn_mk (mg := mg) (base := base) (P := l.prog) (w := w) F_is_plain_statement (PySem.W.mg_of X G a_is_plain_statement) b_is_plain_statement (ok_is_plain_statement F_is_plain_statement T i.ok D_is_name D_is_between (D_is_right_part i) (D_are_right i))
  have D_is_block := fun i : Ix => dn_mk (mg := mg) (base := base) (P := l.prog) (w := w) F_is_block (PySem.W.mg_of X G a_is_block) b_is_block (blocks_ok (i := i) F_is_statement F_is_block (PySem.W.mg_of X G a_is_statement) (PySem.W.mg_of X G a_is_block) b_is_statement b_is_block T TS D_is_tuple (D_is_right_part i) (D_is_plain_statement i) 5)
  have D_blocks_in := fun (i : Ix) (n : Nat) => dn_mk (mg := mg) (base := base) (P := l.prog) (w := w) F_blocks_in (PySem.W.mg_of X G a_blocks_in) b_blocks_in (ok_blocks_in (ns := i.ns) (ts := i.ts) (os := i.os) (n := n) F_blocks_in T)
  have D_size_of := fun (i : Ix) (n : Nat) => dn_mk (mg := mg) (base := base) (P := l.prog) (w := w) F_size_of (PySem.W.mg_of X G a_size_of) b_size_of ((fn_less (n := n + 1) (sp := spSizeOf i.ns i.ts i.os) (k := 1 + n + 1) fun m hm => (fn_rec (k := 1) (sp := spSizeOf i.ns i.ts i.os) F_size_of (PySem.W.mg_of X G a_size_of) b_size_of (fun n D => step_size_of F_size_of T n (D_blocks_in i n) D) m).mono (by omega)).imp (sp' := fun vs H Q E => ∃ m, m ≤ n ∧ spSizeOf i.ns i.ts i.os m vs H Q E) fun vs H Q E ⟨m, h, q⟩ => ⟨m, by omega, q⟩)
  have D_all_in := fun i : Ix => dn_mk (mg := mg) (base := base) (P := l.prog) (w := w) F_all_in (PySem.W.mg_of X G a_all_in) b_all_in (fn_rec (k := 1) (sp := spAllIn i.ns i.ts i.os) F_all_in (PySem.W.mg_of X G a_all_in) b_all_in (fun n D => step_all_in F_all_in T n (D_blocks_in i n) D) 4)
  have D_names_in := fun i : Ix => dn_mk (mg := mg) (base := base) (P := l.prog) (w := w) F_names_in (PySem.W.mg_of X G a_names_in) b_names_in (fn_rec (k := 0) (sp := spNamesIn i.ns) F_names_in (PySem.W.mg_of X G a_names_in) b_names_in (fun n D => step_names_in F_names_in T n D) 4)
  have D_expressions_in := fun i : Ix => dn_mk (mg := mg) (base := base) (P := l.prog) (w := w) F_expressions_in (PySem.W.mg_of X G a_expressions_in) b_expressions_in (ok_expressions_in (ns := i.ns) (ts := i.ts) (os := i.os) (n := 4) F_expressions_in T)
  have D_names_told := fun i : Ix => dn_mk (mg := mg) (base := base) (P := l.prog) (w := w) F_names_told (PySem.W.mg_of X G a_names_told) b_names_told (ok_names_told (by decide : 5 ≤ 6) F_names_told T (D_all_in i) (D_names_in i) (D_expressions_in i))
  have D_laid := fun i : Ix => dn_mk (mg := mg) (base := base) (P := l.prog) (w := w) F_laid (PySem.W.mg_of X G a_laid) b_laid (fn_rec (k := 2) (sp := spLaid i.ns i.ts i.os) F_laid (PySem.W.mg_of X G a_laid) b_laid (fun n D => step_laid F_laid T n (D_size_of i n) D) 4)
  have D_is_function := dn_mk (mg := mg) (base := base) (P := l.prog) (w := w) F_is_function (PySem.W.mg_of X G a_is_function) b_is_function (fn_any (sp := spIsFunction) ixF fun i => ok_is_function F_is_function T D_is_tuple D_is_name D_are_names (D_is_block i) (D_all_in i) (D_names_told i))
  have D_all_inA := dn_mk (mg := mg) (base := base) (P := l.prog) (w := w) F_all_in (PySem.W.mg_of X G a_all_in) b_all_in (fn_any (sp := fun i : Ix => spAllIn i.ns i.ts i.os 4) ixF fun i => (fn_rec (k := 1) (sp := spAllIn i.ns i.ts i.os) F_all_in (PySem.W.mg_of X G a_all_in) b_all_in (fun n D => step_all_in F_all_in T n (D_blocks_in i n) D) 4))
  have C_Flow_ : Cn l.prog w K mg base "Flow" C_Flow 8 ["self", "params", "block"] (spA (spFlowInit C_Flow)) := ⟨PySem.W.mg_of X G aC_Flow, _, _, fn_any (sp := spFlowInit C_Flow) ixF fun i => ok_Flow_init F_Flow___init__ T TC (D_names_told i) (D_laid i), ⟨mk_Flow, a_Flow___init__, i_Flow___init__, kc_Flow⟩, b_Flow___init__⟩
  have M_Text_sizes_of := mn_mk (mg := mg) (base := base) (P := l.prog) (w := w) TC.clT F_Text_sizes_of ⟨a_Text_sizes_of, i_Text_sizes_of, k_Text_sizes_of⟩ b_Text_sizes_of (ok_Text_sizes_of F_Text_sizes_of T D_is_tuple D_is_name)
  have M_Text_goes_with := mn_mk (mg := mg) (base := base) (P := l.prog) (w := w) TC.clT F_Text_goes_with ⟨a_Text_goes_with, i_Text_goes_with, k_Text_goes_with⟩ b_Text_goes_with (fn_any (sp := spGoesWith) ixF fun i => ok_Text_goes_with F_Text_goes_with T)
  have C_Text : Cn l.prog w K mg base "Text" C_Text 23 ["self", "tables", "functions"] (spTextInit C_Text C_Flow) := ⟨PySem.W.mg_of X G aC_Text, _, _, ok_Text_init F_Text___init__ T TC D_are_names D_does_ascend D_is_tuple M_Text_sizes_of M_Text_goes_with D_is_function D_all_inA C_Flow_, ⟨mk_Text, a_Text___init__, i_Text___init__, kc_Text⟩, b_Text___init__⟩
  have En_NoFunction : En l.prog w K mg base "NoFunction" C_NoFunction 1 := ⟨PySem.W.mg_of X G aC_NoFunction, ⟨⟨_, _, _, _, _, _, _, _, _, _, _, _, _, _, _, lo_NoFunction, rv_NoFunction⟩, xsa_NoFunction, xbe_NoFunction, xty_NoFunction, xk_NoFunction⟩, ⟨_, _, ok_RunError_init F_RunError___init__ TV, ei_NoFunction, ty_RunError___init__, b_RunError___init__⟩⟩
  have D_check_function := dn_mk (mg := mg) (base := base) (P := l.prog) (w := w) F_check_function (PySem.W.mg_of X G a_check_function) b_check_function (ok_check_function F_check_function T TC En_NoFunction)
  have D_names_of := dn_mk (mg := mg) (base := base) (P := l.prog) (w := w) F_names_of (PySem.W.mg_of X G a_names_of) b_names_of (ok_names_of F_names_of T TC D_check_function)
  have D_law_draw := dn_mk (mg := mg) (base := base) (P := l.prog) (w := w) F_law_draw (PySem.W.mg_of X G a_law_draw) b_law_draw (ok_law_draw F_law_draw T)
  have D_law_some := dn_mk (mg := mg) (base := base) (P := l.prog) (w := w) F_law_some (PySem.W.mg_of X G a_law_some) b_law_some (ok_law_some F_law_some T D_law_draw)
  have D_law_hand := dn_mk (mg := mg) (base := base) (P := l.prog) (w := w) F_law_hand (PySem.W.mg_of X G a_law_hand) b_law_hand (ok_law_hand F_law_hand T)
  have D_law_mixed := dn_mk (mg := mg) (base := base) (P := l.prog) (w := w) F_law_mixed (PySem.W.mg_of X G a_law_mixed) b_law_mixed (ok_law_mixed F_law_mixed T D_law_draw)
  have D_law_names := dn_mk (mg := mg) (base := base) (P := l.prog) (w := w) F_law_names (PySem.W.mg_of X G a_law_names) b_law_names (ok_law_names F_law_names T D_law_mixed)
  have D_law_whole := dn_mk (mg := mg) (base := base) (P := l.prog) (w := w) F_law_whole (PySem.W.mg_of X G a_law_whole) b_law_whole (ok_law_whole F_law_whole T D_law_draw D_law_some)
  have D_law_deep := dn_mk (mg := mg) (base := base) (P := l.prog) (w := w) F_law_deep (PySem.W.mg_of X G a_law_deep) b_law_deep (ok_law_deep F_law_deep T D_law_draw D_law_some)
  have D_law_expression := dn_mk (mg := mg) (base := base) (P := l.prog) (w := w) F_law_expression (PySem.W.mg_of X G a_law_expression) b_law_expression (fn_less (n := 5) (sp := spLExpr) (k := 8) fun m hm => (fn_rec (k := 3) F_law_expression (PySem.W.mg_of X G a_law_expression) b_law_expression (fun n D => step_law_expression F_law_expression T D_law_draw D_law_some D_law_whole n D) m).mono (by omega))
  have D_law_block := dn_mk (mg := mg) (base := base) (P := l.prog) (w := w) F_law_block (PySem.W.mg_of X G a_law_block) b_law_block (fn_any (sp := fun i : List Str × List Str × List (Str × Nat) => spLBlock i.1 i.2.1 i.2.2 5) ([], [], []) fun i => law_blocks F_law_statement F_law_block (PySem.W.mg_of X G a_law_statement) (PySem.W.mg_of X G a_law_block) b_law_statement b_law_block T D_law_draw D_law_some D_law_expression 5)
  have D_law_parts := dn_mk (mg := mg) (base := base) (P := l.prog) (w := w) F_law_parts (PySem.W.mg_of X G a_law_parts) b_law_parts (ok_law_parts F_law_parts T D_law_draw D_law_some D_law_names D_law_block)
  have D_law_is := Dn.up (dn_mk (mg := mg) (base := base) (P := l.prog) (w := w) F_law_is (PySem.W.mg_of X G a_law_is) b_law_is (fn_rec (k := 0) (sp := spLIs) F_law_is (PySem.W.mg_of X G a_law_is) b_law_is (fun n D => step_law_is F_law_is T n D) 2)) (k := 4) (by decide)
  have D_law_statements := fun i : Ix => dn_mk (mg := mg) (base := base) (P := l.prog) (w := w) F_law_statements (PySem.W.mg_of X G a_law_statements) b_law_statements (fn_rec (k := 1) (sp := spAllIn i.ns i.ts i.os) F_law_statements (PySem.W.mg_of X G a_law_statements) b_law_statements (fun n D => step_law_statements F_law_statements T n D) 4)
  have D_law_named_in := fun i : Ix => dn_mk (mg := mg) (base := base) (P := l.prog) (w := w) F_law_named_in (PySem.W.mg_of X G a_law_named_in) b_law_named_in (fn_rec (k := 0) (sp := spNamesIn i.ns) F_law_named_in (PySem.W.mg_of X G a_law_named_in) b_law_named_in (fun n D => step_law_named_in F_law_named_in T n D) 4)
  have D_law_expressions := fun i : Ix => dn_mk (mg := mg) (base := base) (P := l.prog) (w := w) F_law_expressions (PySem.W.mg_of X G a_law_expressions) b_law_expressions (ok_law_expressions (ns := i.ns) (ts := i.ts) (os := i.os) (n := 4) F_law_expressions T)
  have D_law_all_names := dn_mk (mg := mg) (base := base) (P := l.prog) (w := w) F_law_all_names (PySem.W.mg_of X G a_law_all_names) b_law_all_names (fn_any (sp := spLNames) ixF fun i => ok_law_all_names F_law_all_names T (D_law_statements i) (D_law_named_in i) (D_law_expressions i))
  have D_law_is_alone_right := dn_mk (mg := mg) (base := base) (P := l.prog) (w := w) F_law_is_alone_right (PySem.W.mg_of X G a_law_is_alone_right) b_law_is_alone_right (ok_law_is_alone_right F_law_is_alone_right T D_law_draw D_law_some D_law_is D_names_of C_Text)
  exact ok_law l_law c_law T TE WD (TB _ tc_1) tb_1 tb_u D_law_hand D_law_is_alone_right D_law_parts C_Text D_names_of D_law_is D_law_all_names D_law_some D_law_deep
theorem walk {l : PySem.W.OpenLaw} {q : Program} {loose : List Str} {XP : (Str → Option Value) → Heap → Prop} {YP : World → Heap → Prop} {d : DefRec} {K : Params → PySem.W.Frag} (hn : l.most = some 63) (hdf : d.params.defaults = [])
    (hY : ∀ (w : World) (h : Heap), YP w h → (K w.params).In h)
    (F : ∀ (w : World) (mg : Str → Option Value) (fa : Addr) (h : Heap), (K w.params).In h → h.Ns mainGlobals mg → mg d.name = some (.ref fa) → OwnTabs q (K w.params) mg h → LamX.LawAtS l w (K w.params) (L2.CX l.prog w) 27 63 "script" mg fa h) :
    PySem.W.WalkO q loose XP YP l.row.toRowW d [] (fun f vs => PySem.call f vs) :=
  walk_ofOwns (n := 63) (k := 27) (x := "script") (CX := fun w => L2.CX l.prog w) hn (by decide) hdf ⟨rfl, by decide, by decide⟩ hY (fun w mg fa h _ KX G hm own => F w mg fa h KX G hm own) fun _ _ _ _ _ z => by
    obtain ⟨_, _, _, _, _, _, _, _, _, _, _, _, z⟩ := z
    exact z.elim
end K03



open PySem PySem.W PyProof.Rows in
set_option maxRecDepth 100000 in
set_option maxHeartbeats 0 in
theorem PySem.Challenge.cw_oneplainrun_k03_names_of_functions_holds : PySem.Challenge.rw_oneplainrun_k03_names_of_functions.Holds := by
  w_on; o_law; k_head; (case hw => w_witness2)
  k_fill
  refine K03.walk (l := PySem.Challenge.rw_oneplainrun_k03_names_of_functions) rfl rfl (fun w h Y => PySem.W.km_in_of Y) ?F
  case F =>
    intro w mg fa h KX G hmg own
    refine' K03.all_mk KX G own hmg ?aC_RunError ?aC_NoFunction ?aC_BadText ?aC_Text ?pg_Text ?hd_Text ?po_Text ?sa_Text ?mk_Text ?kc_Text ?aC_Flow ?pg_Flow ?hd_Flow ?po_Flow ?sa_Flow ?mk_Flow ?kc_Flow ?a_is_integer ?l_is_integer ?c_is_integer ?k_is_integer ?a_is_between ?l_is_between ?c_is_between ?k_is_between ?a_is_whole ?l_is_whole ?c_is_whole ?k_is_whole ?a_is_name ?l_is_name ?c_is_name ?k_is_name ?a_is_tuple ?l_is_tuple ?c_is_tuple ?k_is_tuple ?a_does_ascend ?l_does_ascend ?c_does_ascend ?k_does_ascend ?a_are_names ?l_are_names ?c_are_names ?k_are_names ?a_RunError___init__ ?i_RunError___init__ ?l_RunError___init__ ?c_RunError___init__ ?k_RunError___init__ ?a_is_expression ?l_is_expression ?c_is_expression ?k_is_expression ?a_is_right_part ?l_is_right_part ?c_is_right_part ?k_is_right_part ?a_are_right ?l_are_right ?c_are_right ?k_are_right ?a_is_plain_statement ?l_is_plain_statement ?c_is_plain_statement ?k_is_plain_statement ?a_is_statement ?l_is_statement ?c_is_statement ?k_is_statement ?a_is_block ?l_is_block ?c_is_block ?k_is_block ?a_blocks_in ?l_blocks_in ?c_blocks_in ?k_blocks_in ?a_size_of ?l_size_of ?c_size_of ?k_size_of ?a_all_in ?l_all_in ?c_all_in ?k_all_in ?a_names_in ?l_names_in ?c_names_in ?k_names_in ?a_expressions_in ?l_expressions_in ?c_expressions_in ?k_expressions_in ?a_names_told ?l_names_told ?c_names_told ?k_names_told ?a_laid ?l_laid ?c_laid ?k_laid ?a_Flow___init__ ?i_Flow___init__ ?l_Flow___init__ ?c_Flow___init__ ?k_Flow___init__ ?a_is_function ?l_is_function ?c_is_function ?k_is_function ?a_Text___init__ ?i_Text___init__ ?l_Text___init__ ?c_Text___init__ ?k_Text___init__ ?a_Text_sizes_of ?i_Text_sizes_of ?l_Text_sizes_of ?c_Text_sizes_of ?k_Text_sizes_of ?a_Text_goes_with ?i_Text_goes_with ?l_Text_goes_with ?c_Text_goes_with ?k_Text_goes_with ?a_check_function ?l_check_function ?c_check_function ?k_check_function ?a_names_of ?l_names_of ?c_names_of ?k_names_of ?a_law_draw ?l_law_draw ?c_law_draw ?k_law_draw ?a_law_some ?l_law_some ?c_law_some ?k_law_some ?a_law_is ?l_law_is ?c_law_is ?k_law_is ?a_law_mixed ?l_law_mixed ?c_law_mixed ?k_law_mixed ?a_law_deep ?l_law_deep ?c_law_deep ?k_law_deep ?a_law_hand ?l_law_hand ?c_law_hand ?k_law_hand ?a_law_whole ?l_law_whole ?c_law_whole ?k_law_whole ?a_law_expression ?l_law_expression ?c_law_expression ?k_law_expression ?a_law_statement ?l_law_statement ?c_law_statement ?k_law_statement ?a_law_block ?l_law_block ?c_law_block ?k_law_block ?a_law_names ?l_law_names ?c_law_names ?k_law_names ?a_law_parts ?l_law_parts ?c_law_parts ?k_law_parts ?a_law_statements ?l_law_statements ?c_law_statements ?k_law_statements ?a_law_expressions ?l_law_expressions ?c_law_expressions ?k_law_expressions ?a_law_named_in ?l_law_named_in ?c_law_named_in ?k_law_named_in ?a_law_all_names ?l_law_all_names ?c_law_all_names ?k_law_all_names ?a_law_word ?l_law_word ?c_law_word ?k_law_word ?a_law_is_alone_right ?l_law_is_alone_right ?c_law_is_alone_right ?k_law_is_alone_right ?a_law ?l_law ?c_law ?k_law ?no_Flow_params ?no_Flow_names ?no_Flow_first ?no_Flow_rows ?no_Text_tables ?no_Text_functions ?no_Text_flows ?z_len ?z_int ?z_bool ?z_str ?z_tuple ?z_list ?z_isinstance ?z_all ?z_abs ?z_sum ?z_range ?z_zip ?z_set ?z_sorted ?z_enumerate ?z_ValueError ?g_LETTERS ?g_MOST_WHOLE ?g_OFF ?g_LONGEST ?g_MOST_DEEP ?g_MOST_FIELDS ?g_MOST_PARAMS ?g_MOST_STATEMENTS ?g_MOST_IFS ?g_MOST_BLOCKS ?g_MOST_NAMES ?g_MOST_TABLES ?g_MOST_FUNCTIONS ?lo_NoFunction ?rv_NoFunction ?xsa_NoFunction ?xbe_NoFunction ?xty_NoFunction ?xk_NoFunction ?xga_NoFunction ?xgt_NoFunction ?xhd_NoFunction ?xcl_NoFunction ?xmr_NoFunction ?xsp ?xtk ?xvV ?lc_law ?lv_law ?lh_law ?lo_law ?lr_law ?g_SIZES ?q_SIZES ?r_SIZES ?l_SIZES ?s_SIZES_let ?s_SIZES_make ?s_SIZES_get ?s_SIZES_put ?s_SIZES_read ?s_SIZES_write ?s_SIZES_call ?s_SIZES_wait ?s_SIZES_if ?s_SIZES_while ?s_SIZES_end ?g_OPS ?q_OPS ?r_OPS ?s_OPS ?t_OPS ?ei_NoFunction ?ty_RunError___init__ ?x_em ?x_ki ?x_kiv
    (case aC_RunError => k_is)
    (case aC_NoFunction => k_is)
    (case aC_BadText => k_is)
    (case aC_Text => k_is)
    (case pg_Text => k_is)
    (case hd_Text => k_is)
    (case po_Text => k_is)
    (case sa_Text => k_is)
    (case mk_Text => k_is)
    (case kc_Text => k_is)
    (case aC_Flow => k_is)
    (case pg_Flow => k_is)
    (case hd_Flow => k_is)
    (case po_Flow => k_is)
    (case sa_Flow => k_is)
    (case mk_Flow => k_is)
    (case kc_Flow => k_is)
    (case a_is_integer => k_is)
    (case l_is_integer => k_is)
    (case c_is_integer => k_is)
    (case k_is_integer => k_is)
    (case a_is_between => k_is)
    (case l_is_between => k_is)
    (case c_is_between => k_is)
    (case k_is_between => k_is)
    (case a_is_whole => k_is)
    (case l_is_whole => k_is)
    (case c_is_whole => k_is)
    (case k_is_whole => k_is)
    (case a_is_name => k_is)
    (case l_is_name => k_is)
    (case c_is_name => k_is)
    (case k_is_name => k_is)
    (case a_is_tuple => k_is)
    (case l_is_tuple => k_is)
    (case c_is_tuple => k_is)
    (case k_is_tuple => k_is)
    (case a_does_ascend => k_is)
    (case l_does_ascend => k_is)
    (case c_does_ascend => k_is)
    (case k_does_ascend => k_is)
    (case a_are_names => k_is)
    (case l_are_names => k_is)
    (case c_are_names => k_is)
    (case k_are_names => k_is)
    (case a_RunError___init__ => k_is)
    (case i_RunError___init__ => k_is)
    (case l_RunError___init__ => k_is)
    (case c_RunError___init__ => k_is)
    (case k_RunError___init__ => k_is)
    (case a_is_expression => k_is)
    (case l_is_expression => k_is)
    (case c_is_expression => k_is)
    (case k_is_expression => k_is)
    (case a_is_right_part => k_is)
    (case l_is_right_part => k_is)
    (case c_is_right_part => k_is)
    (case k_is_right_part => k_is)
    (case a_are_right => k_is)
    (case l_are_right => k_is)
    (case c_are_right => k_is)
    (case k_are_right => k_is)
    (case a_is_plain_statement => k_is)
    (case l_is_plain_statement => k_is)
    (case c_is_plain_statement => k_is)
    (case k_is_plain_statement => k_is)
    (case a_is_statement => k_is)
    (case l_is_statement => k_is)
    (case c_is_statement => k_is)
    (case k_is_statement => k_is)
    (case a_is_block => k_is)
    (case l_is_block => k_is)
    (case c_is_block => k_is)
    (case k_is_block => k_is)
    (case a_blocks_in => k_is)
    (case l_blocks_in => k_is)
    (case c_blocks_in => k_is)
    (case k_blocks_in => k_is)
    (case a_size_of => k_is)
    (case l_size_of => k_is)
    (case c_size_of => k_is)
    (case k_size_of => k_is)
    (case a_all_in => k_is)
    (case l_all_in => k_is)
    (case c_all_in => k_is)
    (case k_all_in => k_is)
    (case a_names_in => k_is)
    (case l_names_in => k_is)
    (case c_names_in => k_is)
    (case k_names_in => k_is)
    (case a_expressions_in => k_is)
    (case l_expressions_in => k_is)
    (case c_expressions_in => k_is)
    (case k_expressions_in => k_is)
    (case a_names_told => k_is)
    (case l_names_told => k_is)
    (case c_names_told => k_is)
    (case k_names_told => k_is)
    (case a_laid => k_is)
    (case l_laid => k_is)
    (case c_laid => k_is)
    (case k_laid => k_is)
    (case a_Flow___init__ => k_is)
    (case i_Flow___init__ => k_is)
    (case l_Flow___init__ => k_is)
    (case c_Flow___init__ => k_is)
    (case k_Flow___init__ => k_is)
    (case a_is_function => k_is)
    (case l_is_function => k_is)
    (case c_is_function => k_is)
    (case k_is_function => k_is)
    (case a_Text___init__ => k_is)
    (case i_Text___init__ => k_is)
    (case l_Text___init__ => k_is)
    (case c_Text___init__ => k_is)
    (case k_Text___init__ => k_is)
    (case a_Text_sizes_of => k_is)
    (case i_Text_sizes_of => k_is)
    (case l_Text_sizes_of => k_is)
    (case c_Text_sizes_of => k_is)
    (case k_Text_sizes_of => k_is)
    (case a_Text_goes_with => k_is)
    (case i_Text_goes_with => k_is)
    (case l_Text_goes_with => k_is)
    (case c_Text_goes_with => k_is)
    (case k_Text_goes_with => k_is)
    (case a_check_function => k_is)
    (case l_check_function => k_is)
    (case c_check_function => k_is)
    (case k_check_function => k_is)
    (case a_names_of => k_is)
    (case l_names_of => k_is)
    (case c_names_of => k_is)
    (case k_names_of => k_is)
    (case a_law_draw => k_is)
    (case l_law_draw => k_is)
    (case c_law_draw => k_is)
    (case k_law_draw => k_is)
    (case a_law_some => k_is)
    (case l_law_some => k_is)
    (case c_law_some => k_is)
    (case k_law_some => k_is)
    (case a_law_is => k_is)
    (case l_law_is => k_is)
    (case c_law_is => k_is)
    (case k_law_is => k_is)
    (case a_law_mixed => k_is)
    (case l_law_mixed => k_is)
    (case c_law_mixed => k_is)
    (case k_law_mixed => k_is)
    (case a_law_deep => k_is)
    (case l_law_deep => k_is)
    (case c_law_deep => k_is)
    (case k_law_deep => k_is)
    (case a_law_hand => k_is)
    (case l_law_hand => k_is)
    (case c_law_hand => k_is)
    (case k_law_hand => k_is)
    (case a_law_whole => k_is)
    (case l_law_whole => k_is)
    (case c_law_whole => k_is)
    (case k_law_whole => k_is)
    (case a_law_expression => k_is)
    (case l_law_expression => k_is)
    (case c_law_expression => k_is)
    (case k_law_expression => k_is)
    (case a_law_statement => k_is)
    (case l_law_statement => k_is)
    (case c_law_statement => k_is)
    (case k_law_statement => k_is)
    (case a_law_block => k_is)
    (case l_law_block => k_is)
    (case c_law_block => k_is)
    (case k_law_block => k_is)
    (case a_law_names => k_is)
    (case l_law_names => k_is)
    (case c_law_names => k_is)
    (case k_law_names => k_is)
    (case a_law_parts => k_is)
    (case l_law_parts => k_is)
    (case c_law_parts => k_is)
    (case k_law_parts => k_is)
    (case a_law_statements => k_is)
    (case l_law_statements => k_is)
    (case c_law_statements => k_is)
    (case k_law_statements => k_is)
    (case a_law_expressions => k_is)
    (case l_law_expressions => k_is)
    (case c_law_expressions => k_is)
    (case k_law_expressions => k_is)
    (case a_law_named_in => k_is)
    (case l_law_named_in => k_is)
    (case c_law_named_in => k_is)
    (case k_law_named_in => k_is)
    (case a_law_all_names => k_is)
    (case l_law_all_names => k_is)
    (case c_law_all_names => k_is)
    (case k_law_all_names => k_is)
    (case a_law_word => k_is)
    (case l_law_word => k_is)
    (case c_law_word => k_is)
    (case k_law_word => k_is)
    (case a_law_is_alone_right => k_is)
    (case l_law_is_alone_right => k_is)
    (case c_law_is_alone_right => k_is)
    (case k_law_is_alone_right => k_is)
    (case a_law => k_is)
    (case l_law => k_is)
    (case c_law => k_is)
    (case k_law => k_is)
    (case no_Flow_params => k_is)
    (case no_Flow_names => k_is)
    (case no_Flow_first => k_is)
    (case no_Flow_rows => k_is)
    (case no_Text_tables => k_is)
    (case no_Text_functions => k_is)
    (case no_Text_flows => k_is)
    (case z_len => k_is)
    (case z_int => k_is)
    (case z_bool => k_is)
    (case z_str => k_is)
    (case z_tuple => k_is)
    (case z_list => k_is)
    (case z_isinstance => k_is)
    (case z_all => k_is)
    (case z_abs => k_is)
    (case z_sum => k_is)
    (case z_range => k_is)
    (case z_zip => k_is)
    (case z_set => k_is)
    (case z_sorted => k_is)
    (case z_enumerate => k_is)
    (case z_ValueError => k_is)
    (case g_LETTERS => k_is)
    (case g_MOST_WHOLE => k_is)
    (case g_OFF => k_is)
    (case g_LONGEST => k_is)
    (case g_MOST_DEEP => k_is)
    (case g_MOST_FIELDS => k_is)
    (case g_MOST_PARAMS => k_is)
    (case g_MOST_STATEMENTS => k_is)
    (case g_MOST_IFS => k_is)
    (case g_MOST_BLOCKS => k_is)
    (case g_MOST_NAMES => k_is)
    (case g_MOST_TABLES => k_is)
    (case g_MOST_FUNCTIONS => k_is)
    (case lo_NoFunction => k_is)
    (case rv_NoFunction => exact rfl)
    (case xsa_NoFunction => k_is)
    (case xbe_NoFunction => k_is)
    (case xty_NoFunction => k_is)
    (case xk_NoFunction => k_is)
    (case xga_NoFunction => k_is)
    (case xgt_NoFunction => k_is)
    (case xhd_NoFunction => k_is)
    (case xcl_NoFunction => k_is)
    (case xmr_NoFunction => k_is)
    (case xsp => k_is)
    (case xtk => k_is)
    (case xvV => k_is)
    (case lc_law => k_is)
    (case lv_law => exact rfl)
    (case lh_law => kernel_rfl)
    (case lo_law => kernel_rfl)
    (case lr_law => exact rfl)
    (case g_SIZES => k_is)
    (case q_SIZES => k_is)
    (case r_SIZES => exact ⟨⟨_, _, rfl, rfl⟩, ⟨_, _, rfl, rfl⟩, ⟨_, _, rfl, rfl⟩, ⟨_, _, rfl, rfl⟩, ⟨_, _, rfl, rfl⟩, ⟨_, _, rfl, rfl⟩, ⟨_, _, rfl, rfl⟩, ⟨_, _, rfl, rfl⟩, ⟨_, _, rfl, rfl⟩, ⟨_, _, rfl, rfl⟩, ⟨_, _, rfl, rfl⟩, trivial⟩)
    (case l_SIZES => decide)
    (case s_SIZES_let => exact ⟨_, by k_is⟩)
    (case s_SIZES_make => exact ⟨_, by k_is⟩)
    (case s_SIZES_get => exact ⟨_, by k_is⟩)
    (case s_SIZES_put => exact ⟨_, by k_is⟩)
    (case s_SIZES_read => exact ⟨_, by k_is⟩)
    (case s_SIZES_write => exact ⟨_, by k_is⟩)
    (case s_SIZES_call => exact ⟨_, by k_is⟩)
    (case s_SIZES_wait => exact ⟨_, by k_is⟩)
    (case s_SIZES_if => exact ⟨_, by k_is⟩)
    (case s_SIZES_while => exact ⟨_, by k_is⟩)
    (case s_SIZES_end => exact ⟨_, by k_is⟩)
    (case g_OPS => k_is)
    (case q_OPS => k_is)
    (case r_OPS => rfl)
    (case s_OPS => rfl)
    (case t_OPS => exact .cons ⟨_, rfl⟩ (.cons ⟨_, rfl⟩ (.cons ⟨_, rfl⟩ (.cons ⟨_, rfl⟩ (.cons ⟨_, rfl⟩ .nil)))))
    (case ei_NoFunction => k_is)
    (case ty_RunError___init__ => k_is)
    (case x_em => kernel_rfl)
    (case x_ki => kernel_rfl)
    (case x_kiv => kernel_rfl)


