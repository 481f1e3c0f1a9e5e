import PyProof.Rows.All
import Wide.All
import OpenK.AllK
import Wide.FinOn
import HandS.ForMost
import HandS.Exc
import HandS.ExcOwn
import HandS.WordsExc
import HandS.IsInst
import HandS.Zip
import HandS.Codes
import HandS.Walk
import KE.GoesZip
import KE.GoesMore
import HandS.DictComp
import HandS.DeepEq
import HandS.TupLen
import KE.KDictCopyH
import HandS.ExcInit
import HandS.ExcIs
import HandS.TryMany
import HandS.TryOnly
import HandS.Lambda
import HandS.EndTab
import HandS.EndOwn
import HandS.TupMul
import HandS.Style
import PySem.Challenge.RW_oneplainrun_k39_disks_and_stores_refuse
set_option Elab.async false
set_option linter.all false
set_option maxRecDepth 100000
set_option maxHeartbeats 4000000
/-! P1: bundles of a def, a method, a class; rules with K told; data of tuples; frames -/
namespace Hq
open PySem PySem.Spec PyProof.Rows L2

/-! ### what the module's names hold -/
def GlV (mg : Str → Option Value) (x : Str) (v : V) : Prop := ∃ u, mg x = some u ∧ RelV v u
theorem pe_gl {X : Cx} {x : Str} {v : V} {pos : Pos} (hg : Gl X x) (h : GlV X.mg x v) (hd : (x == ("__debug__" : Str)) = false := by decide) : PE X (.Name x pos) (tC v) := by
  obtain ⟨u, hm, r⟩ := h
  exact pe_glob hg hm r hd
theorem pe_ty (n : String) {X : Cx} {x : Str} {pos : Pos} (hg : Gl X x) (hm : X.mg x = none) (hv : bootBuiltins x = some (.type n)) (hn : x ≠ "__name__" := by decide) (hd : (x == ("__debug__" : Str)) = false := by decide) : PE X (.Name x pos) (tC (.ty n)) :=
  pe_bltn hg hm hv rfl hn hd

/-! ### a def, a method, a class, as callers see them -/
structure Dn (P : Program) (w : World) (K : PySem.W.Frag) (mg : Str → Option Value) (base : Heap) (x : Str) (k : Nat) (ps : List Str) (sp : Sp) : Prop where
  ok : ∃ f fd, FnOk P w K mg base (L2.CX P w) k f fd ps sp ∧ mg x = some (.ref f) ∧ PySem.W.keepIn K (.ref f) = true ∧ Binds K fd ps []
structure Mn (P : Program) (w : World) (K : PySem.W.Frag) (mg : Str → Option Value) (base : Heap) (C : Addr) (m : Str) (k : Nat) (ps : List Str) (sp : Sp) : Prop where
  cl : Cls K C
  ok : ∃ f fd, FnOk P w K mg base (L2.CX P w) k f fd ps sp ∧ Meth K C m f ∧ Binds K fd ps []
structure Cn (P : Program) (w : World) (K : PySem.W.Frag) (mg : Str → Option Value) (base : Heap) (x : Str) (C : Addr) (k : Nat) (ps : List Str) (sp : Sp) : Prop where
  mgC : mg x = some (.ref C)
  ok : ∃ f fd, FnOk P w K mg base (L2.CX P w) k f fd ps sp ∧ Mk K C f ∧ Binds K fd ps []
section
variable {P : Program} {w : World} {K : PySem.W.Frag} {mg : Str → Option Value} {base : Heap} {x : Str} {k j : Nat} {ps : List Str} {sp sp' : Sp} {C : Addr} {m : Str}
theorem Dn.imp (D : Dn P w K mg base x k ps sp) (h : ∀ vs H Q E, sp' vs H Q E → sp vs H Q E) : Dn P w K mg base x k ps sp' := by
  obtain ⟨f, fd, F, a, b, c⟩ := D.ok
  exact ⟨f, fd, F.imp h, a, b, c⟩
theorem Mn.imp (D : Mn P w K mg base C m k ps sp) (h : ∀ vs H Q E, sp' vs H Q E → sp vs H Q E) : Mn P w K mg base C m k ps sp' := by
  obtain ⟨f, fd, F, a, b⟩ := D.ok
  exact ⟨D.cl, f, fd, F.imp h, a, b⟩
theorem Dn.up (D : Dn P w K mg base x j ps sp) (h : j ≤ k) : Dn P w K mg base x k ps sp := by
  obtain ⟨f, fd, F, a, b, c⟩ := D.ok
  exact ⟨f, fd, F.mono h, a, b, c⟩
end
section
variable {X : Cx} {k : Nat} {ps : List Str} {sp : Sp} {C : Addr} {x m : Str} {p pos apos : Pos} {e o : Expr} {es : List Expr} {ta : TE} {t : TA}
theorem pe_d (D : Dn X.prog X.w X.K X.mg X.base x k ps sp) (E : XK) (hr : Room k X.A) (hg : Gl X x) (hx : Passes (L2.CX X.prog X.w) X E) (ha : PA X (e :: es) t) (hdb : (x == ("__debug__" : Str)) = false := by decide)
    (he : starEach (e :: es) X.env = (false, eval e X.env) :: starEach es X.env := by rfl) (hpl : (backTo pos (starEach es X.env)).any (·.1) = false := by rfl) :
    PE X (.Call (.Name x p) (e :: es) [] pos) (tCall sp [] E t) := by
  obtain ⟨f, fd, F, a, b, c⟩ := D.ok
  exact pe_call F hr hg a b c .nil hx ha hdb he hpl
theorem pe_d0 (D : Dn X.prog X.w X.K X.mg X.base x k ps sp) (E : XK) (hr : Room k X.A) (hg : Gl X x) (hx : Passes (L2.CX X.prog X.w) X E) (hdb : (x == ("__debug__" : Str)) = false := by decide) :
    PE X (.Call (.Name x p) [] [] pos) (tCall sp [] E tNil) := by
  obtain ⟨f, fd, F, a, b, c⟩ := D.ok
  exact pe_call0 F hr hg a b c .nil hx hdb
theorem pe_m (D : Mn X.prog X.w X.K X.mg X.base C m k ps sp) (E : XK) (hr : Room k X.A) (he : PE X o ta) (hx : Passes (L2.CX X.prog X.w) X E) (ha : PA X (e :: es) t) (pl : Sem Bool)
    (hst : starEach (e :: es) X.env = (false, eval e X.env) :: starEach es X.env := by rfl) (hpl : (backTo pos (starEach es X.env)).any (·.1) = false := by rfl)
    (ht : eval (.Call (.Attribute o m apos) (e :: es) [] pos) X.env = (do
      let v ← eval o X.env
      standAt apos.atName
      let (g, fs) ← holding [v] (getMethod v m pl)
      callWith pos g fs (backTo pos (starEach (e :: es) X.env)) (backToKw pos (keywordEach [] X.env))) := by rfl) :
    PE X (.Call (.Attribute o m apos) (e :: es) [] pos) (tMeth C m sp [] E ta t) := by
  obtain ⟨f, fd, F, a, b⟩ := D.ok
  exact pe_meth (pl := pl) he D.cl a F hr b .nil hx ha hst hpl ht
theorem pe_m0 (D : Mn X.prog X.w X.K X.mg X.base C m k ps sp) (E : XK) (hr : Room k X.A) (he : PE X o ta) (hx : Passes (L2.CX X.prog X.w) X E) (pl : Sem Bool)
    (ht : eval (.Call (.Attribute o m apos) [] [] pos) X.env = (do
      let v ← eval o X.env
      standAt apos.atName
      let (g, fs) ← holding [v] (getMethod v m pl)
      callWith pos g fs (backTo pos (starEach [] X.env)) (backToKw pos (keywordEach [] X.env))) := by rfl) :
    PE X (.Call (.Attribute o m apos) [] [] pos) (tMeth C m sp [] E ta tNil) := by
  obtain ⟨f, fd, F, a, b⟩ := D.ok
  exact pe_meth0 (pl := pl) he D.cl a F hr b .nil hx ht
theorem pe_c (D : Cn X.prog X.w X.K X.mg X.base x C k ps sp) (E : XK) (hr : Room (k + 1) X.A) (hg : Gl X x) (hx : Passes (L2.CX X.prog X.w) X E) (ha : PA X (e :: es) t) (hdb : (x == ("__debug__" : Str)) = false := by decide)
    (he : starEach (e :: es) X.env = (false, eval e X.env) :: starEach es X.env := by rfl) (hpl : (backTo pos (starEach es X.env)).any (·.1) = false := by rfl) :
    PE X (.Call (.Name x p) (e :: es) [] pos) (tMake C sp [] E t) := by
  obtain ⟨f, fd, F, M, b⟩ := D.ok
  exact pe_make M F hr hg D.mgC b .nil hx ha hdb he hpl
theorem pe_c0 (D : Cn X.prog X.w X.K X.mg X.base x C k ps sp) (E : XK) (hr : Room (k + 1) X.A) (hg : Gl X x) (hx : Passes (L2.CX X.prog X.w) X E) (hdb : (x == ("__debug__" : Str)) = false := by decide) :
    PE X (.Call (.Name x p) [] [] pos) (tMake C sp [] E tNil) := by
  obtain ⟨f, fd, F, M, b⟩ := D.ok
  exact pe_make0 M F hr hg D.mgC b .nil hx hdb
end
theorem dn_mk {P : Program} {w : World} {K : PySem.W.Frag} {mg : Str → Option Value} {base : Heap} {x q : Str} {st : Stmt} {f : Addr} {fd : FuncData} {k : Nat} {ps : List Str} {sp : Sp} (F : Fun K x q st f fd) (hm : mg x = some (.ref f)) (b : Binds K fd ps [])
    (ok : FnOk P w K mg base (L2.CX P w) k f fd ps sp) : Dn P w K mg base x k ps sp := ⟨⟨f, fd, ok, hm, F.kp, b⟩⟩
theorem mn_mk {P : Program} {w : World} {K : PySem.W.Frag} {mg : Str → Option Value} {base : Heap} {C : Addr} {x q : Str} {st : Stmt} {f : Addr} {fd : FuncData} {k : Nat} {ps : List Str} {sp : Sp} (c : Cls K C) (F : Fun K x q st f fd) (m : Meth K C x f) (b : Binds K fd ps [])
    (ok : FnOk P w K mg base (L2.CX P w) k f fd ps sp) : Mn P w K mg base C x k ps sp := ⟨c, f, fd, ok, m, b⟩
/-- what holds of all smaller ones -/
theorem fn_less {P : Program} {w : World} {K : PySem.W.Frag} {mg : Str → Option Value} {base : Heap} {f : Addr} {fd : FuncData} {k n : Nat} {ps : List Str} {sp : Nat → Sp} (h : ∀ m, m < n → FnOk P w K mg base (L2.CX P w) k f fd ps (sp m)) :
    FnOk P w K mg base (L2.CX P w) k f fd ps (fun vs H Q E => ∃ m, m < n ∧ sp m vs H Q E) :=
  ⟨fun vs H Q E ⟨m, hm, q⟩ => (h m hm).len vs H Q E q, fun A outer s H args us vs Q E hr he hb hv ⟨m, hm, q⟩ => (h m hm).run A outer s H args us vs Q E hr he hb hv q⟩
/-- a def that calls itself, by a size -/
theorem fn_rec {P : Program} {w : World} {K : PySem.W.Frag} {mg : Str → Option Value} {base : Heap} {x q : Str} {st : Stmt} {f : Addr} {fd : FuncData} {k : Nat} {ps : List Str} {sp : Nat → Sp} (F : Fun K x q st f fd) (hm : mg x = some (.ref f)) (b : Binds K fd ps [])
    (step : ∀ n, Dn P w K mg base x (k + n) ps (fun vs H Q E => ∃ m, m < n ∧ sp m vs H Q E) → FnOk P w K mg base (L2.CX P w) (k + n + 1) f fd ps (sp n)) : ∀ n, FnOk P w K mg base (L2.CX P w) (k + n + 1) f fd ps (sp n) := by
  intro n
  induction n using Nat.strongRecOn with
  | ind n ih => exact step n (dn_mk F hm b (fn_less fun m hm => (ih m hm).mono (by omega)))
/-- a def's body in which nothing is raised -/
theorem okN {P : Program} {w : World} {K : PySem.W.Frag} {mg : Str → Option Value} {base : Heap} {x qual : Str} {st : Stmt} {f : Addr} {fd : FuncData} {N ps : List Str} {k : Nat} {sp : Sp} (F : Fun K x qual st f fd) (S : FnScope N ps (defScope st))
    (len : ∀ vs H Q E, sp vs H Q E → vs.length = ps.length)
    (hb : ∀ (cdv : Value) (A : Around) (outer : List Env) (s : Shared) (H : Hp) (vs : List V) (Q : VK) (E : XK), Room k (A.deeper (envOfC qual (defScope st) s.heap.objs.size f cdv)) → sp vs H Q E →
      ∃ t σ, L2.start N vs = σ ∧ PSs (cxOf (L2.CX P w) P w K mg base N qual (defScope st) f cdv A outer s H E).nox (defBody st) t ∧ t { nx := fun _ H' => Q .non H', rt := Q } σ H) : FnOk P w K mg base (L2.CX P w) (k + 1) f fd ps sp :=
  F.okX S len fun cdv A outer s H vs Q E hr hs => by
    obtain ⟨t, σ, e, h, q⟩ := hb cdv A outer s H vs Q E hr hs
    cases e
    exact ⟨t, h.nox, q⟩

/-! ### the layer's rules, the written part told by its own letter -/
section
variable {X : Cx} {K : PySem.W.Frag}
theorem kIxL (h : X.K = K := by rfl) : IxR X (rIxL K) := by cases h; exact ix_list
theorem kIxT (h : X.K = K := by rfl) : IxR X (rIxT K) := by cases h; exact ix_tup
theorem kSlL (h : X.K = K := by rfl) : SlR X (rSlL K) := by cases h; exact sl_list
theorem kSlT (h : X.K = K := by rfl) : SlR X (rSlT K) := by cases h; exact sl_tup
theorem kPiL {tg l : Expr} {tl : TE} (hl : PE X l tl) (h : X.K = K := by rfl) : PI X tg l (iList K tl) := by cases h; exact pi_list hl
theorem kPiT {tg l : Expr} {tl : TE} (hl : PE X l tl) (h : X.K = K := by rfl) : PI X tg l (iTup K tl) := by cases h; exact pi_tup hl
theorem kFld {e : Expr} {f : Str} {ta : TE} {pos : Pos} (he : PE X e ta) (hb : attributeBase e f X.env (eval e X.env) = eval e X.env) (h : X.K = K := by rfl) : PE X (.Attribute e f pos) (tFld K ta f) := by
  cases h; exact pe_fld he hb
theorem kSFld {o value : Expr} {f : Str} {ta tv : TE} {pos pos' : Pos} (ha : PE X o ta) (hv : PE X value tv) (hs : swapsWith value (some (.Attribute o f pos')) pos.line X.env = pure false) (h : X.K = K := by rfl) :
    PS X (.Assign [.Attribute o f pos'] value pos) (sFld K ta tv f) := by cases h; exact ps_fld ha hv hs
def rLen (K : PySem.W.Frag) : List V → Hp → VK → Prop := fun xs H Q => ∃ p ys, xs = [.ref p] ∧ (SqL K H p ys ∨ SqT K H p ys) ∧ Q (.int ys.length) H
theorem kLen (h : X.K = K := by rfl) : CallR X (.builtin "len") (rLen K) := by cases h; exact call_len_seq
def rListOf (K : PySem.W.Frag) : List V → Hp → VK → Prop := fun xs H Q => ∃ p ys, xs = [.ref p] ∧ (SqL K H p ys ∨ SqT K H p ys) ∧ ∀ l, H l = none → Q (.ref l) (upd H l (.lst ys))
theorem kListOf (h : X.K = K := by rfl) : CallR X (.type "list") (rListOf K) := by cases h; exact call_list_of
def rTupOf (K : PySem.W.Frag) : List V → Hp → VK → Prop := fun xs H Q => ∃ p ys, xs = [.ref p] ∧ ((SqL K H p ys ∧ ∀ l, H l = none → Q (.ref l) (upd H l (.tup ys))) ∨ (SqT K H p ys ∧ Q (.ref p) H))
theorem kTupOf (h : X.K = K := by rfl) : CallR X (.type "tuple") (rTupOf K) := by cases h; exact call_tuple_of
theorem kSum (hc : X.calm = true := by rfl) (h : X.K = K := by rfl) : CallR X (.builtin "sum") (rSum K) := by cases h; exact cr_sum hc
theorem kAll (hc : X.calm = true := by rfl) (h : X.K = K := by rfl) : CallR X (.builtin "all") (rAll K) := by cases h; exact cr_all hc
theorem kAny (hc : X.calm = true := by rfl) (h : X.K = K := by rfl) : CallR X (.builtin "any") (rAny K) := by cases h; exact cr_any hc
theorem kEqD (hu : X.A.units + 64 < cLine) (h : X.K = K := by rfl) : OpR X (compareOp .Eq) (rEqD K) := by cases h; exact op_eqD hu
theorem kNeD (hu : X.A.units + 64 < cLine) (h : X.K = K := by rfl) : OpR X (compareOp .NotEq) (rNeD K) := by cases h; exact op_neD hu
theorem kIn (h : X.K = K := by rfl) : OpR X (compareOp .In) (rIn K false) := by cases h; exact op_in_seq
theorem kNotIn (h : X.K = K := by rfl) : OpR X (compareOp .NotIn) (rIn K true) := by cases h; exact op_notIn_seq
theorem kTupT {es : List Expr} {k : Nat} {t : TGs} {n : Nat} {pos : Pos} (hp : PGs X es t) (hc : X.calm = true := by rfl) (h : X.K = K := by rfl) (hn : (assignEach es X.env).length = n := by rfl) (hst : (assignEach es X.env).findIdx? (·.1) = none := by rfl) :
    PG X (.Tuple es k pos) (gTup K n t) := by cases h; exact pg_tup hc hp hn hst
theorem kCatT (h : X.K = K := by rfl) : OpR X (binaryOp .Add) (rCatT K) := by cases h; exact op_catT
theorem kIsi (h : X.K = K := by rfl) : CallR X (.builtin "isinstance") (rIsi K) := by cases h; exact call_isi
theorem kIsiT (h : X.K = K := by rfl) : CallR X (.builtin "isinstance") (rIsiT K) := by cases h; exact call_isiT
def tApp (K : PySem.W.Frag) (to te : TE) : TE := tBM K "list" rAppend to (tCons te tNil)
theorem kApp {o e : Expr} {to te : TE} {apos cpos : Pos} (ho : PE X o to) (ha : PE X e te) (hbase : attributeBase o "append" X.env (eval o X.env) = eval o X.env := by rfl)
    (hfew : ((backTo cpos (starEach [e] X.env)).all (fun x => !x.1) && (backToKw cpos (keywordEach [] X.env)).all (fun x => x.1.isSome)
      && decide (([e] : List Expr).length + ([] : List Keyword).length + (if ([] : List Keyword).isEmpty then 0 else 1) < 30)) = true := by rfl)
    (hline : (apos.endLine == cpos.line) = true := by rfl) (hs : starEach [e] X.env = (false, eval e X.env) :: starEach [] X.env := by rfl)
    (h : X.K = K := by rfl) : PE X (.Call (.Attribute o "append" apos) [e] [] cpos) (tApp K to te) := by
  cases h
  exact pe_bm PySem.F.plainAttrs_list PySem.F.slot_list_append PySem.F.type_list_append mt_append ho (pa_cons ha pa_nil hs) hbase hfew hline hs rfl
end

section
variable {X : Cx} {K : PySem.W.Frag}
theorem kBm {T id : String} {o e : Expr} {es : List Expr} {to : TE} {t : TA} {name : Str} {apos cpos : Pos} {r : V → List V → Hp → VK → Prop} (pa : PlainAttrs T) (slot : Slot T name id) (hty : typeOf (.builtin id) = pure (.type "method_descriptor")) (hm : MtR X id r) (ho : PE X o to) (ha : PA X (e :: es) t)
    (hbase : attributeBase o name X.env (eval o X.env) = eval o X.env := by rfl)
    (hfew : ((backTo cpos (starEach (e :: es) X.env)).all (fun x => !x.1) && (backToKw cpos (keywordEach [] X.env)).all (fun x => x.1.isSome)
      && decide ((e :: es : List Expr).length + ([] : List Keyword).length + (if ([] : List Keyword).isEmpty then 0 else 1) < 30)) = true := by rfl)
    (hline : (apos.endLine == cpos.line) = true := by rfl) (hs : starEach (e :: es) X.env = (false, eval e X.env) :: starEach es X.env := by rfl) (hplain : (backTo cpos (starEach es X.env)).any (·.1) = false := by rfl)
    (h : X.K = K := by rfl) : PE X (.Call (.Attribute o name apos) (e :: es) [] cpos) (tBM K T r to t) := by
  cases h
  exact pe_bm pa slot hty hm ho ha hbase hfew hline hs hplain
end
/-! ### data made of tuples: it stands for good -/
mutual
inductive TD (H : Hp) : V → PyData → Prop
  | non : TD H .non .none
  | bl (b : Bool) : TD H (.bl b) (.bool b)
  | int (i : Int) : TD H (.int i) (.int i)
  | str (x : Str) : TD H (.str x) (.str x)
  | tup {a : Addr} {xs : List V} {ds : List PyData} : H a = some (.tup xs) → TDs H xs ds → TD H (.ref a) (.tuple ds)
inductive TDs (H : Hp) : List V → List PyData → Prop
  | nil : TDs H [] []
  | cons {v : V} {vs : List V} {d : PyData} {ds : List PyData} : TD H v d → TDs H vs ds → TDs H (v :: vs) (d :: ds)
end
/-- tuples stay -/
def Tp (H H' : Hp) : Prop := ∀ a xs, H a = some (.tup xs) → H' a = some (.tup xs)
theorem Tp.refl (H : Hp) : Tp H H := fun _ _ h => h
theorem Tp.trans {H H1 H2 : Hp} (a : Tp H H1) (b : Tp H1 H2) : Tp H H2 := fun c o h => b c o (a c o h)
mutual
theorem TD.mono {H H' : Hp} (t : Tp H H') : ∀ (d : PyData) (v : V), TD H v d → TD H' v d
  | .none, _, h => by cases h; exact .non
  | .bool _, _, h => by cases h; exact .bl _
  | .int _, _, h => by cases h; exact .int _
  | .str _, _, h => by cases h; exact .str _
  | .tuple ds, _, h => by
    cases h with
    | tup e q => exact .tup (t _ _ e) (TDs.mono t ds _ q)
  | .list _, _, h => by cases h
  | .dict _, _, h => by cases h
theorem TDs.mono {H H' : Hp} (t : Tp H H') : ∀ (ds : List PyData) (vs : List V), TDs H vs ds → TDs H' vs ds
  | [], _, h => by cases h; exact .nil
  | d :: ds, _, h => by
    cases h with
    | cons h1 h2 => exact .cons (TD.mono t d _ h1) (TDs.mono t ds _ h2)
end
mutual
theorem TD.dp {K : PySem.W.Frag} {H : Hp} : ∀ (d : PyData) (v : V), TD H v d → Dp K H v d
  | .none, _, h => by cases h; exact .non
  | .bool _, _, h => by cases h; exact .bl _
  | .int _, _, h => by cases h; exact .int _
  | .str _, _, h => by cases h; exact .str _
  | .tuple ds, _, h => by
    cases h with
    | tup e q => exact .tup (SqT.of e) (TDs.dp ds _ q)
  | .list _, _, h => by cases h
  | .dict _, _, h => by cases h
theorem TDs.dp {K : PySem.W.Frag} {H : Hp} : ∀ (ds : List PyData) (vs : List V), TDs H vs ds → DpAll K H vs ds
  | [], _, h => by cases h; exact .nil
  | d :: ds, _, h => by
    cases h with
    | cons h1 h2 => exact .cons (TD.dp d _ h1) (TDs.dp ds _ h2)
end
section
variable {H H' : Hp} {vs us : List V} {ds es : List PyData} {v : V} {d : PyData} {i : Nat}
theorem TDs.length (h : TDs H vs ds) : vs.length = ds.length := by
  induction ds generalizing vs with
  | nil => cases h; rfl
  | cons d ds ih =>
    cases h with
    | cons h1 h2 => simp only [List.length_cons, ih h2]
theorem TDs.app (h : TDs H vs ds) (g : TDs H us es) : TDs H (vs ++ us) (ds ++ es) := by
  induction ds generalizing vs with
  | nil => cases h; exact g
  | cons d ds ih =>
    cases h with
    | cons h1 h2 => exact .cons h1 (ih h2)
theorem TDs.snoc (h : TDs H vs ds) (g : TD H v d) : TDs H (vs ++ [v]) (ds ++ [d]) := h.app (.cons g .nil)
theorem TDs.at_ (h : TDs H vs ds) (e : vs[i]? = some v) : ∃ d, ds[i]? = some d ∧ TD H v d := by
  induction ds generalizing vs i with
  | nil => cases h; cases e
  | cons d ds ih =>
    cases h with
    | cons h1 h2 =>
      cases i with
      | zero => cases e; exact ⟨d, rfl, h1⟩
      | succ i =>
        obtain ⟨d, a, b⟩ := ih h2 (by simpa using e)
        exact ⟨d, a, b⟩
theorem TDs.to_ (h : TDs H vs ds) (e : ds[i]? = some d) : ∃ v, vs[i]? = some v ∧ TD H v d := by
  induction ds generalizing vs i with
  | nil => cases e
  | cons d' ds ih =>
    cases h with
    | cons h1 h2 =>
      cases i with
      | zero => cases e; exact ⟨_, rfl, h1⟩
      | succ i =>
        obtain ⟨v, a, b⟩ := ih h2 e
        exact ⟨v, a, b⟩
theorem TDs.take (n : Nat) (h : TDs H vs ds) : TDs H (vs.take n) (ds.take n) := by
  induction ds generalizing vs n with
  | nil => cases h; rw [List.take_nil, List.take_nil]; exact .nil
  | cons d ds ih =>
    cases h with
    | cons h1 h2 =>
      cases n with
      | zero => exact .nil
      | succ n => exact .cons h1 (ih n h2)
theorem TDs.drop (n : Nat) (h : TDs H vs ds) : TDs H (vs.drop n) (ds.drop n) := by
  induction ds generalizing vs n with
  | nil => cases h; rw [List.drop_nil, List.drop_nil]; exact .nil
  | cons d ds ih =>
    cases h with
    | cons h1 h2 =>
      cases n with
      | zero => exact .cons h1 h2
      | succ n => exact ih n h2
end

theorem fresh_ne {H : Hp} {p D : Addr} {o : HO} (h : upd H p o D = none) : D ≠ p := fun z => by
  rw [z, upd_same] at h
  cases h
theorem upd_old {H : Hp} {p b : Addr} {o o' : HO} (hp : H p = none) (hb : H b = some o) : upd H p o' b = some o := by
  rw [upd_ne (ne_of_none hb hp)]
  exact hb
theorem fresh_of {H : Hp} {p D : Addr} {o : HO} (h : upd H p o D = none) : H D = none := by
  rw [upd_ne (fresh_ne h)] at h
  exact h
/-! ### frames -/
/-- all but ms is as it was, tuples are there -/
structure Fr (ms : List Addr) (H H' : Hp) : Prop where
  keep : ∀ b o, b ∉ ms → H b = some o → H' b = some o
  tup : Tp H H'
section
variable {ms ns : List Addr} {H H1 H2 : Hp} {p : Addr} {o o' : HO}
theorem Fr.refl (H : Hp) : Fr ms H H := ⟨fun _ _ _ h => h, Tp.refl H⟩
theorem Fr.trans (a : Fr ms H H1) (b : Fr ms H1 H2) : Fr ms H H2 := ⟨fun c o n h => b.keep c o n (a.keep c o n h), a.tup.trans b.tup⟩
theorem Fr.mono (a : Fr ms H H1) (h : ∀ b, b ∈ ms → b ∈ ns) : Fr ns H H1 := ⟨fun c o n e => a.keep c o (fun z => n (h c z)) e, a.tup⟩
theorem Fr.same (a : Fr [] H H1) : Same H H1 := fun b o e => a.keep b o (List.not_mem_nil) e
theorem Fr.ofSame (s : Same H H1) : Fr ms H H1 := ⟨fun b o _ e => s b o e, fun a xs e => s a _ e⟩
theorem Fr.new (a : Fr ms H H1) (h : H1 p = none) : Fr ms H (upd H1 p o) := by
  refine ⟨fun b u n e => ?_, fun b xs e => ?_⟩
  · have q := a.keep b u n e
    rw [upd_ne (ne_of_none q h)]
    exact q
  · have q := a.tup b xs e
    rw [upd_ne (ne_of_none q h)]
    exact q
theorem Fr.up (h : H p = none) : Fr ms H (upd H p o) := (Fr.refl H).new h
/-- a list, an instance .. is written: it is one of ms, or new -/
theorem Fr.wr (a : Fr ms H H1) (h : H1 p = some o) (m : Mut (some o)) (hp : p ∈ ms ∨ H p = none) : Fr ms H (upd H1 p o') := by
  refine ⟨fun b u n e => ?_, fun b xs e => ?_⟩
  · have ne : b ≠ p := fun z => by
      rcases hp with q | q
      · exact n (z ▸ q)
      · rw [z, q] at e; cases e
    rw [upd_ne ne]
    exact a.keep b u n e
  · have q := a.tup b xs e
    have ne : b ≠ p := fun z => by
      rw [z, h] at q
      cases q
      exact m
    rw [upd_ne ne]
    exact q
theorem Fr.wl {xs : List V} (a : Fr ms H H1) (h : H1 p = some (.lst xs)) (hp : p ∈ ms ∨ H p = none) : Fr ms H (upd H1 p o') := a.wr h trivial hp
theorem Fr.wi {C dx : Addr} {fs : List (Str × V)} (a : Fr ms H H1) (h : H1 p = some (.ins C dx fs)) (hp : p ∈ ms ∨ H p = none) : Fr ms H (upd H1 p o') := a.wr h trivial hp
/-- what was not there ahead may be of ms -/
theorem Fr.cut (a : Fr (ms ++ ns) H H1) (h : ∀ b, b ∈ ns → H b = none) : Fr ms H H1 := by
  refine ⟨fun c o n e => a.keep c o (fun z => ?_) e, a.tup⟩
  rcases List.mem_append.mp z with q | q
  · exact n q
  · rw [h c q] at e
    cases e
theorem Fr.free (a : Fr [] H H1) (h : H1 p = none) : H p = none := a.same.free h
theorem Fr.back (a : Fr ms H H1) (n : p ∉ ms) (h : H1 p = none) : H p = none := by
  cases q : H p with
  | none => rfl
  | some o =>
    rw [a.keep p o n q] at h
    cases h
end
end Hq

/-! P2: readings step by step -/
namespace Hq
open PySem PySem.Spec PyProof.Rows L2
section
variable {σ : L2.St} {H : Hp} {Q : VK} {QT : Bool → Hp → Prop} {QA : List V → Hp → Prop} {D : Ends} {te ta tb tc : TE} {t u : TT} {ts us : TS} {tA tr : TA} {v x y : V} {i : Nat} {n j : Int} {K : PySem.W.Frag} {r r' : R2} {a p C dx : Addr} {fs : List (Str × V)} {f m : Str} {xs ys : List V} {sp : Sp} {E : XK}
theorem st_var (h : σ[i]? = some (some v)) (q : Q v H) : tVar i σ H Q := ⟨v, h, q⟩
theorem st_c (q : Q v H) : tC v σ H Q := q
theorem st_op (q : ta σ H fun x H1 => tb σ H1 fun y H2 => r x y H2 Q) : tOp r ta tb σ H Q := q
theorem st_un {r : V → Hp → VK → Prop} (q : ta σ H fun x H1 => r x H1 Q) : tUn r ta σ H Q := q
theorem st_I {c : Int → Int → Prop} {g : Int → Int → V} (h : c n j) (q : Q (g n j) H) : rI c g (.int n) (.int j) H Q := ⟨n, j, rfl, rfl, h, q⟩
theorem st_I0 {g : Int → Int → V} (q : Q (g n j) H) : rI0 g (.int n) (.int j) H Q := ⟨n, j, rfl, rfl, q⟩
theorem st_U {g : Int → V} (q : Q (g n) H) : rU g (.int n) H Q := ⟨n, rfl, q⟩
theorem st_eq (h : scal x y = true) (q : Q (.bl (decide (x = y))) H) : rEq x y H Q := ⟨h, q⟩
theorem st_ne (h : scal x y = true) (q : Q (.bl (!decide (x = y))) H) : rNe x y H Q := ⟨h, q⟩
theorem st_test (q : te σ H fun x H' => ∃ k, x = .bl k ∧ QT k H') : tTest te σ H QT := q
theorem st_B (q : te σ H fun x H' => ∃ k, x = .bl k ∧ QT k H') : tB te σ H QT := q
theorem st_bl {b : Bool} {R : Bool → Prop} (q : R b) : ∃ k, V.bl b = .bl k ∧ R k := ⟨b, rfl, q⟩
theorem st_isN (q : ta σ H fun x H1 => Q (.bl (decide (x = .non))) H1) : tIsN ta σ H Q := q
theorem st_notN (q : ta σ H fun x H1 => Q (.bl (!decide (x = .non))) H1) : tNotN ta σ H Q := q
theorem st_chain (q : ta σ H fun x H1 => tb σ H1 fun y H2 => r x y H2 fun z H3 => ∃ k, z = .bl k ∧ (if k = true then tc σ H3 fun w' H4 => r' y w' H4 Q else Q (.bl false) H3)) : tChain r r' ta tb tc σ H Q := q
theorem st_and (q : t σ H fun c H1 => if c = true then u σ H1 QT else QT false H1) : tAnd t u σ H QT := q
theorem st_or (q : t σ H fun c H1 => if c = true then QT true H1 else u σ H1 QT) : tOr t u σ H QT := q
theorem st_not (q : t σ H fun c H1 => QT (!c) H1) : tNot t σ H QT := q
theorem st_andV (q : ta σ H fun x H1 => ∃ c, x = .bl c ∧ if c = true then tb σ H1 Q else Q (.bl false) H1) : tAndV ta tb σ H Q := q
theorem st_orV (q : ta σ H fun x H1 => ∃ c, x = .bl c ∧ if c = true then Q (.bl true) H1 else tb σ H1 Q) : tOrV ta tb σ H Q := q
theorem st_notV (q : ta σ H fun x H1 => ∃ c, x = .bl c ∧ Q (.bl (!c)) H1) : tNotV ta σ H Q := q
theorem st_if (q : t σ H fun c H1 => if c = true then ta σ H1 Q else tb σ H1 Q) : tIf t ta tb σ H Q := q
theorem st_CB {r : List V → Hp → VK → Prop} (q : tA σ H fun vs H1 => r vs H1 Q) : tCB r tA σ H Q := q
theorem st_cons (q : te σ H fun x H1 => tr σ H1 fun xs H2 => QA (x :: xs) H2) : tCons te tr σ H QA := q
theorem st_nil (q : QA [] H) : tNil σ H QA := q
theorem st_tup (q : tA σ H fun xs H1 => xs.length ≤ sizeLine ∧ ∀ p, H1 p = none → Q (.ref p) (upd H1 p (.tup xs))) : tTup tA σ H Q := q
theorem st_lst (q : tA σ H fun xs H1 => xs.length ≤ sizeLine ∧ ∀ p, H1 p = none → Q (.ref p) (upd H1 p (.lst xs))) : tLst tA σ H Q := q
theorem st_fld (q : ta σ H fun x H1 => ∃ a C dx fs v, x = .ref a ∧ H1 a = some (.ins C dx fs) ∧ Cls K C ∧ NoAttr K C f ∧ fs.lookup f = some v ∧ Q v H1) : tFld K ta f σ H Q := q
theorem st_call (q : tA σ H fun vs H1 => sp (vs ++ []) H1 Q E) : tCall sp [] E tA σ H Q := q
theorem st_meth (q : ta σ H fun x H1 => ∃ a dx fs, x = .ref a ∧ H1 a = some (.ins C dx fs) ∧ fs.lookup m = none ∧ tA σ H1 fun vs H2 => sp (x :: (vs ++ [])) H2 Q E) : tMeth C m sp [] E ta tA σ H Q := q
theorem st_make (q : tA σ H fun vs H1 => ∀ x dx, H1 x = none → H1 dx = none → dx ≠ x → sp (.ref x :: (vs ++ [])) (upd (upd H1 dx (.own x)) x (.ins C dx [])) (fun v H2 => v = .non ∧ Q (.ref x) H2) E) : tMake C sp [] E tA σ H Q := q
theorem st_sl {r : V → Option Int → Option Int → Hp → VK → Prop} {tl th : TO} (q : te σ H fun x H1 => tl σ H1 fun l H2 => th σ H2 fun u H3 => r x l u H3 Q) : tSl r te tl th σ H Q := q
theorem st_noPart {QO : Option Int → Hp → Prop} (q : QO none H) : tNoPart σ H QO := q
theorem st_part {QO : Option Int → Hp → Prop} (q : te σ H fun x H1 => ∃ i, x = .int i ∧ QO (some i) H1) : tPart te σ H QO := q
theorem st_int {R : Int → Prop} (q : R n) : ∃ i, V.int n = .int i ∧ R i := ⟨n, rfl, q⟩
theorem st_ixL (h : SqL K H p xs) (e : atI xs n = some v) (q : Q v H) : rIxL K (.ref p) (.int n) H Q := ⟨p, xs, n, v, rfl, rfl, h, e, q⟩
theorem st_ixT (h : SqT K H p xs) (e : atI xs n = some v) (q : Q v H) : rIxT K (.ref p) (.int n) H Q := ⟨p, xs, n, v, rfl, rfl, h, e, q⟩
theorem st_bm {T : String} {r : V → List V → Hp → VK → Prop} (q : ta σ H fun x H1 => tyV K T x H1 ∧ tA σ H1 fun xs H2 => r x xs H2 Q) : tBM K T r ta tA σ H Q := q
theorem st_app (q : ta σ H fun x H1 => tyV K "list" x H1 ∧ te σ H1 fun y H2 => rAppend x [y] H2 Q) : tApp K ta te σ H Q := q
theorem ty_lst (h : H p = some (.lst xs)) : tyV K "list" (.ref p) H := .inl ⟨rfl, _, SqL.of h⟩
theorem st_append (h : H p = some (.lst xs)) (l : xs.length < sizeLine) (q : Q .non (upd H p (.lst (xs ++ [v])))) : rAppend (.ref p) [v] H Q := ⟨p, xs, v, rfl, rfl, h, l, q⟩
theorem st_len {n : Nat} (h : SqL K H p xs ∨ SqT K H p xs) (q : Q (.int xs.length) H) : rLen K [.ref p] H Q := ⟨p, xs, rfl, h, q⟩
theorem st_listOf (h : SqL K H p xs ∨ SqT K H p xs) (q : ∀ l, H l = none → Q (.ref l) (upd H l (.lst xs))) : rListOf K [.ref p] H Q := ⟨p, xs, rfl, h, q⟩
theorem st_tupOf (h : SqL K H p xs) (q : ∀ l, H l = none → Q (.ref l) (upd H l (.tup xs))) : rTupOf K [.ref p] H Q := ⟨p, xs, rfl, .inl ⟨h, q⟩⟩
def rIntI : List V → Hp → VK → Prop := fun xs H Q => ∃ i, xs = [.int i] ∧ Q (.int i) H
theorem st_intI (q : Q (.int n) H) : rIntI [.int n] H Q := ⟨n, rfl, q⟩
theorem kInt {X : Cx} : CallR X (.type "int") rIntI := by
  intro pins s σ H xs us Q I r h
  exact call_int1 pins s σ H xs us Q I r (.inl h)
def rAbs : List V → Hp → VK → Prop := fun xs H Q => ∃ i, xs = [.int i] ∧ Q (.int (if i < 0 then -i else i)) H
theorem st_abs (q : Q (.int (if n < 0 then -n else n)) H) : rAbs [.int n] H Q := ⟨n, rfl, q⟩
theorem kAbs {X : Cx} : CallR X (.builtin "abs") rAbs := call_abs
theorem iteNT {A B : Prop} (h : B) : if (!true) = true then A else B := by simpa using h
theorem iteNF {A B : Prop} (h : A) : if (!false) = true then A else B := by simpa using h
theorem iteD {p A B : Prop} [Decidable p] (h1 : p → A) (h2 : ¬ p → B) : if decide p = true then A else B := by
  by_cases h : p
  · rw [if_pos (decide_eq_true h)]
    exact h1 h
  · rw [if_neg (by simpa using h)]
    exact h2 h
theorem iteDN {p A B : Prop} [Decidable p] (h1 : p → A) (h2 : ¬ p → B) : if (!decide p) = true then B else A := by
  by_cases h : p
  · rw [if_neg (by simpa using h)]
    exact h1 h
  · rw [if_pos (by simpa using h)]
    exact h2 h
theorem iteB {b : Bool} {A B : Prop} (h1 : b = true → A) (h2 : b = false → B) : if b = true then A else B := by
  cases b with
  | true => rw [if_pos rfl]; exact h1 rfl
  | false => rw [if_neg Bool.false_ne_true]; exact h2 rfl
theorem at0 {x : V} {xs : List V} : atI (x :: xs) 0 = some x := by
  have h := atI_nat (xs := x :: xs) (j := 0) (v := x) rfl
  exact h
theorem at1 {x y : V} {xs : List V} : atI (x :: y :: xs) 1 = some y := by
  have h := atI_nat (xs := x :: y :: xs) (j := 1) (v := y) rfl
  exact h
theorem at2 {x0 x1 x2 : V} {xs : List V} : atI (x0 :: x1 :: x2 :: xs) 2 = some x2 := by
  have h := atI_nat (xs := x0 :: x1 :: x2 :: xs) (j := 2) (v := x2) rfl
  exact h
theorem at3 {x0 x1 x2 x3 : V} {xs : List V} : atI (x0 :: x1 :: x2 :: x3 :: xs) 3 = some x3 := by
  have h := atI_nat (xs := x0 :: x1 :: x2 :: x3 :: xs) (j := 3) (v := x3) rfl
  exact h
theorem at4 {x0 x1 x2 x3 x4 : V} {xs : List V} : atI (x0 :: x1 :: x2 :: x3 :: x4 :: xs) 4 = some x4 := by
  have h := atI_nat (xs := x0 :: x1 :: x2 :: x3 :: x4 :: xs) (j := 4) (v := x4) rfl
  exact h
theorem at5 {x0 x1 x2 x3 x4 x5 : V} {xs : List V} : atI (x0 :: x1 :: x2 :: x3 :: x4 :: x5 :: xs) 5 = some x5 := by
  have h := atI_nat (xs := x0 :: x1 :: x2 :: x3 :: x4 :: x5 :: xs) (j := 5) (v := x5) rfl
  exact h
theorem at6 {x0 x1 x2 x3 x4 x5 x6 : V} {xs : List V} : atI (x0 :: x1 :: x2 :: x3 :: x4 :: x5 :: x6 :: xs) 6 = some x6 := by
  have h := atI_nat (xs := x0 :: x1 :: x2 :: x3 :: x4 :: x5 :: x6 :: xs) (j := 6) (v := x6) rfl
  exact h
theorem at7 {x0 x1 x2 x3 x4 x5 x6 x7 : V} {xs : List V} : atI (x0 :: x1 :: x2 :: x3 :: x4 :: x5 :: x6 :: x7 :: xs) 7 = some x7 := by
  have h := atI_nat (xs := x0 :: x1 :: x2 :: x3 :: x4 :: x5 :: x6 :: x7 :: xs) (j := 7) (v := x7) rfl
  exact h
theorem at8 {x0 x1 x2 x3 x4 x5 x6 x7 x8 : V} {xs : List V} : atI (x0 :: x1 :: x2 :: x3 :: x4 :: x5 :: x6 :: x7 :: x8 :: xs) 8 = some x8 := by
  have h := atI_nat (xs := x0 :: x1 :: x2 :: x3 :: x4 :: x5 :: x6 :: x7 :: x8 :: xs) (j := 8) (v := x8) rfl
  exact h
theorem ixN_nat {n k : Nat} (h : k < n) : ixN n (k : Int) = some k := by
  unfold ixN
  rw [if_pos (by omega), if_pos (by omega)]
  rfl
theorem ix0 {n : Nat} : ixN (n + 1) 0 = some 0 := ixN_nat (k := 0) (by omega)
theorem seq0 {n : Nat} : PySem.seqIndex? 0 (n + 1) = some 0 := by
  unfold PySem.seqIndex?
  simp
theorem and_left {A B : Prop} (h : A) (q : B) : A ∧ B := ⟨h, q⟩
theorem st_popAt {k : Nat} (h : H p = some (.lst xs)) (hk : PySem.seqIndex? 0 xs.length = some k) (e : xs[k]? = some v) (q : Q v (upd H p (.lst (xs.eraseIdx k)))) : rPopAt (.ref p) [.int 0] H Q :=
  ⟨p, xs, 0, k, v, rfl, rfl, h, by decide, by decide, hk, e, q⟩
theorem at_in {xs : List V} {n : Int} (h0 : 0 ≤ n) (h1 : n < xs.length) : ∃ v, v ∈ xs ∧ atI xs n = some v := by
  obtain ⟨j, e⟩ : ∃ j : Nat, n = (j : Int) := ⟨n.toNat, by omega⟩
  have hj : j < xs.length := by omega
  subst e
  exact ⟨xs[j], List.getElem_mem hj, atI_nat (List.getElem?_eq_getElem hj)⟩
theorem st_popAtN {k : Nat} (hl : xs.length ≤ 1000000) (h : H p = some (.lst xs)) (e : xs[k]? = some v) (q : Q v (upd H p (.lst (xs.eraseIdx k)))) : rPopAt (.ref p) [.int k] H Q := by
  have hk := (List.getElem?_eq_some_iff.mp e).1
  refine ⟨p, xs, k, k, v, rfl, rfl, h, by omega, by omega, ?_, e, q⟩
  unfold PySem.seqIndex?
  have h1 : ¬ ((k : Int) < 0) := by omega
  have h2 : ¬ ((xs.length : Int) ≤ (k : Int)) := by omega
  simp [h1, h2]
  omega
theorem look_cons (f g : Str) (v : V) (fs : List (Str × V)) : List.lookup g ((f, v) :: fs) = if g = f then some v else List.lookup g fs := by
  rw [List.lookup_cons]
  by_cases h : g = f
  · rw [if_pos h, h]; simp
  · rw [if_neg h]
    have : (g == f) = false := by simpa using h
    rw [this]
theorem put_cons (f g : Str) (v w : V) (fs : List (Str × V)) : putF g w ((f, v) :: fs) = if f = g then (f, w) :: fs else (f, v) :: putF g w fs := rfl
theorem put_nil (g : Str) (w : V) : putF g w [] = [(g, w)] := rfl
theorem at_mod {xs : List V} (t : Int) (h : 0 < xs.length) : ∃ j : Nat, j < xs.length ∧ t % (xs.length : Int) = (j : Int) ∧ atI xs (t % (xs.length : Int)) = xs[j]? := by
  have h0 : 0 ≤ t % (xs.length : Int) := Int.emod_nonneg _ (by omega)
  have h1 : t % (xs.length : Int) < xs.length := Int.emod_lt_of_pos _ (by omega)
  obtain ⟨j, e⟩ : ∃ j : Nat, t % (xs.length : Int) = (j : Int) := ⟨(t % (xs.length : Int)).toNat, by omega⟩
  have hj : j < xs.length := by omega
  refine ⟨j, hj, e, ?_⟩
  rw [e, List.getElem?_eq_getElem hj]
  exact atI_nat (List.getElem?_eq_getElem hj)
theorem st_ins {R : Addr → Addr → Addr → List (Str × V) → Prop} (h : H a = some (.ins C dx fs)) (c : Cls K C) (n : NoAttr K C f) (l : fs.length < 1000) (q : R a C dx fs) :
    ∃ a' C' dx' fs', V.ref a = .ref a' ∧ H a' = some (.ins C' dx' fs') ∧ Cls K C' ∧ NoAttr K C' f ∧ fs'.length < 1000 ∧ R a' C' dx' fs' := ⟨a, C, dx, fs, rfl, h, c, n, l, q⟩
theorem st_att {R : V → Prop} (h : H a = some (.ins C dx fs)) (c : Cls K C) (n : NoAttr K C f) (l : fs.lookup f = some v) (q : R v) :
    ∃ a' C' dx' fs' v', V.ref a = .ref a' ∧ H a' = some (.ins C' dx' fs') ∧ Cls K C' ∧ NoAttr K C' f ∧ fs'.lookup f = some v' ∧ R v' := ⟨a, C, dx, fs, v, rfl, h, c, n, l, q⟩
theorem st_mt {R : Addr → Prop} (h : H a = some (.ins C dx fs)) (l : fs.lookup m = none) (q : R a) : ∃ a' dx' fs', V.ref a = .ref a' ∧ H a' = some (.ins C dx' fs') ∧ fs'.lookup m = none ∧ R a' := ⟨a, dx, fs, rfl, h, l, q⟩
theorem st_extend (h : H a = some (.lst xs)) (h2 : H p = some (.lst ys)) (l : xs.length + ys.length ≤ sizeLine) (q : Q .non (upd H a (.lst (xs ++ ys)))) : rExtend (.ref a) [.ref p] H Q := ⟨a, p, xs, ys, rfl, rfl, h, h2, l, q⟩
/-! isinstance against a built-in class -/
theorem st_isi {t n : String} {b : Bool} (h : TyX K H x (.type t)) (e : kitB t n = some b) (q : Q (.bl b) H) : rIsi K [x, .ty n] H Q := ⟨x, .ty n, _, _, b, rfl, .ty n, h, kit_ty e, q⟩
theorem kit_NoneType_bool : kitB "NoneType" "bool" = some false := by decide +kernel
theorem kit_NoneType_int : kitB "NoneType" "int" = some false := by decide +kernel
theorem kit_NoneType_str : kitB "NoneType" "str" = some false := by decide +kernel
theorem kit_NoneType_tuple : kitB "NoneType" "tuple" = some false := by decide +kernel
theorem kit_NoneType_list : kitB "NoneType" "list" = some false := by decide +kernel
theorem kit_NoneType_dict : kitB "NoneType" "dict" = some false := by decide +kernel
theorem kit_bool_bool : kitB "bool" "bool" = some true := by decide +kernel
theorem kit_bool_int : kitB "bool" "int" = some true := by decide +kernel
theorem kit_bool_str : kitB "bool" "str" = some false := by decide +kernel
theorem kit_bool_tuple : kitB "bool" "tuple" = some false := by decide +kernel
theorem kit_bool_list : kitB "bool" "list" = some false := by decide +kernel
theorem kit_bool_dict : kitB "bool" "dict" = some false := by decide +kernel
theorem kit_int_bool : kitB "int" "bool" = some false := by decide +kernel
theorem kit_int_int : kitB "int" "int" = some true := by decide +kernel
theorem kit_int_str : kitB "int" "str" = some false := by decide +kernel
theorem kit_int_tuple : kitB "int" "tuple" = some false := by decide +kernel
theorem kit_int_list : kitB "int" "list" = some false := by decide +kernel
theorem kit_int_dict : kitB "int" "dict" = some false := by decide +kernel
theorem kit_str_bool : kitB "str" "bool" = some false := by decide +kernel
theorem kit_str_int : kitB "str" "int" = some false := by decide +kernel
theorem kit_str_str : kitB "str" "str" = some true := by decide +kernel
theorem kit_str_tuple : kitB "str" "tuple" = some false := by decide +kernel
theorem kit_str_list : kitB "str" "list" = some false := by decide +kernel
theorem kit_str_dict : kitB "str" "dict" = some false := by decide +kernel
theorem kit_tuple_bool : kitB "tuple" "bool" = some false := by decide +kernel
theorem kit_tuple_int : kitB "tuple" "int" = some false := by decide +kernel
theorem kit_tuple_str : kitB "tuple" "str" = some false := by decide +kernel
theorem kit_tuple_tuple : kitB "tuple" "tuple" = some true := by decide +kernel
theorem kit_tuple_list : kitB "tuple" "list" = some false := by decide +kernel
theorem kit_tuple_dict : kitB "tuple" "dict" = some false := by decide +kernel
theorem kit_list_bool : kitB "list" "bool" = some false := by decide +kernel
theorem kit_list_int : kitB "list" "int" = some false := by decide +kernel
theorem kit_list_str : kitB "list" "str" = some false := by decide +kernel
theorem kit_list_tuple : kitB "list" "tuple" = some false := by decide +kernel
theorem kit_list_list : kitB "list" "list" = some true := by decide +kernel
theorem kit_list_dict : kitB "list" "dict" = some false := by decide +kernel
theorem kit_dict_bool : kitB "dict" "bool" = some false := by decide +kernel
theorem kit_dict_int : kitB "dict" "int" = some false := by decide +kernel
theorem kit_dict_str : kitB "dict" "str" = some false := by decide +kernel
theorem kit_dict_tuple : kitB "dict" "tuple" = some false := by decide +kernel
theorem kit_dict_list : kitB "dict" "list" = some false := by decide +kernel
theorem kit_dict_dict : kitB "dict" "dict" = some true := by decide +kernel
/-! statements -/
theorem st_seq (q : ts { D with nx := us D } σ H) : tSeq ts us D σ H := q
theorem st_next (q : D.nx σ H) : tNext D σ H := q
theorem st_drop (q : te σ H fun _ H1 => D.nx σ H1) : tDrop te D σ H := q
theorem st_ret (q : te σ H D.rt) : tRet te D σ H := q
theorem st_retN (q : D.rt .non H) : tRetN D σ H := q
theorem st_ifS {c : TT} (q : c σ H fun b H1 => if b = true then ts D σ H1 else us D σ H1) : tIfS c ts us D σ H := q
theorem st_asg {g : TG} (q : te σ H fun x H1 => g x σ H1 D.nx) : tAsg te g D σ H := q
theorem st_name {QG : L2.St → Hp → Prop} (q : QG (σ.set i (some v)) H) : gName i v σ H QG := q
theorem st_par {j : Nat} (q : tA σ H fun vs H1 => ∃ v w, vs = [v, w] ∧ D.nx ((σ.set i (some v)).set j (some w)) H1) : tPar i j tA D σ H := q
theorem st_gtup {QG : L2.St → Hp → Prop} {k : Nat} {g : TGs} (h : SqT K H a xs) (hl : xs.length = k) (q : g xs σ H QG) : gTup K k g (.ref a) σ H QG := ⟨a, xs, rfl, h, hl, q⟩
theorem st_gcons {QG : L2.St → Hp → Prop} {g : TG} {gs : TGs} (q : g v σ H fun σ' H' => gs xs σ' H' QG) : gCons g gs (v :: xs) σ H QG := ⟨v, xs, rfl, q⟩
theorem st_gnil {QG : L2.St → Hp → Prop} (q : QG σ H) : gNil [] σ H QG := ⟨rfl, q⟩
theorem st_gsub {QG : L2.St → Hp → Prop} {st : TSet} (q : ta σ H fun o H1 => tb σ H1 fun i H2 => st o i v H2 fun H3 => QG σ H3) : gSub ta tb st v σ H QG := q
theorem st_setL {QH : Hp → Prop} {k : Nat} (h : H p = some (.lst xs)) (e : ixN xs.length n = some k) (q : QH (upd H p (.lst (xs.set k v)))) : rSetL (.ref p) (.int n) v H QH := ⟨p, xs, n, k, rfl, rfl, h, e, q⟩
theorem st_sFld {tv : TE} (q : tv σ H fun y H1 => ta σ H1 fun x H2 => ∃ a C dx fs, x = .ref a ∧ H2 a = some (.ins C dx fs) ∧ Cls K C ∧ NoAttr K C f ∧ fs.length < 1000 ∧ D.nx σ (upd H2 a (.ins C dx (putF f y fs)))) : sFld K ta tv f D σ H := q
end
end Hq

/-! P3: zip of two sequences, each a list or a tuple -/
namespace Hq
open PySem PySem.Spec PyProof.Rows L2

/-- tuples: true, lists: false -/
def SqB (b : Bool) (K : PySem.W.Frag) (H : Hp) (a : Addr) (xs : List V) : Prop := match b with
  | true => SqT K H a xs
  | false => SqL K H a xs
def hIter (b : Bool) (h : Heap) (it l : Addr) (i : Nat) : Prop := match b with
  | true => h.IsTupleIter it l i
  | false => h.IsListIter it l i
def hSeq (b : Bool) (h : Heap) (l : Addr) (vs : Array Value) : Prop := match b with
  | true => h.IsTuple l vs
  | false => h.IsList l vs
def itName (b : Bool) : String := match b with
  | true => "tuple_iterator"
  | false => "list_iterator"
abbrev itObj (b : Bool) (l : Addr) : Obj := { cls := .type (itName b), data := .fields #[.ref l, .int 0 0] }
theorem hSeq.push {b : Bool} {h : Heap} {l : Addr} {vs : Array Value} (q : hSeq b h l vs) (o : Obj) : hSeq b (h.push o) l vs := by
  cases b with
  | true => exact Heap.IsTuple.push q o
  | false => exact Heap.IsList.push q o
theorem hSeq.lt {b : Bool} {h : Heap} {l : Addr} {vs : Array Value} (q : hSeq b h l vs) : l < h.objs.size := by
  cases b with
  | true =>
    obtain ⟨o, e, _⟩ := (show h.IsTuple l vs from q)
    exact Heap.lt_size e
  | false =>
    obtain ⟨o, _, e, _⟩ := (show h.IsList l vs from q)
    first | exact Heap.lt_size e | exact Heap.lt_size (by assumption)
theorem hIter.at {b : Bool} {h g : Heap} {it l : Addr} {i : Nat} (q : hIter b h it l i) (k : ∀ o, h.get? it = some o → g.get? it = some o) : hIter b g it l i := by
  cases b with
  | true => exact Heap.IsTupleIter.at q k
  | false => exact Heap.IsListIter.at q k
theorem hIter.obj {b : Bool} {h : Heap} {it l : Addr} {i : Nat} (q : hIter b h it l i) : ∃ o, h.get? it = some o ∧ ∀ v, o.data ≠ .cell v := by
  cases b with
  | true =>
    obtain ⟨o, e, _, d⟩ := (show h.IsTupleIter it l i from q)
    exact ⟨o, e, fun v z => by rw [d] at z; cases z⟩
  | false =>
    obtain ⟨o, e, _, d⟩ := (show h.IsListIter it l i from q)
    exact ⟨o, e, fun v z => by rw [d] at z; cases z⟩
theorem hIter.new (b : Bool) {h : Heap} {it l : Addr} (e : h.get? it = some (itObj b l)) : hIter b h it l 0 := by
  cases b with
  | true => exact ⟨_, e, rfl, rfl⟩
  | false => exact ⟨_, e, rfl, rfl⟩
theorem draws2 (b : Bool) {prog : Program} {w : World} {A : Around} (hh : A.handled = none) (it l : Addr) (ne : l ≠ it) (vs : Array Value) :
    Draws prog w A it [it, l] vs.size (fun i v => vs[i]? = some v) (fun i h => hIter b h it l i ∧ hSeq b h l vs) := by
  cases b with
  | true => exact Draws.tuple hh it l ne vs
  | false => exact Draws.list hh it l ne vs
section
variable {prog : Program} {w : World} {A : Around} {E : Value → Shared → Prop} {s : Shared}
theorem iter2 (b : Bool) {l : Addr} {vs : Array Value} {Q : Value → Shared → Prop} (q : hSeq b s.heap l vs) (h : Q (.ref s.heap.objs.size) { s with heap := s.heap.push (itObj b l) }) :
    wpAny (model prog w) A (pyIter (.ref l)) Q E s := by
  cases b with
  | true => exact wpAny_pyIter_tuple (show s.heap.IsTuple l vs from q) h
  | false => exact wpAny_pyIter_list (show s.heap.IsList l vs from q) h
end
section
variable (b c : Bool)
abbrev zg1 (h : Heap) (l m : Addr) : Heap := h.push (itObj b l)
abbrev zg2 (h : Heap) (l m : Addr) : Heap := (zg1 b h l m).push (itObj c m)
abbrev zg3 (h : Heap) (l m : Addr) : Heap := (zg2 b c h l m).push { cls := .type "tuple", data := .seq #[.ref h.objs.size, .ref (zg1 b h l m).objs.size] }
abbrev zg4 (h : Heap) (l m : Addr) : Heap := (zg3 b c h l m).push { cls := .type "tuple", data := .seq #[.none, .none] }
abbrev zg5 (h : Heap) (l m : Addr) : Heap := (zg4 b c h l m).push { cls := .type "zip", data := .fields #[.none, .bool false, .bool false, .ref (zg2 b c h l m).objs.size, .ref (zg3 b c h l m).objs.size] }
theorem zipNew (l m : Addr) (xs ys : Array Value) :
    Meets (Builtin.«zip.__new__» ⟨[.type "zip", .ref l, .ref m], []⟩) (fun _ R s => hSeq b s.heap l xs ∧ hSeq c s.heap m ys ∧
      R (.ok (.ret (.ref (zg4 b c s.heap l m).objs.size))) { s with heap := zg5 b c s.heap l m }) :=
  .of_wp fun prog w A R s h => by
    obtain ⟨hp, g, d, tk, os⟩ := s
    obtain ⟨q1, q2, h⟩ := h
    have sub := sub_zip
    have q1' : hSeq b (Shared.heap ⟨hp, g, d, tk, os⟩) l xs := q1
    have q2' : hSeq c (Shared.heap ⟨hp.push (itObj b l), g, d, tk, os⟩) m ys := hSeq.push q2 _
    wp_walk using iter2 b q1', iter2 c q2'
    exact ⟨_, rfl, h⟩
variable {prog : Program} {w : World} {A : Around} {E : Value → Shared → Prop} {s : Shared}
theorem zipCall {l m : Addr} {xs ys : Array Value} {Q : Value → Shared → Prop} (q1 : hSeq b s.heap l xs) (q2 : hSeq c s.heap m ys)
    (h : ∀ g, IsZip g (s.heap.objs.size + 4) (s.heap.objs.size + 2) (s.heap.objs.size + 3) .none → IsTupOf2 g (s.heap.objs.size + 2) (.ref s.heap.objs.size) (.ref (s.heap.objs.size + 1)) →
      IsTupOf2 g (s.heap.objs.size + 3) .none .none → hIter b g s.heap.objs.size l 0 → hIter c g (s.heap.objs.size + 1) m 0 →
      (∀ a o, s.heap.get? a = some o → g.get? a = some o) → Q (.ref (s.heap.objs.size + 4)) { s with heap := g }) :
    wpAny (model prog w) A (call (.type "zip") [.ref l, .ref m]) Q E s := by
  refine callType_new F.called_zip (by decide) (F.typeCall_zip_2 _ _) (F.newCall_zip_2 _ _) (fun obj => F.args_object_init_3 obj _ _) F.entry_zip_new (zipNew b c l m xs ys) ⟨q1, q2, ?_⟩
  have n1 : (zg1 b s.heap l m).objs.size = s.heap.objs.size + 1 := Heap.size_push ..
  have n2 : (zg2 b c s.heap l m).objs.size = s.heap.objs.size + 2 := by rw [Heap.size_push, n1]
  have n3 : (zg3 b c s.heap l m).objs.size = s.heap.objs.size + 3 := by rw [Heap.size_push, n2]
  have n4 : (zg4 b c s.heap l m).objs.size = s.heap.objs.size + 4 := by rw [Heap.size_push, n3]
  have up : ∀ a o, s.heap.get? a = some o → (zg5 b c s.heap l m).get? a = some o := fun a o e =>
    Heap.get?_push_of_some _ (Heap.get?_push_of_some _ (Heap.get?_push_of_some _ (Heap.get?_push_of_some _ (Heap.get?_push_of_some _ e))))
  have g5 : (zg5 b c s.heap l m).get? (zg4 b c s.heap l m).objs.size = some _ := Heap.get?_push_size _ rfl
  have g4 : (zg5 b c s.heap l m).get? (zg3 b c s.heap l m).objs.size = some _ := Heap.get?_push_of_some _ (Heap.get?_push_size _ rfl)
  have g3 : (zg5 b c s.heap l m).get? (zg2 b c s.heap l m).objs.size = some _ := Heap.get?_push_of_some _ (Heap.get?_push_of_some _ (Heap.get?_push_size _ rfl))
  have g2 : (zg5 b c s.heap l m).get? (zg1 b s.heap l m).objs.size = some (itObj c m) := Heap.get?_push_of_some _ (Heap.get?_push_of_some _ (Heap.get?_push_of_some _ (Heap.get?_push_size _ (by cases c <;> rfl))))
  have g1 : (zg5 b c s.heap l m).get? s.heap.objs.size = some (itObj b l) :=
    Heap.get?_push_of_some _ (Heap.get?_push_of_some _ (Heap.get?_push_of_some _ (Heap.get?_push_of_some _ (Heap.get?_push_size _ (by cases b <;> rfl)))))
  show _ ∧ _
  rw [n2, n3, n4] at g5
  rw [n1, n2] at g3
  rw [n3] at g4
  rw [n1] at g2
  rw [n4]
  exact ⟨⟨_, g5, rfl⟩, h _ g5 g3 g4 (hIter.new b g1) (hIter.new c g2) up⟩
end
section
variable {X : Cx} {pins : List (Addr × Obj)} {σ : L2.St} {H : Hp} {s : Shared}
theorem Inv_seq (I : Inv X pins σ H s) (b : Bool) {a : Addr} {xs : List V} (h : SqB b X.K H a xs) : ∃ its : List Value, Vals xs its ∧ hSeq b s.heap a its.toArray := by
  cases b with
  | true =>
    obtain ⟨its, r, p, _⟩ := I.tuple h
    exact ⟨its, r, p⟩
  | false =>
    obtain ⟨its, r, p, _⟩ := I.list h
    exact ⟨its, r, p.isList⟩
theorem Inv_seq_inj (I : Inv X pins σ H s) (b : Bool) {a : Addr} {xs ys : List V} (h : SqB b X.K H a xs) (g : SqB b X.K H a ys) : xs = ys := by
  cases b with
  | true => exact I.tuple_inj h g
  | false => exact I.list_inj h g
end
/-- the sequences at a and b as they stand at each turn, the items in new pairs -/
def ItZ (b c : Bool) (K : PySem.W.Frag) (l m : Addr) : It where
  go := fun i H => ∃ xs ys x y, SqB b K H l xs ∧ SqB c K H m ys ∧ xs[i]? = some x ∧ ys[i]? = some y
  yld := fun i H v H' => ∃ T x y, v = .ref T ∧ H T = none ∧ H' = upd H T (.tup [x, y]) ∧ (∀ xs, SqB b K H l xs → xs[i]? = some x) ∧ ∀ ys, SqB c K H m ys → ys[i]? = some y
  stop := fun i H => ∃ xs ys, SqB b K H l xs ∧ SqB c K H m ys ∧ i ≤ xs.length ∧ i ≤ ys.length ∧ (i = xs.length ∨ i = ys.length)
theorem turnZ {P : Program} {w : World} {K : PySem.W.Frag} {elts : List Expr} {kk : Nat} {tpos : Pos} (b c : Bool) {l m z TI TO i1 i2 : Addr} (a1 : TI ≠ z) (a2 : TO ≠ z) (a3 : TI ≠ TO) (a4 : TI ≠ i1) (a5 : TI ≠ i2) (a6 : z ≠ i1) (a7 : z ≠ i2) (a8 : TO ≠ i1) (a9 : TO ≠ i2) (a0 : i1 ≠ i2)
    (lz : l ≠ z) (lt : l ≠ TO) (l1 : l ≠ i1) (l2 : l ≠ i2) (mz : m ≠ z) (mt : m ≠ TO) (m1 : m ≠ i1) (m2 : m ≠ i2) :
    Turn P w K (.Tuple elts kk tpos) (ItZ b c K l m) [z, TI, TO, i1, i2] z (fun i h => IsZip h z TI TO .none ∧ IsTupOf2 h TI (.ref i1) (.ref i2) ∧ (∃ x y, IsTupOf2 h TO x y) ∧ hIter b h i1 l i ∧ hIter c h i2 m i) where
  mem := by simp
  obj := fun i h st d hd => by
    obtain ⟨hz, hI, ⟨x, y, hO⟩, h1, h2⟩ := st
    have hd' : d = z ∨ d = TI ∨ d = TO ∨ d = i1 ∨ d = i2 := by simpa using hd
    rcases hd' with rfl | rfl | rfl | rfl | rfl
    · exact ⟨_, hz, fun v q => nomatch q⟩
    · exact ⟨_, hI, fun v q => nomatch q⟩
    · exact ⟨_, hO, fun v q => nomatch q⟩
    · exact h1.obj
    · exact h2.obj
  keep := fun i h g st k => by
    obtain ⟨hz, hI, ⟨x, y, hO⟩, h1, h2⟩ := st
    exact ⟨k z (by simp) _ hz, k TI (by simp) _ hI, ⟨x, y, k TO (by simp) _ hO⟩, h1.at fun o q => k i1 (by simp) o q, h2.at fun o q => k i2 (by simp) o q⟩
  item := by
    intro X eP ew eK hc i pins s σ H E I hf st hg
    cases eP
    cases ew
    cases eK
    obtain ⟨hz, hI, ⟨x0, y0, hO⟩, h1, h2⟩ := st
    obtain ⟨xs, ys, x, y, qx, qy, hx, hy⟩ := hg
    obtain ⟨its, rv, p⟩ := Inv_seq I b qx
    obtain ⟨jts, rw2, p2⟩ := Inv_seq I c qy
    obtain ⟨u, hu, ru⟩ := rv.get hx
    obtain ⟨v, hv, rv'⟩ := rw2.get hy
    have zl : z < s.heap.objs.size := Heap.lt_size hz
    have hh : X.A.in1.handled = none := I.ok.hd hc
    have S : ZipSep2 z TI TO i1 i2 [i1, l] [i2, m] := ⟨a1, a2, a3, a4, by simp, by simp [a6, lz.symm], by simp [a8, lt.symm], a5, by simp, by simp [a7, mz.symm], by simp [a9, mt.symm], by simp [a0, m1.symm], by simp [a0.symm, l2.symm]⟩
    have b1 : i < its.toArray.size := by
      have := (List.getElem?_eq_some_iff.mp hu).1
      simpa using this
    have b2 : i < jts.toArray.size := by
      have := (List.getElem?_eq_some_iff.mp hv).1
      simpa using this
    refine wpAny_pyNext_zipD2_item S (draws2 b hh i1 l l1 its.toArray) (draws2 c hh i2 m m2 jts.toArray) hz hI hO ⟨h1, p⟩ ⟨h2, p2⟩ b1 b2 fun v1 v2 g tk e1 e2 gz gO s1 s2 gT gs gk => ?_
    have e1' : v1 = u := by
      have := e1.symm.trans (show its.toArray[i]? = some u by simpa using hu)
      simpa using this
    have e2' : v2 = v := by
      have := e2.symm.trans (show jts.toArray[i]? = some v by simpa using hv)
      simpa using this
    subst e1' e2'
    refine ⟨_, rfl, wpAny_letOwnedTupleGo_zip (s := { s with heap := g, toks := tk }) gz fun g2 gz2 sb => ?_⟩
    have gT2 : g2.get? s.heap.objs.size = some { cls := .type "tuple", data := .seq #[v1, v2] } := (sb.2 _ (Nat.ne_of_gt zl)).trans gT
    have new : ObjOk X.prog X.w (upd H s.heap.objs.size (.tup [x, y])) g2 s.heap.objs.size (.tup [x, y]) := ⟨by show 2 ≤ sizeLine; decide, [v1, v2], .cons ru (.cons rv' .nil), ⟨_, gT2, rfl, _, rfl⟩⟩
    have I1 : Inv X pins σ (upd H s.heap.objs.size (.tup [x, y])) { s with heap := g2, toks := tk } :=
      I.turnedNew (t' := tk) (ch := [z, TI, TO, i1, i2]) (fun d o hb q => (sb.2 d (fun q' => hb (by simp [q']))).trans (gk d o (fun q' => hb (by simp [q'])) (fun q' => hb (by simp [q'])) (fun q' => hb (by simp [q'])) (fun q' => hb (by simp [q'])) q)) hf (Nat.le_refl _) new
    refine ⟨.ref s.heap.objs.size, _, I1, rfl, ⟨_, x, y, rfl, I.hok.fresh (Nat.le_refl _), rfl, fun us hl => ?_, fun us hl => ?_⟩, ⟨gz2, ?_, ⟨v1, v2, ?_⟩, ?_, ?_⟩, fun d hd => ?_⟩
    · rw [Inv_seq_inj I b hl qx]; exact hx
    · rw [Inv_seq_inj I c hl qy]; exact hy
    · exact (sb.2 _ a1).trans (gk _ _ a1 a3 a4 a5 hI)
    · exact (sb.2 _ a2).trans gO
    · exact s1.1.at fun o q => (sb.2 _ a6.symm).trans q
    · exact s2.1.at fun o q => (sb.2 _ a7.symm).trans q
    · have lt : d < s.heap.objs.size := by
        have hd' : d = z ∨ d = TI ∨ d = TO ∨ d = i1 ∨ d = i2 := by simpa using hd
        rcases hd' with rfl | rfl | rfl | rfl | rfl
        · exact zl
        · exact Heap.lt_size hI
        · exact Heap.lt_size hO
        · obtain ⟨_, e, _⟩ := h1.obj
          exact Heap.lt_size e
        · obtain ⟨_, e, _⟩ := h2.obj
          exact Heap.lt_size e
      rw [upd_ne (Nat.ne_of_lt lt)]
      exact (hf d hd).1
  done := by
    intro X eP ew eK hc i pins s σ H E I hf st hg
    cases eP
    cases ew
    cases eK
    obtain ⟨hz, hI, ⟨x0, y0, hO⟩, h1, h2⟩ := st
    obtain ⟨xs, ys, qx, qy, le1, le2, hend⟩ := hg
    obtain ⟨its, rv, p⟩ := Inv_seq I b qx
    obtain ⟨jts, rw2, p2⟩ := Inv_seq I c qy
    have n1 := rv.length
    have n2 := rw2.length
    have hh : X.A.in1.handled = none := I.ok.hd hc
    have S : ZipSep2 z TI TO i1 i2 [i1, l] [i2, m] := ⟨a1, a2, a3, a4, by simp, by simp [a6, lz.symm], by simp [a8, lt.symm], a5, by simp, by simp [a7, mz.symm], by simp [a9, mt.symm], by simp [a0, m1.symm], by simp [a0.symm, l2.symm]⟩
    refine wpAny_pyNext_zipD2_end S (draws2 b hh i1 l l1 its.toArray) (draws2 c hh i2 m m2 jts.toArray) hz hI hO ⟨h1, p⟩ ⟨h2, p2⟩ (by simp; omega) (by simp; omega) (by simp; omega) fun g tk gk => ?_
    exact ⟨rfl, I.turnedL (t' := tk) (ch := [z, TI, TO, i1, i2]) (fun d o hb q => gk d o (fun q' => hb (by simp [q'])) (fun q' => hb (by simp [q'])) (fun q' => hb (by simp [q'])) (fun q' => hb (by simp [q'])) q) hf⟩
  self := fun A i s Q E st h => wpAny_pyIter_zip st.1 h
theorem apartN (n l m : Nat) (hl : l < n) (hm : m < n) : n + 2 ≠ n + 4 ∧ n + 3 ≠ n + 4 ∧ n + 2 ≠ n + 3 ∧ n + 2 ≠ n ∧ n + 2 ≠ n + 1 ∧ n + 4 ≠ n ∧ n + 4 ≠ n + 1 ∧ n + 3 ≠ n ∧ n + 3 ≠ n + 1 ∧ n ≠ n + 1 ∧
    l ≠ n + 4 ∧ l ≠ n + 3 ∧ l ≠ n ∧ l ≠ n + 1 ∧ m ≠ n + 4 ∧ m ≠ n + 3 ∧ m ≠ n ∧ m ≠ n + 1 := by omega
theorem geN (n d : Nat) (h : d = n + 4 ∨ d = n + 2 ∨ d = n + 3 ∨ d = n ∨ d = n + 1) : n ≤ d := by omega
def iZ (b c : Bool) (K : PySem.W.Frag) (ta : TA) : TI := fun σ H R => ta σ H fun vs H1 => ∃ l m xs ys, vs = [.ref l, .ref m] ∧ SqB b K H1 l xs ∧ SqB c K H1 m ys ∧ R (ItZ b c K l m) H1
theorem kZip (b c : Bool) {X : Cx} {K : PySem.W.Frag} {e e2 : Expr} {ta : TA} {p pos tpos : Pos} {elts : List Expr} {kk : Nat} (hg : Gl X "zip") (hm : X.mg "zip" = none) (ha : PA X [e, e2] ta) (hK : X.K = K := by rfl)
    (hs : starEach [e, e2] X.env = (false, eval e X.env) :: starEach [e2] X.env := by rfl) (hpl : (backTo pos (starEach [e2] X.env)).any (·.1) = false := by rfl) :
    PI X (.Tuple elts kk tpos) (.Call (.Name "zip" p) [e, e2] [] pos) (iZ b c K ta) := by
  cases hK
  refine ⟨fun pins s σ H R I h => ?_⟩
  refine Call_ (ld_blt I hg hm PyProof.Rows.boot_zip (PyProof.Rows.callWith_type1 (thn (ha.run pos pins s σ H _ I h) ?_) hs hpl))
  rintro us s1 ⟨vs, H1, I1, r1, l, m, xs, ys, rfl, qx, qy, q⟩
  obtain ⟨u1, u2, rfl, e1, e2⟩ := vals2 r1
  cases e1
  cases e2
  obtain ⟨its, rv, p1⟩ := Inv_seq I1 b qx
  obtain ⟨jts, rw2, p2⟩ := Inv_seq I1 c qy
  have ll := p1.lt
  have lm := p2.lt
  refine zipCall b c p1 p2 fun g gz gI gO g1 g2 gk => wpAny_pyIter_zip gz ?_
  have I2 : Inv X pins σ H1 { s1 with heap := g } := I1.kept (t' := s1.toks) gk
  obtain ⟨a1, a2, a3, a4, a5, a6, a7, a8, a9, a0, b1, b2, b3, b4, b5, b6, b7, b8⟩ := apartN s1.heap.objs.size l m ll lm
  refine ⟨s1.heap.objs.size + 4, [s1.heap.objs.size + 4, s1.heap.objs.size + 2, s1.heap.objs.size + 3, s1.heap.objs.size, s1.heap.objs.size + 1], _, _, H1, rfl, I2,
    turnZ b c a1 a2 a3 a4 a5 a6 a7 a8 a9 a0 b1 b2 b3 b4 b5 b6 b7 b8, ⟨gz, gI, ⟨_, _, gO⟩, g1, g2⟩, fun d hd => ?_, q⟩
  have le : s1.heap.objs.size ≤ d := geN _ _ (by simpa using hd)
  exact I1.fpOk le (I1.hok.fresh le)
theorem walkZ {b c : Bool} {K : PySem.W.Frag} {l m : Addr} {xs ys : List V} {n : Nat} (hn : n = min xs.length ys.length) : Walk (ItZ b c K l m) n (fun H => SqB b K H l xs ∧ SqB c K H m ys) (YPair (fun i => xs[i]?) (fun i => ys[i]?)) := by
  cases hn
  refine ⟨fun i H hi q => ?_, fun H q => ⟨xs, ys, q.1, q.2, by omega, by omega, by omega⟩, fun i H v H' hi q y => ?_⟩
  · have h1 : i < xs.length := by omega
    have h2 : i < ys.length := by omega
    exact ⟨xs, ys, xs[i], ys[i], q.1, q.2, by simp [h1], by simp [h2]⟩
  · obtain ⟨T, x, z, h1, h2, h3, h4, h5⟩ := y
    exact ⟨T, x, z, h1, h2, h3, h4 xs q.1, h5 ys q.2⟩
end Hq

/-! P4: what is walked; comprehensions and loops over a walk -/
namespace Hq
open PySem PySem.Spec PyProof.Rows L2
section
variable {σ : L2.St} {H : Hp} {K : PySem.W.Frag} {R : It → Hp → Prop} {tl te : TE} {ta : TA} {tt : TT} {g : TG} {wi : TI} {vs : List Nat} {Q : VK} {D : Ends} {tb : TS} {a l m : Addr} {xs ys : List V} {n i j : Int} {b c : Bool}
theorem st_iL (q : tl σ H fun x H1 => ∃ a, x = .ref a ∧ (∃ xs, SqL K H1 a xs) ∧ R (Itl K a) H1) : iList K tl σ H R := q
theorem st_iT (q : tl σ H fun x H1 => ∃ a, x = .ref a ∧ (∃ xs, SqT K H1 a xs) ∧ R (Itt K a) H1) : iTup K tl σ H R := q
theorem st_refL {R : Addr → Prop} (h : SqL K H a xs) (q : R a) : ∃ a', V.ref a = .ref a' ∧ (∃ xs, SqL K H a' xs) ∧ R a' := ⟨a, rfl, ⟨xs, h⟩, q⟩
theorem st_refT {R : Addr → Prop} (h : SqT K H a xs) (q : R a) : ∃ a', V.ref a = .ref a' ∧ (∃ xs, SqT K H a' xs) ∧ R a' := ⟨a, rfl, ⟨xs, h⟩, q⟩
theorem st_iR1 (q : ta σ H fun vs H1 => ∃ j : Int, vs = [.int j] ∧ -(2 ^ 62) ≤ j ∧ j < 2 ^ 62 ∧ R (Itr 0 j.toNat) H1) : iRng1 ta σ H R := q
theorem st_iR2 (q : ta σ H fun vs H1 => ∃ i j : Int, vs = [.int i, .int j] ∧ (-(2 ^ 62) ≤ i ∧ i < 2 ^ 62 ∧ -(2 ^ 62) ≤ j ∧ j < 2 ^ 62) ∧ R (Itr i (j - i).toNat) H1) : iRng2 ta σ H R := q
theorem st_rng1 {R : Int → Prop} (h : -1000000000 ≤ n ∧ n ≤ 1000000000) (q : R n) : ∃ j : Int, [V.int n] = [.int j] ∧ -(2 ^ 62) ≤ j ∧ j < 2 ^ 62 ∧ R j := ⟨n, rfl, by omega, by omega, q⟩
theorem st_rng2 {R : Int → Int → Prop} (h : (-1000000000 ≤ i ∧ i ≤ 1000000000) ∧ -1000000000 ≤ j ∧ j ≤ 1000000000) (q : R i j) : ∃ i' j' : Int, [V.int i, .int j] = [.int i', .int j'] ∧ (-(2 ^ 62) ≤ i' ∧ i' < 2 ^ 62 ∧ -(2 ^ 62) ≤ j' ∧ j' < 2 ^ 62) ∧ R i' j' :=
  ⟨i, j, rfl, ⟨by omega, by omega, by omega, by omega⟩, q⟩
theorem st_iZ (q : ta σ H fun vs H1 => ∃ l m xs ys, vs = [.ref l, .ref m] ∧ SqB b K H1 l xs ∧ SqB c K H1 m ys ∧ R (ItZ b c K l m) H1) : iZ b c K ta σ H R := q
theorem st_zip {R : Addr → Addr → Prop} (h : SqB b K H l xs) (h2 : SqB c K H m ys) (q : R l m) : ∃ l' m' xs ys, [V.ref l, .ref m] = [.ref l', .ref m'] ∧ SqB b K H l' xs ∧ SqB c K H m' ys ∧ R l' m' := ⟨l, m, xs, ys, rfl, h, h2, q⟩
theorem st_lc (q : wi σ H fun J H1 => ∀ D, H1 D = none → ∃ W : Nat → Nat → Hp → Prop, (∃ m, W 0 m (upd H1 D (.lst []))) ∧ ∀ i m H, W i m H →
  (J.stop i H ∧ Q (.ref D) H) ∨ (J.go i H ∧ ∃ Nx : Hp → Prop, (∀ H', Nx H' → ∃ m', m' < m ∧ W (i + 1) m' H') ∧ ∀ x H', J.yld i H x H' → g x (wipe σ vs) H' fun σ2 H2 => wipe σ2 vs = wipe σ vs ∧ tt σ2 H2 fun b H3 =>
    if b = true then te σ2 H3 fun y H4 => ∃ acc, H4 D = some (.lst acc) ∧ acc.length < sizeLine ∧ Nx (upd H4 D (.lst (acc ++ [y]))) else Nx H3)) : tLc wi g tt te vs σ H Q := q
theorem st_for (q : wi σ H fun J H1 => ∃ W : Nat → Nat → L2.St → Hp → Prop, (∃ m, W 0 m σ H1) ∧ ∀ i m σ H, W i m σ H →
  (J.stop i H ∧ D.nx σ H) ∨ (J.go i H ∧ ∃ N : L2.St → Hp → Prop, (∀ σ' H', N σ' H' → ∃ m', m' < m ∧ W (i + 1) m' σ' H') ∧ ∀ x H', J.yld i H x H' → g x σ H' fun σ2 H2 => tb { D with nx := N, ct := N, bk := D.nx } σ2 H2)) : tFor wi g tb D σ H := q
theorem st_wipe {σ2 : L2.St} {B : Prop} (h : wipe σ2 vs = wipe σ vs) (q : B) : wipe σ2 vs = wipe σ vs ∧ B := ⟨h, q⟩
theorem st_slL {lo hi : Option Int} (h : SqL K H a xs) (q : ∀ p, H p = none → Q (.ref p) (upd H p (.lst (cutV xs lo hi)))) : rSlL K (.ref a) lo hi H Q := ⟨a, xs, rfl, h, q⟩
theorem cut_take (xs : List V) (k : Nat) : cutV xs none (some (k : Int)) = xs.take k := by
  unfold cutV
  rw [HT.sIx_none, HT.sIx_nat, List.drop_zero, Nat.sub_zero]
  by_cases h : k ≤ xs.length
  · rw [Nat.min_eq_left h]
  · rw [Nat.min_eq_right (by omega), List.take_length, List.take_of_length_le (by omega)]
theorem cut_drop (xs : List V) (k : Nat) : cutV xs (some (k : Int)) none = xs.drop k := by
  unfold cutV
  rw [HT.sIx_none, HT.sIx_nat]
  by_cases h : k ≤ xs.length
  · rw [Nat.min_eq_left h, List.take_of_length_le (by simp)]
  · rw [Nat.min_eq_right (by omega), List.drop_length, List.drop_of_length_le (by omega), List.take_nil]
theorem st_cat {zs : List V} (h : H a = some (.lst xs)) (h2 : H l = some (.lst zs)) (hl : xs.length + zs.length ≤ sizeLine) (q : ∀ p, H p = none → Q (.ref p) (upd H p (.lst (xs ++ zs)))) : rCat (.ref a) (.ref l) H Q := ⟨a, l, xs, zs, rfl, rfl, h, h2, hl, q⟩
theorem st_sum {ns : List Int} (h : SqL K H a (ns.map V.int)) (q : Q (.int ns.sum) H) : rSum K [.ref a] H Q := ⟨a, ns, rfl, h, q⟩
theorem st_all {bs : List Bool} (h : SqL K H a (bs.map V.bl)) (q : Q (.bl (bs.all id)) H) : rAll K [.ref a] H Q := ⟨a, bs, rfl, h, q⟩
theorem st_any {bs : List Bool} (h : SqL K H a (bs.map V.bl)) (q : Q (.bl (bs.any id)) H) : rAny K [.ref a] H Q := ⟨a, bs, rfl, h, q⟩
theorem ex_int {ns : List Int} {x : V} (h : x ∈ ns.map V.int) : ∃ n, n ∈ ns ∧ x = .int n := by
  obtain ⟨n, a, b⟩ := List.mem_map.mp h
  exact ⟨n, a, b.symm⟩
theorem line_of {n : Nat} (h : n ≤ 100000) : n ≤ sizeLine := Nat.le_trans h (by decide)
theorem line_lt {n : Nat} (h : n ≤ 100000) : n < sizeLine := Nat.lt_of_le_of_lt h (by decide)
theorem st_size {zs : List V} {B : Prop} (h : zs.length ≤ sizeLine) (q : B) : zs.length ≤ sizeLine ∧ B := ⟨h, q⟩
theorem take_snoc {α : Type} {xs : List α} {i : Nat} {x : α} (h : xs[i]? = some x) : xs.take (i + 1) = xs.take i ++ [x] := by
  rw [List.take_add_one, h]
  rfl
theorem st_two {x y : V} {R : V → V → Prop} (q : R x y) : ∃ v w, [x, y] = [v, w] ∧ R v w := ⟨x, y, rfl, q⟩
theorem st_yes {QT : Bool → Hp → Prop} (q : QT true H) : tYes σ H QT := q
end
section
variable {J : It} {n : Nat} {G : Hp → Prop} {Y : Nat → Hp → V → Hp → Prop} {g : TG} {tt : TT} {te : TE} {vs : List Nat} {σ : L2.St} {H1 : Hp} {D : Addr} {Qd : Hp → Prop}
/-- a comprehension that changes nothing: f tells what becomes of an item -/
theorem lc_pure {xs : List V} (f : V → Option V) (w : Walk J xs.length G (YAt xs)) (hG : ∀ o, G (upd H1 D o)) (hl : xs.length < sizeLine)
    (hs : ∀ x acc, x ∈ xs → acc.length < sizeLine → ∀ Nx : Hp → Prop, Nx (upd H1 D (.lst (acc ++ (f x).toList))) → g x (wipe σ vs) (upd H1 D (.lst acc)) fun σ2 H2 => wipe σ2 vs = wipe σ vs ∧ tt σ2 H2 fun b H3 =>
      if b = true then te σ2 H3 fun y H4 => ∃ acc, H4 D = some (.lst acc) ∧ acc.length < sizeLine ∧ Nx (upd H4 D (.lst (acc ++ [y]))) else Nx H3)
    (hd : Qd (upd H1 D (.lst (xs.filterMap f)))) :
    ∃ W : Nat → Nat → Hp → Prop, (∃ m, W 0 m (upd H1 D (.lst []))) ∧ ∀ i m H, W i m H →
      (J.stop i H ∧ Qd H) ∨ (J.go i H ∧ ∃ Nx : Hp → Prop, (∀ H', Nx H' → ∃ m', m' < m ∧ W (i + 1) m' H') ∧ ∀ x H', J.yld i H x H' → g x (wipe σ vs) H' fun σ2 H2 => wipe σ2 vs = wipe σ vs ∧ tt σ2 H2 fun b H3 =>
        if b = true then te σ2 H3 fun y H4 => ∃ acc, H4 D = some (.lst acc) ∧ acc.length < sizeLine ∧ Nx (upd H4 D (.lst (acc ++ [y]))) else Nx H3) := by
  refine lc_it w (fun i H => H = upd H1 D (.lst ((xs.take i).filterMap f))) (by simp) (fun i H hi e => by rw [e]; exact hG _) (fun i x H H' hi e y => ?_) (fun H e => ?_)
  · obtain ⟨e2, hx⟩ := y
    subst e2
    rw [e]
    have hlen : ((xs.take i).filterMap f).length < sizeLine := by
      have h1 := List.length_filterMap_le f (xs.take i)
      have h2 : (xs.take i).length ≤ xs.length := by rw [List.length_take]; exact Nat.min_le_right _ _
      exact Nat.lt_of_le_of_lt (Nat.le_trans h1 h2) hl
    refine hs x _ (List.mem_of_getElem? hx) hlen _ ?_
    have e3 : xs.take (i + 1) = xs.take i ++ [x] := by
      rw [List.take_add_one, hx]
      rfl
    have e4 : List.filterMap f [x] = (f x).toList := by
      cases hf : f x with
      | none => rw [List.filterMap_cons_none hf]; rfl
      | some z => rw [List.filterMap_cons_some hf]; rfl
    rw [e3, List.filterMap_append, e4]
  · rw [e, List.take_length]
    exact hd
theorem fm_ints (f : Int → Option Int) (F : V → Option V) (h : ∀ n, F (.int n) = (f n).map V.int) : ∀ ns : List Int, (ns.map V.int).filterMap F = (ns.filterMap f).map V.int
  | [] => rfl
  | n :: ns => by
    rw [List.map_cons]
    cases e : f n with
    | none => rw [List.filterMap_cons_none (by rw [h, e]; rfl), List.filterMap_cons_none e, fm_ints f F h ns]
    | some z => rw [List.filterMap_cons_some (b := V.int z) (by rw [h, e]; rfl), List.filterMap_cons_some e, fm_ints f F h ns, List.map_cons]
theorem lc_ints {ns : List Int} (f : Int → Option Int) (w : Walk J (ns.map V.int).length G (YAt (ns.map V.int))) (hG : ∀ o, G (upd H1 D o)) (hl : ns.length < sizeLine)
    (hs : ∀ x acc, x ∈ ns → acc.length < sizeLine → ∀ Nx : Hp → Prop, Nx (upd H1 D (.lst (acc ++ ((f x).map V.int).toList))) → g (.int x) (wipe σ vs) (upd H1 D (.lst acc)) fun σ2 H2 => wipe σ2 vs = wipe σ vs ∧ tt σ2 H2 fun b H3 =>
      if b = true then te σ2 H3 fun y H4 => ∃ acc, H4 D = some (.lst acc) ∧ acc.length < sizeLine ∧ Nx (upd H4 D (.lst (acc ++ [y]))) else Nx H3)
    (hd : Qd (upd H1 D (.lst ((ns.filterMap f).map V.int)))) :
    ∃ W : Nat → Nat → Hp → Prop, (∃ m, W 0 m (upd H1 D (.lst []))) ∧ ∀ i m H, W i m H →
      (J.stop i H ∧ Qd H) ∨ (J.go i H ∧ ∃ Nx : Hp → Prop, (∀ H', Nx H' → ∃ m', m' < m ∧ W (i + 1) m' H') ∧ ∀ x H', J.yld i H x H' → g x (wipe σ vs) H' fun σ2 H2 => wipe σ2 vs = wipe σ vs ∧ tt σ2 H2 fun b H3 =>
        if b = true then te σ2 H3 fun y H4 => ∃ acc, H4 D = some (.lst acc) ∧ acc.length < sizeLine ∧ Nx (upd H4 D (.lst (acc ++ [y]))) else Nx H3) := by
  refine lc_pure (fun x => match x with | .int n => (f n).map V.int | _ => none) w hG (by simpa using hl) (fun x acc hx ha Nx hN => ?_) ?_
  · obtain ⟨n, hn, rfl⟩ := ex_int hx
    exact hs n acc hn ha Nx hN
  · rw [fm_ints f _ (fun n => rfl)]
    exact hd
end
end Hq

/-! P5: dicts with tuple keys: == and !=, the dict comprehension (also of dicts with other keys) -/
namespace Hq
open PySem PySem.Spec PyProof.Rows L2 PyProof.V PySem.W

/-! ### == of two dicts with tuple keys -/
section
variable {prog : Program} {w : World} {K : Type} [DecidableEq K] {knd : HeapKind prog w K} {A : Around} {E : Value → Shared → Prop} {s : Shared}
/-- every key of the one stands in the other, with an equal worth -/
def HitsH (prog : Program) (w : World) (A : Around) (s : Shared) (kb : List (K × Addr × Value)) (ka : List (K × Addr × Value)) : Prop :=
  ∀ x ∈ ka, ∃ p, atKey kb x.1 = some p ∧ SeqAt.EqP prog w A s x.2.2 p.2 true
theorem sameH {nm : String} {a b : Addr} {ka kb : List (K × Addr × Value)} {Q : Bool → Shared → Prop} (hu : knd.room A) (ha : (a == sysModules) = false) (hb : (b == sysModules) = false)
    (da : s.heap.DictOfH knd a ka) (db : s.heap.DictOfH knd b kb) (hl : ka.length = kb.length) (hits : HitsH prog w A s kb ka) (h : Q true s) :
    wpAny (model prog w) A (Builtin.Dict.samePairs nm a b) Q E s := by
  obtain ⟨oa, es, ep, hoa, _, hda, hea, hia, _⟩ := da
  obtain ⟨ob, fs, ep', hob, _, hdb, heb, hib, hnb⟩ := db
  have hsa : es.size = ka.length := size_of_entries hea
  have hsb : fs.size = kb.length := size_of_entries heb
  unfold Builtin.Dict.samePairs Builtin.Dict.showsAll
  rw [if_neg (show ¬ (a == sysModules) = true by rw [ha]; exact Bool.false_ne_true), if_neg (show ¬ (b == sysModules) = true by rw [hb]; exact Bool.false_ne_true)]
  refine wpAny_bind (wpAny_pure (wpAny_bind (wpAny_pure ?_)))
  refine wpAny_bind (wpAny_dictEntries hoa hda ?_)
  dsimp only
  refine wpAny_bind (wpAny_dictEntries hob hdb ?_)
  have hsz : es.size = fs.size := by omega
  rw [if_neg (by rw [hsz]; simp)]
  refine wpAny_bind (wpAny_dictEpoch hoa hda ?_)
  refine wpAny_bind ?_
  rw [Std.Legacy.Range.forIn_eq_forIn_range']
  simp only [Std.Legacy.Range.size, Nat.sub_zero, Nat.add_sub_cancel, Nat.div_one]
  refine wpAny_forIn_list _ (fun rest q s' => s' = s ∧ q = (none, ()) ∧ ∃ i, rest = List.range' i (es.size - i) ∧ i ≤ es.size) _ ?_ ?_ _ _ ⟨rfl, rfl, 0, by simp, Nat.zero_le _⟩
  · rintro x rest q s' ⟨rfl, rfl, i, hr, hi⟩
    have hlt : i < es.size := by
      rcases Nat.lt_or_ge i es.size with h | h
      · exact h
      · rw [Nat.sub_eq_zero_of_le h] at hr; simp at hr
    obtain ⟨rfl, hrest⟩ : x = i ∧ rest = List.range' (i + 1) (es.size - (i + 1)) := by
      have e : es.size - i = (es.size - (i + 1)) + 1 := by omega
      rw [e, List.range'_succ] at hr
      injection hr with h1 h2
      exact ⟨h1, h2⟩
    refine wpAny_bind (wpAny_dictEntries hoa hda ?_)
    have hx : x < ka.length := by omega
    have hat : es[x]? = some (entryOfKey knd ka[x]) := by rw [entry_at hea x, List.getElem?_eq_getElem hx]; rfl
    rw [hat]
    obtain ⟨p, hp, he⟩ := hits ka[x] (List.getElem_mem hx)
    show wpAny _ _ (holding [Value.ref ka[x].2.1, ka[x].2.2] _ >>= _) _ _ _
    refine wpAny_bind (wpAny_holding (wpAny_bind (wpAny_dictFind_heap (k := ka[x].1) hu (hia _ (List.getElem_mem hx)) hob hdb heb hib hnb (fun hno => ?_) (fun j p' hj => ?_))))
    · rw [atKey_none_of_get hno] at hp
      exact nomatch hp
    · rw [atKey_of_get hnb hj] at hp
      cases hp
      refine wpAny_bind (wpAny_dictEntries hob hdb ?_)
      rw [entry_at heb j, hj]
      refine wpAny_holding (he _ _ ?_)
      show wpAny _ _ (if (!true) = true then _ else _) _ _ _
      rw [if_neg (by decide)]
      refine wpAny_bind (wpAny_dictEpoch hoa hda ?_)
      rw [if_neg (by simp)]
      exact wpAny_pure ⟨rfl, rfl, x + 1, hrest, hlt⟩
  · rintro q s' ⟨rfl, rfl, i, hr, hi⟩
    exact wpAny_pure h
theorem eqH {nm : Bool} {a b : Addr} {ka kb : List (K × Addr × Value)} {Q : Value → Shared → Prop} (hu : A.units < cLine) (hr : knd.room A.in1) (ha : (a == sysModules) = false) (hb : (b == sysModules) = false)
    (da : s.heap.DictOfH knd a ka) (db : s.heap.DictOfH knd b kb) (hl : ka.length = kb.length) (hits : HitsH prog w A.in1 s kb ka) (h : Q (.bool nm) s) :
    wpAny (model prog w) A (compareOp (if nm = true then .Eq else .NotEq) (.ref a) (.ref b)) Q E s := by
  cases nm with
  | true =>
    rw [if_pos rfl]
    refine wpAny_richCompare_same_room (op := .Eq) da.typeIs db.typeIs PySem.F.slot_dict_eq (wpAny_call_entry PySem.F.slot_dict_eq da.typeIs PySem.F.entry_dict_eq ?_ (PySem.F.args_dict_eq_2 _ _)) hu
    show wpAny _ _ (Builtin.Dict.dictSlotArgs "__eq__" ⟨[.ref a, .ref b], []⟩ >>= _) _ _ s
    refine wpAny_bind ?_
    unfold Builtin.Dict.dictSlotArgs
    refine wpAny_bind (wpAny_notOrdered_dict da.typeIs ?_)
    show wpAny _ _ (pure (Value.ref a, Value.ref b)) _ _ s
    refine wpAny_pure ?_
    refine wpAny_bind (wpAny_isInstance (T := "dict") db.typeIs PySem.F.sub_dict_dict ?_)
    simp only [Bool.not_true, Bool.false_eq_true, if_false]
    refine wpAny_bind (wpAny_pure (wpAny_bind (wpAny_pure ?_)))
    refine wpAny_bind (sameH hr ha hb da db hl hits ?_)
    exact wpAny_pure ⟨_, rfl, fun x => (nomatch x), h⟩
  | false =>
    rw [if_neg Bool.false_ne_true]
    refine wpAny_richCompare_same_room (op := .NotEq) da.typeIs db.typeIs PySem.F.slot_dict_ne (wpAny_call_entry PySem.F.slot_dict_ne da.typeIs PySem.F.entry_dict_ne ?_ (PySem.F.args_dict_ne_2 _ _)) hu
    show wpAny _ _ (Builtin.Dict.dictSlotArgs "__ne__" ⟨[.ref a, .ref b], []⟩ >>= _) _ _ s
    refine wpAny_bind ?_
    unfold Builtin.Dict.dictSlotArgs
    refine wpAny_bind (wpAny_notOrdered_dict da.typeIs ?_)
    show wpAny _ _ (pure (Value.ref a, Value.ref b)) _ _ s
    refine wpAny_pure ?_
    refine wpAny_bind (wpAny_isInstance (T := "dict") db.typeIs PySem.F.sub_dict_dict ?_)
    simp only [Bool.not_true, Bool.false_eq_true, if_false]
    refine wpAny_bind (wpAny_pure (wpAny_bind (wpAny_pure ?_)))
    refine wpAny_bind (sameH hr ha hb da db hl hits ?_)
    exact wpAny_pure ⟨_, rfl, fun x => (nomatch x), h⟩
end
/-- the two dicts hold the same keys with equal data -/
def SameT (K : PySem.W.Frag) (H : Hp) (x y : V) : Prop := ∃ a b ks ls, x = .ref a ∧ y = .ref b ∧ H a = some (.dT ks) ∧ H b = some (.dT ls) ∧ ks.length = ls.length ∧
  ∀ p ∈ ks, ∃ u d, valV ls p.1 = some u ∧ Dp K H p.2 d ∧ Dp K H u d ∧ SeqAt.shaped d = true
theorem hitsT {X : Cx} {pins : List (Addr × Obj)} {σ : L2.St} {H : Hp} {s : Shared} (I : Inv X pins σ H s) {A : Around} (hu : A.in1.units + 64 < cLine) {ls : List (List Key × V)} {kb : List (List Key × Addr × Value)} (rb : KT H ls kb) {ks : List (List Key × V)} {ka : List (List Key × Addr × Value)}
    (ra : KT H ks ka) : (∀ p ∈ ks, ∃ u d, valV ls p.1 = some u ∧ Dp X.K H p.2 d ∧ Dp X.K H u d ∧ SeqAt.shaped d = true) → HitsH X.prog X.w A.in1 s kb ka := by
  induction ra with
  | nil => exact fun _ x hx => nomatch hx
  | @cons p q ps qs h t ih =>
    intro hp x hx
    rcases List.mem_cons.mp hx with e | hx
    · subst e
      obtain ⟨u, d, e, d1, d2, sh⟩ := hp p List.mem_cons_self
      obtain ⟨h1, _, h3⟩ := h
      obtain ⟨y, hy, ry⟩ := RelO.some_of (v := u) (o := (atKey kb p.1).map (·.2)) (by rw [← e]; exact rb.val p.1)
      obtain ⟨z, hz, ez⟩ := Option.map_eq_some_iff.mp hy
      obtain ⟨as, r1⟩ := Dp.reads I d _ _ d1 h3
      obtain ⟨bs, r2⟩ := Dp.reads I d _ _ d2 ry
      refine ⟨z, by rw [← h1]; exact hz, ?_⟩
      rw [ez]
      have k := PySem.W.keq_at r1 r2 sh sh hu
      rw [SeqAt.eqv_refl _ (SeqAt.canLay_of_shaped sh)] at k
      exact k.eqP
    · exact ih (fun p' hm => hp p' (List.mem_cons_of_mem _ hm)) x hx
section
variable {X : Cx} {K : PySem.W.Frag}
theorem sameT_run {pins : List (Addr × Obj)} {σ : L2.St} {H : Hp} {s : Shared} {x y : V} {v u : Value} {E : Value → Shared → Prop} {Q : Value → Shared → Prop} (nm : Bool) (hu : X.A.units + 66 < cLine) (I : Inv X pins σ H s) (rx : RelV x v) (ry : RelV y u) (h : SameT X.K H x y) (q : Q (.bool nm) s) :
    wpAny (model X.prog X.w) X.A (compareOp (if nm = true then .Eq else .NotEq) v u) Q E s := by
  obtain ⟨a, b, ks, ls, rfl, rfl, ea, eb, hl, hp⟩ := h
  obtain rfl : v = Value.ref a := rx
  obtain rfl : u = Value.ref b := ry
  obtain ⟨_, ya, va, ra, da⟩ := dt_of I.hok ea
  obtain ⟨_, yb, vb, rb, db⟩ := dt_of I.hok eb
  have hu1 : X.A.in1.units = X.A.units + 1 := rfl
  exact eqH (by omega) (tupleKind_room_in1 (by omega)) ya yb da db (by rw [← Paired.length ra, ← Paired.length rb]; exact hl) (hitsT I (by rw [hu1]; omega) rb ra hp) q
def rNeT (K : PySem.W.Frag) : R2 := fun x y H Q => SameT K H x y ∧ Q (.bl false) H
def rEqT (K : PySem.W.Frag) : R2 := fun x y H Q => SameT K H x y ∧ Q (.bl true) H
theorem kNeT (hu : X.A.units + 66 < cLine) (h : X.K = K := by rfl) : OpR X (compareOp .NotEq) (rNeT K) := by
  cases h
  intro pins s σ H x y v u Q I rx ry ⟨h, q⟩
  exact sameT_run false hu I rx ry h ⟨.bl false, H, I, rfl, q⟩
theorem kEqT (hu : X.A.units + 66 < cLine) (h : X.K = K := by rfl) : OpR X (compareOp .Eq) (rEqT K) := by
  cases h
  intro pins s σ H x y v u Q I rx ry ⟨h, q⟩
  exact sameT_run true hu I rx ry h ⟨.bl true, H, I, rfl, q⟩
end
/-! ### the dict comprehension, whatever the keys: after the library's own one -/
/-- d[y] = z by a comprehension -/
theorem d_dictSetG {X : Cx} {pins : List (Addr × Obj)} {σ : L2.St} {H H' : Hp} {s : Shared} {E : Value → Shared → Prop} {D : Addr} {y v : V} {u r : Value} {Q : Unit → Shared → Prop} (hu : X.A.units < cLine) (I : Inv X pins σ H s) (g : DPut H D y v H')
    (ry : RelV y u) (rv : RelV v r) (h : ∀ s', Inv X pins σ H' s' → Q () s') : wpAny (model X.prog X.w) X.A (dictSet D u r) Q E s := by
  rcases g with ⟨kvs, k, e, ey, l, eH⟩ | ⟨kvs, k, b, e, ey, eb, l, eH⟩
  · subst ey eH
    exact d_dictSet I e l ry rv h
  · subst ey eH
    cases (show u = Value.ref b from ry)
    obtain ⟨z, hd, xs, rel, dd⟩ := dt_of I.hok e
    have hz : xs.length ≤ sizeLine := by rw [← Paired.length rel]; exact z
    have hl : (putK kvs k v).length ≤ sizeLine := by have := length_putK kvs k v; omega
    refine wpAny_dictSet_heap (hsz := hz) (show (tupleKind (mixKind X.prog X.w)).room X.A from hu) (key_of I.hok eb) dd fun h' dd' hs => h _ ?_
    obtain ⟨q, es, ep, hq, h2, h3, h4, _, h5⟩ := dd'
    refine d_write I (by rw [e]; exact True.intro) hs ⟨q, hq⟩ ⟨hl, hd, _, (rel.put k eb rv).keeps fun c ys ec => ?_, q, es, ep, hq, h2, h3, h4, h5⟩
    rw [upd_ne (ne_of ec e (fun z => nomatch z))]
    exact ec
section
variable {X : Cx}
/-- {k: v for target in iter if ..}: D the new dict -/
def tDcG (o0 : HO) (wi : TI) (g : TG) (tt : TT) (tk tv : TE) (vs : List Nat) : TE := fun σ H Q => wi σ H fun J H1 => ∀ D, H1 D = none → ∃ W : Nat → Nat → Hp → Prop, (∃ m, W 0 m (upd H1 D o0)) ∧ ∀ i m H, W i m H →
  (J.stop i H ∧ Q (.ref D) H) ∨ (J.go i H ∧ ∃ Nx : Hp → Prop, (∀ H', Nx H' → ∃ m', m' < m ∧ W (i + 1) m' H') ∧ ∀ x H', J.yld i H x H' → g x (wipe σ vs) H' fun σ2 H2 => wipe σ2 vs = wipe σ vs ∧ tt σ2 H2 fun b H3 =>
    if b = true then tk σ2 H3 fun y H4 => tv σ2 H4 fun z H5 => ∃ H6, DPut H5 D y z H6 ∧ Nx H6 else Nx H3)
theorem dcG_core (o0 : HO) (hu : X.A.units < cLine) (ho : o0 = .dK [] ∨ o0 = .dT []) {pins : List (Addr × Obj)} {s : Shared} {σ : L2.St} {H : Hp} {Q : VK} {kx vx tg iter : Expr} {ifs : List Expr} {scope : Scope} {own : List (Str × Nat)} {pos pos' : Pos} {wi : TI} {g : TG} {tt : TT} {tk tv : TE} {use : Option (Value → Sem Unit)} {Qf : Value → Shared → Prop}
    (hc : X.calm = true) (hN : X.N.Nodup) (I : Inv X pins σ H s) (hi : PI X tg iter wi) (ok : BlkOk X.N X.env.scope scope own)
    (hg : ∀ (s : Shared) (H : Hp) (C : Addr) (cl : List (Str × Addr)) (fp : List Addr), PG (X.blk s H scope (compEnvC scope cl C X.env) fp) tg g) (ht : ∀ (s : Shared) (H : Hp) (C : Addr) (cl : List (Str × Addr)) (fp : List Addr), PTs (X.blk s H scope (compEnvC scope cl C X.env) fp) ifs tt)
    (hk : ∀ (s : Shared) (H : Hp) (C : Addr) (cl : List (Str × Addr)) (fp : List Addr), PE (X.blk s H scope (compEnvC scope cl C X.env) fp) kx tk)
    (he : ∀ (s : Shared) (H : Hp) (C : Addr) (cl : List (Str × Addr)) (fp : List Addr), PE (X.blk s H scope (compEnvC scope cl C X.env) fp) vx tv) (hs : ∀ x, foldedSetIterable iter X.env x = pure x)
    (h : tDcG o0 wi g tt tk tv (own.map (·.2)) σ H Q)
    (hRR : ∀ D C s' m H', Inv X pins σ H' s' → Q (.ref D) H' → s'.heap.Ns C m → FpOk X pins H' C → compPost (model X.prog X.w) X.A X.xe use Qf (.ref D) C (.ok .next) s') :
    wpAny (model X.prog X.w) X.A (comprehension (.DictComp kx vx [⟨tg, iter, ifs, 0⟩] scope pos) scope X.env pos' newDict false (eval iter X.env) use) Qf X.xe s := by
  have hfree : ∀ y ∈ scope.names, y.2 = .free → ∃ c, X.env.cells.lookup y.1 = some c := fun y hy e => by
    rcases ok.free y hy e with k | k
    · exact I.ok.has _ (.inl k)
    · exact I.ok.has _ (.inr k)
  refine wpAny_comprehension_free (use := use) rfl hs (closure_ok hfree) ok.kind (fun y hy e => by rw [ok.uniq y hy, e])
    (thn (hi.run pins s σ H _ I h) fun xv s1 hx => thn hx fun itv s2 h2 => ?_)
  obtain ⟨it, fp, tn, J, H2, e, I2, T, st2, f2, q⟩ := h2
  subst e
  refine wpAny_newObj_type (newEnv_comp ?_)
  generalize hD : s2.heap.objs.size = D
  have hDn : H2 D = none := I2.hok.fresh (Nat.le_of_eq hD)
  obtain ⟨W, ⟨m0, w0⟩, turn⟩ := q D hDn
  -- the new list
  generalize hs3 : ({ s2 with heap := s2.heap.push { cls := .type "dict", data := .dict #[] } } : Shared) = s3
  have I3 : Inv X pins σ (upd H2 D o0) s3 := by
    rw [← hs3]
    refine I2.laid (t' := s2.toks) (fun b o e => Heap.get?_push_of_some _ e) (Nat.le_of_eq hD) ?_
    rw [← hD]
    rcases ho with e | e
    · rw [e]; exact dk_empty s2.heap I2.big
    · rw [e]; exact dt_empty s2.heap I2.big
  have h3 : s3.heap = s2.heap.push { cls := .type "dict", data := .dict #[] } := by rw [← hs3]
  have sz : ∀ b ∈ fp, b < s2.heap.objs.size := fun b hb => by
    obtain ⟨o, e, _⟩ := T.obj _ _ st2 b hb
    exact Heap.lt_size e
  have f3 : ∀ b ∈ fp, FpOk X pins (upd H2 D o0) b ∧ b < s3.heap.objs.size := fun b hb => by
    have hlt := sz b hb
    refine ⟨⟨?_, (f2 b hb).2⟩, by rw [h3, Heap.size_push]; exact Nat.lt_succ_of_lt hlt⟩
    rw [upd_ne (by rw [← hD]; exact Nat.ne_of_lt hlt)]
    exact (f2 b hb).1
  have st3 : tn 0 s3.heap := T.keep _ _ _ st2 fun b _ o e => by rw [h3]; exact Heap.get?_push_of_some _ e
  have I4 := block_start I3 ok hN f3
  have pg := hg s3 (upd H2 D o0) s3.heap.objs.size (cellsFrom (s3.heap.objs.size + 1) scope.names (cloFrom X.env.cells scope.names [])) fp
  have pt := ht s3 (upd H2 D o0) s3.heap.objs.size (cellsFrom (s3.heap.objs.size + 1) scope.names (cloFrom X.env.cells scope.names [])) fp
  have pk := hk s3 (upd H2 D o0) s3.heap.objs.size (cellsFrom (s3.heap.objs.size + 1) scope.names (cloFrom X.env.cells scope.names [])) fp
  have pe := he s3 (upd H2 D o0) s3.heap.objs.size (cellsFrom (s3.heap.objs.size + 1) scope.names (cloFrom X.env.cells scope.names [])) fp
  show codeAny _ _ (.compStart (.DictComp kx vx [⟨tg, iter, ifs, 0⟩] scope pos) 0 (.ref it) (.ref D) (compEnvC scope (cellsFrom (s3.heap.objs.size + 1) scope.names (cloFrom X.env.cells scope.names [])) s3.heap.objs.size X.env)) (compPost (model X.prog X.w) X.A X.xe use Qf (.ref D) s3.heap.objs.size) { s3 with heap := pushCells (s3.heap.push { cls := .type "dict", data := .dict #[] }) scope.names }
  have nfp : ∀ b ∈ fp, (upd H2 D o0) b = none := fun b hb => (f3 b hb).1.1
  generalize hce : compEnvC scope (cellsFrom (s3.heap.objs.size + 1) scope.names (cloFrom X.env.cells scope.names [])) s3.heap.objs.size X.env = ce at I4 pg pt pk pe ⊢
  have cL : ce.locals = s3.heap.objs.size := by subst hce; rfl
  generalize hH3 : upd H2 D o0 = H3 at I3 I4 pg pt pk pe w0 nfp f3
  generalize hs4 : ({ s3 with heap := pushCells (s3.heap.push { cls := .type "dict", data := .dict #[] }) scope.names } : Shared) = s4 at I4 ⊢
  have st4 : tn 0 s4.heap := T.keep _ _ _ st3 fun b _ o e => by rw [← hs4]; exact pushCells_keeps _ _ _ _ (Heap.get?_push_of_some _ e)
  have stat : ∀ {σ' : L2.St} {H' : Hp} {s' : Shared}, Inv (X.blk s3 H3 scope ce fp) [] σ' H' s' → (∀ b ∈ fp, H' b = none) → ∀ b ∈ fp, FpOk (X.blk s3 H3 scope ce fp) [] H' b := fun {σ' H' s'} I' hn b hb =>
    ⟨hn b hb, (I'.ok.exf b hb).1, I'.ok.exfs b hb, .inl hb, fun x c e => (I'.ok.exf b hb).2 x c e, fun p hp => absurd (show p ∈ ([] : List (Addr × Obj)) ++ [] from hp) (by simp)⟩
  have loop : codeAny (model X.prog X.w) X.A (.compLoop (.DictComp kx vx [⟨tg, iter, ifs, 0⟩] scope pos) 0 (.ref it) (.ref D) ce) (compPost (model X.prog X.w) X.A X.xe use Qf (.ref D) s3.heap.objs.size) s4 := by
    refine compLoop_anyD (fun n s' => ∃ i H', Inv (X.blk s3 H3 scope ce fp) [] (wipe σ (own.map (·.2))) H' s' ∧ tn i s'.heap ∧ (∀ b ∈ fp, H' b = none) ∧ W i n H') ?_ m0 ⟨0, H3, I4, st4, nfp, w0⟩
    rintro n s5 ⟨i, H5, I5, st5, n5, w5⟩
    rcases turn i n H5 w5 with ⟨stop, qq⟩ | ⟨go, Nx, hNx, step⟩
    · have td := T.done (X.blk s3 H3 scope ce fp) rfl rfl rfl hc i [] s5 _ H5 (fun _ _ => False) I5 (stat I5 n5) st5 stop
      refine thnF td fun r s6 ⟨hr, I6⟩ => ?_
      subst hr
      -- back in the def's context
      have I7 : Inv X pins σ H5 s6 := I3.call' (ch := fp) I6.os I6.base I6.hok I6.bare fun b hb => ⟨(f3 b hb).1.2.2.2.1, (f3 b hb).1.2.1, (f3 b hb).1.2.2.2.2.1, (f3 b hb).1.2.2.2.2.2⟩
      have nC : H5 s3.heap.objs.size = none := by
        have z : H5 ce.locals = none := I6.free
        rw [cL] at z
        exact z
      obtain ⟨m, hn, _⟩ := I6.loc
      have hn : s6.heap.Ns ce.locals m := hn
      rw [cL] at hn
      exact hRR D s3.heap.objs.size s6 m H5 I7 qq hn (I3.fpOk (Nat.le_refl _) nC)
    · have ti := T.item (X.blk s3 H3 scope ce fp) rfl rfl rfl hc i [] s5 _ H5 (fun _ _ => False) I5 (stat I5 n5) st5 go
      refine thnF ti fun r s6 ⟨u, hr, h6⟩ => ?_
      subst hr
      refine thnF h6 fun _ s7 ⟨x, H7, I7, r7, y7, st7, n7⟩ => ?_
      have I7' := I7.pinned (stat I7 n7) (T.obj _ _ st7)
      refine thnF (pg.run _ s7 _ H7 x u _ I7' r7 (step x H7 y7)) fun _ s8 ⟨σ8, H8, I8, hw8, q8⟩ => ?_
      refine thnF (pt.run _ s8 σ8 H8 _ I8 q8) fun b s9 ⟨H9, I9, q9⟩ => ?_
      -- the turn's end
      have fin : ∀ {s' : Shared} {H' : Hp}, Inv (X.blk s3 H3 scope ce fp) ([] ++ pinsAt fp s7.heap) σ8 H' s' → Nx H' → ∃ m, m < n ∧ ∃ i H', Inv (X.blk s3 H3 scope ce fp) [] (wipe σ (own.map (·.2))) H' s' ∧ tn i s'.heap ∧ (∀ b ∈ fp, H' b = none) ∧ W i m H' := fun {s' H'} I' nx => by
        obtain ⟨m', hm, w'⟩ := hNx H' nx
        have pin' : ∀ b ∈ fp, ∀ o, s7.heap.get? b = some o → s'.heap.get? b = some o ∧ H' b = none := fun b hb o e =>
          let z := I'.pin (b, o) (List.mem_append_right _ (List.mem_append_right _ (mem_pinsAt hb e)))
          ⟨z.1, z.2.1⟩
        have hl : (wipe σ (own.map (·.2))).length = σ8.length := by rw [← hw8, wipe_length]
        refine ⟨m', hm, i + 1, H', (I'.unpinned (pins := [])).weak hl (fun j v e => ?_), T.keep _ _ _ st7 fun b hb o e => (pin' b hb o e).1, fun b hb => ?_, w'⟩
        · rw [← hw8] at e
          exact (wipe_some e).1
        · obtain ⟨o, e, _⟩ := T.obj _ _ st7 b hb
          exact (pin' b hb o e).2
      cases b with
      | false =>
        simp only [Bool.false_eq_true, if_false] at q9 ⊢
        exact fin I9 q9
      | true =>
        simp only [if_true] at q9 ⊢
        refine thnF (pk.run _ s9 σ8 H9 _ I9 q9) fun z s10 ⟨yk, H10, I10, r10, q10⟩ => ?_
        refine thnF (pe.run _ s10 σ8 H10 _ I10 q10) fun z2 s11 ⟨yv, H11, I11, r11, H12, hP, nx⟩ => ?_
        exact d_dictSetG (X := X.blk s3 H3 scope ce fp) hu I11 hP r10 r11 fun s12 I12 => fin I12 nx
  exact codeAny_compStart_dict loop (T.self X.A 0 _ _ _ st4 loop)
/-- as a value -/
theorem pe_dcG (o0 : HO) (hu : X.A.units < cLine) (ho : o0 = .dK [] ∨ o0 = .dT []) {kx vx tg iter : Expr} {ifs : List Expr} {scope : Scope} {own : List (Str × Nat)} {pos : Pos} {wi : TI} {g : TG} {tt : TT} {tk tv : TE} (hc : X.calm = true) (hN : X.N.Nodup) (hi : PI X tg iter wi) (ok : BlkOk X.N X.env.scope scope own)
    (hg : ∀ (s : Shared) (H : Hp) (C : Addr) (cl : List (Str × Addr)) (fp : List Addr), PG (X.blk s H scope (compEnvC scope cl C X.env) fp) tg g) (ht : ∀ (s : Shared) (H : Hp) (C : Addr) (cl : List (Str × Addr)) (fp : List Addr), PTs (X.blk s H scope (compEnvC scope cl C X.env) fp) ifs tt)
    (hk : ∀ (s : Shared) (H : Hp) (C : Addr) (cl : List (Str × Addr)) (fp : List Addr), PE (X.blk s H scope (compEnvC scope cl C X.env) fp) kx tk)
    (he : ∀ (s : Shared) (H : Hp) (C : Addr) (cl : List (Str × Addr)) (fp : List Addr), PE (X.blk s H scope (compEnvC scope cl C X.env) fp) vx tv) (hs : ∀ x, foldedSetIterable iter X.env x = pure x := by intro _; rfl) :
    PE X (.DictComp kx vx [⟨tg, iter, ifs, 0⟩] scope pos) (tDcG o0 wi g tt tk tv (own.map (·.2))) := by
  refine ⟨fun pins s σ H Q I h => ?_⟩
  rw [arm_eval_DictComp]
  refine dcG_core o0 hu ho hc hN I hi ok hg ht hk he hs h fun D C s' m H' I' q hn f => ⟨m, hn, fun h'' sb => ?_⟩
  obtain ⟨f0, f1, f2, f3, f4, f5⟩ := f
  exact ⟨.ref D, H', I'.turned (t' := s'.toks) (fun b o hb e => (sb.2 b hb).trans e) f0 f1 f3 f4 f5, rfl, q⟩
end
end Hq

/-! P6: readings of dicts step by step; dicts as data -/
namespace Hq
open PySem PySem.Spec PyProof.Rows L2
theorem u1_of {k : Nat} {A : Around} (r : Room k A) : A.units + 1 < cLine := by have := r.un; omega
theorem u66_of {k : Nat} {A : Around} (r : Room k A) : A.units + 66 < cLine := by have := r.un; omega
theorem u0_of {k : Nat} {A : Around} (r : Room k A) : A.units < cLine := r.units0
theorem iteNN {a b : Prop} (h : b) : if (!decide (V.non = V.non)) = true then a else b := by rw [if_neg (by simp)]; exact h
theorem iteYN {a b : Prop} (h : a) : if decide (V.non = V.non) = true then a else b := by rw [if_pos (by simp)]; exact h
/-! ### a[i], a list or a tuple -/
def rIxB (K : PySem.W.Frag) : R2 := fun x y H Q => rIxL K x y H Q ∨ rIxT K x y H Q
theorem kIxB {X : Cx} {K : PySem.W.Frag} (h : X.K = K := by rfl) : IxR X (rIxB K) := by
  cases h
  intro value slice pins s σ H x y v u Q I rx ry h
  rcases h with h | h
  · exact ix_list value slice pins s σ H x y v u Q I rx ry h
  · exact ix_tup value slice pins s σ H x y v u Q I rx ry h
theorem st_ixB {K : PySem.W.Frag} {H : Hp} {p : Addr} {xs : List V} {n : Int} {v : V} {Q : VK} (h : SqL K H p xs ∨ SqT K H p xs) (e : atI xs n = some v) (q : Q v H) : rIxB K (.ref p) (.int n) H Q := by
  rcases h with h | h
  · exact .inl ⟨p, xs, n, v, rfl, rfl, h, e, q⟩
  · exact .inr ⟨p, xs, n, v, rfl, rfl, h, e, q⟩
/-! ### the dict comprehension -/
section
variable {wi : TI} {g : TG} {tt : TT} {tk tv : TE} {vs : List Nat} {σ : L2.St} {H : Hp} {Q : VK} {o0 : HO}
theorem st_dc (q : wi σ H fun J H1 => ∀ D, H1 D = none → ∃ W : Nat → Nat → Hp → Prop, (∃ m, W 0 m (upd H1 D o0)) ∧ ∀ i m H, W i m H →
  (J.stop i H ∧ Q (.ref D) H) ∨ (J.go i H ∧ ∃ Nx : Hp → Prop, (∀ H', Nx H' → ∃ m', m' < m ∧ W (i + 1) m' H') ∧ ∀ x H', J.yld i H x H' → g x (wipe σ vs) H' fun σ2 H2 => wipe σ2 vs = wipe σ vs ∧ tt σ2 H2 fun b H3 =>
    if b = true then tk σ2 H3 fun y H4 => tv σ2 H4 fun z H5 => ∃ H6, DPut H5 D y z H6 ∧ Nx H6 else Nx H3)) : tDcG o0 wi g tt tk tv vs σ H Q := q
theorem dc_it {J : It} {n : Nat} {G : Hp → Prop} {Y : Nat → Hp → V → Hp → Prop} (w : Walk J n G Y) {H1 : Hp} {D : Addr} {Qd : Hp → Prop} (Pv : Nat → Hp → Prop) (h0 : Pv 0 (upd H1 D o0)) (hG : ∀ i H, i ≤ n → Pv i H → G H)
    (hs : ∀ i x H H', i < n → Pv i H → Y i H x H' → g x (wipe σ vs) H' fun σ2 H2 => wipe σ2 vs = wipe σ vs ∧ tt σ2 H2 fun b H3 =>
      if b = true then tk σ2 H3 fun y H4 => tv σ2 H4 fun z H5 => ∃ H6, DPut H5 D y z H6 ∧ Pv (i + 1) H6 else Pv (i + 1) H3) (hd : ∀ H, Pv n H → Qd H) :
    ∃ W : Nat → Nat → Hp → Prop, (∃ m, W 0 m (upd H1 D o0)) ∧ ∀ i m H, W i m H →
      (J.stop i H ∧ Qd H) ∨ (J.go i H ∧ ∃ Nx : Hp → Prop, (∀ H', Nx H' → ∃ m', m' < m ∧ W (i + 1) m' H') ∧ ∀ x H', J.yld i H x H' → g x (wipe σ vs) H' fun σ2 H2 => wipe σ2 vs = wipe σ vs ∧ tt σ2 H2 fun b H3 =>
        if b = true then tk σ2 H3 fun y H4 => tv σ2 H4 fun z H5 => ∃ H6, DPut H5 D y z H6 ∧ Nx H6 else Nx H3) := by
  refine ⟨fun i m H => m = n - i ∧ i ≤ n ∧ Pv i H, ⟨n, by simp, Nat.zero_le _, h0⟩, ?_⟩
  rintro i m H ⟨rfl, hi, p⟩
  have q := hG i H hi p
  by_cases hlt : i < n
  · exact .inr ⟨w.goes i H hlt q, Pv (i + 1), fun H' p' => ⟨n - (i + 1), by omega, rfl, hlt, p'⟩, fun x H' y => hs i x H H' hlt p (w.yields i H x H' hlt q y)⟩
  · have e : i = n := by omega
    subst e
    exact .inl ⟨w.stops H q, hd H p⟩
end
/-! ### d[k], k in d, d[k] = v -/
section
variable {td ty tv : TE} {σ : L2.St} {H : Hp} {Q : VK} {D : Ends} {a b : Addr} {kvs : List (List Key × V)} {k : List Key} {v : V} {R : Hp → Prop}
theorem st_dgetS (q : td σ H fun x H1 => ty σ H1 fun y H2 => ∃ a v, x = .ref a ∧ DGet H2 a y (some v) ∧ Q v H2) : tDGet td ty σ H Q := q
theorem st_dinS (q : ty σ H fun y H1 => td σ H1 fun x H2 => ∃ a o, x = .ref a ∧ DGet H2 a y o ∧ Q (.bl o.isSome) H2) : tDIn ty td σ H Q := q
theorem st_dninS (q : ty σ H fun y H1 => td σ H1 fun x H2 => ∃ a o, x = .ref a ∧ DGet H2 a y o ∧ Q (.bl (!o.isSome)) H2) : tDNotIn ty td σ H Q := q
theorem st_dputS (q : tv σ H fun v H1 => td σ H1 fun x H2 => ty σ H2 fun y H3 => ∃ a H4, x = .ref a ∧ DPut H3 a y v H4 ∧ D.nx σ H4) : sDPut td ty tv D σ H := q
theorem st_newT (q : ∀ p, H p = none → Q (.ref p) (upd H p (.dT []))) : tDNewT σ H Q := q
theorem st_newK (q : ∀ p, H p = none → Q (.ref p) (upd H p (.dK []))) : tDNewK σ H Q := q
theorem st_getT (e : H a = some (.dT kvs)) (eb : H b = some (.tup (k.map kV))) (l : valV kvs k = some v) (q : Q v H) : ∃ a' v', V.ref a = .ref a' ∧ DGet H a' (.ref b) (some v') ∧ Q v' H := ⟨a, v, rfl, l ▸ DGet.t e eb, q⟩
theorem st_inT (e : H a = some (.dT kvs)) (eb : H b = some (.tup (k.map kV))) (q : Q (.bl (valV kvs k).isSome) H) : ∃ a' o, V.ref a = .ref a' ∧ DGet H a' (.ref b) o ∧ Q (.bl o.isSome) H := ⟨a, _, rfl, DGet.t e eb, q⟩
theorem st_ninT (e : H a = some (.dT kvs)) (eb : H b = some (.tup (k.map kV))) (q : Q (.bl (!(valV kvs k).isSome)) H) : ∃ a' o, V.ref a = .ref a' ∧ DGet H a' (.ref b) o ∧ Q (.bl (!o.isSome)) H := ⟨a, _, rfl, DGet.t e eb, q⟩
theorem st_putT (e : H a = some (.dT kvs)) (eb : H b = some (.tup (k.map kV))) (l : kvs.length < sizeLine) (q : R (upd H a (.dT (putK kvs k v)))) : ∃ a' H4, V.ref a = .ref a' ∧ DPut H a' (.ref b) v H4 ∧ R H4 := ⟨a, _, rfl, DPut.t e eb l, q⟩
theorem st_cputT (e : H a = some (.dT kvs)) (eb : H b = some (.tup (k.map kV))) (l : kvs.length < sizeLine) (q : R (upd H a (.dT (putK kvs k v)))) : ∃ H4, DPut H a (.ref b) v H4 ∧ R H4 := ⟨_, DPut.t e eb l, q⟩
end
/-! ### a dict as data -/
abbrev Dd := List (List Key × PyData)
def lookD (ms : Dd) (k : List Key) : Option PyData := (ms.find? fun m => decide (m.1 = k)).map (·.2)
def putD (ms : Dd) (k : List Key) (d : PyData) : Dd :=
  if (ms.any fun m => decide (m.1 = k)) = true then ms.map (fun m => if m.1 = k then (m.1, d) else m) else ms ++ [(k, d)]
def KD (H : Hp) : List (List Key × V) → Dd → Prop := Paired fun p m => p.1 = m.1 ∧ TD H p.2 m.2
theorem KD.mono {H H' : Hp} {kvs : List (List Key × V)} {ms : Dd} (r : KD H kvs ms) (t : Tp H H') : KD H' kvs ms := Paired.mapP r fun _ _ h => ⟨h.1, TD.mono t _ _ h.2⟩
theorem KD.length {H : Hp} {kvs : List (List Key × V)} {ms : Dd} (r : KD H kvs ms) : kvs.length = ms.length := Paired.length r
theorem KD.any {H : Hp} {kvs : List (List Key × V)} {ms : Dd} (r : KD H kvs ms) (k : List Key) : (kvs.any fun kv => decide (kv.1 = k)) = (ms.any fun m => decide (m.1 = k)) := by
  unfold KD at r
  induction r with
  | nil => rfl
  | cons h t ih => rw [List.any_cons, List.any_cons, ih, h.1]
theorem KD.put {H : Hp} {kvs : List (List Key × V)} {ms : Dd} (r : KD H kvs ms) (k : List Key) {v : V} {d : PyData} (t : TD H v d) : KD H (putK kvs k v) (putD ms k d) := by
  unfold putK putD
  rw [r.any k]
  by_cases q : (ms.any fun m => decide (m.1 = k)) = true
  · rw [if_pos q, if_pos q]
    clear q
    unfold KD at r ⊢
    induction r with
    | nil => exact .nil
    | @cons p m ps qs h t' ih =>
      rw [List.map_cons, List.map_cons]
      refine .cons ?_ ih
      by_cases e : p.1 = k
      · rw [if_pos e, if_pos (h.1.symm.trans e)]; exact ⟨h.1, t⟩
      · rw [if_neg e, if_neg (fun z => e (h.1.trans z))]; exact h
  · rw [if_neg q, if_neg q]
    exact Paired.snoc r ⟨rfl, t⟩
theorem KD.look {H : Hp} {kvs : List (List Key × V)} {ms : Dd} (r : KD H kvs ms) (k : List Key) : (lookD ms k = none ∧ valV kvs k = none) ∨ ∃ v d, lookD ms k = some d ∧ valV kvs k = some v ∧ TD H v d := by
  unfold KD at r
  induction r with
  | nil => exact .inl ⟨rfl, rfl⟩
  | @cons p m ps qs h t ih =>
    obtain ⟨h1, h2⟩ := h
    by_cases e : p.1 = k
    · refine .inr ⟨p.2, m.2, ?_, valV_pos e, h2⟩
      simp [lookD, List.find?_cons, h1.symm.trans e]
    · have e' : ¬ m.1 = k := fun z => e (h1.trans z)
      have b : lookD (m :: qs) k = lookD qs k := by simp [lookD, List.find?_cons, e']
      rw [valV_neg e, b]
      exact ih
theorem lookD_mem {ms : Dd} {k : List Key} {d : PyData} (h : lookD ms k = some d) : (k, d) ∈ ms := by
  unfold lookD at h
  obtain ⟨m, hm, rfl⟩ := Option.map_eq_some_iff.mp h
  have e := List.find?_some hm
  have e : m.1 = k := of_decide_eq_true e
  rw [← e]
  exact List.mem_of_find?_eq_some hm
theorem lookD_of {ms : Dd} (nd : (ms.map (·.1)).Nodup) {m : List Key × PyData} (hm : m ∈ ms) : lookD ms m.1 = some m.2 := by
  induction ms with
  | nil => exact nomatch hm
  | cons x ms ih =>
    rw [List.map_cons, List.nodup_cons] at nd
    unfold lookD
    rw [List.find?_cons]
    rcases List.mem_cons.mp hm with e | hm
    · subst e; simp
    · have n : ¬ x.1 = m.1 := fun e => nd.1 (by rw [e]; exact List.mem_map.mpr ⟨m, hm, rfl⟩)
      simp only [n, decide_false]
      exact ih nd.2 hm
theorem keys_put {ms : Dd} {k : List Key} {d : PyData} (nd : (ms.map (·.1)).Nodup) : ((putD ms k d).map (·.1)).Nodup := by
  unfold putD
  by_cases q : (ms.any fun m => decide (m.1 = k)) = true
  · rw [if_pos q, List.map_map]
    have : (fun m : List Key × PyData => (if m.1 = k then (m.1, d) else m).1) = fun m => m.1 := by
      funext m
      by_cases e : m.1 = k
      · rw [if_pos e]
      · rw [if_neg e]
    show (ms.map (fun m => (if m.1 = k then (m.1, d) else m).1)).Nodup
    rw [this]
    exact nd
  · rw [if_neg q, List.map_append, List.nodup_append]
    refine ⟨nd, by simp, ?_⟩
    intro x hx y hy e
    simp only [List.map_cons, List.map_nil, List.mem_singleton] at hy
    obtain ⟨m, hm, rfl⟩ := List.mem_map.mp hx
    exact q (List.any_eq_true.mpr ⟨m, hm, by simp [e, hy]⟩)
theorem all_put {F : PyData → Prop} {ms : Dd} {k : List Key} {d : PyData} (h : ∀ m ∈ ms, F m.2) (hd : F d) : ∀ m ∈ putD ms k d, F m.2 := by
  unfold putD
  by_cases q : (ms.any fun m => decide (m.1 = k)) = true
  · rw [if_pos q]
    intro m hm
    obtain ⟨x, hx, rfl⟩ := List.mem_map.mp hm
    by_cases e : x.1 = k
    · rw [if_pos e]; exact hd
    · rw [if_neg e]; exact h x hx
  · rw [if_neg q]
    intro m hm
    rcases List.mem_append.mp hm with hm | hm
    · exact h m hm
    · rw [List.mem_singleton.mp hm]; exact hd
theorem len_put {ms : Dd} {k : List Key} {d : PyData} : (putD ms k d).length ≤ ms.length + 1 := by
  unfold putD
  by_cases q : (ms.any fun m => decide (m.1 = k)) = true
  · rw [if_pos q, List.length_map]; omega
  · rw [if_neg q, List.length_append]; simp
/-- a dict with tuple keys at a -/
structure TabAt (H : Hp) (a : Addr) (ms : Dd) : Prop where
  ok : ∃ kvs, H a = some (.dT kvs) ∧ KD H kvs ms
structure GoodD (ms : Dd) : Prop where
  nd : (ms.map (·.1)).Nodup
  sh : ∀ m ∈ ms, SeqAt.shaped m.2 = true
theorem GoodD.put {ms : Dd} {k : List Key} {d : PyData} (g : GoodD ms) (h : SeqAt.shaped d = true) : GoodD (putD ms k d) := ⟨keys_put g.nd, all_put (F := fun d => SeqAt.shaped d = true) g.sh h⟩
theorem GoodD.nil : GoodD [] := ⟨List.nodup_nil, fun _ h => nomatch h⟩
theorem sameT_of {K : PySem.W.Frag} {H : Hp} {a b : Addr} {ms ls : Dd} (ta : TabAt H a ms) (tb : TabAt H b ls) (hl : ms.length = ls.length) (h : ∀ m ∈ ms, lookD ls m.1 = some m.2 ∧ SeqAt.shaped m.2 = true) : SameT K H (.ref a) (.ref b) := by
  obtain ⟨kvs, ha, ra⟩ := ta.ok
  obtain ⟨lvs, hb, rb⟩ := tb.ok
  refine ⟨a, b, kvs, lvs, rfl, rfl, ha, hb, by rw [ra.length, rb.length]; exact hl, ?_⟩
  clear ha hb hl ta tb
  unfold KD at ra
  induction ra with
  | nil => exact fun _ hp => nomatch hp
  | @cons p m ps qs hp t ih =>
    intro x hx
    rcases List.mem_cons.mp hx with e | hx
    · subst e
      obtain ⟨l, s⟩ := h m (by simp)
      rcases KD.look (show KD H lvs ls from rb) m.1 with ⟨n, _⟩ | ⟨v, d, e1, e2, e3⟩
      · rw [n] at l; exact nomatch l
      · rw [e1] at l
        cases l
        exact ⟨v, m.2, by rw [hp.1]; exact e2, TD.dp _ _ hp.2, TD.dp _ _ e3, s⟩
    · exact ih (fun m hm => h m (List.mem_cons_of_mem _ hm)) x hx
theorem sameT_eq {K : PySem.W.Frag} {H : Hp} {a b : Addr} {ms : Dd} (ta : TabAt H a ms) (tb : TabAt H b ms) (g : GoodD ms) : SameT K H (.ref a) (.ref b) :=
  sameT_of ta tb rfl fun m hm => ⟨lookD_of g.nd hm, g.sh m hm⟩
theorem TabAt.keep {H H' : Hp} {a : Addr} {ms : Dd} {fs : List Addr} (t : TabAt H a ms) (f : Fr fs H H') (h : a ∉ fs) : TabAt H' a ms := by
  obtain ⟨kvs, e, r⟩ := t.ok
  exact ⟨kvs, f.keep _ _ h e, r.mono f.tup⟩
/-! ### keys as data -/
def keyOf : PyData → Key
  | .int i => .inl i
  | .str x => .inr x
  | _ => .inl 0
def keysOf : PyData → List Key
  | .tuple ds => ds.map keyOf
  | _ => []
end Hq

/-! P7: own exceptions that are made without arguments and keep no field -/
namespace Hq
open PySem PySem.Spec PyProof.Rows L2
section
variable {X : Cx}
/-- the end of C(): the exception is let go; it has no dict -/
theorem none_end0 {pins : List (Addr × Obj)} {σ : L2.St} {H1 H2 : Hp} {hp hp2 h2 : Heap} {g1 g2 : Array GenState} {d1 d2 : Drawn} {t1 t2 : Nat} {os1 os2 : OsState} {a C : Addr} (I1 : Inv X pins σ H1 ⟨hp, g1, d1, t1, os1⟩)
    (ha : hp.objs.size ≤ a) (k : ∀ b o, hp.get? b = some o → hp2.get? b = some o) (un : Un (frs X.stack) [] (upd H1 a (exo a C none)) H2 hp2 h2) (hok : HOk X.prog X.w H2 h2) (ho : os2 = os1) (hb : AllBare g2)
    (ea : H2 a = some (exo a C none)) :
    ∃ (t0 : Addr) (G : Heap), Inv X pins σ (del H2 a) ⟨G, g2, d2, t2, os2⟩ ∧ (∀ b o, G.get? b = some o → h2.get? b = some o) ∧ G.get? a = none ∧
      h2.get? a = some ({ cls := .ref C, dict := none, data := .fields #[.ref t0, .none, .none, .none, .bool false, .none] } : Obj) := by
  obtain ⟨t0, hoe⟩ := exo_at hok ea
  have hn : H1 a = none := I1.hok.fresh ha
  obtain ⟨G, g1', g2'⟩ := restrict h2 fun b => decide (b ≠ a)
  have gk : ∀ b, b ≠ a → G.get? b = h2.get? b := fun b hb => g1' b (decide_eq_true hb)
  have ge : G.get? a = none := g2' a (by simp)
  have nha : ∀ {b : Addr} {o : Obj}, hp.get? b = some o → b ≠ a := fun {b o} z => Nat.ne_of_lt (Nat.lt_of_lt_of_le (Heap.lt_size z) ha)
  have up : ∀ {b : Addr}, b ≠ a → H1 b = none → upd H1 a (exo a C none) b = none := fun {b} hb n => by rw [upd_ne hb]; exact n
  have U : Un (frs X.stack) [] H1 (del H2 a) hp G := {
    keep := fun b o z n hf hx => by
      rw [gk b (nha z)]
      exact un.keep b o (k b o z) (up (nha z) n) hf hx
    slot := fun b o z n hf hx => by
      rw [gk b (nha z)]
      exact un.slot b o (k b o z) (up (nha z) n) hf hx
    free := fun b o z n hx => by
      rw [del_ne (nha z)]
      exact un.free b o (k b o z) (up (nha z) n) hx
    there := fun b o z hx => by
      rw [gk b (nha z)]
      exact un.there b o (k b o z) hx
    tups := fun b xs z => by
      rw [del_ne (ne_of_none z hn)]
      exact un.tups b xs (by rw [upd_ne (ne_of_none z hn)]; exact z)
    frzs := fun b o v z => by
      rw [del_ne (ne_of_none z hn)]
      exact un.frzs b o v (by rw [upd_ne (ne_of_none z hn)]; exact z)
    tbls := fun b ps z => by
      rw [del_ne (ne_of_none z hn)]
      exact un.tbls b ps (by rw [upd_ne (ne_of_none z hn)]; exact z) }
  have hok3 : HOk X.prog X.w (del H2 a) G := fun b o z => by
    have hba : b ≠ a := fun e => by
      rw [e, del_same] at z
      cases z
    rw [del_ne hba] at z
    have noa : ∀ {c : Addr}, H2 c = some (.own b) → c ≠ a := fun {c} hc => at_ne ea hc exo_own
    exact (hok b o z).stay (fun c v hc y => by
        have hca : c ≠ a := by
          rcases hc with hc | hc
          · rw [hc]
            exact hba
          · exact noa hc
        rw [gk c hca]
        exact y)
      (fun c hc => by rw [del_ne (noa hc)]; exact hc) (fun c xs hc => by rw [del_ne (at_ne ea hc exo_tup)]; exact hc)
  have J : Inv X pins σ (del H2 a) ⟨G, g2, d2, t2, os2⟩ := I1.call' (ch := []) ho U hok3 hb (fun b z => absurd z (by simp))
  refine ⟨t0, G, J, fun b o z => ?_, ge, hoe⟩
  by_cases hba : b = a
  · rw [hba, ge] at z
    cases z
  · exact (gk b hba).symm.trans z
theorem none_end {pins : List (Addr × Obj)} {σ : L2.St} {H1 H2 : Hp} {Q : XK} {hp hp2 h2 : Heap} {g1 g2 : Array GenState} {d1 d2 : Drawn} {t1 t2 : Nat} {os1 os2 : OsState} {a C : Addr} (T : Raises X (.ref C)) (I1 : Inv X pins σ H1 ⟨hp, g1, d1, t1, os1⟩)
    (ha : hp.objs.size ≤ a) (k : ∀ b o, hp.get? b = some o → hp2.get? b = some o) (un : Un (frs X.stack) [] (upd H1 a (exo a C none)) H2 hp2 h2) (hok : HOk X.prog X.w H2 h2) (ho : os2 = os1) (hb : AllBare g2)
    (ea : H2 a = some (exo a C none)) (q : Q (.ref C) none (del H2 a)) : MkP X pins σ Q (.ref a) ⟨h2, g2, d2, t2, os2⟩ := by
  obtain ⟨t0, G, J, kG, ge, hoe⟩ := none_end0 (d2 := d2) (t2 := t2) I1 ha k un hok ho hb ea
  exact ⟨a, _, _, ⟨G, g2, d2, t2, os2⟩, _, .ref C, none, rfl, J, kG, ge, hoe, ⟨rfl, rfl⟩, rfl, rfl, del_same, rfl, hb, T, q⟩
/-- what an __init__ that stores nothing promises -/
def spErr0 (K : PySem.W.Frag) : Sp := fun vs H Q _ => ∃ (a C : Addr), vs = [.ref a] ∧ OexC K C ∧ H a = some (exo a C none) ∧ Q .non H
/-- an error class that is made without arguments -/
structure En (P : Program) (w : World) (K : PySem.W.Frag) (mg : Str → Option Value) (base : Heap) (x : Str) (C : Addr) (k : Nat) : Prop where
  mgC : mg x = some (.ref C)
  oex : OexC K C
  ok : ∃ f fd, FnOk P w K mg base (L2.CX P w) k f fd ["self"] (spErr0 K) ∧ PySem.W.findIn K (.ref C) "__init__" = some (some (.ref f)) ∧ PySem.W.typeIn K (.ref f) = some (.type "function") ∧ Binds K fd ["self"] []
theorem del_upd {H : Hp} {a : Addr} {o : HO} (h : H a = none) : del (upd H a o) a = H := by
  funext b
  by_cases e : b = a
  · rw [e, del_same, h]
  · rw [del_ne e, upd_ne e]
theorem pmk_err0 {x : Str} {C : Addr} {k : Nat} {p pos : Pos} (D : En X.prog X.w X.K X.mg X.base x C k) (hr : Room (k + 1) X.A) (hx : Passes (L2.CX X.prog X.w) X (fun _ _ _ => False)) (hg : Gl X x) (hdb : (x == ("__debug__" : Str)) = false := by decide) :
    PMk X (.Call (.Name x p) [] [] pos) (fun σ H Q => Q (.ref C) none H) := by
  intro pins s σ H Q I h
  obtain ⟨fI, fd, F1, iC, tI, hb⟩ := D.ok
  have T := D.oex
  obtain ⟨nm, q, N, bs, bm, sn, sub, ab, col, dd, k0, k1, k2, k3, k5, hC, hbm⟩ := T.cls
  refine wpAny_Call_Name_kw (ld_glob I hg D.mgC ?_ hdb)
  refine PySem.W.callWith_K0 I.kIn T.kC ?_
  obtain ⟨hp, g, dr, tk, os⟩ := s
  have hsz : hp.objs.size ≤ hp.objs.size + 1 := Nat.le_succ _
  have hn : H (hp.objs.size + 1) = none := I.hok.fresh hsz
  have kk : ∀ b o, hp.get? b = some o → ((hp.push (PySem.W.kdv_tup [])).push (PySem.HandSPX.excO C hp.objs.size)).get? b = some o := fun b o e => Heap.get?_push_of_some _ (Heap.get?_push_of_some _ e)
  have hget : ((hp.push (PySem.W.kdv_tup [])).push (PySem.HandSPX.excO C hp.objs.size)).get? (hp.objs.size + 1) = some (PySem.HandSPX.excO C hp.objs.size) := by heap_get
  have I2 : Inv X pins σ (upd H (hp.objs.size + 1) (exo (hp.objs.size + 1) C none)) ⟨(hp.push (PySem.W.kdv_tup [])).push (PySem.HandSPX.excO C hp.objs.size), g, dr, tk, os⟩ :=
    I.laid (t' := tk) (a := hp.objs.size + 1) (o := exo (hp.objs.size + 1) C none) (h' := (hp.push (PySem.W.kdv_tup [])).push (PySem.HandSPX.excO C hp.objs.size)) kk hsz (exo_ok hget)
  have hq : spErr0 X.K [.ref (hp.objs.size + 1)] (upd H (hp.objs.size + 1) (exo (hp.objs.size + 1) C none)) (fun v H2 => v = .non ∧ H2 (hp.objs.size + 1) = some (exo (hp.objs.size + 1) C none) ∧ Q (.ref C) none (del H2 (hp.objs.size + 1))) (fun _ _ _ => False) :=
    ⟨_, C, rfl, T, upd_same, rfl, upd_same, by rw [del_upd hn]; exact h⟩
  refine wpAny_call (PySem.HandSPX.call_own F.excBase_ValueError (fun Y => PySem.HandSPX.refsVE_contains Y bm hbm) (I.kIn _ _ hC) (PySem.W.looks_findIn I.kIn iC) (fun self => PySem.W.bind_fn I.kIn self tI) (Nat.zero_le _)
    (codeAny_mono (F1.run _ X.stack _ _ ⟨[Value.ref (hp.objs.size + 1)], []⟩ [Value.ref (hp.objs.size + 1)] [V.ref (hp.objs.size + 1)] _ (fun _ _ _ => False) (hr.make C [] []) (I2.env0.make C [] []) (hb _ [Value.ref (hp.objs.size + 1)] I2.kIn rfl) (.cons rfl .nil) hq) fun r s' hq' => ?_))
  cases r with
  | error er => exact hx pins σ _ _ er s' I2 hq'
  | ok fl =>
    cases fl with
    | ret u =>
      obtain ⟨v, H2, os2, bare2, un2, hok2, rv, ev, ea, q2⟩ := hq'
      subst ev
      obtain ⟨h2, g2, d2, t2, os'⟩ := s'
      exact ⟨rv, none_end (raises_own T.exC T.tyC) I hsz kk un2 hok2 os2 bare2 ea q2⟩
    | next => exact False.elim hq'
    | brk => exact False.elim hq'
    | cont => exact False.elim hq'
end
/-- a def's body out of which errors may go -/
theorem okE {P : Program} {w : World} {K : PySem.W.Frag} {mg : Str → Option Value} {base : Heap} {x qual : Str} {st : Stmt} {f : Addr} {fd : FuncData} {N ps : List Str} {k : Nat} {sp : Sp} (F : Fun K x qual st f fd) (S : FnScope N ps (defScope st))
    (len : ∀ vs H Q E, sp vs H Q E → vs.length = ps.length)
    (hb : ∀ (cdv : Value) (A : Around) (outer : List Env) (s : Shared) (H : Hp) (vs : List V) (Q : VK) (E : XK), Room k (A.deeper (envOfC qual (defScope st) s.heap.objs.size f cdv)) → sp vs H Q E →
      ∃ t σ, L2.start N vs = σ ∧ PSs (cxOf (L2.CX P w) P w K mg base N qual (defScope st) f cdv A outer s H E) (defBody st) t ∧ t { nx := fun _ H' => Q .non H', rt := Q } σ H) : FnOk P w K mg base (L2.CX P w) (k + 1) f fd ps sp :=
  F.okX S len fun cdv A outer s H vs Q E hr hs => by
    obtain ⟨t, σ, e, h, q⟩ := hb cdv A outer s H vs Q E hr hs
    cases e
    exact ⟨t, h, q⟩
theorem passE {P : Program} {w : World} {K : PySem.W.Frag} {mg : Str → Option Value} {base : Heap} {N : List Str} {qual : Str} {sc : Scope} {f : Addr} {cdv : Value} {A : Around} {outer : List Env} {s : Shared} {H : Hp} {E : XK} :
    Passes (L2.CX P w) (cxOf (L2.CX P w) P w K mg base N qual sc f cdv A outer s H E) E :=
  passes_call (X := cxOf (L2.CX P w) P w K mg base N qual sc f cdv A outer s H E) (W := fun cls d _ H => E cls d H) (takes_of rfl rfl rfl rfl) fun _ _ _ _ h => h
theorem takesE {P : Program} {w : World} {K : PySem.W.Frag} {mg : Str → Option Value} {base : Heap} {N : List Str} {qual : Str} {sc : Scope} {f : Addr} {cdv : Value} {A : Around} {outer : List Env} {s : Shared} {H : Hp} {E : XK} :
    Takes (cxOf (L2.CX P w) P w K mg base N qual sc f cdv A outer s H E) (fun cls d _ H => E cls d H) := takes_of rfl rfl rfl rfl
/-- raise C(), out of the def -/
theorem ps_err0 {P : Program} {w : World} {K : PySem.W.Frag} {mg : Str → Option Value} {base : Heap} {N : List Str} {qual : Str} {sc : Scope} {f : Addr} {cdv : Value} {A : Around} {outer : List Env} {s : Shared} {H : Hp} {E : XK} {x : Str} {C : Addr} {k : Nat} {p pos pos' : Pos}
    (D : En P w K mg base x C k) (hr : Room (k + 1) (cxOf (L2.CX P w) P w K mg base N qual sc f cdv A outer s H E).A) (hg : Gl (cxOf (L2.CX P w) P w K mg base N qual sc f cdv A outer s H E) x) (hdb : (x == ("__debug__" : Str)) = false := by decide) :
    PS (cxOf (L2.CX P w) P w K mg base N qual sc f cdv A outer s H E) (.Raise (some (.Call (.Name x p) [] [] pos)) none pos') (fun _ _ H' => E (.ref C) none H') :=
  L2.ps_raise (X := cxOf (L2.CX P w) P w K mg base N qual sc f cdv A outer s H E) rfl takesE (pmk_err0 D hr passL hg hdb)
end Hq

/-! P8: (x,) * n for any n, three names set at once -/
namespace Hq
open PySem PySem.Spec PyProof.Rows L2
open AutoSeq1 (wpAny_loadPart')
theorem tup_mul1 (l : Addr) (items : Array Value) (n : Nat) (dd : Option Addr) (sl : Array (Option Value)) (u : Tok) (c : items.isEmpty = false) :
    Meets (Builtin.«tuple.__mul__» ⟨[.ref l, .int 1 u], []⟩) (fun _ R s => s.heap.get? l = some { cls := .type "tuple", dict := dd, data := .seq items n, slots := sl } ∧
      R (.ok (.ret (Value.ref l))) s) :=
  .of_wp fun prog w A R s h => by
    obtain ⟨hp, g, d, tk, os⟩ := s
    obtain ⟨hl, h⟩ := h
    have f1 := AutoSeq1.idx_int
    wp_walk using wpAny_loadPart' hl
    exact ⟨_, rfl, h⟩
theorem tup_mul0 (l : Addr) (items : Array Value) (n : Nat) (dd : Option Addr) (sl : Array (Option Value)) (u : Tok) (c : items.isEmpty = false) :
    Meets (Builtin.«tuple.__mul__» ⟨[.ref l, .int 0 u], []⟩) (fun _ R s => s.heap.get? l = some { cls := .type "tuple", dict := dd, data := .seq items n, slots := sl } ∧
      R (.ok (.ret (Value.ref s.heap.objs.size))) { s with heap := s.heap.push { cls := Value.type "tuple", data := Data.seq #[] }, toks := s.toks }) :=
  .of_wp fun prog w A R s h => by
    obtain ⟨hp, g, d, tk, os⟩ := s
    obtain ⟨hl, h⟩ := h
    have f1 := AutoSeq1.idx_int
    wp_walk using wpAny_loadPart' hl
    repeat (first
      | (refine wpAny_ite_false (decide_eq_false (by rw [c]; decide)) ?_; wp_walk using wpAny_loadPart' hl))
    exact ⟨_, rfl, h⟩
/-- a tuple that is not empty, so many times -/
def rRepN (K : PySem.W.Frag) : R2 := fun x y H Q => ∃ (l : Addr) (k : Nat) (xs : List V), x = .ref l ∧ y = .int k ∧ SqT K H l xs ∧ xs ≠ [] ∧ k ≤ 1000 ∧ xs.length ≤ 1000 ∧ (k = 1 → Q (.ref l) H) ∧ (k ≠ 1 → ∀ p, H p = none → Q (.ref p) (upd H p (.tup (List.replicate k xs).flatten)))
section
variable {X : Cx} {K : PySem.W.Frag}
theorem op_repN : OpR X (binaryOp .Mult) (rRepN X.K) := by
  intro pins s σ H x y v u Q I rx ry h
  obtain ⟨l, k, xs, rfl, rfl, hT, hne, h2, hz, q1, q⟩ := h
  rcases Nat.lt_trichotomy k 1 with hk | hk | hk
  · obtain rfl : k = 0 := by omega
    cases rx
    obtain ⟨t, rfl⟩ := ry
    obtain ⟨its, r, ⟨⟨cls, dd, data, sl⟩, ho, hc, n, hd⟩, hs⟩ := I.tuple hT
    simp only at hc hd
    subst hc hd
    have hle : its.length = xs.length := r.length.symm
    have hi : its.toArray.isEmpty = false := by
      cases its with
      | nil => exact absurd (List.eq_nil_of_length_eq_zero hle.symm) hne
      | cons a b => rfl
    refine wpAny_binaryOp_repeat_ref (T := "tuple") (U := "int") (by decide) ⟨_, ho, rfl⟩ (fun s' => typeIs_int s' 0 t) noFill_tuple_mul F.fills_int_mul F.slot_int_rmul repeat_tuple F.slot_int_index.lookup
      (call_meets F.slot_int_rmul (typeIs_int s 0 t) F.entry_int_rmul (F.args_int_rmul_2 _ _) (int_rmul_tuple 0 t l its.toArray n dd sl)
        ⟨ho, rfl, ⟨_, ho, rfl⟩, call_meets F.slot_tuple_mul ⟨_, ho, rfl⟩ F.entry_tuple_mul (F.args_tuple_mul_2 _ _) (tup_mul0 l its.toArray n dd sl t hi) ⟨ho, ?_⟩⟩)
    refine ⟨.ref s.heap.objs.size, _, I.laid (t' := s.toks) (o := .tup (List.replicate 0 xs).flatten) (fun b ob q => Heap.get?_push_of_some _ q) (Nat.le_refl _) ?_, rfl, q (by decide) _ (I.hok.fresh (Nat.le_refl _))⟩
    exact ⟨Nat.zero_le _, [], .nil, IsTup.new _ _⟩
  · subst hk
    cases rx
    obtain ⟨t, rfl⟩ := ry
    obtain ⟨its, r, ⟨⟨cls, dd, data, sl⟩, ho, hc, n, hd⟩, hs⟩ := I.tuple hT
    simp only at hc hd
    subst hc hd
    have hle : its.length = xs.length := r.length.symm
    have hi : its.toArray.isEmpty = false := by
      cases its with
      | nil => exact absurd (List.eq_nil_of_length_eq_zero hle.symm) hne
      | cons a b => rfl
    refine wpAny_binaryOp_repeat_ref (T := "tuple") (U := "int") (by decide) ⟨_, ho, rfl⟩ (fun s' => typeIs_int s' 1 t) noFill_tuple_mul F.fills_int_mul F.slot_int_rmul repeat_tuple F.slot_int_index.lookup
      (call_meets F.slot_int_rmul (typeIs_int s 1 t) F.entry_int_rmul (F.args_int_rmul_2 _ _) (int_rmul_tuple 1 t l its.toArray n dd sl)
        ⟨ho, rfl, ⟨_, ho, rfl⟩, call_meets F.slot_tuple_mul ⟨_, ho, rfl⟩ F.entry_tuple_mul (F.args_tuple_mul_2 _ _) (tup_mul1 l its.toArray n dd sl t hi) ⟨ho, ?_⟩⟩)
    exact ⟨.ref l, _, I, rfl, q1 rfl⟩
  · exact op_repT pins s σ H _ _ v u Q I rx ry ⟨l, k, xs, rfl, rfl, hT, hne, by omega, by omega, hz, q (by omega)⟩
theorem kRepN (h : X.K = K := by rfl) : OpR X (binaryOp .Mult) (rRepN K) := by cases h; exact op_repN
end
theorem st_par3 {tA : TA} {i j l : Nat} {D : Ends} {σ : L2.St} {H : Hp} (q : tA σ H fun vs H1 => ∃ u v w, vs = [u, v, w] ∧ D.nx (((σ.set i (some u)).set j (some v)).set l (some w)) H1) : tPar3 i j l tA D σ H := q
/-! ### enumerate(a list) -/
theorem kEnum {X : Cx} {K : PySem.W.Frag} {e : Expr} {ta : TA} {p pos tpos : Pos} {elts : List Expr} {kk : Nat} (hg : Gl X "enumerate") (hm : X.mg "enumerate" = none) (ha : PA X [e] ta) (hs : starEach [e] X.env = [(false, eval e X.env)] := by rfl) (h : X.K = K := by rfl) :
    PI X (.Tuple elts kk tpos) (.Call (.Name "enumerate" p) [e] [] pos) (iEnum K ta) := by
  cases h
  exact pi_enum hg hm ha hs
theorem st_iE {K : PySem.W.Frag} {ta : TA} {σ : L2.St} {H : Hp} {R : It → Hp → Prop} (q : ta σ H fun vs H1 => ∃ a xs, vs = [.ref a] ∧ SqL K H1 a xs ∧ R (Ite K a) H1) : iEnum K ta σ H R := q
end Hq

/-! P9: the end of a law whose defs hold lambdas: their tables are empty at the start -/
namespace Hq
open PySem PySem.Spec PyProof.Rows L2 LamX
/-- each def at the top has an empty table -/
def OwnTabs (q : Program) (K : PySem.W.Frag) (mg : Str → Option Value) (h : Heap) : Prop := ∀ (x : Str) (f : Addr), ((recsOf q).any fun e => e.name == x) = true → mg x = some (.ref f) → OwnTab K f h
theorem walk_ofOwns {l : PySem.W.OpenLaw} {n k : Nat} {q : Program} {loose : List Str} {XP : (Str → Option Value) → Heap → Prop} {YP : World → Heap → Prop} {d : DefRec} {K : Params → PySem.W.Frag} {CX : World → CXT} {x : Str}
    (hn : l.most = some n) (hn2 : n ≤ sizeLine) (hdf : d.params.defaults = []) (hr : Room k callerA) (hY : ∀ (w : World) (h : Heap), YP w h → (K w.params).In h)
    (F : ∀ (w : World) (mg : Str → Option Value) (fa : Addr) (h : Heap), YP w h → (K w.params).In h → h.Ns mainGlobals mg → mg d.name = some (.ref fa) → OwnTabs q (K w.params) mg h → LawAtS l w (K w.params) (CX w) k n x mg fa h)
    (hCX : ∀ (w : World) (H : Hp) (s : Shared) (e : Value) (s' : Shared), CX w [] H s (fun _ _ _ => False) e s' → False) :
    PySem.W.WalkO q loose XP YP l.row.toRowW d [] (fun f vs => PySem.call f vs) := by
  refine Att.attach_callB hn hdf fun w s₀ s₁ mg mb fa o pm cd doc a vs ns G Y ho hd hcd hmg hobj hints hlen hbits hg => ?_
  have KX := hY w _ Y
  have own : OwnTabs q (K w.params) mg s₁.heap := fun y f hrec hmy c P o1 fd1 e dd vs1 sl k1 k2 k3 k4 k5 => by
    obtain ⟨dL, hm, hn1⟩ := List.any_eq_true.mp hrec
    have hn2 : dL.name = y := beq_iff_eq.mp hn1
    obtain ⟨a', o', fd', c', P', h1, h2, h3, h4, h5, h6⟩ := G.T.tab dL hm
    rw [hn2, hmy] at h1
    cases h1
    have g1 := KX _ _ k1
    rw [g1] at h2
    cases h2
    rw [k2] at h3
    cases h3
    rw [k3] at h4
    cases h4
    obtain ⟨⟨oc, vc, e1, _, e3, e4⟩, hP⟩ := h6
    have g2 := KX _ _ k4
    rw [g2] at e1
    cases e1
    cases e3
    rw [k5] at e4
    cases e4
    exact hP
  obtain ⟨fd, cs, sp, hT, nT, C, hb, hsp, hF⟩ := F w mg fa _ Y KX G.T.g hmg own
  exact law_callTs KX G.T.g G.T.b G.T.builtins G.T.nolimit hg hT nT C G.T.bmain hobj hints (Nat.le_trans hlen hn2) hr hF hb (fun H hH hS => hsp H a ns hlen hbits hH hS) fun H e s' => hCX w H s₁ e s'
section
variable {P1 P2 : Addr} {x y : Str}
theorem tb_m1 : (P1, x) ∈ [(P1, x), (P2, y)] := List.mem_cons_self
theorem tb_m2 : (P2, y) ∈ [(P1, x), (P2, y)] := List.mem_cons_of_mem _ List.mem_cons_self
theorem tb_u1 (ne : P1 ≠ P2) : ∀ p ∈ [(P1, x), (P2, y)], p.1 = P1 → p.2 = x := fun p hp e => by
  rcases List.mem_cons.mp hp with rfl | hp
  · rfl
  · rw [List.mem_singleton.mp hp] at e
    exact absurd e.symm ne
theorem tb_u2 (ne : P1 ≠ P2) : ∀ p ∈ [(P1, x), (P2, y)], p.1 = P2 → p.2 = y := fun p hp e => by
  rcases List.mem_cons.mp hp with rfl | hp
  · exact absurd e ne
  · rw [List.mem_singleton.mp hp]
theorem tb_1 : (P1, x) ∈ [(P1, x)] := List.mem_cons_self
theorem tb_u (p : Addr × Str) (hp : p ∈ [(P1, x)]) (_ : p.1 = P1) : p.2 = x := by rw [List.mem_singleton.mp hp]
end
section
variable {P1 P2 c1 c2 : Addr}
theorem tc_m1 : (c1, P1) ∈ [(c1, P1), (c2, P2)] := List.mem_cons_self
theorem tc_m2 : (c2, P2) ∈ [(c1, P1), (c2, P2)] := List.mem_cons_of_mem _ List.mem_cons_self
theorem tc_1 : (c1, P1) ∈ [(c1, P1)] := List.mem_cons_self
end
end Hq

/-! P10: any value by its kind: data, or something else -/
namespace Hq
open PySem PySem.Spec PyProof.Rows L2
inductive JD where
  | none | bool (b : Bool) | int (i : Int) | str (s : Str) | tuple (ds : List JD) | other
/-- a list, a dict, an instance -/
inductive Oth (K : PySem.W.Frag) : HO → Value → Prop
  | lst (xs : List V) : Oth K (.lst xs) (.type "list")
  | dK (kvs : List (Key × V)) : Oth K (.dK kvs) (.type "dict")
  | dT (kvs : List (List Key × V)) : Oth K (.dT kvs) (.type "dict")
  | ins {C : Addr} (dx : Addr) (fs : List (Str × V)) (cl : Cls K C) (ha : PySem.W.findIn K (.ref C) "__class__" = some (some (.builtin "object.__class__")))
      (hn : PySem.W.specialIn K (.builtin "object.__class__") "__get__" = some (some (.builtin "getset_descriptor.__get__"))) (htk : PySem.W.takesIn K (.builtin "object.__class__") = some true)
      (hm : PySem.W.mroIn K C (.type "object") = some true) : Oth K (.ins C dx fs) (.ref C)
theorem Oth.ty {K : PySem.W.Frag} {H : Hp} {a : Addr} {o : HO} {t : Value} (h : Oth K o t) (e : H a = some o) : TyX K H (.ref a) t := by
  cases h with
  | lst xs => exact .base (.lst e)
  | dK kvs => exact .base (.dK e)
  | dT kvs => exact .base (.dT e)
  | ins dx fs cl ha hn htk hm => exact .base (.ins e cl ha hn htk hm)
theorem Oth.noTbl {K : PySem.W.Frag} {o : HO} {t : Value} (h : Oth K o t) : ∀ ps, o ≠ .tbl ps := by
  intro ps z
  cases h <;> exact nomatch z
mutual
/-- v is d; what is else lies not in B, and is of none of the classes us -/
inductive AD (K : PySem.W.Frag) (us : List Value) (B : List Addr) (H : Hp) : V → JD → Prop
  | non : AD K us B H .non .none
  | bl (b : Bool) : AD K us B H (.bl b) (.bool b)
  | int (i : Int) : AD K us B H (.int i) (.int i)
  | str (x : Str) : AD K us B H (.str x) (.str x)
  | tup {a : Addr} {xs : List V} {ds : List JD} : H a = some (.tup xs) → ADs K us B H xs ds → AD K us B H (.ref a) (.tuple ds)
  | oth {a : Addr} {o : HO} {t : Value} : H a = some o → a ∉ B → Oth K o t → (∀ u ∈ us, PySem.W.kitOne K t u = some false) → AD K us B H (.ref a) .other
inductive ADs (K : PySem.W.Frag) (us : List Value) (B : List Addr) (H : Hp) : List V → List JD → Prop
  | nil : ADs K us B H [] []
  | cons {v : V} {vs : List V} {d : JD} {ds : List JD} : AD K us B H v d → ADs K us B H vs ds → ADs K us B H (v :: vs) (d :: ds)
end
/-- what stands outside B stays, but for tables -/
def KeepB (B : List Addr) (H H' : Hp) : Prop := ∀ a o, a ∉ B → H a = some o → (∀ ps, o ≠ .tbl ps) → H' a = some o
theorem Fr.keepB {ms B : List Addr} {H H' : Hp} (f : Fr ms H H') (h : ∀ x ∈ ms, x ∈ B) : KeepB B H H' := fun a o n e _ => f.keep a o (fun z => n (h a z)) e
theorem keepB_ext {B : List Addr} {H H' : Hp} (e : LamX.ExtN H H') : KeepB B H H' := fun a o _ h n => e a o h n
theorem tp_ext {H H' : Hp} (e : LamX.ExtN H H') : Tp H H' := fun a _ h => e a _ h (fun _ z => nomatch z)
mutual
theorem AD.mono {K : PySem.W.Frag} {us : List Value} {B : List Addr} {H H' : Hp} (t : Tp H H') (k : KeepB B H H') : ∀ (d : JD) (v : V), AD K us B H v d → AD K us B H' v d
  | .none, _, h => by cases h; exact .non
  | .bool _, _, h => by cases h; exact .bl _
  | .int _, _, h => by cases h; exact .int _
  | .str _, _, h => by cases h; exact .str _
  | .tuple ds, _, h => by
    cases h with
    | tup e hs => exact .tup (t _ _ e) (ADs.mono t k ds _ hs)
  | .other, _, h => by
    cases h with
    | oth e n o us => exact .oth (k _ _ n e o.noTbl) n o us
theorem ADs.mono {K : PySem.W.Frag} {us : List Value} {B : List Addr} {H H' : Hp} (t : Tp H H') (k : KeepB B H H') : ∀ (ds : List JD) (vs : List V), ADs K us B H vs ds → ADs K us B H' vs ds
  | [], _, h => by cases h; exact .nil
  | d :: ds, _, h => by
    cases h with
    | cons a b => exact .cons (AD.mono t k d _ a) (ADs.mono t k ds _ b)
end
mutual
theorem AD.less {K : PySem.W.Frag} {us : List Value} {B B' : List Addr} {H : Hp} (hB : ∀ x ∈ B', x ∈ B) : ∀ (d : JD) (v : V), AD K us B H v d → AD K us B' H v d
  | .none, _, h => by cases h; exact .non
  | .bool _, _, h => by cases h; exact .bl _
  | .int _, _, h => by cases h; exact .int _
  | .str _, _, h => by cases h; exact .str _
  | .tuple ds, _, h => by
    cases h with
    | tup e hs => exact .tup e (ADs.less hB ds _ hs)
  | .other, _, h => by
    cases h with
    | oth e n o us => exact .oth e (fun z => n (hB _ z)) o us
theorem ADs.less {K : PySem.W.Frag} {us : List Value} {B B' : List Addr} {H : Hp} (hB : ∀ x ∈ B', x ∈ B) : ∀ (ds : List JD) (vs : List V), ADs K us B H vs ds → ADs K us B' H vs ds
  | [], _, h => by cases h; exact .nil
  | d :: ds, _, h => by
    cases h with
    | cons a b => exact .cons (AD.less hB d _ a) (ADs.less hB ds _ b)
end
mutual
def ofP : PyData → JD
  | .none => .none
  | .bool b => .bool b
  | .int i => .int i
  | .str s => .str s
  | .tuple ds => .tuple (ofPs ds)
  | _ => .other
def ofPs : List PyData → List JD
  | [] => []
  | d :: ds => ofP d :: ofPs ds
end
theorem ofPs_map : ∀ ds : List PyData, ofPs ds = ds.map ofP
  | [] => rfl
  | d :: ds => by rw [ofPs, ofPs_map ds, List.map_cons]
mutual
theorem TD.ad {K : PySem.W.Frag} {us : List Value} {B : List Addr} {H : Hp} : ∀ (d : PyData) (v : V), TD H v d → AD K us B H v (ofP d)
  | .none, _, h => by cases h; exact .non
  | .bool _, _, h => by cases h; exact .bl _
  | .int _, _, h => by cases h; exact .int _
  | .str _, _, h => by cases h; exact .str _
  | .tuple ds, _, h => by
    cases h with
    | tup e hs => exact .tup e (TDs.ad ds _ hs)
  | .list _, _, h => by cases h
  | .dict _, _, h => by cases h
theorem TDs.ad {K : PySem.W.Frag} {us : List Value} {B : List Addr} {H : Hp} : ∀ (ds : List PyData) (vs : List V), TDs H vs ds → ADs K us B H vs (ofPs ds)
  | [], _, h => by cases h; exact .nil
  | d :: ds, _, h => by
    cases h with
    | cons a b => exact .cons (TD.ad d _ a) (TDs.ad ds _ b)
end
section
variable {K : PySem.W.Frag} {us : List Value} {B : List Addr} {H : Hp} {v : V} {d : JD} {vs : List V} {ds : List JD} {i : Nat}
theorem ADs.length (h : ADs K us B H vs ds) : vs.length = ds.length := by
  induction ds generalizing vs with
  | nil => cases h; rfl
  | cons d ds ih =>
    cases h with
    | cons _ b => rw [List.length_cons, List.length_cons, ih b]
theorem ADs.at_ (h : ADs K us B H vs ds) (e : vs[i]? = some v) : ∃ d, ds[i]? = some d ∧ AD K us B H v d := by
  induction ds generalizing vs i with
  | nil => cases h; cases e
  | cons d ds ih =>
    cases h with
    | cons a b =>
      cases i with
      | zero => cases e; exact ⟨d, rfl, a⟩
      | succ i => exact ih b e
/-- isinstance of what is else -/
theorem st_isiO {a : Addr} {o : HO} {t : Value} {n : String} {Q : VK} (e : H a = some o) (h : Oth K o t) (hu : ∀ u ∈ us, PySem.W.kitOne K t u = some false) (hn : Value.type n ∈ us) (q : Q (.bl false) H) : rIsi K [.ref a, .ty n] H Q :=
  ⟨.ref a, .ty n, t, _, false, rfl, .ty n, h.ty e, hu _ hn, q⟩
end
theorem fn_or {P : Program} {w : World} {K : PySem.W.Frag} {mg : Str → Option Value} {base : Heap} {CX : CXT} {f : Addr} {fd : FuncData} {k : Nat} {ps : List Str} {sp sp' : Sp} (h : FnOk P w K mg base CX k f fd ps sp) (h' : FnOk P w K mg base CX k f fd ps sp') :
    FnOk P w K mg base CX k f fd ps (fun vs H Q E => sp vs H Q E ∨ sp' vs H Q E) :=
  ⟨fun vs H Q E q => q.elim (h.len vs H Q E) (h'.len vs H Q E), fun A outer s H args us vs Q E hr he hb hv q => q.elim (h.run A outer s H args us vs Q E hr he hb hv) (h'.run A outer s H args us vs Q E hr he hb hv)⟩
/-- a def's promise weakened -/
theorem fn_weak {P : Program} {w : World} {K : PySem.W.Frag} {mg : Str → Option Value} {base : Heap} {CX : CXT} {f : Addr} {fd : FuncData} {k : Nat} {ps : List Str} {sp sp' : Sp} (h : FnOk P w K mg base CX k f fd ps sp) (i : ∀ vs H Q E, sp' vs H Q E → sp vs H Q E) : FnOk P w K mg base CX k f fd ps sp' :=
  ⟨fun vs H Q E q => h.len vs H Q E (i _ _ _ _ q), fun A outer s H args us vs Q E hr he hb hv q => h.run A outer s H args us vs Q E hr he hb hv (i _ _ _ _ q)⟩
theorem Dn.weak {P : Program} {w : World} {K : PySem.W.Frag} {mg : Str → Option Value} {base : Heap} {x : Str} {k : Nat} {ps : List Str} {sp sp' : Sp} (h : Dn P w K mg base x k ps sp) (i : ∀ vs H Q E, sp' vs H Q E → sp vs H Q E) : Dn P w K mg base x k ps sp' := by
  obtain ⟨f, fd, ok, a, b, c⟩ := h.ok
  exact ⟨⟨f, fd, fn_weak ok i, a, b, c⟩⟩
end Hq

/-! P11: list.count of flat items -/
namespace Hq
open PySem PySem.Spec PyProof.Rows L2
def rCntF (K : PySem.W.Frag) : V → List V → Hp → VK → Prop := fun x xs H Q => ∃ (p : Addr) (ys : List V) (y : V), x = .ref p ∧ xs = [y] ∧ SqL K H p ys ∧ flatV y = true ∧ ys.all flatV = true ∧ Q (.int (ys.countP fun z => eqV z y : Nat)) H
theorem count_flat {y : V} {uy : Value} {e : Value → Bool} : ∀ {ys : List V} {us : List Value}, Vals ys us → ys.all flatV = true → (∀ z u, RelV z u → flatV z = true → e u = eqV z y) → us.countP e = ys.countP fun z => eqV z y
  | [], _, h, _, _ => by cases h; rfl
  | z :: ys, _, h, f, k => by
    cases h with
    | cons a b =>
      rw [List.all_cons, Bool.and_eq_true] at f
      rw [List.countP_cons, List.countP_cons, count_flat (uy := uy) b f.2 k, k _ _ a f.1]
theorem mt_countF {X : Cx} : MtR X "list.count" (rCntF X.K) := by
  intro pins s σ H x xs v us Q I rx rxs h
  obtain ⟨p, ys, y, rfl, rfl, hs, fy, fys, q⟩ := h
  cases rx
  cases rxs with
  | cons ry rt =>
    rename_i uy ut
    cases rt
    obtain ⟨its, rv, ⟨⟨cls, dd, data, sl⟩, n, ho, hc, hdn, hd⟩, hlen⟩ := I.list hs
    simp only at hc hd
    subst hc hd
    refine call_meets PySem.F.slot_list_count ⟨_, ho, rfl⟩ PySem.F.entry_list_count (PySem.F.args_list_count_2 _ _)
      (SeqAt.list_countAt p its.toArray n dd sl uy (eqU y)) ⟨ho, fun u' hu' => mem_eqAt ry fy rv fys u' (by simpa using hu'), ?_⟩
    have ec : its.toArray.toList.countP (eqU y) = ys.countP fun z => eqV z y := count_flat (uy := uy) (by simpa using rv) fys fun z u r f => eqU_of r f
    refine ⟨.int (ys.countP fun z => eqV z y : Nat), H, I.tok _, ⟨s.toks, ?_⟩, q⟩
    show Value.int ((its.toArray.toList.countP (eqU y) : Nat) : Int) s.toks = _
    rw [ec]
theorem kCnt {X : Cx} {K : PySem.W.Frag} (h : X.K = K := by rfl) : MtR X "list.count" (rCntF K) := by cases h; exact mt_countF
theorem kIdx {X : Cx} {K : PySem.W.Frag} (h : X.K = K := by rfl) : MtR X "list.index" (rIndex K) := by cases h; exact mt_index
end Hq

/-! P12: != of two tuples of equal things, within one model -/
namespace Hq
open PySem PySem.Spec PyProof.Rows L2
open AutoSeq1 (wpAny_loadPart')
section
variable {prog : Program} {w : World}
/-- the state of the heap in which both tuples stand -/
def TupSt (l b : Addr) (xs ys : Array Value) (n m : Nat) (o1 o2 : Option Addr) (p1 p2 : Array (Option Value)) (s : Shared) : Prop :=
  s.heap.get? l = some { cls := .type "tuple", dict := o1, data := .seq xs n, slots := p1 } ∧ s.heap.get? b = some { cls := .type "tuple", dict := o2, data := .seq ys m, slots := p2 }
theorem tupNe_in (l b : Addr) (xs ys : Array Value) (n m : Nat) (o1 o2 : Option Addr) (p1 p2 : Array (Option Value)) (sz : xs.size = ys.size) :
    MeetsIn prog w (Builtin.«tuple.__ne__» ⟨[.ref l, .ref b], []⟩) (fun A R s => TupSt l b xs ys n m o1 o2 p1 p2 s ∧ (∀ j (q1 : j < xs.size) (q2 : j < ys.size), SeqAt.EqP prog w A.in1 s xs[j] ys[j] true) ∧ R (.ok (.ret (.bool false))) s) := by
  intro A R s h
  obtain ⟨hp, gs, dr, tk, os⟩ := s
  obtain ⟨⟨hl, hb⟩, he, h⟩ := h
  have f2 := AutoSeq1.sub_tuple_tuple
  have zl : (xs.toList.zip ys.toList).length = xs.size := by simp [sz]
  wp_walk using wpAny_loadPart' hl, wpAny_loadPart' hb, wpAny_forIn_list _ (fun rest c t => c.1 = none ∧ t = ⟨hp, gs, dr, tk, os⟩ ∧ ∃ i, rest = (xs.toList.zip ys.toList).drop i) _
  case turn =>
    rintro ⟨y, x⟩ rest c t ⟨hc, rfl, i, hz⟩
    have il : i < (xs.toList.zip ys.toList).length := Nat.lt_of_not_le fun z => by
      rw [List.drop_of_length_le z] at hz
      exact nomatch hz
    have i1 : i < xs.size := by omega
    have i2 : i < ys.size := by omega
    rw [List.drop_eq_getElem_cons il] at hz
    obtain ⟨hy, hr⟩ := List.cons.inj hz
    obtain ⟨ey, ex⟩ := Prod.mk.inj hy
    have ey' : y = xs[i] := by simpa using ey
    have ex' : x = ys[i] := by simpa using ex
    cases ey'
    cases ex'
    refine wpAny_bind (he i i1 i2 _ _ ?_)
    wp_walk
    exact ⟨rfl, rfl, i + 1, hr⟩
  case fin =>
    rintro ⟨c1, c2⟩ t ⟨hc, rfl, i, _⟩
    cases (show c1 = none from hc)
    wp_walk
    simpa [Builtin.Tuple.tupleCompareSizes, bne, sz] using h
  case h => exact ⟨rfl, rfl, 0, rfl⟩
theorem tupNe_rc {A : Around} {s : Shared} {l b : Addr} {xs ys : Array Value} (tl : s.heap.IsTuple l xs) (tb : s.heap.IsTuple b ys) (sz : xs.size = ys.size) (hu : A.units < cLine)
    (he : ∀ j (q1 : j < xs.size) (q2 : j < ys.size), SeqAt.EqP prog w A.in1 s xs[j] ys[j] true) (E Q : Value → Shared → Prop) (q : Q (.bool false) s) : wpAny (model prog w) A (compareOp .NotEq (.ref l) (.ref b)) Q E s := by
  obtain ⟨⟨c1, o1, d1, p1⟩, h1, k1, n, e1⟩ := id tl
  obtain ⟨⟨c2, o2, d2, p2⟩, h2, k2, m, e2⟩ := id tb
  cases (show c1 = _ from k1)
  cases (show c2 = _ from k2)
  cases (show d1 = _ from e1)
  cases (show d2 = _ from e2)
  have t1 : s.TypeIs (.ref l) "tuple" := ⟨_, h1, rfl⟩
  refine wpAny_richCompare_same_room (op := .NotEq) t1 ⟨_, h2, rfl⟩ PySem.F.slot_tuple_ne (call_meetsIn PySem.F.slot_tuple_ne t1 PySem.F.entry_tuple_ne (PySem.F.args_tuple_ne_2 _ _) (tupNe_in l b xs ys n m o1 o2 p1 p2 sz) ⟨⟨h1, h2⟩, he, ?_⟩) hu
  exact ⟨fun z => (nomatch z), q⟩
end
/-- two triples: a list of data, a number, a dict with tuple keys, alike -/
def rNeS (K : PySem.W.Frag) : R2 := fun x y H Q => ∃ (a b l1 l2 d1 d2 : Addr) (n : Int) (ds : List PyData), x = .ref a ∧ y = .ref b ∧ H a = some (.tup [.ref l1, .int n, .ref d1]) ∧ H b = some (.tup [.ref l2, .int n, .ref d2]) ∧
  Dp K H (.ref l1) (.list ds) ∧ Dp K H (.ref l2) (.list ds) ∧ SeqAt.shaped (.list ds) = true ∧ l1 ≠ l2 ∧ d1 ≠ d2 ∧ SameT K H (.ref d1) (.ref d2) ∧ Q (.bl false) H
theorem op_neS {X : Cx} (hu : X.A.units + 70 < cLine) : OpR X (compareOp .NotEq) (rNeS X.K) := by
  intro pins s σ H x y v u Q I rx ry h
  obtain ⟨a, b, l1, l2, d1, d2, n, ds, rfl, rfl, ha, hb, k1, k2, sh, nl, nd, ⟨e1, e2, ks, ls, z1, z2, ea, eb, hl, hp⟩, q⟩ := h
  cases z1
  cases z2
  obtain rfl : v = Value.ref a := rx
  obtain rfl : u = Value.ref b := ry
  obtain ⟨us, r1, p1, _⟩ := I.tuple (SqT.of ha)
  obtain ⟨ws, r2, p2, _⟩ := I.tuple (SqT.of hb)
  cases r1 with
  | @cons _ m1 _ us a1 r1 =>
  cases r1 with
  | @cons _ m2 _ us a2 r1 =>
  cases r1 with
  | @cons _ m3 _ us a3 r1 =>
  cases r1
  cases r2 with
  | @cons _ o1 _ ws c1 r2 =>
  cases r2 with
  | @cons _ o2 _ ws c2 r2 =>
  cases r2 with
  | @cons _ o3 _ ws c3 r2 =>
  cases r2
  refine tupNe_rc p1 p2 rfl (by omega) (fun j q1 q2 => ?_) _ _ ⟨.bl false, H, I, rfl, q⟩
  have hu1 : X.A.in1.units = X.A.units + 1 := rfl
  rcases (show j = 0 ∨ j = 1 ∨ j = 2 by simp at q1; omega) with rfl | rfl | rfl
  · show SeqAt.EqP X.prog X.w X.A.in1 s m1 o1 true
    obtain ⟨as, t1⟩ := Dp.reads I _ _ _ k1 a1
    obtain ⟨bs, t2⟩ := Dp.reads I _ _ _ k2 c1
    have k := PySem.W.keq_at (A := X.A) t1 t2 sh sh (by omega)
    rw [SeqAt.eqv_refl _ (SeqAt.canLay_of_shaped sh)] at k
    exact k.eqP
  · show SeqAt.EqP X.prog X.w X.A.in1 s m2 o2 true
    exact (eqAt_same a2 c2 rfl).eqP
  · show SeqAt.EqP X.prog X.w X.A.in1 s m3 o3 true
    obtain rfl : m3 = Value.ref d1 := a3
    obtain rfl : o3 = Value.ref d2 := c3
    refine SeqAt.eqP_refs nd fun E Q hq => ?_
    obtain ⟨_, ya, va, ra, da⟩ := dt_of I.hok ea
    obtain ⟨_, yb, vb, rb, db⟩ := dt_of I.hok eb
    have hu2 : X.A.in1.in1.units = X.A.units + 1 + 1 := rfl
    have := eqH (nm := true) (A := X.A.in1) (E := E) (Q := Q) (by omega) (tupleKind_room_in1 (by omega)) ya yb da db (by rw [← Paired.length ra, ← Paired.length rb]; exact hl) (hitsT I (by rw [hu2]; omega) rb ra hp) hq
    exact this
theorem u70_of {k : Nat} {A : Around} (r : Room k A) : A.units + 70 < cLine := by have := r.un; omega
theorem kNeS {X : Cx} {K : PySem.W.Frag} (hu : X.A.units + 70 < cLine) (h : X.K = K := by rfl) : OpR X (compareOp .NotEq) (rNeS K) := by cases h; exact op_neS hu
end Hq

namespace K39
open PySem PySem.Spec PyProof.Rows L2 Hq
local macro_rules | `(tactic| walk_at "st1") => `(tactic| first
  | with_reducible refine st_seq ?_ | with_reducible refine st_ret ?_ | with_reducible refine st_ifS ?_ | with_reducible refine st_asg ?_ | with_reducible refine st_drop ?_
  | ((with_reducible refine' st_var ?hv ?_); (case hv => rfl)) | with_reducible refine st_c ?_ | with_reducible refine st_op ?_ | with_reducible refine st_un ?_
  | with_reducible refine st_I0 ?_ | with_reducible refine st_U ?_ | ((with_reducible refine' st_I ?hc ?_); (case hc => walk_at "side"))
  | ((with_reducible refine' st_eq ?hs ?_); (case hs => rfl)) | ((with_reducible refine' st_ne ?hs ?_); (case hs => rfl))
  | with_reducible refine st_test ?_ | with_reducible refine st_B ?_ | with_reducible refine st_bl ?_ | with_reducible refine st_isN ?_ | with_reducible refine st_notN ?_
  | with_reducible refine st_chain ?_ | with_reducible refine st_and ?_ | with_reducible refine st_or ?_ | with_reducible refine st_not ?_
  | with_reducible refine st_andV ?_ | with_reducible refine st_orV ?_ | with_reducible refine st_notV ?_ | with_reducible refine st_if ?_
  | with_reducible refine st_CB ?_ | with_reducible refine st_cons ?_ | with_reducible refine st_nil ?_ | with_reducible refine st_fld ?_
  | ((with_reducible refine st_tup ?_)) | ((with_reducible refine st_lst ?_))
  | with_reducible refine st_call ?_ | with_reducible refine st_meth ?_ | with_reducible refine st_make ?_
  | with_reducible refine st_sl ?_ | with_reducible refine st_noPart ?_ | with_reducible refine st_part ?_ | with_reducible refine st_int ?_
  | ((with_reducible refine' st_ixL ?hq ?he ?_); (case hq => walk_at "sqL"); (case he => walk_at "at"))
  | ((with_reducible refine' st_ixT ?hq ?he ?_); (case hq => walk_at "sqT"); (case he => walk_at "at"))
  | with_reducible refine st_bm ?_ | with_reducible refine st_app ?_
  | ((with_reducible refine' st_append ?hq ?hl ?_); (case hq => walk_at "hp"); (case hl => walk_at "line"))
  | ((with_reducible refine' st_len (n := 0) ?hq ?_); (case hq => first | exact Or.inl (by walk_at "sqL") | exact Or.inr (by walk_at "sqT")))
  | ((with_reducible refine' st_listOf ?hq ?_); (case hq => first | exact Or.inl (by walk_at "sqL") | exact Or.inr (by walk_at "sqT")))
  | ((with_reducible refine st_name ?_); (try dsimp only [List.set_cons_zero, List.set_cons_succ])) | with_reducible refine st_par ?_
  | with_reducible refine st_gcons ?_ | with_reducible refine st_gnil ?_ | with_reducible refine st_gsub ?_ | with_reducible refine st_sFld ?_
  | ((with_reducible refine' st_gtup ?hq ?hl ?_); (case hq => walk_at "sqT"); (case hl => rfl))
  | ((with_reducible refine' st_setL ?hq ?hl ?_); (case hq => walk_at "hp"); (case hl => first | rfl | exact ix0 | exact ixN_nat (by assumption)); (try simp only [Int.reduceToNat, List.set_cons_zero, List.set_cons_succ]))
  | with_reducible refine st_intI ?_ | with_reducible refine st_abs ?_
  | ((with_reducible refine' st_popAt ?hq ?hk ?hy ?_); (case hq => walk_at "hp"); (case hk => exact seq0); (case hy => rfl))
  | ((with_reducible refine' and_left ?ht ?_); (case ht => walk_at "ty"))
  | with_reducible refine st_lc ?_ | with_reducible refine st_for ?_ | with_reducible refine st_iL ?_ | with_reducible refine st_iT ?_ | with_reducible refine st_iR1 ?_ | with_reducible refine st_iR2 ?_ | with_reducible refine st_iZ ?_
  | ((with_reducible refine' st_refL ?hq ?_); (case hq => walk_at "sqL")) | ((with_reducible refine' st_refT ?hq ?_); (case hq => walk_at "sqT"))
  | ((with_reducible refine' st_rng1 ?hq ?_); (case hq => walk_at "side")) | ((with_reducible refine' st_rng2 ?hq ?_); (case hq => walk_at "side"))
  | ((with_reducible refine' st_zip ?hq ?hr ?_); (case hq => walk_at "sqb"); (case hr => walk_at "sqb"))
  | ((with_reducible refine' st_size ?hw ?_); (case hw => walk_at "line"))
  | ((with_reducible refine' st_sum ?hq ?_); (case hq => walk_at "sqL"))
  | with_reducible refine st_two ?_ | with_reducible refine st_yes ?_ | ((with_reducible refine' st_wipe ?hw ?_); (case hw => rfl))
  | ((with_reducible refine' st_slL ?hq ?_); (case hq => walk_at "sqL"))
  | ((with_reducible refine' st_cat ?hq ?hr ?hl ?_); (case hq => walk_at "hp"); (case hr => walk_at "hp"); (case hl => walk_at "line"))
  | ((with_reducible refine' st_isi ?hk ?he ?_); (case hk => walk_at "kd"); (case he => walk_at "kit"))
  | ((with_reducible refine' st_ins ?hq ?hc ?hn ?hl ?_); (case hq => walk_at "hp"); (case hc => with_reducible assumption); (case hn => with_reducible assumption); (case hl => walk_at "flen"); walk_at "puts")
  | ((with_reducible refine' st_att ?hq ?hc ?hn ?hl ?_); (case hq => walk_at "hp"); (case hc => with_reducible assumption); (case hn => with_reducible assumption); (case hl => walk_at "lk"))
  | ((with_reducible refine' st_mt ?hq ?hl ?_); (case hq => walk_at "hp"); (case hl => walk_at "lk"))
  | ((with_reducible refine' st_extend ?hq ?hr ?hl ?_); (case hq => walk_at "hp"); (case hr => walk_at "hp"); (case hl => walk_at "line"))
  | with_reducible refine st_next ?_ | with_reducible refine st_retN ?_ | (with_reducible refine iteNT ?_) | (with_reducible refine iteNF ?_) | (with_reducible refine iteT ?_) | (with_reducible refine iteF ?_))
local macro_rules | `(tactic| walk_at "side") => `(tactic| first | omega | decide | assumption | exact ⟨by omega, by omega⟩ | exact Or.inr ⟨by omega, by omega⟩ | exact Or.inl ⟨by omega, by omega⟩ | (simp only [List.length_map, List.length_cons, List.length_nil, List.length_append] at *; omega))
local macro_rules | `(tactic| walk_at "hp") => `(tactic| first | assumption | exact upd_same | refine upd_old (by assumption) (by walk_at "hp") | (rw [upd_ne (by first | assumption | exact Ne.symm (by assumption))]; walk_at "hp"))
local macro_rules | `(tactic| walk_at "sqL") => `(tactic| first | assumption | exact SqL.of (by walk_at "hp"))
local macro_rules | `(tactic| walk_at "sqT") => `(tactic| first | assumption | exact SqT.of (by walk_at "hp"))
local macro_rules | `(tactic| walk_at "sqb") => `(tactic| (unfold SqB; first | ((with_reducible change SqL _ _ _ _); walk_at "sqL") | ((with_reducible change SqT _ _ _ _); walk_at "sqT")))
local macro_rules | `(tactic| walk_at "line") => `(tactic| first | assumption | decide | (apply line_of; walk_at "side") | (apply line_lt; walk_at "side"))
local macro_rules | `(tactic| walk_at "ty") => `(tactic| ((with_reducible refine' ty_lst ?hq); (case hq => walk_at "hp")))
local macro_rules | `(tactic| walk_at "at") => `(tactic| with_reducible first | assumption | exact at0 | exact at1 | exact at2 | exact at3 | exact at4 | exact at5 | exact at6 | exact at7 | exact at8)
local macro_rules | `(tactic| walk_at "st") => `(tactic| (repeat walk_at "st1"))
local macro_rules | `(tactic| walk_at "lk") => `(tactic| first | with_reducible assumption | rfl)
local macro_rules | `(tactic| walk_at "kd") => `(tactic| first | exact .base (.int _) | exact .base .non | exact .base (.bl _) | exact .base (.str _) | exact .base (.tup (by walk_at "hp")) | exact .base (.lst (by walk_at "hp")) | exact .base (.dK (by walk_at "hp")) | exact .base (.dT (by walk_at "hp")))
local macro_rules | `(tactic| walk_at "kit") => `(tactic| with_reducible first
  | exact kit_NoneType_bool
  | exact kit_NoneType_int
  | exact kit_NoneType_str
  | exact kit_NoneType_tuple
  | exact kit_NoneType_list
  | exact kit_NoneType_dict
  | exact kit_bool_bool
  | exact kit_bool_int
  | exact kit_bool_str
  | exact kit_bool_tuple
  | exact kit_bool_list
  | exact kit_bool_dict
  | exact kit_int_bool
  | exact kit_int_int
  | exact kit_int_str
  | exact kit_int_tuple
  | exact kit_int_list
  | exact kit_int_dict
  | exact kit_str_bool
  | exact kit_str_int
  | exact kit_str_str
  | exact kit_str_tuple
  | exact kit_str_list
  | exact kit_str_dict
  | exact kit_tuple_bool
  | exact kit_tuple_int
  | exact kit_tuple_str
  | exact kit_tuple_tuple
  | exact kit_tuple_list
  | exact kit_tuple_dict
  | exact kit_list_bool
  | exact kit_list_int
  | exact kit_list_str
  | exact kit_list_tuple
  | exact kit_list_list
  | exact kit_list_dict
  | exact kit_dict_bool
  | exact kit_dict_int
  | exact kit_dict_str
  | exact kit_dict_tuple
  | exact kit_dict_list
  | exact kit_dict_dict)
local macro_rules | `(tactic| walk_at "flen") => `(tactic| decide)
local macro_rules | `(tactic| walk_at "puts") => `(tactic| skip)

def top (i : Nat) : Stmt := PySem.Challenge.pw_oneplainrun_k39_disks_and_stores_refuse.main.body.getD i (.Pass ⟨0, 0, 0, 0⟩)
/-- where the classes stand -/
structure Ads where
  Disk : Addr
  Store : Addr
  Exchange : Addr
  RunError : Addr
  NoKey : Addr
  NoThing : Addr
  NoReached : Addr
  NoPlace : Addr
structure Txt (K : PySem.W.Frag) (mg : Str → Option Value) (Z : Ads) : Prop where
  g_Exchange : GlV mg "Exchange" (.ref Z.Exchange)
  g_LOST : GlV mg "LOST" (.int 0)
  g_WHOLE : GlV mg "WHOLE" (.int 2)
  g_SEAL : GlV mg "SEAL" (.str "seal")
  cl : Cls K Z.Disk
  aL : NoAttr K Z.Disk "lying"
  aP : NoAttr K Z.Disk "pending"
  aS : NoAttr K Z.Disk "spoils"
  clS : Cls K Z.Store
  aD : NoAttr K Z.Store "disk"
  n_len : mg "len" = none
  n_int : mg "int" = none
  n_bool : mg "bool" = none
  n_str : mg "str" = none
  n_tuple : mg "tuple" = none
  n_list : mg "list" = none
  n_isinstance : mg "isinstance" = none
  n_all : mg "all" = none
  n_abs : mg "abs" = none
  n_sum : mg "sum" = none
  n_range : mg "range" = none
  n_zip : mg "zip" = none
  n_ValueError : mg "ValueError" = none
  vV : PySem.W.findCls K (.type "ValueError") (.type "type") "__init__" = some (.val (.builtin "ValueError.__init__"))
  g_RunError : GlV mg "RunError" (.ref Z.RunError)
  g_NoKey : GlV mg "NoKey" (.ref Z.NoKey)
  g_NoThing : GlV mg "NoThing" (.ref Z.NoThing)
  g_NoReached : GlV mg "NoReached" (.ref Z.NoReached)
  g_NoPlace : GlV mg "NoPlace" (.ref Z.NoPlace)
section
variable {Z : Ads} {P : Program} {w : World} {K : PySem.W.Frag} {mg : Str → Option Value} {base : Heap}
/-! ### kinds of values -/
def spIsInteger (K : PySem.W.Frag) : Sp := fun vs H Q _ => ∃ (i : Int), vs = [.int i] ∧ Q (.bl true) H
abbrev s_is_integer : Stmt := top 5
theorem sc_is_integer : FnScope ["thing"] ["thing"] (defScope s_is_integer) := ⟨rfl, rfl, rfl, by decide +kernel, rfl, by decide +kernel, by decide +kernel⟩
theorem ok_is_integer {f : Addr} {fd : FuncData} (F : Fun K "is_integer" "is_integer" s_is_integer f fd) (T : Txt K mg Z) : FnOk P w K mg base (L2.CX P w) 1 f fd ["thing"] (spIsInteger K) := by
  refine okN F sc_is_integer (fun vs H Q E h => ?_) (fun cdv A outer s H vs Q E hr h => ?_)
  · obtain ⟨i, rfl, _⟩ := h
    rfl
  · obtain ⟨i, rfl, k⟩ := h
    refine ⟨_, [some _], rfl, (pss_one (ps_ret (pe_and (pe_callB (kIsi (K := K)) (by rfl) T.n_isinstance (by decide +kernel) (pa_cons (pv 0) (pa_cons (pe_ty "int" (by rfl) T.n_int (by decide +kernel)) pa_nil))) (pe_one (pe_not (pe_callB (kIsi (K := K)) (by rfl) T.n_isinstance (by decide +kernel) (pa_cons (pv 0) (pa_cons (pe_ty "bool" (by rfl) T.n_bool (by decide +kernel)) pa_nil)))))))), ?_⟩
    walk_at "st"
    exact k
/-- what the law draws from: its own list at p, the great ones at g, the small ones at s -/
structure Pot (H : Hp) (p g s : Addr) : Prop where
  ok : ∃ (gs ss : List Int) (t c : Int), H p = some (.lst [.ref g, .ref s, .int t, .int c]) ∧ H g = some (.lst (gs.map V.int)) ∧ H s = some (.lst (ss.map V.int)) ∧ 0 < ss.length
  pg : p ≠ g
  ps : p ≠ s
  gs : g ≠ s
theorem Pot.keep {H H' : Hp} {p g s : Addr} {ms : List Addr} (h : Pot H p g s) (f : Fr ms H H') (hp : p ∉ ms := by simp) (hg : g ∉ ms := by simp) (hs : s ∉ ms := by simp) : Pot H' p g s := by
  obtain ⟨⟨gs, ss, t, c, h1, h2, h3, h4⟩, a, b, d⟩ := h
  exact ⟨⟨gs, ss, t, c, f.keep _ _ hp h1, f.keep _ _ hg h2, f.keep _ _ hs h3, h4⟩, a, b, d⟩
theorem Pot.ne {H : Hp} {p g s D : Addr} (h : Pot H p g s) (hn : H D = none) : D ≠ p ∧ D ≠ g ∧ D ≠ s := by
  obtain ⟨⟨gs, ss, t, c, h1, h2, h3, h4⟩, _, _, _⟩ := h
  exact ⟨(ne_of_none h1 hn).symm, (ne_of_none h2 hn).symm, (ne_of_none h3 hn).symm⟩
theorem Pot.up {H : Hp} {p g s D : Addr} {o : HO} (h : Pot H p g s) (hn : H D = none) : Pot (upd H D o) p g s := h.keep (ms := []) (Fr.up hn)
theorem Pot.wr {H : Hp} {p g s D : Addr} {o : HO} {xs : List V} (h : Pot H p g s) (hD : H D = some (.lst xs)) (n : D ≠ p ∧ D ≠ g ∧ D ≠ s) : Pot (upd H D o) p g s :=
  h.keep (ms := [D]) ((Fr.refl H).wl hD (.inl (by simp))) (by simpa using n.1.symm) (by simpa using n.2.1.symm) (by simpa using n.2.2.symm)
def spDraw : Sp := fun vs H Q _ => ∃ (p g s : Addr) (many : Int), vs = [.ref p, .int many] ∧ Pot H p g s ∧ 0 < many ∧ many < 1000000 ∧ ∀ H' n, 0 ≤ n → n < many → Pot H' p g s → Fr [p, g] H H' → Q (.int n) H'
abbrev s_law_draw : Stmt := top 74
theorem sc_law_draw : FnScope ["pot", "many", "turn", "number", "place", "seed"] ["pot", "many"] (defScope s_law_draw) := ⟨rfl, rfl, rfl, by decide +kernel, rfl, by decide +kernel, by decide +kernel⟩
theorem cut1 (x : V) (xs : List V) : (x :: xs).eraseIdx 0 = xs := rfl
theorem ok_law_draw {f : Addr} {fd : FuncData} (F : Fun K "_law_draw" "_law_draw" s_law_draw f fd) (T : Txt K mg Z) : FnOk P w K mg base (L2.CX P w) 1 f fd ["pot", "many"] spDraw := by
  refine okN F sc_law_draw (fun vs H Q E h => ?_) (fun cdv A outer s0 H vs Q E hr h => ?_)
  · obtain ⟨p, g, s, many, rfl, _⟩ := h
    rfl
  · obtain ⟨p, g, s, many, rfl, ⟨⟨gs, ss, t, c, hp, hg, hs, hss⟩, pg, ps, gs'⟩, m0, m1, k⟩ := h
    refine ⟨_, [some _, some _, none, none, none, none], rfl, (pss_cons (ps_set (i := 2) sc_law_draw.nd rfl (by first | exact Or.inl rfl | exact Or.inr rfl) (pe_ix (kIxL (K := K)) (pv 0) pe_int (fun _ _ => rfl)))
      (pss_cons (ps_asg (pe_op op_add (pv 2) pe_int) (pg_sub (pv 0) pe_int set_list))
      (pss_cons (ps_if (pt_cmpR op_gt (pe_callB (kLen (K := K)) (by rfl) T.n_len (by decide +kernel) (pa_cons (pe_ix (kIxL (K := K)) (pv 0) pe_int (fun _ _ => rfl)) pa_nil)) pe_int (by first | exact nomark _ | rfl)) (pss_cons (ps_set (i := 3) sc_law_draw.nd rfl (by first | exact Or.inl rfl | exact Or.inr rfl) (pe_ix (kIxL (K := K)) (pe_ix (kIxL (K := K)) (pv 0) pe_int (fun _ _ => rfl)) pe_int (fun _ _ => rfl)))
      (pss_cons (ps_asg (pe_op op_fdiv (pv 3) (pv 1)) (pg_sub (pe_ix (kIxL (K := K)) (pv 0) pe_int (fun _ _ => rfl)) pe_int set_list))
      (pss_cons (ps_if (pt_cmpR op_lt (pv 3) (pv 1) (by first | exact nomark _ | rfl)) (pss_one (ps_expr (kBm (K := K) PySem.F.plainAttrs_list PySem.F.slot_list_pop PySem.F.type_list_pop mt_popAt (pe_ix (kIxL (K := K)) (pv 0) pe_int (fun _ _ => rfl)) (pa_cons pe_int pa_nil)))) pss_nil)
      (pss_one (ps_ret (pe_op op_mod (pe_callTy kInt (by rfl) T.n_int (by decide +kernel) (pa_cons (pv 3) pa_nil)) (pv 1))))))) pss_nil)
      (pss_cons (ps_set (i := 4) sc_law_draw.nd rfl (by first | exact Or.inl rfl | exact Or.inr rfl) (pe_op op_mod (pe_callTy kInt (by rfl) T.n_int (by decide +kernel) (pa_cons (pv 2) pa_nil)) (pe_callB (kLen (K := K)) (by rfl) T.n_len (by decide +kernel) (pa_cons (pe_ix (kIxL (K := K)) (pv 0) pe_int (fun _ _ => rfl)) pa_nil))))
      (pss_cons (ps_set (i := 5) sc_law_draw.nd rfl (by first | exact Or.inl rfl | exact Or.inr rfl) (pe_op op_add (pe_op op_add (pe_op op_mul (pe_ix (kIxL (K := K)) (pe_ix (kIxL (K := K)) (pv 0) pe_int (fun _ _ => rfl)) (pv 4) (fun _ _ => rfl)) pe_int) (pe_op op_mul pe_int (pv 2))) (pe_op op_mul (pe_ix (kIxL (K := K)) (pv 0) pe_int (fun _ _ => rfl)) pe_int)))
      (pss_cons (ps_set (i := 3) sc_law_draw.nd rfl (by first | exact Or.inl rfl | exact Or.inr rfl) (pe_op op_mod (pe_callTy kInt (by rfl) T.n_int (by decide +kernel) (pa_cons (pe_op op_add (pe_op op_mul (pv 5) pe_int) pe_int) pa_nil)) pe_int))
      (pss_cons (ps_set (i := 3) sc_law_draw.nd rfl (by first | exact Or.inl rfl | exact Or.inr rfl) (pe_op op_mod (pe_callTy kInt (by rfl) T.n_int (by decide +kernel) (pa_cons (pe_op op_mul (pv 3) (pe_op op_add (pe_op op_fdiv (pv 3) pe_int) pe_int)) pa_nil)) pe_int))
      (pss_cons (ps_set (i := 3) sc_law_draw.nd rfl (by first | exact Or.inl rfl | exact Or.inr rfl) (pe_op op_mod (pe_callTy kInt (by rfl) T.n_int (by decide +kernel) (pa_cons (pe_op op_add (pe_op op_mul (pv 3) (pe_op op_add (pe_op op_fdiv (pv 3) pe_int) pe_int)) (pv 2)) pa_nil)) pe_int))
      (pss_one (ps_ret (pe_op op_mod (pe_callTy kInt (by rfl) T.n_int (by decide +kernel) (pa_cons (pe_op op_fdiv (pv 3) pe_int) pa_nil)) (pv 1)))))))))))), ?_⟩
    walk_at "st"
    have f1 : Fr [p, g] H (upd H p (.lst [.ref g, .ref s, .int (t + 1), .int c])) := (Fr.refl H).wl hp (.inl (by simp))
    refine iteD (fun h0 => ?_) (fun h0 => ?_)
    · obtain ⟨n0, gs, rfl⟩ : ∃ n r, gs = n :: r := by
        cases gs with
        | nil => exact absurd h0 (by simp)
        | cons n r => exact ⟨n, r, rfl⟩
      rw [List.map_cons] at hg
      walk_at "st"
      have hm : ∀ n : Int, 0 ≤ n % many ∧ n % many < many := fun n => ⟨Int.emod_nonneg _ (by omega), Int.emod_lt_of_pos _ m0⟩
      refine iteD (fun h1 => ?_) (fun h1 => ?_)
      · walk_at "st"
        refine k _ _ (hm _).1 (hm _).2 ⟨⟨gs, ss, t + 1, c, ?_, ?_, ?_, hss⟩, pg, ps, gs'⟩ ?_
        · walk_at "hp"
        · walk_at "hp"
        · walk_at "hp"
        · exact (f1.wl (p := g) (by walk_at "hp") (.inl (by simp))).wl (p := g) (by walk_at "hp") (.inl (by simp))
      · walk_at "st"
        refine k _ _ (hm _).1 (hm _).2 ⟨⟨n0 / many :: gs, ss, t + 1, c, ?_, ?_, ?_, hss⟩, pg, ps, gs'⟩ ?_
        · walk_at "hp"
        · walk_at "hp"
        · walk_at "hp"
        · exact f1.wl (p := g) (by walk_at "hp") (.inl (by simp))
    · have hm : ∀ n : Int, 0 ≤ n % many ∧ n % many < many := fun n => ⟨Int.emod_nonneg _ (by omega), Int.emod_lt_of_pos _ m0⟩
      obtain ⟨j, hj, ej, hat⟩ := at_mod (xs := ss.map V.int) t (by simpa using hss)
      have hat : atI (ss.map V.int) (t % ((ss.map V.int).length : Int)) = some (.int (ss.getD j 0)) := by
        rw [hat]
        rw [List.length_map] at hj
        simp [hj]
      walk_at "st"
      exact k _ _ (hm _).1 (hm _).2 ⟨⟨gs, ss, t + 1, c, upd_same, (by walk_at "hp"), (by walk_at "hp"), hss⟩, pg, ps, gs'⟩ f1
def spPot (K : PySem.W.Frag) : Sp := fun vs H Q _ => ∃ (a : Addr) (ns : List Int), vs = [.ref a] ∧ SqL K H a (ns.map V.int) ∧ ns.length ≤ 63 ∧ ∀ H' p g s, Pot H' p g s → Fr [] H H' → H p = none → H g = none → H s = none → Q (.ref p) H'
abbrev s_law_pot : Stmt := top 73
theorem sc_law_pot : FnScope ["script", "cells", "greats", "smalls", "item"] ["script"] (defScope s_law_pot) := ⟨rfl, rfl, rfl, by decide +kernel, rfl, by decide +kernel, by decide +kernel⟩
theorem ok_law_pot {f : Addr} {fd : FuncData} (F : Fun K "_law_pot" "_law_pot" s_law_pot f fd) (T : Txt K mg Z) : FnOk P w K mg base (L2.CX P w) 1 f fd ["script"] (spPot K) := by
  refine okN F sc_law_pot (fun vs H Q E h => ?_) (fun cdv A outer s0 H vs Q E hr h => ?_)
  · obtain ⟨a, ns, rfl, _⟩ := h
    rfl
  · obtain ⟨a, ns, rfl, hS, hlen, k⟩ := h
    refine ⟨_, [some _, none, none, none, none], rfl, (pss_cons (ps_setLc (i := 1) (own := [("item", 4)]) (g := (gName 4)) (tt := tYes) rfl sc_law_pot.nd rfl rfl (sw_true rfl rfl rfl (by decide +kernel)) (kPiL (K := K) (pe_slice (kSlL (K := K)) (pv 0) po_none (po_some pe_int))) (blkOk_by (N := ["script", "cells", "greats", "smalls", "item"]) (sc := defScope s_law_pot) (by decide +kernel)) (fun _ _ _ _ _ => (pg_name (i := 4) sc_law_pot.nd rfl (by first | exact Or.inl rfl | exact Or.inr rfl))) (fun _ _ _ _ _ => pts_nil) (fun _ _ _ _ _ => (pe_callTy kInt (by rfl) T.n_int (by decide +kernel) (pa_cons (pv 4) pa_nil))))
      (pss_cons (ps_setLc (i := 2) (own := [("item", 4)]) (g := (gName 4)) (tt := _) rfl sc_law_pot.nd rfl rfl (sw_true rfl rfl rfl (by decide +kernel)) (kPiL (K := K) (pv 1)) (blkOk_by (N := ["script", "cells", "greats", "smalls", "item"]) (sc := defScope s_law_pot) (by decide +kernel)) (fun _ _ _ _ _ => (pg_name (i := 4) sc_law_pot.nd rfl (by first | exact Or.inl rfl | exact Or.inr rfl))) (fun _ _ _ _ _ => (pts_one (pt_cmpR op_ge (pe_callB kAbs (by rfl) T.n_abs (by decide +kernel) (pa_cons (pv 4) pa_nil)) (pe_op op_pow pe_int pe_int) (by first | exact nomark _ | rfl)))) (fun _ _ _ _ _ => (pe_callB kAbs (by rfl) T.n_abs (by decide +kernel) (pa_cons (pv 4) pa_nil))))
      (pss_cons (ps_set (i := 3) sc_law_pot.nd rfl (by first | exact Or.inl rfl | exact Or.inr rfl) (pe_op op_cat (pe_lc (own := [("item", 4)]) (g := (gName 4)) (tt := _) rfl sc_law_pot.nd (kPiL (K := K) (pv 1)) (blkOk_by (N := ["script", "cells", "greats", "smalls", "item"]) (sc := defScope s_law_pot) (by decide +kernel)) (fun _ _ _ _ _ => (pg_name (i := 4) sc_law_pot.nd rfl (by first | exact Or.inl rfl | exact Or.inr rfl))) (fun _ _ _ _ _ => (pts_one (pt_cmpR op_lt (pe_callB kAbs (by rfl) T.n_abs (by decide +kernel) (pa_cons (pv 4) pa_nil)) (pe_op op_pow pe_int pe_int) (by first | exact nomark _ | rfl)))) (fun _ _ _ _ _ => (pe_op op_mod (pe_callTy kInt (by rfl) T.n_int (by decide +kernel) (pa_cons (pv 4) pa_nil)) pe_int))) (pe_lst (pa_cons (pe_op op_add (pe_callB (kLen (K := K)) (by rfl) T.n_len (by decide +kernel) (pa_cons (pv 1) pa_nil)) pe_int) pa_nil))))
      (pss_one (ps_ret (pe_lst (pa_cons (pv 2) (pa_cons (pv 3) (pa_cons pe_int (pa_cons (pe_op op_mod (pe_callTy kInt (by rfl) T.n_int (by decide +kernel) (pa_cons (pe_callB (kSum (K := K)) (by rfl) T.n_sum (by decide +kernel) (pa_cons (pv 3) pa_nil)) pa_nil)) pe_int) pa_nil)))))))))), ?_⟩
    walk_at "st"
    intro p1 hp1
    walk_at "st"
    intro D1 hD1
    have ecut : cutV (ns.map V.int) none (some 63) = ns.map V.int := by
      have e := cut_take (ns.map V.int) 63
      rw [List.take_of_length_le (by simpa using hlen)] at e
      exact e
    rw [ecut] at hD1 ⊢
    refine lc_ints some (walk_list (xs := ns.map V.int)) (fun o => SqL.of (by walk_at "hp")) (line_lt (by omega)) (fun n acc hn hacc Nx hN => ?_) ?_
    · walk_at "st"
      exact ⟨acc, upd_same, hacc, by rw [upd_upd]; exact hN⟩
    rw [List.filterMap_some]
    walk_at "st"
    intro D2 hD2
    refine lc_ints (fun n => if (10 : Int) ^ (18 : Int).toNat ≤ (if n < 0 then -n else n) then some (if n < 0 then -n else n) else none) (walk_list (xs := ns.map V.int)) (fun o => SqL.of (by walk_at "hp")) (line_lt (by omega)) (fun n acc hn hacc Nx hN => ?_) ?_
    · walk_at "st"
      refine iteD (fun h => ?_) (fun h => ?_)
      · walk_at "st"
        rw [if_pos h] at hN
        exact ⟨acc, upd_same, hacc, by rw [upd_upd]; exact hN⟩
      · rw [if_neg h] at hN
        simpa using hN
    generalize List.filterMap _ ns = gs
    walk_at "st"
    intro D3 hD3
    refine lc_ints (fun n => if (if n < 0 then -n else n) < (10 : Int) ^ (18 : Int).toNat then some (n % 1000000007) else none) (walk_list (xs := ns.map V.int)) (fun o => SqL.of (by walk_at "hp")) (line_lt (by omega)) (fun n acc hn hacc Nx hN => ?_) ?_
    · walk_at "st"
      refine iteD (fun h => ?_) (fun h => ?_)
      · walk_at "st"
        rw [if_pos h] at hN
        exact ⟨acc, upd_same, hacc, by rw [upd_upd]; exact hN⟩
      · rw [if_neg h] at hN
        simpa using hN
    have hl3 := List.length_filterMap_le (fun n : Int => if (if n < 0 then -n else n) < (10 : Int) ^ (18 : Int).toNat then some (n % 1000000007) else none) ns
    generalize List.filterMap _ ns = ss at hl3 ⊢
    walk_at "st"
    intro p4 hp4
    walk_at "st"
    intro p5 hp5
    have ess : ss.map V.int ++ [V.int (((ns.map V.int).length : Int) + 1)] = (ss ++ [((ns.map V.int).length : Int) + 1]).map V.int := by rw [List.map_append]; rfl
    rw [ess]
    generalize ess2 : ss ++ [((ns.map V.int).length : Int) + 1] = ss2
    walk_at "st"
    intro p6 hp6
    walk_at "st"
    have F1 : Fr [] H _ := (Fr.refl H).new (o := .lst (ns.map V.int)) hp1
    have F2 := F1.new (o := .lst (ns.map V.int)) hD1
    have F3 := F2.new (o := .lst (gs.map V.int)) hD2
    have F4 := F3.new (o := .lst (ss.map V.int)) hD3
    have F5 := F4.new (o := .lst [V.int (((ns.map V.int).length : Int) + 1)]) hp4
    have F6 := F5.new (o := .lst (ss2.map V.int)) hp5
    have F7 := F6.new (o := .lst [V.ref D2, V.ref p5, V.int 0, V.int (ss2.sum % 999983)]) hp6
    refine k _ p6 D2 p5 ⟨⟨gs, ss2, 0, _, upd_same, (by walk_at "hp"), (by walk_at "hp"), ?_⟩, ?_, ?_, ?_⟩ F7 (F6.free hp6) (F2.free hD2) (F5.free hp5)
    · rw [← ess2]
      simp
    · exact (ne_of_none (b := p6) (show _ = some (HO.lst (gs.map V.int)) by walk_at "hp") hp6).symm
    · exact (ne_of_none (b := p6) (show _ = some (HO.lst (ss2.map V.int)) by walk_at "hp") hp6).symm
    · exact ne_of_none (b := p5) (show _ = some (HO.lst (gs.map V.int)) by walk_at "hp") hp5
end

end K39

namespace K39
open PySem PySem.Spec PyProof.Rows L2 Hq
local macro_rules | `(tactic| walk_at "st1") => `(tactic| first
  | with_reducible refine st_seq ?_ | with_reducible refine st_ret ?_ | with_reducible refine st_ifS ?_ | with_reducible refine st_asg ?_ | with_reducible refine st_drop ?_
  | ((with_reducible refine' st_var ?hv ?_); (case hv => rfl)) | with_reducible refine st_c ?_ | with_reducible refine st_op ?_ | with_reducible refine st_un ?_
  | with_reducible refine st_I0 ?_ | with_reducible refine st_U ?_ | ((with_reducible refine' st_I ?hc ?_); (case hc => walk_at "side"))
  | ((with_reducible refine' st_eq ?hs ?_); (case hs => rfl)) | ((with_reducible refine' st_ne ?hs ?_); (case hs => rfl))
  | with_reducible refine st_test ?_ | with_reducible refine st_B ?_ | with_reducible refine st_bl ?_ | with_reducible refine st_isN ?_ | with_reducible refine st_notN ?_
  | with_reducible refine st_chain ?_ | with_reducible refine st_and ?_ | with_reducible refine st_or ?_ | with_reducible refine st_not ?_
  | with_reducible refine st_andV ?_ | with_reducible refine st_orV ?_ | with_reducible refine st_notV ?_ | with_reducible refine st_if ?_
  | with_reducible refine st_CB ?_ | with_reducible refine st_cons ?_ | with_reducible refine st_nil ?_ | with_reducible refine st_fld ?_
  | ((with_reducible refine st_tup ?_)) | ((with_reducible refine st_lst ?_))
  | with_reducible refine st_call ?_ | with_reducible refine st_meth ?_ | with_reducible refine st_make ?_
  | with_reducible refine st_sl ?_ | with_reducible refine st_noPart ?_ | with_reducible refine st_part ?_ | with_reducible refine st_int ?_
  | ((with_reducible refine' st_ixL ?hq ?he ?_); (case hq => walk_at "sqL"); (case he => walk_at "at"))
  | ((with_reducible refine' st_ixT ?hq ?he ?_); (case hq => walk_at "sqT"); (case he => walk_at "at"))
  | with_reducible refine st_bm ?_ | with_reducible refine st_app ?_
  | ((with_reducible refine' st_append ?hq ?hl ?_); (case hq => walk_at "hp"); (case hl => walk_at "line"))
  | ((with_reducible refine' st_len (n := 0) ?hq ?_); (case hq => first | exact Or.inl (by walk_at "sqL") | exact Or.inr (by walk_at "sqT")))
  | ((with_reducible refine' st_listOf ?hq ?_); (case hq => first | exact Or.inl (by walk_at "sqL") | exact Or.inr (by walk_at "sqT")))
  | ((with_reducible refine st_name ?_); (try dsimp only [List.set_cons_zero, List.set_cons_succ])) | with_reducible refine st_par ?_
  | with_reducible refine st_gcons ?_ | with_reducible refine st_gnil ?_ | with_reducible refine st_gsub ?_ | with_reducible refine st_sFld ?_
  | ((with_reducible refine' st_gtup ?hq ?hl ?_); (case hq => walk_at "sqT"); (case hl => rfl))
  | ((with_reducible refine' st_setL ?hq ?hl ?_); (case hq => walk_at "hp"); (case hl => first | rfl | exact ix0 | exact ixN_nat (by assumption)); (try simp only [Int.reduceToNat, List.set_cons_zero, List.set_cons_succ]))
  | with_reducible refine st_intI ?_ | with_reducible refine st_abs ?_
  | ((with_reducible refine' st_popAt ?hq ?hk ?hy ?_); (case hq => walk_at "hp"); (case hk => exact seq0); (case hy => rfl))
  | ((with_reducible refine' and_left ?ht ?_); (case ht => walk_at "ty"))
  | with_reducible refine st_lc ?_ | with_reducible refine st_for ?_ | with_reducible refine st_iL ?_ | with_reducible refine st_iT ?_ | with_reducible refine st_iR1 ?_ | with_reducible refine st_iR2 ?_ | with_reducible refine st_iZ ?_
  | ((with_reducible refine' st_refL ?hq ?_); (case hq => walk_at "sqL")) | ((with_reducible refine' st_refT ?hq ?_); (case hq => walk_at "sqT"))
  | ((with_reducible refine' st_rng1 ?hq ?_); (case hq => walk_at "side")) | ((with_reducible refine' st_rng2 ?hq ?_); (case hq => walk_at "side"))
  | ((with_reducible refine' st_zip ?hq ?hr ?_); (case hq => walk_at "sqb"); (case hr => walk_at "sqb"))
  | ((with_reducible refine' st_size ?hw ?_); (case hw => walk_at "line"))
  | ((with_reducible refine' st_sum ?hq ?_); (case hq => walk_at "sqL"))
  | with_reducible refine st_two ?_ | with_reducible refine st_yes ?_ | ((with_reducible refine' st_wipe ?hw ?_); (case hw => rfl))
  | ((with_reducible refine' st_slL ?hq ?_); (case hq => walk_at "sqL"))
  | ((with_reducible refine' st_cat ?hq ?hr ?hl ?_); (case hq => walk_at "hp"); (case hr => walk_at "hp"); (case hl => walk_at "line"))
  | ((with_reducible refine' st_isi ?hk ?he ?_); (case hk => walk_at "kd"); (case he => walk_at "kit"))
  | ((with_reducible refine' st_ins ?hq ?hc ?hn ?hl ?_); (case hq => walk_at "hp"); (case hc => with_reducible assumption); (case hn => with_reducible assumption); (case hl => walk_at "flen"); walk_at "puts")
  | ((with_reducible refine' st_att ?hq ?hc ?hn ?hl ?_); (case hq => walk_at "hp"); (case hc => with_reducible assumption); (case hn => with_reducible assumption); (case hl => walk_at "lk"))
  | ((with_reducible refine' st_mt ?hq ?hl ?_); (case hq => walk_at "hp"); (case hl => walk_at "lk"))
  | ((with_reducible refine' st_extend ?hq ?hr ?hl ?_); (case hq => walk_at "hp"); (case hr => walk_at "hp"); (case hl => walk_at "line"))
  | with_reducible refine st_next ?_ | with_reducible refine st_retN ?_ | (with_reducible refine iteNT ?_) | (with_reducible refine iteNF ?_) | (with_reducible refine iteT ?_) | (with_reducible refine iteF ?_))
local macro_rules | `(tactic| walk_at "side") => `(tactic| first | omega | decide | assumption | exact ⟨by omega, by omega⟩ | exact Or.inr ⟨by omega, by omega⟩ | exact Or.inl ⟨by omega, by omega⟩ | (simp only [List.length_map, List.length_cons, List.length_nil, List.length_append] at *; omega))
local macro_rules | `(tactic| walk_at "hp") => `(tactic| first | assumption | exact upd_same | refine upd_old (by assumption) (by walk_at "hp") | (rw [upd_ne (by first | assumption | exact Ne.symm (by assumption))]; walk_at "hp"))
local macro_rules | `(tactic| walk_at "sqL") => `(tactic| first | assumption | exact SqL.of (by walk_at "hp"))
local macro_rules | `(tactic| walk_at "sqT") => `(tactic| first | assumption | exact SqT.of (by walk_at "hp"))
local macro_rules | `(tactic| walk_at "sqb") => `(tactic| (unfold SqB; first | ((with_reducible change SqL _ _ _ _); walk_at "sqL") | ((with_reducible change SqT _ _ _ _); walk_at "sqT")))
local macro_rules | `(tactic| walk_at "line") => `(tactic| first | assumption | decide | (apply line_of; walk_at "side") | (apply line_lt; walk_at "side"))
local macro_rules | `(tactic| walk_at "ty") => `(tactic| ((with_reducible refine' ty_lst ?hq); (case hq => walk_at "hp")))
local macro_rules | `(tactic| walk_at "at") => `(tactic| with_reducible first | assumption | exact at0 | exact at1 | exact at2 | exact at3 | exact at4 | exact at5 | exact at6 | exact at7 | exact at8)
local macro_rules | `(tactic| walk_at "st") => `(tactic| (repeat walk_at "st1"))
local macro_rules | `(tactic| walk_at "lk") => `(tactic| first | with_reducible assumption | rfl)
local macro_rules | `(tactic| walk_at "kd") => `(tactic| first | exact .base (.int _) | exact .base .non | exact .base (.bl _) | exact .base (.str _) | exact .base (.tup (by walk_at "hp")) | exact .base (.lst (by walk_at "hp")) | exact .base (.dK (by walk_at "hp")) | exact .base (.dT (by walk_at "hp")))
local macro_rules | `(tactic| walk_at "kit") => `(tactic| with_reducible first
  | exact kit_NoneType_bool
  | exact kit_NoneType_int
  | exact kit_NoneType_str
  | exact kit_NoneType_tuple
  | exact kit_NoneType_list
  | exact kit_NoneType_dict
  | exact kit_bool_bool
  | exact kit_bool_int
  | exact kit_bool_str
  | exact kit_bool_tuple
  | exact kit_bool_list
  | exact kit_bool_dict
  | exact kit_int_bool
  | exact kit_int_int
  | exact kit_int_str
  | exact kit_int_tuple
  | exact kit_int_list
  | exact kit_int_dict
  | exact kit_str_bool
  | exact kit_str_int
  | exact kit_str_str
  | exact kit_str_tuple
  | exact kit_str_list
  | exact kit_str_dict
  | exact kit_tuple_bool
  | exact kit_tuple_int
  | exact kit_tuple_str
  | exact kit_tuple_tuple
  | exact kit_tuple_list
  | exact kit_tuple_dict
  | exact kit_list_bool
  | exact kit_list_int
  | exact kit_list_str
  | exact kit_list_tuple
  | exact kit_list_list
  | exact kit_list_dict
  | exact kit_dict_bool
  | exact kit_dict_int
  | exact kit_dict_str
  | exact kit_dict_tuple
  | exact kit_dict_list
  | exact kit_dict_dict)
local macro_rules | `(tactic| walk_at "flen") => `(tactic| decide)
local macro_rules | `(tactic| walk_at "puts") => `(tactic| skip)

local macro_rules | `(tactic| walk_at "st1") => `(tactic| first
  | with_reducible refine st_dc ?_ | with_reducible refine st_dgetS ?_ | with_reducible refine st_dinS ?_ | with_reducible refine st_dninS ?_ | with_reducible refine st_dputS ?_ | with_reducible refine st_newT ?_ | with_reducible refine iteNN ?_ | with_reducible refine iteYN ?_
  | ((with_reducible refine' st_getT ?hq ?hk ?hv ?_); (case hq => walk_at "hp"); (case hk => walk_at "key"); (case hv => with_reducible assumption))
  | ((with_reducible refine' st_inT ?hq ?hk ?_); (case hq => walk_at "hp"); (case hk => walk_at "key"))
  | ((with_reducible refine' st_ninT ?hq ?hk ?_); (case hq => walk_at "hp"); (case hk => walk_at "key"))
  | ((with_reducible refine' st_putT ?hq ?hk ?hl ?_); (case hq => walk_at "hp"); (case hk => walk_at "key"); (case hl => walk_at "line"))
  | ((with_reducible refine' st_cputT ?hq ?hk ?hl ?_); (case hq => walk_at "hp"); (case hk => walk_at "key"); (case hl => walk_at "line"))
  | ((with_reducible refine' st_ixB ?hq ?he ?_); (case hq => first | assumption | exact Or.inl (by walk_at "sqL") | exact Or.inr (by walk_at "sqT")); (case he => walk_at "at")))
local macro_rules | `(tactic| walk_at "key") => `(tactic| with_reducible assumption)

section
variable {Z : Ads} {P : Program} {w : World} {K : PySem.W.Frag} {mg : Str → Option Value} {base : Heap}
def spAny : Sp := fun vs H Q _ => ∃ (p g s q : Addr) (xs : List V), vs = [.ref p, .ref q] ∧ Pot H p g s ∧ (H q = some (.tup xs) ∨ (H q = some (.lst xs) ∧ q ≠ p ∧ q ≠ g)) ∧ 0 < xs.length ∧ xs.length < 1000 ∧ ∀ H' x, x ∈ xs → Pot H' p g s → Fr [p, g] H H' → Q x H'
abbrev s_law_any : Stmt := top 75
theorem sc_law_any : FnScope ["pot", "items"] ["pot", "items"] (defScope s_law_any) := ⟨rfl, rfl, rfl, by decide +kernel, rfl, by decide +kernel, by decide +kernel⟩
theorem ok_law_any {f : Addr} {fd : FuncData} (F : Fun K "_law_any" "_law_any" s_law_any f fd) (T : Txt K mg Z) (D_law_draw : Dn P w K mg base "_law_draw" 1 ["pot", "many"] spDraw) : FnOk P w K mg base (L2.CX P w) 2 f fd ["pot", "items"] spAny := by
  refine okN F sc_law_any (fun vs H Q E h => ?_) (fun cdv A outer s0 H vs Q E hr h => ?_)
  · obtain ⟨p, g, s, q, xs, rfl, _⟩ := h
    rfl
  · obtain ⟨p, g, s, q, xs, rfl, hP, hq, h0, h1, k⟩ := h
    refine ⟨_, [some _, some _], rfl, (pss_one (ps_ret (pe_ix (kIxB (K := K)) (pv 1) (pe_d D_law_draw E0 (hr.mono (by first | decide | omega)) (by rfl) passL (pa_cons (pv 0) (pa_cons (pe_callB (kLen (K := K)) (by rfl) T.n_len (by decide +kernel) (pa_cons (pv 1) pa_nil)) pa_nil))) (fun _ _ => rfl)))), ?_⟩
    have hB : SqL K H q xs ∨ SqT K H q xs := by
      rcases hq with e | ⟨e, _, _⟩
      · exact .inr (SqT.of e)
      · exact .inl (SqL.of e)
    walk_at "st"
    refine st_len (n := 0) hB ?_
    walk_at "st"
    refine ⟨p, g, s, _, rfl, hP, by omega, by omega, fun H1 n n0 n1 hP1 fr => ?_⟩
    have hB1 : SqL K H1 q xs ∨ SqT K H1 q xs := by
      rcases hq with e | ⟨e, n1, n2⟩
      · exact .inr (SqT.of (fr.tup _ _ e))
      · exact .inl (SqL.of (fr.keep _ _ (by simpa using ⟨n1, n2⟩) e))
    obtain ⟨v, hv, hat⟩ := at_in n0 n1
    walk_at "st"
    exact k _ _ hv hP1 fr
/-! ### data -/
mutual
def wid : PyData → Bool
  | .tuple xs => decide (xs.length ≤ 1000) && widAll xs
  | _ => true
def widAll : List PyData → Bool
  | [] => true
  | x :: xs => wid x && widAll xs
end
structure Nice (n : Nat) (d : PyData) : Prop where
  lay : d.canLay0 = true
  dep : d.depth ≤ n
  wide : wid d = true
def KPart (d : PyData) : Prop := (∃ x, d = .str x ∧ PySem.PyData.strOk x = true) ∨ ∃ n, 0 ≤ n ∧ d = .int n
def UPart (d : PyData) : Prop := KPart d ∧ d ≠ .str "seal"
def UKey (d : PyData) : Prop := ∃ ds, d = .tuple ds ∧ 0 < ds.length ∧ ds.length ≤ 3 ∧ ∀ e ∈ ds, UPart e
def KeyD (d : PyData) : Prop := ∃ ds, d = .tuple ds ∧ 0 < ds.length ∧ ds.length ≤ 3 ∧ ∀ e ∈ ds, KPart e
def keyVals : List V := [.str "a", .str "item", .str "x y", .str "", .int 0, .int 1, .int 2, .int (10 ^ (12 : Int).toNat)]
theorem UKey.key {d : PyData} (h : UKey d) : KeyD d := by
  obtain ⟨ds, a, b, c, k⟩ := h
  exact ⟨ds, a, b, c, fun e he => (k e he).1⟩
theorem str_ne {x : Str} (h : ¬ x = "seal") : PyData.str x ≠ .str "seal" := fun e => h (by injection e)
theorem keyVal_td (H : Hp) {v : V} (h : v ∈ keyVals) : ∃ d, TD H v d ∧ UPart d := by
  simp only [keyVals, List.mem_cons, List.not_mem_nil, or_false] at h
  rcases h with rfl | rfl | rfl | rfl | rfl | rfl | rfl | rfl
  · exact ⟨_, .str _, .inl ⟨_, rfl, by decide +kernel⟩, str_ne (by decide +kernel)⟩
  · exact ⟨_, .str _, .inl ⟨_, rfl, by decide +kernel⟩, str_ne (by decide +kernel)⟩
  · exact ⟨_, .str _, .inl ⟨_, rfl, by decide +kernel⟩, str_ne (by decide +kernel)⟩
  · exact ⟨_, .str _, .inl ⟨_, rfl, by decide +kernel⟩, str_ne (by decide +kernel)⟩
  · exact ⟨_, .int _, .inr ⟨_, by decide, rfl⟩, fun z => nomatch z⟩
  · exact ⟨_, .int _, .inr ⟨_, by decide, rfl⟩, fun z => nomatch z⟩
  · exact ⟨_, .int _, .inr ⟨_, by decide, rfl⟩, fun z => nomatch z⟩
  · exact ⟨_, .int _, .inr ⟨_, by decide, rfl⟩, fun z => nomatch z⟩
theorem keyVals_td (H : Hp) : ∀ xs : List V, (∀ x ∈ xs, x ∈ keyVals) → ∃ ds, TDs H xs ds ∧ ∀ e ∈ ds, UPart e
  | [], _ => ⟨[], .nil, fun _ h => nomatch h⟩
  | x :: xs, h => by
    obtain ⟨d, a, b⟩ := keyVal_td H (h x (by simp))
    obtain ⟨ds, a2, b2⟩ := keyVals_td H xs fun y hy => h y (by simp [hy])
    refine ⟨d :: ds, .cons a a2, fun e he => ?_⟩
    rcases List.mem_cons.mp he with rfl | he
    · exact b
    · exact b2 e he
def spKey : Sp := fun vs H Q _ => ∃ (p g s : Addr), vs = [.ref p] ∧ Pot H p g s ∧ ∀ H' v d, TD H' v d → UKey d → Pot H' p g s → Fr [p, g] H H' → Q v H'
abbrev s_law_key : Stmt := top 77
theorem sc_law_key : FnScope ["pot", "parts", "turn"] ["pot"] (defScope s_law_key) := ⟨rfl, rfl, rfl, by decide +kernel, rfl, by decide +kernel, by decide +kernel⟩
theorem ok_law_key {f : Addr} {fd : FuncData} (F : Fun K "_law_key" "_law_key" s_law_key f fd) (T : Txt K mg Z) (D_law_draw : Dn P w K mg base "_law_draw" 1 ["pot", "many"] spDraw) (D_law_any : Dn P w K mg base "_law_any" 2 ["pot", "items"] spAny) : FnOk P w K mg base (L2.CX P w) 3 f fd ["pot"] spKey := by
  refine okN F sc_law_key (fun vs H Q E h => ?_) (fun cdv A outer s0 H vs Q E hr h => ?_)
  · obtain ⟨p, g, s, rfl, _⟩ := h
    rfl
  · obtain ⟨p, g, s, rfl, hP, k⟩ := h
    refine ⟨_, [some _, none, none], rfl, (pss_cons (ps_setLc (i := 1) (own := [("turn", 2)]) (g := (gName 2)) (tt := tYes) rfl sc_law_key.nd rfl rfl (sw_true rfl rfl rfl (by decide +kernel)) (pi_range1 (by rfl) T.n_range (pa_cons (pe_op op_add pe_int (pe_d D_law_draw E0 (hr.mono (by first | decide | omega)) (by rfl) passL (pa_cons (pv 0) (pa_cons pe_int pa_nil)))) pa_nil)) (blkOk_by (N := ["pot", "parts", "turn"]) (sc := defScope s_law_key) (by decide +kernel)) (fun _ _ _ _ _ => (pg_name (i := 2) sc_law_key.nd rfl (by first | exact Or.inl rfl | exact Or.inr rfl))) (fun _ _ _ _ _ => pts_nil) (fun _ _ _ _ _ => (pe_d D_law_any E0 (hr.mono (by first | decide | omega)) (by rfl) passL (pa_cons (pv 0) (pa_cons (pe_tup (pa_cons pe_str (pa_cons pe_str (pa_cons pe_str (pa_cons pe_str (pa_cons pe_int (pa_cons pe_int (pa_cons pe_int (pa_cons (pe_op op_pow pe_int pe_int) pa_nil))))))))) pa_nil)))))
      (pss_one (ps_ret (pe_callTy (kTupOf (K := K)) (by rfl) T.n_tuple (by decide +kernel) (pa_cons (pv 1) pa_nil))))), ?_⟩
    walk_at "st"
    refine ⟨p, g, s, _, rfl, hP, by omega, by omega, fun H1 n n0 n1 hP1 fr => ?_⟩
    walk_at "st"
    intro D hD
    have nD := hP1.ne hD
    have D0 : H D = none := fr.back (by simpa using ⟨nD.1, nD.2.1⟩) hD
    refine lc_it walk_range (fun i H' => ∃ acc, H' D = some (.lst acc) ∧ Fr [p, g] H H' ∧ Pot H' p g s ∧ acc.length = i ∧ ∀ x ∈ acc, x ∈ keyVals) ⟨[], upd_same, fr.new hD, hP1.up hD, rfl, fun _ h => nomatch h⟩ (fun _ _ _ _ => trivial) ?_ ?_
    · rintro i x H2 H3 hi ⟨acc, h1, h2, h3, h4, h5⟩ ⟨rfl, rfl⟩
      walk_at "st"
      intro q hq
      walk_at "st"
      refine ⟨p, g, s, q, keyVals, rfl, h3.up hq, .inl upd_same, by decide, by decide, fun H4 x hx hP4 f4 => ?_⟩
      have e4 : H4 D = some (.lst acc) := f4.keep D _ (by simpa using ⟨nD.1, nD.2.1⟩) (upd_old hq h1)
      refine ⟨acc, e4, line_lt (by omega), acc ++ [x], upd_same, ((h2.new hq).trans f4).wl e4 (.inr D0), hP4.wr e4 nD, by simp [h4], fun y hy => ?_⟩
      rcases List.mem_append.mp hy with hy | hy
      · exact h5 y hy
      · rw [List.mem_singleton.mp hy]; exact hx
    · rintro H2 ⟨acc, h1, h2, h3, h4, h5⟩
      walk_at "st"
      refine st_tupOf (SqL.of h1) fun q hq => ?_
      walk_at "st"
      obtain ⟨ds, a, b⟩ := keyVals_td (upd H2 q (.tup acc)) acc h5
      refine k _ _ _ (.tup upd_same a) ⟨ds, rfl, ?_, ?_, b⟩ (h3.up hq) (h2.new hq)
      · rw [← a.length]; omega
      · rw [← a.length]; omega
theorem nice_all {n : Nat} : ∀ ds : List PyData, (∀ d ∈ ds, Nice n d) → PyData.canLayAll0 ds = true ∧ PyData.depthAll ds ≤ n ∧ widAll ds = true
  | [], _ => ⟨rfl, Nat.zero_le _, rfl⟩
  | d :: ds, h => by
    obtain ⟨a, b, c⟩ := h d (by simp)
    obtain ⟨a2, b2, c2⟩ := nice_all ds fun e he => h e (by simp [he])
    simp only [PyData.canLayAll0, PyData.depthAll, widAll, a, a2, c, c2, Bool.and_self, true_and, and_true]
    omega
theorem nice_tup {n : Nat} {ds : List PyData} (h : ∀ d ∈ ds, Nice n d) (hl : ds.length ≤ 1000) : Nice (n + 1) (.tuple ds) := by
  obtain ⟨a, b, c⟩ := nice_all ds h
  refine ⟨?_, ?_, ?_⟩
  · simpa only [PyData.canLay0] using a
  · simp only [PyData.depth]
    omega
  · simp only [wid, c, decide_eq_true hl, Bool.and_self]
theorem nice_mem {n : Nat} : ∀ {ds : List PyData} {d : PyData}, PyData.canLayAll0 ds = true → PyData.depthAll ds ≤ n → widAll ds = true → d ∈ ds → Nice n d
  | e :: ds, d, h1, h2, h3, hm => by
    simp only [PyData.canLayAll0, Bool.and_eq_true] at h1
    simp only [PyData.depthAll] at h2
    simp only [widAll, Bool.and_eq_true] at h3
    rcases List.mem_cons.mp hm with rfl | hm
    · exact ⟨h1.1, by omega, h3.1⟩
    · exact nice_mem h1.2 (by omega) h3.2 hm
theorem Nice.mono {n m : Nat} {d : PyData} (h : Nice n d) (l : n ≤ m) : Nice m d := ⟨h.1, Nat.le_trans h.2 l, h.3⟩
theorem Nice.sub {n : Nat} {ds : List PyData} {d : PyData} (h : Nice n (.tuple ds)) (hm : d ∈ ds) : 0 < n ∧ Nice (n - 1) d ∧ ds.length ≤ 1000 := by
  obtain ⟨h1, h2, h3⟩ := h
  simp only [PyData.canLay0] at h1
  simp only [PyData.depth] at h2
  simp only [wid, Bool.and_eq_true, decide_eq_true_eq] at h3
  exact ⟨by omega, nice_mem h1 (by omega) h3.2 hm, h3.1⟩
theorem Nice.len {n : Nat} {ds : List PyData} (h : Nice n (.tuple ds)) : ds.length ≤ 1000 := by
  have h3 := h.3
  simp only [wid, Bool.and_eq_true, decide_eq_true_eq] at h3
  exact h3.1
def thingVals : List V := [.int 0, .int (-7), .str "word", .non, .bl true, .int (10 ^ (20 : Int).toNat)]
def otherVals : List V := [.str "", .str "two\nlines", .bl false]
theorem thing_td (H : Hp) {v : V} (h : v ∈ thingVals ++ otherVals) : ∃ d, TD H v d ∧ Nice 0 d := by
  simp only [thingVals, otherVals, List.cons_append, List.nil_append, List.mem_cons, List.not_mem_nil, or_false] at h
  rcases h with rfl | rfl | rfl | rfl | rfl | rfl | rfl | rfl | rfl
  · exact ⟨_, .int _, rfl, Nat.zero_le _, rfl⟩
  · exact ⟨_, .int _, rfl, Nat.zero_le _, rfl⟩
  · exact ⟨_, .str _, by decide +kernel, Nat.zero_le _, rfl⟩
  · exact ⟨_, .non, rfl, Nat.zero_le _, rfl⟩
  · exact ⟨_, .bl _, rfl, Nat.zero_le _, rfl⟩
  · exact ⟨_, .int _, rfl, Nat.zero_le _, rfl⟩
  · exact ⟨_, .str _, by decide +kernel, Nat.zero_le _, rfl⟩
  · exact ⟨_, .str _, by decide +kernel, Nat.zero_le _, rfl⟩
  · exact ⟨_, .bl _, rfl, Nat.zero_le _, rfl⟩
def spThing (n : Nat) : Sp := fun vs H Q _ => ∃ (p g s : Addr), vs = [.ref p, .int n] ∧ Pot H p g s ∧ ∀ H' v d, TD H' v d → Nice n d → Pot H' p g s → Fr [p, g] H H' → Q v H'
abbrev s_law_thing : Stmt := top 78
theorem sc_law_thing : FnScope ["pot", "deep", "kind", "turn"] ["pot", "deep"] (defScope s_law_thing) := ⟨rfl, rfl, rfl, by decide +kernel, rfl, by decide +kernel, by decide +kernel⟩
theorem step_law_thing {f : Addr} {fd : FuncData} (F : Fun K "_law_thing" "_law_thing" s_law_thing f fd) (T : Txt K mg Z) (D_law_draw : Dn P w K mg base "_law_draw" 1 ["pot", "many"] spDraw) (D_law_any : Dn P w K mg base "_law_any" 2 ["pot", "items"] spAny)
    (n : Nat) (D_law_thing : Dn P w K mg base "_law_thing" (2 + n) ["pot", "deep"] (fun vs H Q E => ∃ m, m < n ∧ spThing m vs H Q E)) : FnOk P w K mg base (L2.CX P w) (2 + n + 1) f fd ["pot", "deep"] (spThing n) := by
  refine okN F sc_law_thing (fun vs H Q E h => ?_) (fun cdv A outer s0 H vs Q E hr h => ?_)
  · obtain ⟨p, g, s, rfl, _⟩ := h
    rfl
  · obtain ⟨p, g, s, rfl, hP, k⟩ := h
    refine ⟨_, [some _, some _, none, none], rfl, (pss_cons (ps_set (i := 2) sc_law_thing.nd rfl (by first | exact Or.inl rfl | exact Or.inr rfl) (pe_d D_law_draw E0 (hr.mono (by first | decide | omega)) (by rfl) passL (pa_cons (pv 0) (pa_cons pe_int pa_nil))))
      (pss_cons (ps_if (PW.pt (pw_and (pt_cmpR op_gt (pv 2) pe_int (by first | exact nomark _ | rfl)) (pw_and1 (pt_cmpR op_gt (pv 1) pe_int (by first | exact nomark _ | rfl))))) (pss_one (ps_ret (pe_callTy (kTupOf (K := K)) (by rfl) T.n_tuple (by decide +kernel) (pa_cons (pe_lc (own := [("turn", 3)]) (g := (gName 3)) (tt := tYes) rfl sc_law_thing.nd (pi_range1 (by rfl) T.n_range (pa_cons (pe_d D_law_draw E0 (hr.mono (by first | decide | omega)) (by rfl) passL (pa_cons (pv 0) (pa_cons pe_int pa_nil))) pa_nil)) (blkOk_by (N := ["pot", "deep", "kind", "turn"]) (sc := defScope s_law_thing) (by decide +kernel)) (fun _ _ _ _ _ => (pg_name (i := 3) sc_law_thing.nd rfl (by first | exact Or.inl rfl | exact Or.inr rfl))) (fun _ _ _ _ _ => pts_nil) (fun _ _ _ _ _ => (pe_d D_law_thing E0 (hr.mono (by first | decide | omega)) (by rfl) passL (pa_cons (pv 0) (pa_cons (pe_op op_sub (pv 1) pe_int) pa_nil))))) pa_nil)))) pss_nil)
      (pss_one (ps_ret (pe_ifExp (pt_cmpR op_lt (pv 2) pe_int (by first | exact nomark _ | rfl)) (pe_ix (kIxT (K := K)) (pe_tup (pa_cons pe_int (pa_cons (pe_un un_neg pe_int) (pa_cons pe_str (pa_cons pe_non (pa_cons pe_bl (pa_cons (pe_op op_pow pe_int pe_int) pa_nil))))))) (pv 2) (fun _ _ => rfl)) (pe_d D_law_any E0 (hr.mono (by first | decide | omega)) (by rfl) passL (pa_cons (pv 0) (pa_cons (pe_tup (pa_cons pe_str (pa_cons pe_str (pa_cons pe_bl pa_nil)))) pa_nil)))))))), ?_⟩
    walk_at "st"
    refine ⟨p, g, s, _, rfl, hP, by omega, by omega, fun H1 kind k0 k1 hP1 f1 => ?_⟩
    walk_at "st"
    refine iteD (fun h5 => ?_) (fun h5 => ?_)
    · walk_at "st"
      refine iteD (fun hd => ?_) (fun hd => ?_)
      · walk_at "st"
        refine ⟨p, g, s, _, rfl, hP1, by omega, by omega, fun H2 many m0 m1 hP2 f2 => ?_⟩
        walk_at "st"
        intro D hD
        have f12 := f1.trans f2
        have nD := hP2.ne hD
        have D0 : H D = none := f12.back (by simpa using ⟨nD.1, nD.2.1⟩) hD
        obtain ⟨m, rfl⟩ : ∃ m, n = m + 1 := ⟨n - 1, by omega⟩
        refine lc_it walk_range (fun i H' => ∃ acc ds, H' D = some (.lst acc) ∧ Fr [p, g] H H' ∧ Pot H' p g s ∧ acc.length = i ∧ TDs H' acc ds ∧ ∀ d ∈ ds, Nice m d) ⟨[], [], upd_same, f12.new hD, hP2.up hD, rfl, .nil, fun _ h => nomatch h⟩ (fun _ _ _ _ => trivial) ?_ ?_
        · rintro i x H3 H4 hi ⟨acc, ds, h1, h2, h3, h4, hT, hN⟩ ⟨rfl, rfl⟩
          walk_at "st"
          refine ⟨m, Nat.lt_succ_self m, p, g, s, ?_, h3, fun H5 v d hv hd2 hP5 f5 => ?_⟩
          · have e : (((m + 1 : Nat) : Int) - 1) = (m : Int) := by omega
            rw [e]
            rfl
          have e5 : H5 D = some (.lst acc) := f5.keep D _ (by simpa using ⟨nD.1, nD.2.1⟩) h1
          have f6 : Fr [D] H5 (upd H5 D (.lst (acc ++ [v]))) := (Fr.refl H5).wl e5 (.inl (by simp))
          refine ⟨acc, e5, line_lt (by omega), acc ++ [v], ds ++ [d], upd_same, (h2.trans f5).wl e5 (.inr D0), hP5.wr e5 nD, by simp [h4], ?_, fun y hy => ?_⟩
          · exact TDs.mono f6.tup _ _ (TDs.snoc (TDs.mono f5.tup _ _ hT) hv)
          · rcases List.mem_append.mp hy with hy | hy
            · exact hN y hy
            · rw [List.mem_singleton.mp hy]; exact hd2
        · rintro H3 ⟨acc, ds, h1, h2, h3, h4, hT, hN⟩
          walk_at "st"
          refine st_tupOf (SqL.of h1) fun q hq => ?_
          exact k _ _ _ (.tup upd_same (TDs.mono (Fr.up (ms := []) hq).tup _ _ hT)) (nice_tup hN (by rw [← hT.length]; omega)) (h3.up hq) (h2.new hq)
      · walk_at "st"
        refine iteD (fun h6 => ?_) (fun h6 => ?_)
        · walk_at "st"
          intro q hq
          obtain ⟨v, hv, hat⟩ := at_in (xs := [V.int 0, V.int (-7), V.str "word", V.non, V.bl true, V.int (10 ^ (20 : Int).toNat)]) k0 (by show kind < 6; exact h6)
          walk_at "st"
          obtain ⟨d, a, b⟩ := thing_td _ (List.mem_append_left _ hv)
          exact k _ v d a (b.mono (Nat.zero_le _)) (hP1.up hq) (f1.new hq)
        · walk_at "st"
          intro q hq
          walk_at "st"
          refine ⟨p, g, s, q, otherVals, rfl, hP1.up hq, .inl upd_same, by decide, by decide, fun H2 v hv hP2 f2 => ?_⟩
          obtain ⟨d, a, b⟩ := thing_td H2 (List.mem_append_right _ hv)
          exact k _ v d a (b.mono (Nat.zero_le _)) hP2 ((f1.new hq).trans f2)
    · walk_at "st"
      refine iteD (fun h6 => ?_) (fun h6 => ?_)
      · walk_at "st"
        intro q hq
        obtain ⟨v, hv, hat⟩ := at_in (xs := [V.int 0, V.int (-7), V.str "word", V.non, V.bl true, V.int (10 ^ (20 : Int).toNat)]) k0 (by show kind < 6; exact h6)
        walk_at "st"
        obtain ⟨d, a, b⟩ := thing_td _ (List.mem_append_left _ hv)
        exact k _ v d a (b.mono (Nat.zero_le _)) (hP1.up hq) (f1.new hq)
      · walk_at "st"
        intro q hq
        walk_at "st"
        refine ⟨p, g, s, q, otherVals, rfl, hP1.up hq, .inl upd_same, by decide, by decide, fun H2 v hv hP2 f2 => ?_⟩
        obtain ⟨d, a, b⟩ := thing_td H2 (List.mem_append_right _ hv)
        exact k _ v d a (b.mono (Nat.zero_le _)) hP2 ((f1.new hq).trans f2)
end

end K39

namespace K39
open PySem PySem.Spec PyProof.Rows L2 Hq
local macro_rules | `(tactic| walk_at "st1") => `(tactic| first
  | with_reducible refine st_seq ?_ | with_reducible refine st_ret ?_ | with_reducible refine st_ifS ?_ | with_reducible refine st_asg ?_ | with_reducible refine st_drop ?_
  | ((with_reducible refine' st_var ?hv ?_); (case hv => rfl)) | with_reducible refine st_c ?_ | with_reducible refine st_op ?_ | with_reducible refine st_un ?_
  | with_reducible refine st_I0 ?_ | with_reducible refine st_U ?_ | ((with_reducible refine' st_I ?hc ?_); (case hc => walk_at "side"))
  | ((with_reducible refine' st_eq ?hs ?_); (case hs => rfl)) | ((with_reducible refine' st_ne ?hs ?_); (case hs => rfl))
  | with_reducible refine st_test ?_ | with_reducible refine st_B ?_ | with_reducible refine st_bl ?_ | with_reducible refine st_isN ?_ | with_reducible refine st_notN ?_
  | with_reducible refine st_chain ?_ | with_reducible refine st_and ?_ | with_reducible refine st_or ?_ | with_reducible refine st_not ?_
  | with_reducible refine st_andV ?_ | with_reducible refine st_orV ?_ | with_reducible refine st_notV ?_ | with_reducible refine st_if ?_
  | with_reducible refine st_CB ?_ | with_reducible refine st_cons ?_ | with_reducible refine st_nil ?_ | with_reducible refine st_fld ?_
  | ((with_reducible refine st_tup ?_)) | ((with_reducible refine st_lst ?_))
  | with_reducible refine st_call ?_ | with_reducible refine st_meth ?_ | with_reducible refine st_make ?_
  | with_reducible refine st_sl ?_ | with_reducible refine st_noPart ?_ | with_reducible refine st_part ?_ | with_reducible refine st_int ?_
  | ((with_reducible refine' st_ixL ?hq ?he ?_); (case hq => walk_at "sqL"); (case he => walk_at "at"))
  | ((with_reducible refine' st_ixT ?hq ?he ?_); (case hq => walk_at "sqT"); (case he => walk_at "at"))
  | with_reducible refine st_bm ?_ | with_reducible refine st_app ?_
  | ((with_reducible refine' st_append ?hq ?hl ?_); (case hq => walk_at "hp"); (case hl => walk_at "line"))
  | ((with_reducible refine' st_len (n := 0) ?hq ?_); (case hq => first | exact Or.inl (by walk_at "sqL") | exact Or.inr (by walk_at "sqT")))
  | ((with_reducible refine' st_listOf ?hq ?_); (case hq => first | exact Or.inl (by walk_at "sqL") | exact Or.inr (by walk_at "sqT")))
  | ((with_reducible refine st_name ?_); (try dsimp only [List.set_cons_zero, List.set_cons_succ])) | with_reducible refine st_par ?_
  | with_reducible refine st_gcons ?_ | with_reducible refine st_gnil ?_ | with_reducible refine st_gsub ?_ | with_reducible refine st_sFld ?_
  | ((with_reducible refine' st_gtup ?hq ?hl ?_); (case hq => walk_at "sqT"); (case hl => rfl))
  | ((with_reducible refine' st_setL ?hq ?hl ?_); (case hq => walk_at "hp"); (case hl => first | rfl | exact ix0 | exact ixN_nat (by assumption)); (try simp only [Int.reduceToNat, List.set_cons_zero, List.set_cons_succ]))
  | with_reducible refine st_intI ?_ | with_reducible refine st_abs ?_
  | ((with_reducible refine' st_popAt ?hq ?hk ?hy ?_); (case hq => walk_at "hp"); (case hk => exact seq0); (case hy => rfl))
  | ((with_reducible refine' and_left ?ht ?_); (case ht => walk_at "ty"))
  | with_reducible refine st_lc ?_ | with_reducible refine st_for ?_ | with_reducible refine st_iL ?_ | with_reducible refine st_iT ?_ | with_reducible refine st_iR1 ?_ | with_reducible refine st_iR2 ?_ | with_reducible refine st_iZ ?_
  | ((with_reducible refine' st_refL ?hq ?_); (case hq => walk_at "sqL")) | ((with_reducible refine' st_refT ?hq ?_); (case hq => walk_at "sqT"))
  | ((with_reducible refine' st_rng1 ?hq ?_); (case hq => walk_at "side")) | ((with_reducible refine' st_rng2 ?hq ?_); (case hq => walk_at "side"))
  | ((with_reducible refine' st_zip ?hq ?hr ?_); (case hq => walk_at "sqb"); (case hr => walk_at "sqb"))
  | ((with_reducible refine' st_size ?hw ?_); (case hw => walk_at "line"))
  | ((with_reducible refine' st_sum ?hq ?_); (case hq => walk_at "sqL"))
  | with_reducible refine st_two ?_ | with_reducible refine st_yes ?_ | ((with_reducible refine' st_wipe ?hw ?_); (case hw => rfl))
  | ((with_reducible refine' st_slL ?hq ?_); (case hq => walk_at "sqL"))
  | ((with_reducible refine' st_cat ?hq ?hr ?hl ?_); (case hq => walk_at "hp"); (case hr => walk_at "hp"); (case hl => walk_at "line"))
  | ((with_reducible refine' st_isi ?hk ?he ?_); (case hk => walk_at "kd"); (case he => walk_at "kit"))
  | ((with_reducible refine' st_ins ?hq ?hc ?hn ?hl ?_); (case hq => walk_at "hp"); (case hc => with_reducible assumption); (case hn => with_reducible assumption); (case hl => walk_at "flen"); walk_at "puts")
  | ((with_reducible refine' st_att ?hq ?hc ?hn ?hl ?_); (case hq => walk_at "hp"); (case hc => with_reducible assumption); (case hn => with_reducible assumption); (case hl => walk_at "lk"))
  | ((with_reducible refine' st_mt ?hq ?hl ?_); (case hq => walk_at "hp"); (case hl => walk_at "lk"))
  | ((with_reducible refine' st_extend ?hq ?hr ?hl ?_); (case hq => walk_at "hp"); (case hr => walk_at "hp"); (case hl => walk_at "line"))
  | with_reducible refine st_next ?_ | with_reducible refine st_retN ?_ | (with_reducible refine iteNT ?_) | (with_reducible refine iteNF ?_) | (with_reducible refine iteT ?_) | (with_reducible refine iteF ?_))
local macro_rules | `(tactic| walk_at "side") => `(tactic| first | omega | decide | assumption | exact ⟨by omega, by omega⟩ | exact Or.inr ⟨by omega, by omega⟩ | exact Or.inl ⟨by omega, by omega⟩ | (simp only [List.length_map, List.length_cons, List.length_nil, List.length_append] at *; omega))
local macro_rules | `(tactic| walk_at "hp") => `(tactic| first | assumption | exact upd_same | refine upd_old (by assumption) (by walk_at "hp") | (rw [upd_ne (by first | assumption | exact Ne.symm (by assumption))]; walk_at "hp"))
local macro_rules | `(tactic| walk_at "sqL") => `(tactic| first | assumption | exact SqL.of (by walk_at "hp"))
local macro_rules | `(tactic| walk_at "sqT") => `(tactic| first | assumption | exact SqT.of (by walk_at "hp"))
local macro_rules | `(tactic| walk_at "sqb") => `(tactic| (unfold SqB; first | ((with_reducible change SqL _ _ _ _); walk_at "sqL") | ((with_reducible change SqT _ _ _ _); walk_at "sqT")))
local macro_rules | `(tactic| walk_at "line") => `(tactic| first | assumption | decide | (apply line_of; walk_at "side") | (apply line_lt; walk_at "side"))
local macro_rules | `(tactic| walk_at "ty") => `(tactic| ((with_reducible refine' ty_lst ?hq); (case hq => walk_at "hp")))
local macro_rules | `(tactic| walk_at "at") => `(tactic| with_reducible first | assumption | exact at0 | exact at1 | exact at2 | exact at3 | exact at4 | exact at5 | exact at6 | exact at7 | exact at8)
local macro_rules | `(tactic| walk_at "st") => `(tactic| (repeat walk_at "st1"))
local macro_rules | `(tactic| walk_at "lk") => `(tactic| first | with_reducible assumption | rfl)
local macro_rules | `(tactic| walk_at "kd") => `(tactic| first | exact .base (.int _) | exact .base .non | exact .base (.bl _) | exact .base (.str _) | exact .base (.tup (by walk_at "hp")) | exact .base (.lst (by walk_at "hp")) | exact .base (.dK (by walk_at "hp")) | exact .base (.dT (by walk_at "hp")))
local macro_rules | `(tactic| walk_at "kit") => `(tactic| with_reducible first
  | exact kit_NoneType_bool
  | exact kit_NoneType_int
  | exact kit_NoneType_str
  | exact kit_NoneType_tuple
  | exact kit_NoneType_list
  | exact kit_NoneType_dict
  | exact kit_bool_bool
  | exact kit_bool_int
  | exact kit_bool_str
  | exact kit_bool_tuple
  | exact kit_bool_list
  | exact kit_bool_dict
  | exact kit_int_bool
  | exact kit_int_int
  | exact kit_int_str
  | exact kit_int_tuple
  | exact kit_int_list
  | exact kit_int_dict
  | exact kit_str_bool
  | exact kit_str_int
  | exact kit_str_str
  | exact kit_str_tuple
  | exact kit_str_list
  | exact kit_str_dict
  | exact kit_tuple_bool
  | exact kit_tuple_int
  | exact kit_tuple_str
  | exact kit_tuple_tuple
  | exact kit_tuple_list
  | exact kit_tuple_dict
  | exact kit_list_bool
  | exact kit_list_int
  | exact kit_list_str
  | exact kit_list_tuple
  | exact kit_list_list
  | exact kit_list_dict
  | exact kit_dict_bool
  | exact kit_dict_int
  | exact kit_dict_str
  | exact kit_dict_tuple
  | exact kit_dict_list
  | exact kit_dict_dict)
local macro_rules | `(tactic| walk_at "flen") => `(tactic| decide)
local macro_rules | `(tactic| walk_at "puts") => `(tactic| skip)

local macro_rules | `(tactic| walk_at "st1") => `(tactic| first
  | with_reducible refine st_dc ?_ | with_reducible refine st_dgetS ?_ | with_reducible refine st_dinS ?_ | with_reducible refine st_dninS ?_ | with_reducible refine st_dputS ?_ | with_reducible refine st_newT ?_ | with_reducible refine iteNN ?_ | with_reducible refine iteYN ?_
  | ((with_reducible refine' st_getT ?hq ?hk ?hv ?_); (case hq => walk_at "hp"); (case hk => walk_at "key"); (case hv => with_reducible assumption))
  | ((with_reducible refine' st_inT ?hq ?hk ?_); (case hq => walk_at "hp"); (case hk => walk_at "key"))
  | ((with_reducible refine' st_ninT ?hq ?hk ?_); (case hq => walk_at "hp"); (case hk => walk_at "key"))
  | ((with_reducible refine' st_putT ?hq ?hk ?hl ?_); (case hq => walk_at "hp"); (case hk => walk_at "key"); (case hl => walk_at "line"))
  | ((with_reducible refine' st_cputT ?hq ?hk ?hl ?_); (case hq => walk_at "hp"); (case hk => walk_at "key"); (case hl => walk_at "line"))
  | ((with_reducible refine' st_ixB ?hq ?he ?_); (case hq => first | assumption | exact Or.inl (by walk_at "sqL") | exact Or.inr (by walk_at "sqT")); (case he => walk_at "at")))
local macro_rules | `(tactic| walk_at "key") => `(tactic| with_reducible assumption)

section
variable {Z : Ads} {P : Program} {w : World} {K : PySem.W.Frag} {mg : Str → Option Value} {base : Heap}
/-! ### the program's small judges -/
def spTuple : Sp := fun vs H Q _ => ∃ (a : Addr) (xs : List V) (l m : Int), vs = [.ref a, .int l, .int m] ∧ H a = some (.tup xs) ∧ xs.length ≤ 100000 ∧ Q (.bl (decide (l ≤ (xs.length : Int)) && decide ((xs.length : Int) ≤ m))) H
abbrev s_is_tuple : Stmt := top 10
theorem sc_is_tuple : FnScope ["thing", "least", "most"] ["thing", "least", "most"] (defScope s_is_tuple) := ⟨rfl, rfl, rfl, by decide +kernel, rfl, by decide +kernel, by decide +kernel⟩
theorem ok_is_tuple {f : Addr} {fd : FuncData} (F : Fun K "is_tuple" "is_tuple" s_is_tuple f fd) (T : Txt K mg Z) : FnOk P w K mg base (L2.CX P w) 1 f fd ["thing", "least", "most"] spTuple := by
  refine okN F sc_is_tuple (fun vs H Q E h => ?_) (fun cdv A outer s0 H vs Q E hr h => ?_)
  · obtain ⟨a, xs, l, m, rfl, _⟩ := h
    rfl
  · obtain ⟨a, xs, l, m, rfl, ha, hl, k⟩ := h
    refine ⟨_, [some _, some _, some _], rfl, (pss_one (ps_ret (pe_and (pe_callB (kIsi (K := K)) (by rfl) T.n_isinstance (by decide +kernel) (pa_cons (pv 0) (pa_cons (pe_ty "tuple" (by rfl) T.n_tuple (by decide +kernel)) pa_nil))) (pe_one (pe_chain op_le op_le (pv 1) (pe_callB (kLen (K := K)) (by rfl) T.n_len (by decide +kernel) (pa_cons (pv 0) pa_nil)) (pv 2)))))), ?_⟩
    walk_at "st"
    refine iteD (fun h => ?_) (fun h => ?_)
    · walk_at "st"
      rw [decide_eq_true h, Bool.true_and] at k
      exact k
    · rw [decide_eq_false h, Bool.false_and] at k
      exact k
def spBetween : Sp := fun vs H Q _ => ∃ (i l m : Int), vs = [.int i, .int l, .int m] ∧ Q (.bl (decide (l ≤ i) && decide (i ≤ m))) H
abbrev s_is_between : Stmt := top 6
theorem sc_is_between : FnScope ["thing", "least", "most"] ["thing", "least", "most"] (defScope s_is_between) := ⟨rfl, rfl, rfl, by decide +kernel, rfl, by decide +kernel, by decide +kernel⟩
theorem ok_is_between {f : Addr} {fd : FuncData} (F : Fun K "is_between" "is_between" s_is_between f fd) (T : Txt K mg Z) (D_is_integer : Dn P w K mg base "is_integer" 1 ["thing"] (spIsInteger K)) : FnOk P w K mg base (L2.CX P w) 2 f fd ["thing", "least", "most"] spBetween := by
  refine okN F sc_is_between (fun vs H Q E h => ?_) (fun cdv A outer s0 H vs Q E hr h => ?_)
  · obtain ⟨i, l, m, rfl, _⟩ := h
    rfl
  · obtain ⟨i, l, m, rfl, k⟩ := h
    refine ⟨_, [some _, some _, some _], rfl, (pss_one (ps_ret (pe_and (pe_d D_is_integer E0 (hr.mono (by first | decide | omega)) (by rfl) passL (pa_cons (pv 0) pa_nil)) (pe_one (pe_chain op_le op_le (pv 1) (pv 0) (pv 2)))))), ?_⟩
    walk_at "st"
    refine ⟨i, rfl, ?_⟩
    walk_at "st"
    refine iteD (fun h => ?_) (fun h => ?_)
    · walk_at "st"
      rw [decide_eq_true h, Bool.true_and] at k
      exact k
    · rw [decide_eq_false h, Bool.false_and] at k
      exact k
def spNumber : Sp := fun vs H Q _ => ∃ (i : Int), vs = [.int i] ∧ Q (.bl (decide (0 ≤ i))) H
abbrev s_is_number : Stmt := top 7
theorem sc_is_number : FnScope ["thing"] ["thing"] (defScope s_is_number) := ⟨rfl, rfl, rfl, by decide +kernel, rfl, by decide +kernel, by decide +kernel⟩
theorem ok_is_number {f : Addr} {fd : FuncData} (F : Fun K "is_number" "is_number" s_is_number f fd) (T : Txt K mg Z) (D_is_integer : Dn P w K mg base "is_integer" 1 ["thing"] (spIsInteger K)) : FnOk P w K mg base (L2.CX P w) 2 f fd ["thing"] spNumber := by
  refine okN F sc_is_number (fun vs H Q E h => ?_) (fun cdv A outer s0 H vs Q E hr h => ?_)
  · obtain ⟨i, rfl, _⟩ := h
    rfl
  · obtain ⟨i, rfl, k⟩ := h
    refine ⟨_, [some _], rfl, (pss_one (ps_ret (pe_and (pe_d D_is_integer E0 (hr.mono (by first | decide | omega)) (by rfl) passL (pa_cons (pv 0) pa_nil)) (pe_one (pe_cmpR op_ge (pv 0) pe_int (by first | exact nomark _ | rfl)))))), ?_⟩
    walk_at "st"
    refine ⟨i, rfl, ?_⟩
    walk_at "st"
    exact k
def spIsKey : Sp := fun vs H Q _ => ∃ (v : V) (d : PyData), vs = [v] ∧ TD H v d ∧ KeyD d ∧ ∀ H', Fr [] H H' → Q (.bl true) H'
abbrev s_is_key : Stmt := top 66
theorem sc_is_key : FnScope ["thing", "part"] ["thing"] (defScope s_is_key) := ⟨rfl, rfl, rfl, by decide +kernel, rfl, by decide +kernel, by decide +kernel⟩
theorem ok_is_key {f : Addr} {fd : FuncData} (F : Fun K "is_key" "is_key" s_is_key f fd) (T : Txt K mg Z) (D_is_number : Dn P w K mg base "is_number" 2 ["thing"] spNumber) : FnOk P w K mg base (L2.CX P w) 3 f fd ["thing"] spIsKey := by
  refine okN F sc_is_key (fun vs H Q E h => ?_) (fun cdv A outer s0 H vs Q E hr h => ?_)
  · obtain ⟨v, d, rfl, _⟩ := h
    rfl
  · obtain ⟨v, d, rfl, hv, ⟨ds, rfl, h0, h3, hk⟩, k⟩ := h
    cases hv with
    | @tup a xs _ ha hT =>
    have hl := hT.length
    refine ⟨_, [some _, none], rfl, (pss_cons (ps_if (PW.pt (pw_or (pt_not (pt_val (pe_callB (kIsi (K := K)) (by rfl) T.n_isinstance (by decide +kernel) (pa_cons (pv 0) (pa_cons (pe_ty "tuple" (by rfl) T.n_tuple (by decide +kernel)) pa_nil))))) (pw_or1 (pt_cmpR op_eq (pe_callB (kLen (K := K)) (by rfl) T.n_len (by decide +kernel) (pa_cons (pv 0) pa_nil)) pe_int (by first | exact nomark _ | rfl))))) (pss_one (ps_ret pe_bl)) pss_nil)
      (pss_one (ps_ret (pe_callB (kAll (K := K)) (by rfl) T.n_all (by decide +kernel) (pa_cons (pe_lc (own := [("part", 1)]) (g := (gName 1)) (tt := tYes) rfl sc_is_key.nd (kPiT (K := K) (pv 0)) (blkOk_by (N := ["thing", "part"]) (sc := defScope s_is_key) (by decide +kernel)) (fun _ _ _ _ _ => (pg_name (i := 1) sc_is_key.nd rfl (by first | exact Or.inl rfl | exact Or.inr rfl))) (fun _ _ _ _ _ => pts_nil) (fun _ _ _ _ _ => (pe_or (pe_callB (kIsi (K := K)) (by rfl) T.n_isinstance (by decide +kernel) (pa_cons (pv 1) (pa_cons (pe_ty "str" (by rfl) T.n_str (by decide +kernel)) pa_nil))) (pe_one (pe_d D_is_number E0 (hr.mono (by first | decide | omega)) (by rfl) passL (pa_cons (pv 1) pa_nil)))))) pa_nil))))), ?_⟩
    walk_at "st"
    have hx : (xs.length : Int) ≠ 0 := by omega
    refine iteD (fun h => absurd h (by simpa using hx)) (fun h => ?_)
    walk_at "st"
    intro D hD
    refine lc_it (walk_tup (xs := xs)) (fun i H' => Fr [] H H' ∧ H' D = some (.lst ((List.replicate i true).map V.bl))) ⟨Fr.up hD, upd_same⟩ (fun i H' _ h => SqT.of (h.1.tup _ _ ha)) ?_ ?_
    · rintro i x H1 H2 hi ⟨f1, e1⟩ ⟨rfl, hx⟩
      obtain ⟨d, hd, td⟩ := TDs.at_ (TDs.mono f1.tup _ _ hT) hx
      have fin : ∀ H3, H3 = H2 → ∃ acc, H3 D = some (.lst acc) ∧ acc.length < sizeLine ∧ Fr [] H (upd H3 D (.lst (acc ++ [V.bl true]))) ∧ (upd H3 D (.lst (acc ++ [V.bl true]))) D = some (.lst ((List.replicate (i + 1) true).map V.bl)) := fun H3 e => by
        rw [e]
        refine ⟨_, e1, line_lt (by simp; omega), f1.wl e1 (.inr hD), ?_⟩
        rw [upd_same, List.replicate_succ', List.map_append]
        rfl
      rcases hk d (List.mem_of_getElem? hd) with ⟨z, rfl, _⟩ | ⟨n, hn, rfl⟩
      · cases td
        walk_at "st"
        exact fin _ rfl
      · cases td
        walk_at "st"
        refine ⟨n, rfl, ?_⟩
        rw [decide_eq_true hn]
        exact fin _ rfl
    · rintro H1 ⟨f1, e1⟩
      walk_at "st"
      refine st_all (SqL.of e1) ?_
      rw [show (List.replicate xs.length true).all id = true by simp]
      exact k _ f1
def spKept (n : Nat) : Sp := fun vs H Q _ => ∃ (v : V) (d : PyData), vs = [v] ∧ TD H v d ∧ Nice n d ∧ ∀ H', Fr [] H H' → Q (.bl true) H'
theorem isi3 {H : Hp} {x : V} {tp CE : Addr} {Q : VK} {t : String} (h : H tp = some (.tup [.ty "int", .ty "str", .ref CE])) (hk : TyX K H x (.type t)) (ht : t = "int" ∨ t = "bool" ∨ t = "str") (q : Q (.bl true) H) : rIsiT K [x, .ref tp] H Q := by
  refine ⟨x, tp, _, .type t, [.type "int", .type "str", .ref CE], true, rfl, h, .cons (.ty _) (.cons (.ty _) (.cons (.own _) .nil)), hk, ?_, q⟩
  rcases ht with rfl | rfl | rfl
  · exact kitAny_cons (b := true) (kit_ty kit_int_int) (fun h => nomatch h) fun _ => rfl
  · exact kitAny_cons (b := true) (kit_ty kit_bool_int) (fun h => nomatch h) fun _ => rfl
  · exact kitAny_cons (b := false) (kit_ty kit_str_int) (fun _ => kitAny_cons (b := true) (kit_ty kit_str_str) (fun h => nomatch h) fun _ => rfl) (fun h => nomatch h)
abbrev s_is_kept : Stmt := top 67
theorem sc_is_kept : FnScope ["thing", "part"] ["thing"] (defScope s_is_kept) := ⟨rfl, rfl, rfl, by decide +kernel, rfl, by decide +kernel, by decide +kernel⟩
theorem step_is_kept {f : Addr} {fd : FuncData} (F : Fun K "is_kept" "is_kept" s_is_kept f fd) (T : Txt K mg Z) (n : Nat)
    (D_is_kept : Dn P w K mg base "is_kept" (0 + n) ["thing"] (fun vs H Q E => ∃ m, m < n ∧ spKept m vs H Q E)) : FnOk P w K mg base (L2.CX P w) (0 + n + 1) f fd ["thing"] (spKept n) := by
  refine okN F sc_is_kept (fun vs H Q E h => ?_) (fun cdv A outer s0 H vs Q E hr h => ?_)
  · obtain ⟨v, d, rfl, _⟩ := h
    rfl
  · obtain ⟨v, d, rfl, hv, hN, k⟩ := h
    refine ⟨_, [some _, none], rfl, (pss_cons (ps_if (pt_val (pe_callB (kIsi (K := K)) (by rfl) T.n_isinstance (by decide +kernel) (pa_cons (pv 0) (pa_cons (pe_ty "tuple" (by rfl) T.n_tuple (by decide +kernel)) pa_nil)))) (pss_one (ps_ret (pe_callB (kAll (K := K)) (by rfl) T.n_all (by decide +kernel) (pa_cons (pe_lc (own := [("part", 1)]) (g := (gName 1)) (tt := tYes) rfl sc_is_kept.nd (kPiT (K := K) (pv 0)) (blkOk_by (N := ["thing", "part"]) (sc := defScope s_is_kept) (by decide +kernel)) (fun _ _ _ _ _ => (pg_name (i := 1) sc_is_kept.nd rfl (by first | exact Or.inl rfl | exact Or.inr rfl))) (fun _ _ _ _ _ => pts_nil) (fun _ _ _ _ _ => (pe_d D_is_kept E0 (hr.mono (by first | decide | omega)) (by rfl) passL (pa_cons (pv 1) pa_nil)))) pa_nil)))) pss_nil)
      (pss_one (ps_ret (pe_or (pe_cmp (pc_isN (pv 0))) (pe_one (pe_callB (kIsiT (K := K)) (by rfl) T.n_isinstance (by decide +kernel) (pa_cons (pv 0) (pa_cons (pe_tup (pa_cons (pe_ty "int" (by rfl) T.n_int (by decide +kernel)) (pa_cons (pe_ty "str" (by rfl) T.n_str (by decide +kernel)) (pa_cons (pe_gl (by rfl) T.g_Exchange) pa_nil)))) pa_nil)))))))), ?_⟩
    cases hv with
    | non =>
      walk_at "st"
      exact k _ (Fr.refl H)
    | bl b =>
      walk_at "st"
      rw [if_neg (by simp)]
      walk_at "st"
      intro t ht
      walk_at "st"
      exact isi3 upd_same (t := "bool") (by walk_at "kd") (by simp) (k _ (Fr.up ht))
    | int i =>
      walk_at "st"
      rw [if_neg (by simp)]
      walk_at "st"
      intro t ht
      walk_at "st"
      exact isi3 upd_same (t := "int") (by walk_at "kd") (by simp) (k _ (Fr.up ht))
    | str x =>
      walk_at "st"
      rw [if_neg (by simp)]
      walk_at "st"
      intro t ht
      walk_at "st"
      exact isi3 upd_same (t := "str") (by walk_at "kd") (by simp) (k _ (Fr.up ht))
    | @tup a xs ds ha hT =>
      walk_at "st"
      intro D hD
      have hsz := hN.len
      have hl := hT.length
      refine lc_it (walk_tup (xs := xs)) (fun i H' => Fr [] H H' ∧ H' D = some (.lst ((List.replicate i true).map V.bl))) ⟨Fr.up hD, upd_same⟩ (fun i H' _ h => SqT.of (h.1.tup _ _ ha)) ?_ ?_
      · rintro i x H1 H2 hi ⟨f1, e1⟩ ⟨rfl, hx⟩
        obtain ⟨d, hd, td⟩ := TDs.at_ (TDs.mono f1.tup _ _ hT) hx
        walk_at "st"
        obtain ⟨n0, hNd, _⟩ := hN.sub (List.mem_of_getElem? hd)
        refine ⟨n - 1, by omega, x, d, rfl, td, hNd, fun H3 f3 => ?_⟩
        have e3 := f3.keep _ _ List.not_mem_nil e1
        refine ⟨_, e3, ?_, (f1.trans f3).wl e3 (.inr hD), ?_⟩
        · rw [List.length_map, List.length_replicate]
          exact line_lt (by omega)
        · rw [upd_same, List.replicate_succ', List.map_append]
          rfl
      · rintro H1 ⟨f1, e1⟩
        walk_at "st"
        refine st_all (SqL.of e1) ?_
        rw [show (List.replicate xs.length true).all id = true by simp]
        exact k _ f1
end

end K39

namespace K39
open PySem PySem.Spec PyProof.Rows L2 Hq
local macro_rules | `(tactic| walk_at "st1") => `(tactic| first
  | with_reducible refine st_seq ?_ | with_reducible refine st_ret ?_ | with_reducible refine st_ifS ?_ | with_reducible refine st_asg ?_ | with_reducible refine st_drop ?_
  | ((with_reducible refine' st_var ?hv ?_); (case hv => rfl)) | with_reducible refine st_c ?_ | with_reducible refine st_op ?_ | with_reducible refine st_un ?_
  | with_reducible refine st_I0 ?_ | with_reducible refine st_U ?_ | ((with_reducible refine' st_I ?hc ?_); (case hc => walk_at "side"))
  | ((with_reducible refine' st_eq ?hs ?_); (case hs => rfl)) | ((with_reducible refine' st_ne ?hs ?_); (case hs => rfl))
  | with_reducible refine st_test ?_ | with_reducible refine st_B ?_ | with_reducible refine st_bl ?_ | with_reducible refine st_isN ?_ | with_reducible refine st_notN ?_
  | with_reducible refine st_chain ?_ | with_reducible refine st_and ?_ | with_reducible refine st_or ?_ | with_reducible refine st_not ?_
  | with_reducible refine st_andV ?_ | with_reducible refine st_orV ?_ | with_reducible refine st_notV ?_ | with_reducible refine st_if ?_
  | with_reducible refine st_CB ?_ | with_reducible refine st_cons ?_ | with_reducible refine st_nil ?_ | with_reducible refine st_fld ?_
  | ((with_reducible refine st_tup ?_)) | ((with_reducible refine st_lst ?_))
  | with_reducible refine st_call ?_ | with_reducible refine st_meth ?_ | with_reducible refine st_make ?_
  | with_reducible refine st_sl ?_ | with_reducible refine st_noPart ?_ | with_reducible refine st_part ?_ | with_reducible refine st_int ?_
  | ((with_reducible refine' st_ixL ?hq ?he ?_); (case hq => walk_at "sqL"); (case he => walk_at "at"))
  | ((with_reducible refine' st_ixT ?hq ?he ?_); (case hq => walk_at "sqT"); (case he => walk_at "at"))
  | with_reducible refine st_bm ?_ | with_reducible refine st_app ?_
  | ((with_reducible refine' st_append ?hq ?hl ?_); (case hq => walk_at "hp"); (case hl => walk_at "line"))
  | ((with_reducible refine' st_len (n := 0) ?hq ?_); (case hq => first | exact Or.inl (by walk_at "sqL") | exact Or.inr (by walk_at "sqT")))
  | ((with_reducible refine' st_listOf ?hq ?_); (case hq => first | exact Or.inl (by walk_at "sqL") | exact Or.inr (by walk_at "sqT")))
  | ((with_reducible refine st_name ?_); (try dsimp only [List.set_cons_zero, List.set_cons_succ])) | with_reducible refine st_par ?_
  | with_reducible refine st_gcons ?_ | with_reducible refine st_gnil ?_ | with_reducible refine st_gsub ?_ | with_reducible refine st_sFld ?_
  | ((with_reducible refine' st_gtup ?hq ?hl ?_); (case hq => walk_at "sqT"); (case hl => rfl))
  | ((with_reducible refine' st_setL ?hq ?hl ?_); (case hq => walk_at "hp"); (case hl => first | rfl | exact ix0 | exact ixN_nat (by assumption)); (try simp only [Int.reduceToNat, List.set_cons_zero, List.set_cons_succ]))
  | with_reducible refine st_intI ?_ | with_reducible refine st_abs ?_
  | ((with_reducible refine' st_popAt ?hq ?hk ?hy ?_); (case hq => walk_at "hp"); (case hk => exact seq0); (case hy => rfl))
  | ((with_reducible refine' and_left ?ht ?_); (case ht => walk_at "ty"))
  | with_reducible refine st_lc ?_ | with_reducible refine st_for ?_ | with_reducible refine st_iL ?_ | with_reducible refine st_iT ?_ | with_reducible refine st_iR1 ?_ | with_reducible refine st_iR2 ?_ | with_reducible refine st_iZ ?_
  | ((with_reducible refine' st_refL ?hq ?_); (case hq => walk_at "sqL")) | ((with_reducible refine' st_refT ?hq ?_); (case hq => walk_at "sqT"))
  | ((with_reducible refine' st_rng1 ?hq ?_); (case hq => walk_at "side")) | ((with_reducible refine' st_rng2 ?hq ?_); (case hq => walk_at "side"))
  | ((with_reducible refine' st_zip ?hq ?hr ?_); (case hq => walk_at "sqb"); (case hr => walk_at "sqb"))
  | ((with_reducible refine' st_size ?hw ?_); (case hw => walk_at "line"))
  | ((with_reducible refine' st_sum ?hq ?_); (case hq => walk_at "sqL"))
  | with_reducible refine st_two ?_ | with_reducible refine st_yes ?_ | ((with_reducible refine' st_wipe ?hw ?_); (case hw => rfl))
  | ((with_reducible refine' st_slL ?hq ?_); (case hq => walk_at "sqL"))
  | ((with_reducible refine' st_cat ?hq ?hr ?hl ?_); (case hq => walk_at "hp"); (case hr => walk_at "hp"); (case hl => walk_at "line"))
  | ((with_reducible refine' st_isi ?hk ?he ?_); (case hk => walk_at "kd"); (case he => walk_at "kit"))
  | ((with_reducible refine' st_ins ?hq ?hc ?hn ?hl ?_); (case hq => walk_at "hp"); (case hc => with_reducible assumption); (case hn => with_reducible assumption); (case hl => walk_at "flen"); walk_at "puts")
  | ((with_reducible refine' st_att ?hq ?hc ?hn ?hl ?_); (case hq => walk_at "hp"); (case hc => with_reducible assumption); (case hn => with_reducible assumption); (case hl => walk_at "lk"))
  | ((with_reducible refine' st_mt ?hq ?hl ?_); (case hq => walk_at "hp"); (case hl => walk_at "lk"))
  | ((with_reducible refine' st_extend ?hq ?hr ?hl ?_); (case hq => walk_at "hp"); (case hr => walk_at "hp"); (case hl => walk_at "line"))
  | with_reducible refine st_next ?_ | with_reducible refine st_retN ?_ | (with_reducible refine iteNT ?_) | (with_reducible refine iteNF ?_) | (with_reducible refine iteT ?_) | (with_reducible refine iteF ?_))
local macro_rules | `(tactic| walk_at "side") => `(tactic| first | omega | decide | assumption | exact ⟨by omega, by omega⟩ | exact Or.inr ⟨by omega, by omega⟩ | exact Or.inl ⟨by omega, by omega⟩ | (simp only [List.length_map, List.length_cons, List.length_nil, List.length_append] at *; omega))
local macro_rules | `(tactic| walk_at "hp") => `(tactic| first | assumption | exact upd_same | refine upd_old (by assumption) (by walk_at "hp") | (rw [upd_ne (by first | assumption | exact Ne.symm (by assumption))]; walk_at "hp"))
local macro_rules | `(tactic| walk_at "sqL") => `(tactic| first | assumption | exact SqL.of (by walk_at "hp"))
local macro_rules | `(tactic| walk_at "sqT") => `(tactic| first | assumption | exact SqT.of (by walk_at "hp"))
local macro_rules | `(tactic| walk_at "sqb") => `(tactic| (unfold SqB; first | ((with_reducible change SqL _ _ _ _); walk_at "sqL") | ((with_reducible change SqT _ _ _ _); walk_at "sqT")))
local macro_rules | `(tactic| walk_at "line") => `(tactic| first | assumption | decide | (apply line_of; walk_at "side") | (apply line_lt; walk_at "side"))
local macro_rules | `(tactic| walk_at "ty") => `(tactic| ((with_reducible refine' ty_lst ?hq); (case hq => walk_at "hp")))
local macro_rules | `(tactic| walk_at "at") => `(tactic| with_reducible first | assumption | exact at0 | exact at1 | exact at2 | exact at3 | exact at4 | exact at5 | exact at6 | exact at7 | exact at8)
local macro_rules | `(tactic| walk_at "st") => `(tactic| (repeat walk_at "st1"))
local macro_rules | `(tactic| walk_at "lk") => `(tactic| first | with_reducible assumption | rfl)
local macro_rules | `(tactic| walk_at "kd") => `(tactic| first | exact .base (.int _) | exact .base .non | exact .base (.bl _) | exact .base (.str _) | exact .base (.tup (by walk_at "hp")) | exact .base (.lst (by walk_at "hp")) | exact .base (.dK (by walk_at "hp")) | exact .base (.dT (by walk_at "hp")))
local macro_rules | `(tactic| walk_at "kit") => `(tactic| with_reducible first
  | exact kit_NoneType_bool
  | exact kit_NoneType_int
  | exact kit_NoneType_str
  | exact kit_NoneType_tuple
  | exact kit_NoneType_list
  | exact kit_NoneType_dict
  | exact kit_bool_bool
  | exact kit_bool_int
  | exact kit_bool_str
  | exact kit_bool_tuple
  | exact kit_bool_list
  | exact kit_bool_dict
  | exact kit_int_bool
  | exact kit_int_int
  | exact kit_int_str
  | exact kit_int_tuple
  | exact kit_int_list
  | exact kit_int_dict
  | exact kit_str_bool
  | exact kit_str_int
  | exact kit_str_str
  | exact kit_str_tuple
  | exact kit_str_list
  | exact kit_str_dict
  | exact kit_tuple_bool
  | exact kit_tuple_int
  | exact kit_tuple_str
  | exact kit_tuple_tuple
  | exact kit_tuple_list
  | exact kit_tuple_dict
  | exact kit_list_bool
  | exact kit_list_int
  | exact kit_list_str
  | exact kit_list_tuple
  | exact kit_list_list
  | exact kit_list_dict
  | exact kit_dict_bool
  | exact kit_dict_int
  | exact kit_dict_str
  | exact kit_dict_tuple
  | exact kit_dict_list
  | exact kit_dict_dict)
local macro_rules | `(tactic| walk_at "flen") => `(tactic| decide)
local macro_rules | `(tactic| walk_at "puts") => `(tactic| skip)

theorem Disk_ne_lying_pending : ¬ (("lying" : Str) = "pending") := by decide +kernel
theorem Disk_ne_lying_spoils : ¬ (("lying" : Str) = "spoils") := by decide +kernel
theorem Disk_ne_pending_lying : ¬ (("pending" : Str) = "lying") := by decide +kernel
theorem Disk_ne_pending_spoils : ¬ (("pending" : Str) = "spoils") := by decide +kernel
theorem Disk_ne_spoils_lying : ¬ (("spoils" : Str) = "lying") := by decide +kernel
theorem Disk_ne_spoils_pending : ¬ (("spoils" : Str) = "pending") := by decide +kernel
def DiskF0 : List (Str × V) := []
def DiskF1 (v0 : V) : List (Str × V) := [("lying", v0)]
def DiskF2 (v0 v1 : V) : List (Str × V) := [("lying", v0), ("pending", v1)]
def DiskF (v0 v1 v2 : V) : List (Str × V) := [("lying", v0), ("pending", v1), ("spoils", v2)]
theorem DiskF0_len : (DiskF0 ).length < 1000 := by unfold DiskF0; show 0 < 1000; decide
theorem DiskF0_put {v0 : V} : putF "lying" v0 (DiskF0 ) = DiskF1 v0 := by unfold DiskF0 DiskF1; rw [put_nil]
theorem DiskF1_len {v0 : V} : (DiskF1 v0).length < 1000 := by unfold DiskF1; show 1 < 1000; decide
theorem DiskF1_put {v0 v1 : V} : putF "pending" v1 (DiskF1 v0) = DiskF2 v0 v1 := by unfold DiskF1 DiskF2; rw [put_cons, if_neg Disk_ne_lying_pending, put_nil]
theorem DiskF2_len {v0 v1 : V} : (DiskF2 v0 v1).length < 1000 := by unfold DiskF2; show 2 < 1000; decide
theorem DiskF2_put {v0 v1 v2 : V} : putF "spoils" v2 (DiskF2 v0 v1) = DiskF v0 v1 v2 := by unfold DiskF2 DiskF; rw [put_cons, if_neg Disk_ne_lying_spoils, put_cons, if_neg Disk_ne_pending_spoils, put_nil]
theorem DiskF_len {v0 v1 v2 : V} : (DiskF v0 v1 v2).length < 1000 := by unfold DiskF; show 3 < 1000; decide
theorem DiskF_get_lying {v0 v1 v2 : V} : List.lookup ("lying" : Str) (DiskF v0 v1 v2) = some v0 := by unfold DiskF; rw [look_cons, if_pos rfl]
theorem DiskF_put_lying {v0 v1 v2 w : V} : putF "lying" w (DiskF v0 v1 v2) = DiskF w v1 v2 := by unfold DiskF; rw [put_cons, if_pos rfl]
theorem DiskF_get_pending {v0 v1 v2 : V} : List.lookup ("pending" : Str) (DiskF v0 v1 v2) = some v1 := by unfold DiskF; rw [look_cons, if_neg Disk_ne_pending_lying, look_cons, if_pos rfl]
theorem DiskF_put_pending {v0 v1 v2 w : V} : putF "pending" w (DiskF v0 v1 v2) = DiskF v0 w v2 := by unfold DiskF; rw [put_cons, if_neg Disk_ne_lying_pending, put_cons, if_pos rfl]
theorem DiskF_get_spoils {v0 v1 v2 : V} : List.lookup ("spoils" : Str) (DiskF v0 v1 v2) = some v2 := by unfold DiskF; rw [look_cons, if_neg Disk_ne_spoils_lying, look_cons, if_neg Disk_ne_spoils_pending, look_cons, if_pos rfl]
theorem DiskF_put_spoils {v0 v1 v2 w : V} : putF "spoils" w (DiskF v0 v1 v2) = DiskF v0 v1 w := by unfold DiskF; rw [put_cons, if_neg Disk_ne_lying_spoils, put_cons, if_neg Disk_ne_pending_spoils, put_cons, if_pos rfl]
theorem DiskF_no {v0 v1 v2 : V} {m : Str} (h0 : ¬ m = "lying") (h1 : ¬ m = "pending") (h2 : ¬ m = "spoils") : List.lookup m (DiskF v0 v1 v2) = none := by unfold DiskF; rw [look_cons, if_neg h0, look_cons, if_neg h1, look_cons, if_neg h2]; rfl
local macro_rules | `(tactic| walk_at "lk") => `(tactic| with_reducible first | assumption | exact DiskF_get_lying | exact DiskF_get_pending | exact DiskF_get_spoils | exact DiskF_no (by decide +kernel) (by decide +kernel) (by decide +kernel))
local macro_rules | `(tactic| walk_at "puts") => `(tactic| try simp only [DiskF_put_lying, DiskF_put_pending, DiskF_put_spoils, DiskF0_put, DiskF1_put, DiskF2_put])
local macro_rules | `(tactic| walk_at "flen") => `(tactic| first | with_reducible assumption | with_reducible (first | exact DiskF_len | exact DiskF0_len | exact DiskF1_len | exact DiskF2_len) | decide)
section
variable {Z : Ads} {P : Program} {w : World} {K : PySem.W.Frag} {mg : Str → Option Value} {base : Heap}
/-! ### a disk -/
/-- a disk's list at l, what waits at q -/
structure DiskAt (C : Addr) (n : Int) (H : Hp) (d l q : Addr) (ls ps : List PyData) : Prop where
  ok : ∃ dx, H d = some (.ins C dx (DiskF (.ref l) (.ref q) (.int n)))
  lie : ∃ xs, H l = some (.lst xs) ∧ TDs H xs ls
  pen : ∃ xs, H q = some (.lst xs) ∧ TDs H xs ps
  lq : l ≠ q
def spInit (C : Addr) : Sp := fun vs H Q _ => ∃ (d dx : Addr), vs = [.ref d] ∧ H d = some (.ins C dx DiskF0) ∧ ∀ H' l q, H l = none → H q = none → DiskAt C 0 H' d l q [] [] → Fr [d] H H' → Q .non H'
abbrev s_Disk___init__ : Stmt := inClass (top 68) 0
theorem sc_Disk___init__ : FnScope ["self"] ["self"] (defScope s_Disk___init__) := ⟨rfl, rfl, rfl, by decide +kernel, rfl, by decide +kernel, by decide +kernel⟩
theorem ok_Disk_init {f : Addr} {fd : FuncData} (F : Fun K "__init__" "Disk.__init__" s_Disk___init__ f fd) (T : Txt K mg Z) : FnOk P w K mg base (L2.CX P w) 1 f fd ["self"] (spInit Z.Disk) := by
  have cl := T.cl
  have aL := T.aL
  have aP := T.aP
  have aS := T.aS
  refine okN F sc_Disk___init__ (fun vs H Q E h => ?_) (fun cdv A outer s0 H vs Q E hr h => ?_)
  · obtain ⟨d, dx, rfl, _⟩ := h
    rfl
  · obtain ⟨d, dx, rfl, hd, k⟩ := h
    refine ⟨_, [some _], rfl, (pss_cons (kSFld (K := K) (pv 0) (pe_lst pa_nil) rfl)
      (pss_cons (kSFld (K := K) (pv 0) (pe_lst pa_nil) rfl)
      (pss_one (kSFld (K := K) (pv 0) pe_int rfl)))), ?_⟩
    walk_at "st"
    intro l hl
    have dl : d ≠ l := ne_of_none hd hl
    walk_at "st"
    intro q hq
    have nd : q ≠ d := fresh_ne hq
    have hq2 := fresh_of (fresh_of hq)
    have nl : q ≠ l := fresh_ne (fresh_of hq)
    walk_at "st"
    refine k _ l q hl hq2 ⟨⟨dx, upd_same⟩, ⟨[], (by walk_at "hp"), .nil⟩, ⟨[], (by walk_at "hp"), .nil⟩, nl.symm⟩ ?_
    exact (((((Fr.refl H).new hl).wi (by walk_at "hp") (.inl (by simp))).new hq).wi (by walk_at "hp") (.inl (by simp))).wi upd_same (.inl (by simp))
/-- a key and a thing wait -/
def spWrite (C : Addr) : Sp := fun vs H Q _ => ∃ (n : Int) (d l q : Addr) (ls ps : List PyData) (k v : V) (kd vd : PyData), vs = [.ref d, k, v] ∧ DiskAt C n H d l q ls ps ∧ ps.length ≤ 1000 ∧ TD H k kd ∧ KeyD kd ∧ TD H v vd ∧ Nice 10 vd ∧
  ∀ H', DiskAt C n H' d l q ls (ps ++ [.tuple [kd, vd]]) → Fr [q] H H' → Q .non H'
abbrev s_Disk_write : Stmt := inClass (top 68) 1
theorem sc_Disk_write : FnScope ["self", "key", "thing"] ["self", "key", "thing"] (defScope s_Disk_write) := ⟨rfl, rfl, rfl, by decide +kernel, rfl, by decide +kernel, by decide +kernel⟩
theorem ok_Disk_write {f : Addr} {fd : FuncData} (F : Fun K "write" "Disk.write" s_Disk_write f fd) (T : Txt K mg Z) (D_is_key : Dn P w K mg base "is_key" 3 ["thing"] spIsKey) (D_is_kept : Dn P w K mg base "is_kept" 11 ["thing"] (spKept 10)) :
    FnOk P w K mg base (L2.CX P w) 12 f fd ["self", "key", "thing"] (spWrite Z.Disk) := by
  have cl := T.cl
  have aL := T.aL
  have aP := T.aP
  have aS := T.aS
  refine okN F sc_Disk_write (fun vs H Q E h => ?_) (fun cdv A outer s0 H vs Q E hr h => ?_)
  · obtain ⟨n, d, l, q, ls, ps, k, v, kd, vd, rfl, _⟩ := h
    rfl
  · obtain ⟨n, d, l, q, ls, ps, kk, v, kd, vd, rfl, ⟨⟨dx, hd⟩, ⟨xs, hl, tl⟩, ⟨ys, hq, tq⟩, lq⟩, hps, tk, hk, tv, hv, k⟩ := h
    refine ⟨_, [some _, some _, some _], rfl, (pss_cons (ps_if (pt_not (pt_val (pe_d D_is_key E0 (hr.mono (by first | decide | omega)) (by rfl) passL (pa_cons (pv 1) pa_nil)))) (pss_one ps_never) pss_nil)
      (pss_cons (ps_if (pt_not (pt_val (pe_d D_is_kept E0 (hr.mono (by first | decide | omega)) (by rfl) passL (pa_cons (pv 2) pa_nil)))) (pss_one ps_never) pss_nil)
      (pss_one (ps_expr (kApp (K := K) (kFld (K := K) (pv 0) rfl) (pe_tup (pa_cons (pv 1) (pa_cons (pv 2) pa_nil)))))))), ?_⟩
    walk_at "st"
    refine ⟨kk, kd, rfl, tk, hk, fun H1 f1 => ?_⟩
    walk_at "st"
    refine ⟨v, vd, rfl, TD.mono f1.tup _ _ tv, hv, fun H2 f2 => ?_⟩
    have f12 := f1.trans f2
    have hd2 := f12.same _ _ hd
    have hl2 := f12.same _ _ hl
    have hq2 := f12.same _ _ hq
    have hny := tq.length
    walk_at "st"
    intro t ht
    walk_at "st"
    have g1 : Fr [q] H _ := (f12.mono (ns := [q]) (by simp)).new (o := .tup [kk, v]) ht
    have g2 := g1.wl (p := q) (o' := .lst (ys ++ [.ref t])) (by walk_at "hp") (.inl (by simp))
    have dq : d ≠ q := ne_of hd hq (by intro z; cases z)
    refine k _ ⟨⟨dx, by walk_at "hp"⟩, ⟨xs, by walk_at "hp", TDs.mono g2.tup _ _ tl⟩, ⟨ys ++ [.ref t], upd_same, TDs.snoc (TDs.mono g2.tup _ _ tq) (.tup ?_ (.cons (TD.mono g2.tup _ _ tk) (.cons (TD.mono g2.tup _ _ tv) .nil)))⟩, lq⟩ g2
    rw [upd_ne]
    · exact upd_same
    · exact ne_of (H := upd H2 t (.tup [kk, v])) upd_same (by walk_at "hp" : upd H2 t (.tup [kk, v]) q = some (.lst ys)) (by intro z; cases z)
def trip : PyData → PyData
  | .tuple [k, v] => .tuple [k, v, .bool true]
  | d => d
def IsPr (d : PyData) : Prop := ∃ k v, d = .tuple [k, v] ∧ KeyD k ∧ Nice 10 v
def spSync (C : Addr) : Sp := fun vs H Q _ => ∃ (n : Int) (d l q : Addr) (ls ps : List PyData), vs = [.ref d] ∧ DiskAt C n H d l q ls ps ∧ ps.length ≤ 1000 ∧ ls.length ≤ 1000 ∧ (∀ e ∈ ps, IsPr e) ∧
  ∀ H' q', H q' = none → DiskAt C n H' d l q' (ls ++ ps.map trip) [] → Fr [d, l] H H' → Q .non H'
abbrev s_Disk_sync : Stmt := inClass (top 68) 2
theorem sc_Disk_sync : FnScope ["self", "key", "thing"] ["self"] (defScope s_Disk_sync) := ⟨rfl, rfl, rfl, by decide +kernel, rfl, by decide +kernel, by decide +kernel⟩
theorem ok_Disk_sync {f : Addr} {fd : FuncData} (F : Fun K "sync" "Disk.sync" s_Disk_sync f fd) (T : Txt K mg Z) : FnOk P w K mg base (L2.CX P w) 1 f fd ["self"] (spSync Z.Disk) := by
  have cl := T.cl
  have aL := T.aL
  have aP := T.aP
  have aS := T.aS
  refine okN F sc_Disk_sync (fun vs H Q E h => ?_) (fun cdv A outer s0 H vs Q E hr h => ?_)
  · obtain ⟨n, d, l, q, ls, ps, rfl, _⟩ := h
    rfl
  · obtain ⟨n, d, l, q, ls, ps, rfl, ⟨⟨dx, hd⟩, ⟨xs, hl, tl⟩, ⟨ys, hq, tq⟩, lq⟩, hps, hls, hpr, k⟩ := h
    have hny := tq.length
    have hnx := tl.length
    refine ⟨_, [some _, none, none], rfl, (pss_cons (ps_expr (kBm (K := K) PySem.F.plainAttrs_list PySem.F.slot_list_extend PySem.F.type_list_extend mt_extend (kFld (K := K) (pv 0) rfl) (pa_cons (pe_lc (own := [("key", 1), ("thing", 2)]) (g := (gTup K 2 (gCons (gName 1) (gCons (gName 2) gNil)))) (tt := tYes) rfl sc_Disk_sync.nd (kPiL (K := K) (kFld (K := K) (pv 0) rfl)) (blkOk_by (N := ["self", "key", "thing"]) (sc := defScope s_Disk_sync) (by decide +kernel)) (fun _ _ _ _ _ => (kTupT (K := K) (n := 2) (pgs_cons (pg_name (i := 1) sc_Disk_sync.nd rfl (by first | exact Or.inl rfl | exact Or.inr rfl)) (pgs_cons (pg_name (i := 2) sc_Disk_sync.nd rfl (by first | exact Or.inl rfl | exact Or.inr rfl)) pgs_nil)))) (fun _ _ _ _ _ => pts_nil) (fun _ _ _ _ _ => (pe_tup (pa_cons (pv 1) (pa_cons (pv 2) (pa_cons pe_bl pa_nil)))))) pa_nil)))
      (pss_one (kSFld (K := K) (pv 0) (pe_lst pa_nil) rfl))), ?_⟩
    walk_at "st"
    intro D hD
    refine lc_it (walk_list (xs := ys)) (fun i H' => Fr [] H H' ∧ ∃ acc, H' D = some (.lst acc) ∧ acc.length = i ∧ TDs H' acc ((ps.take i).map trip)) ⟨Fr.up hD, [], upd_same, rfl, .nil⟩ (fun i H' _ h => SqL.of (h.1.same _ _ hq)) ?_ ?_
    · rintro i x H1 H2 hi ⟨f1, acc, e1, ea, ta⟩ ⟨rfl, hx⟩
      obtain ⟨e, he, te⟩ := TDs.at_ (TDs.mono f1.tup _ _ tq) hx
      obtain ⟨kd, vd, rfl, _, _⟩ := hpr e (List.mem_of_getElem? he)
      cases te with
      | @tup a zs _ ha hT =>
      cases hT with
      | @cons z1 _ _ _ t1 hT =>
      cases hT with
      | @cons z2 _ _ _ t2 hT =>
      cases hT
      walk_at "st"
      intro t ht
      have e2 := upd_old (o' := HO.tup [z1, z2, V.bl true]) ht e1
      have f2 := f1.new (o := .tup [z1, z2, V.bl true]) ht
      have f3 := f2.wl (o' := .lst (acc ++ [.ref t])) e2 (.inr hD)
      have gT : Tp H2 (upd (upd H2 t (.tup [z1, z2, V.bl true])) D (.lst (acc ++ [.ref t]))) := ((Fr.up (ms := [D]) ht).wl e2 (.inl (by simp))).tup
      refine ⟨acc, e2, line_lt (by omega), f3, acc ++ [.ref t], upd_same, by simp [ea], ?_⟩
      rw [take_snoc he, List.map_append]
      refine TDs.snoc (TDs.mono gT _ _ ta) (.tup ?_ (.cons (TD.mono gT _ _ t1) (.cons (TD.mono gT _ _ t2) (.cons (.bl _) .nil))))
      rw [upd_ne (ne_of (H := upd H2 t (.tup [z1, z2, V.bl true])) upd_same e2 (by intro z; cases z))]
      exact upd_same
    · rintro H1 ⟨f1, acc, e1, ea, ta⟩
      have hd1 := f1.same _ _ hd
      have hl1 := f1.same _ _ hl
      have dl : d ≠ l := ne_of hd hl (by intro z; cases z)
      have Dd : D ≠ d := (ne_of_none hd hD).symm
      have Dl : D ≠ l := (ne_of_none hl hD).symm
      walk_at "st"
      intro q' hq'
      walk_at "st"
      have n1 : q' ≠ l := fresh_ne hq'
      have h1q := fresh_of hq'
      have n2 : q' ≠ d := (ne_of_none hd1 h1q).symm
      have g1 : Fr [d, l] H _ := ((((f1.mono (ns := [d, l]) (by simp)).wl (o' := .lst (xs ++ acc)) hl1 (.inl (by simp))).new (o := .lst []) hq').wi (o' := .ins Z.Disk dx (DiskF (.ref l) (.ref q') (.int n))) (by walk_at "hp") (.inl (by simp)))
      have g2 : Tp H1 _ := (((Fr.refl (ms := [d, l]) H1).wl (o' := .lst (xs ++ acc)) hl1 (.inl (by simp))).new (o := .lst []) hq').wi (o' := .ins Z.Disk dx (DiskF (.ref l) (.ref q') (.int n))) (by walk_at "hp") (.inl (by simp)) |>.tup
      refine k _ q' (f1.free h1q) ⟨⟨dx, upd_same⟩, ⟨xs ++ acc, ?_, ?_⟩, ⟨[], ?_, .nil⟩, n1.symm⟩ g1
      · walk_at "hp"
      · refine TDs.app (TDs.mono g1.tup _ _ tl) ?_
        rw [List.take_of_length_le (by omega)] at ta
        exact TDs.mono g2 _ _ ta
      · walk_at "hp"
end

end K39

namespace K39
open PySem PySem.Spec PyProof.Rows L2 Hq
local macro_rules | `(tactic| walk_at "st1") => `(tactic| first
  | with_reducible refine st_seq ?_ | with_reducible refine st_ret ?_ | with_reducible refine st_ifS ?_ | with_reducible refine st_asg ?_ | with_reducible refine st_drop ?_
  | ((with_reducible refine' st_var ?hv ?_); (case hv => rfl)) | with_reducible refine st_c ?_ | with_reducible refine st_op ?_ | with_reducible refine st_un ?_
  | with_reducible refine st_I0 ?_ | with_reducible refine st_U ?_ | ((with_reducible refine' st_I ?hc ?_); (case hc => walk_at "side"))
  | ((with_reducible refine' st_eq ?hs ?_); (case hs => rfl)) | ((with_reducible refine' st_ne ?hs ?_); (case hs => rfl))
  | with_reducible refine st_test ?_ | with_reducible refine st_B ?_ | with_reducible refine st_bl ?_ | with_reducible refine st_isN ?_ | with_reducible refine st_notN ?_
  | with_reducible refine st_chain ?_ | with_reducible refine st_and ?_ | with_reducible refine st_or ?_ | with_reducible refine st_not ?_
  | with_reducible refine st_andV ?_ | with_reducible refine st_orV ?_ | with_reducible refine st_notV ?_ | with_reducible refine st_if ?_
  | with_reducible refine st_CB ?_ | with_reducible refine st_cons ?_ | with_reducible refine st_nil ?_ | with_reducible refine st_fld ?_
  | ((with_reducible refine st_tup ?_)) | ((with_reducible refine st_lst ?_))
  | with_reducible refine st_call ?_ | with_reducible refine st_meth ?_ | with_reducible refine st_make ?_
  | with_reducible refine st_sl ?_ | with_reducible refine st_noPart ?_ | with_reducible refine st_part ?_ | with_reducible refine st_int ?_
  | ((with_reducible refine' st_ixL ?hq ?he ?_); (case hq => walk_at "sqL"); (case he => walk_at "at"))
  | ((with_reducible refine' st_ixT ?hq ?he ?_); (case hq => walk_at "sqT"); (case he => walk_at "at"))
  | with_reducible refine st_bm ?_ | with_reducible refine st_app ?_
  | ((with_reducible refine' st_append ?hq ?hl ?_); (case hq => walk_at "hp"); (case hl => walk_at "line"))
  | ((with_reducible refine' st_len (n := 0) ?hq ?_); (case hq => first | exact Or.inl (by walk_at "sqL") | exact Or.inr (by walk_at "sqT")))
  | ((with_reducible refine' st_listOf ?hq ?_); (case hq => first | exact Or.inl (by walk_at "sqL") | exact Or.inr (by walk_at "sqT")))
  | ((with_reducible refine st_name ?_); (try dsimp only [List.set_cons_zero, List.set_cons_succ])) | with_reducible refine st_par ?_
  | with_reducible refine st_gcons ?_ | with_reducible refine st_gnil ?_ | with_reducible refine st_gsub ?_ | with_reducible refine st_sFld ?_
  | ((with_reducible refine' st_gtup ?hq ?hl ?_); (case hq => walk_at "sqT"); (case hl => rfl))
  | ((with_reducible refine' st_setL ?hq ?hl ?_); (case hq => walk_at "hp"); (case hl => first | rfl | exact ix0 | exact ixN_nat (by assumption)); (try simp only [Int.reduceToNat, List.set_cons_zero, List.set_cons_succ]))
  | with_reducible refine st_intI ?_ | with_reducible refine st_abs ?_
  | ((with_reducible refine' st_popAt ?hq ?hk ?hy ?_); (case hq => walk_at "hp"); (case hk => exact seq0); (case hy => rfl))
  | ((with_reducible refine' and_left ?ht ?_); (case ht => walk_at "ty"))
  | with_reducible refine st_lc ?_ | with_reducible refine st_for ?_ | with_reducible refine st_iL ?_ | with_reducible refine st_iT ?_ | with_reducible refine st_iR1 ?_ | with_reducible refine st_iR2 ?_ | with_reducible refine st_iZ ?_
  | ((with_reducible refine' st_refL ?hq ?_); (case hq => walk_at "sqL")) | ((with_reducible refine' st_refT ?hq ?_); (case hq => walk_at "sqT"))
  | ((with_reducible refine' st_rng1 ?hq ?_); (case hq => walk_at "side")) | ((with_reducible refine' st_rng2 ?hq ?_); (case hq => walk_at "side"))
  | ((with_reducible refine' st_zip ?hq ?hr ?_); (case hq => walk_at "sqb"); (case hr => walk_at "sqb"))
  | ((with_reducible refine' st_size ?hw ?_); (case hw => walk_at "line"))
  | ((with_reducible refine' st_sum ?hq ?_); (case hq => walk_at "sqL"))
  | with_reducible refine st_two ?_ | with_reducible refine st_yes ?_ | ((with_reducible refine' st_wipe ?hw ?_); (case hw => rfl))
  | ((with_reducible refine' st_slL ?hq ?_); (case hq => walk_at "sqL"))
  | ((with_reducible refine' st_cat ?hq ?hr ?hl ?_); (case hq => walk_at "hp"); (case hr => walk_at "hp"); (case hl => walk_at "line"))
  | ((with_reducible refine' st_isi ?hk ?he ?_); (case hk => walk_at "kd"); (case he => walk_at "kit"))
  | ((with_reducible refine' st_ins ?hq ?hc ?hn ?hl ?_); (case hq => walk_at "hp"); (case hc => with_reducible assumption); (case hn => with_reducible assumption); (case hl => walk_at "flen"); walk_at "puts")
  | ((with_reducible refine' st_att ?hq ?hc ?hn ?hl ?_); (case hq => walk_at "hp"); (case hc => with_reducible assumption); (case hn => with_reducible assumption); (case hl => walk_at "lk"))
  | ((with_reducible refine' st_mt ?hq ?hl ?_); (case hq => walk_at "hp"); (case hl => walk_at "lk"))
  | ((with_reducible refine' st_extend ?hq ?hr ?hl ?_); (case hq => walk_at "hp"); (case hr => walk_at "hp"); (case hl => walk_at "line"))
  | with_reducible refine st_next ?_ | with_reducible refine st_retN ?_ | (with_reducible refine iteNT ?_) | (with_reducible refine iteNF ?_) | (with_reducible refine iteT ?_) | (with_reducible refine iteF ?_))
local macro_rules | `(tactic| walk_at "side") => `(tactic| first | omega | decide | assumption | exact ⟨by omega, by omega⟩ | exact Or.inr ⟨by omega, by omega⟩ | exact Or.inl ⟨by omega, by omega⟩ | (simp only [List.length_map, List.length_cons, List.length_nil, List.length_append] at *; omega))
local macro_rules | `(tactic| walk_at "hp") => `(tactic| first | assumption | exact upd_same | refine upd_old (by assumption) (by walk_at "hp") | (rw [upd_ne (by first | assumption | exact Ne.symm (by assumption))]; walk_at "hp"))
local macro_rules | `(tactic| walk_at "sqL") => `(tactic| first | assumption | exact SqL.of (by walk_at "hp"))
local macro_rules | `(tactic| walk_at "sqT") => `(tactic| first | assumption | exact SqT.of (by walk_at "hp"))
local macro_rules | `(tactic| walk_at "sqb") => `(tactic| (unfold SqB; first | ((with_reducible change SqL _ _ _ _); walk_at "sqL") | ((with_reducible change SqT _ _ _ _); walk_at "sqT")))
local macro_rules | `(tactic| walk_at "line") => `(tactic| first | assumption | decide | (apply line_of; walk_at "side") | (apply line_lt; walk_at "side"))
local macro_rules | `(tactic| walk_at "ty") => `(tactic| ((with_reducible refine' ty_lst ?hq); (case hq => walk_at "hp")))
local macro_rules | `(tactic| walk_at "at") => `(tactic| with_reducible first | assumption | exact at0 | exact at1 | exact at2 | exact at3 | exact at4 | exact at5 | exact at6 | exact at7 | exact at8)
local macro_rules | `(tactic| walk_at "st") => `(tactic| (repeat walk_at "st1"))
local macro_rules | `(tactic| walk_at "lk") => `(tactic| first | with_reducible assumption | rfl)
local macro_rules | `(tactic| walk_at "kd") => `(tactic| first | exact .base (.int _) | exact .base .non | exact .base (.bl _) | exact .base (.str _) | exact .base (.tup (by walk_at "hp")) | exact .base (.lst (by walk_at "hp")) | exact .base (.dK (by walk_at "hp")) | exact .base (.dT (by walk_at "hp")))
local macro_rules | `(tactic| walk_at "kit") => `(tactic| with_reducible first
  | exact kit_NoneType_bool
  | exact kit_NoneType_int
  | exact kit_NoneType_str
  | exact kit_NoneType_tuple
  | exact kit_NoneType_list
  | exact kit_NoneType_dict
  | exact kit_bool_bool
  | exact kit_bool_int
  | exact kit_bool_str
  | exact kit_bool_tuple
  | exact kit_bool_list
  | exact kit_bool_dict
  | exact kit_int_bool
  | exact kit_int_int
  | exact kit_int_str
  | exact kit_int_tuple
  | exact kit_int_list
  | exact kit_int_dict
  | exact kit_str_bool
  | exact kit_str_int
  | exact kit_str_str
  | exact kit_str_tuple
  | exact kit_str_list
  | exact kit_str_dict
  | exact kit_tuple_bool
  | exact kit_tuple_int
  | exact kit_tuple_str
  | exact kit_tuple_tuple
  | exact kit_tuple_list
  | exact kit_tuple_dict
  | exact kit_list_bool
  | exact kit_list_int
  | exact kit_list_str
  | exact kit_list_tuple
  | exact kit_list_list
  | exact kit_list_dict
  | exact kit_dict_bool
  | exact kit_dict_int
  | exact kit_dict_str
  | exact kit_dict_tuple
  | exact kit_dict_list
  | exact kit_dict_dict)
local macro_rules | `(tactic| walk_at "flen") => `(tactic| decide)
local macro_rules | `(tactic| walk_at "puts") => `(tactic| skip)

local macro_rules | `(tactic| walk_at "st1") => `(tactic| first
  | with_reducible refine st_dc ?_ | with_reducible refine st_dgetS ?_ | with_reducible refine st_dinS ?_ | with_reducible refine st_dninS ?_ | with_reducible refine st_dputS ?_ | with_reducible refine st_newT ?_ | with_reducible refine iteNN ?_ | with_reducible refine iteYN ?_
  | ((with_reducible refine' st_getT ?hq ?hk ?hv ?_); (case hq => walk_at "hp"); (case hk => walk_at "key"); (case hv => with_reducible assumption))
  | ((with_reducible refine' st_inT ?hq ?hk ?_); (case hq => walk_at "hp"); (case hk => walk_at "key"))
  | ((with_reducible refine' st_ninT ?hq ?hk ?_); (case hq => walk_at "hp"); (case hk => walk_at "key"))
  | ((with_reducible refine' st_putT ?hq ?hk ?hl ?_); (case hq => walk_at "hp"); (case hk => walk_at "key"); (case hl => walk_at "line"))
  | ((with_reducible refine' st_cputT ?hq ?hk ?hl ?_); (case hq => walk_at "hp"); (case hk => walk_at "key"); (case hl => walk_at "line"))
  | ((with_reducible refine' st_ixB ?hq ?he ?_); (case hq => first | assumption | exact Or.inl (by walk_at "sqL") | exact Or.inr (by walk_at "sqT")); (case he => walk_at "at")))
local macro_rules | `(tactic| walk_at "key") => `(tactic| with_reducible assumption)

def StoreF0 : List (Str × V) := []
def StoreF (v0 : V) : List (Str × V) := [("disk", v0)]
theorem StoreF0_len : (StoreF0 ).length < 1000 := by unfold StoreF0; show 0 < 1000; decide
theorem StoreF0_put {v0 : V} : putF "disk" v0 (StoreF0 ) = StoreF v0 := by unfold StoreF0 StoreF; rw [put_nil]
theorem StoreF_len {v0 : V} : (StoreF v0).length < 1000 := by unfold StoreF; show 1 < 1000; decide
theorem StoreF_get_disk {v0 : V} : List.lookup ("disk" : Str) (StoreF v0) = some v0 := by unfold StoreF; rw [look_cons, if_pos rfl]
theorem StoreF_put_disk {v0 w : V} : putF "disk" w (StoreF v0) = StoreF w := by unfold StoreF; rw [put_cons, if_pos rfl]
theorem StoreF_no {v0 : V} {m : Str} (h0 : ¬ m = "disk") : List.lookup m (StoreF v0) = none := by unfold StoreF; rw [look_cons, if_neg h0]; rfl
local macro_rules | `(tactic| walk_at "lk") => `(tactic| with_reducible first | assumption | exact DiskF_get_lying | exact DiskF_get_pending | exact DiskF_get_spoils | exact StoreF_get_disk | exact DiskF_no (by decide +kernel) (by decide +kernel) (by decide +kernel) | exact StoreF_no (by decide +kernel))
local macro_rules | `(tactic| walk_at "puts") => `(tactic| try simp only [DiskF_put_lying, DiskF_put_pending, DiskF_put_spoils, StoreF_put_disk, DiskF0_put, DiskF1_put, DiskF2_put, StoreF0_put])
local macro_rules | `(tactic| walk_at "flen") => `(tactic| first | with_reducible assumption | with_reducible (first | exact DiskF_len | exact StoreF_len | exact DiskF0_len | exact DiskF1_len | exact DiskF2_len | exact StoreF0_len) | decide)
section
variable {Z : Ads} {P : Program} {w : World} {K : PySem.W.Frag} {mg : Str → Option Value} {base : Heap}
def fell (p : PyData) (h : Int) : List PyData := match p with
  | .tuple [k, v] => if h = 0 then [] else if h = 2 then [.tuple [k, v, .bool true]] else [.tuple [k, .none, .bool false]]
  | _ => []
def fallen (ps : List PyData) (hs : List Int) : List PyData := (ps.zip hs).flatMap fun x => fell x.1 x.2
theorem fallen_cons (p : PyData) (ps : List PyData) (h : Int) (hs : List Int) : fallen (p :: ps) (h :: hs) = fell p h ++ fallen ps hs := by simp [fallen]
theorem fallen_snoc : ∀ {i : Nat} {ps : List PyData} {hs : List Int} {p : PyData} {h : Int}, ps[i]? = some p → hs[i]? = some h → fallen (ps.take (i + 1)) (hs.take (i + 1)) = fallen (ps.take i) (hs.take i) ++ fell p h
  | _, [], _, _, _, hp, _ => by simp at hp
  | _, _, [], _, _, _, hh => by simp at hh
  | 0, p' :: ps, h' :: hs, p, h, hp, hh => by
    simp only [List.getElem?_cons_zero, Option.some.injEq] at hp hh
    subst hp hh
    simp [fallen]
  | i + 1, p' :: ps, h' :: hs, p, h, hp, hh => by
    simp only [List.getElem?_cons_succ] at hp hh
    rw [List.take_succ_cons, List.take_succ_cons, fallen_cons, fallen_snoc hp hh, List.take_succ_cons, List.take_succ_cons, fallen_cons, List.append_assoc]
theorem fallen_len {ps : List PyData} {hs : List Int} : (fallen ps hs).length ≤ ps.length := by
  unfold fallen
  induction ps generalizing hs with
  | nil => simp
  | cons p ps ih =>
    cases hs with
    | nil => simp
    | cons h hs =>
      simp only [List.zip_cons_cons, List.flatMap_cons, List.length_append, List.length_cons]
      have := ih (hs := hs)
      have : (fell p h).length ≤ 1 := by
        unfold fell
        split
        · split
          · simp
          · split <;> simp
        · simp
      omega
def spFall (C : Addr) : Sp := fun vs H Q _ => ∃ (n : Int) (d l q r : Addr) (ls ps : List PyData) (hs : List Int), vs = [.ref d, .ref r] ∧ DiskAt C n H d l q ls ps ∧ H r = some (.tup (hs.map V.int)) ∧ hs.length = ps.length ∧ (∀ h ∈ hs, 0 ≤ h ∧ h ≤ 2) ∧ ps.length ≤ 1000 ∧ ls.length ≤ 1000 ∧ (∀ e ∈ ps, IsPr e) ∧
  ∀ H' q', H q' = none → DiskAt C n H' d l q' (ls ++ fallen ps hs) [] → Fr [d, l] H H' → Q .non H'
abbrev s_Disk_fall : Stmt := inClass (top 68) 3
theorem sc_Disk_fall : FnScope ["self", "reached", "one", "word"] ["self", "reached"] (defScope s_Disk_fall) := ⟨rfl, rfl, rfl, by decide +kernel, rfl, by decide +kernel, by decide +kernel⟩
theorem ok_Disk_fall {f : Addr} {fd : FuncData} (F : Fun K "fall" "Disk.fall" s_Disk_fall f fd) (T : Txt K mg Z) (D_is_tuple : Dn P w K mg base "is_tuple" 1 ["thing", "least", "most"] spTuple) (D_is_between : Dn P w K mg base "is_between" 2 ["thing", "least", "most"] spBetween) :
    FnOk P w K mg base (L2.CX P w) 3 f fd ["self", "reached"] (spFall Z.Disk) := by
  have cl := T.cl
  have aL := T.aL
  have aP := T.aP
  have aS := T.aS
  refine okN F sc_Disk_fall (fun vs H Q E h => ?_) (fun cdv A outer s0 H vs Q E hr h => ?_)
  · obtain ⟨n, d, l, q, r, ls, ps, hs, rfl, _⟩ := h
    rfl
  · obtain ⟨n, d, l, q, r, ls, ps, hs, rfl, ⟨⟨dx, hd⟩, ⟨xs, hl, tl⟩, ⟨ys, hq, tq⟩, lq⟩, hR, hlen, hbd, hps, hls, hpr, k⟩ := h
    have hny := tq.length
    have hnx := tl.length
    refine ⟨_, [some _, some _, none, none], rfl, (pss_cons (ps_if (pt_not (pt_val (pe_d D_is_tuple E0 (hr.mono (by first | decide | omega)) (by rfl) passL (pa_cons (pv 1) (pa_cons (pe_callB (kLen (K := K)) (by rfl) T.n_len (by decide +kernel) (pa_cons (kFld (K := K) (pv 0) rfl) pa_nil)) (pa_cons (pe_callB (kLen (K := K)) (by rfl) T.n_len (by decide +kernel) (pa_cons (kFld (K := K) (pv 0) rfl) pa_nil)) pa_nil)))))) (pss_one ps_never) pss_nil)
      (pss_cons (ps_if (pt_not (pt_val (pe_callB (kAll (K := K)) (by rfl) T.n_all (by decide +kernel) (pa_cons (pe_lc (own := [("one", 2)]) (g := (gName 2)) (tt := tYes) rfl sc_Disk_fall.nd (kPiT (K := K) (pv 1)) (blkOk_by (N := ["self", "reached", "one", "word"]) (sc := defScope s_Disk_fall) (by decide +kernel)) (fun _ _ _ _ _ => (pg_name (i := 2) sc_Disk_fall.nd rfl (by first | exact Or.inl rfl | exact Or.inr rfl))) (fun _ _ _ _ _ => pts_nil) (fun _ _ _ _ _ => (pe_d D_is_between E0 (hr.mono (by first | decide | omega)) (by rfl) passL (pa_cons (pv 2) (pa_cons (pe_gl (by rfl) T.g_LOST) (pa_cons (pe_gl (by rfl) T.g_WHOLE) pa_nil)))))) pa_nil)))) (pss_one ps_never) pss_nil)
      (pss_cons (ps_for PassesOwn.never rfl (kZip true false (K := K) (by rfl) T.n_zip (pa_cons (pv 1) (pa_cons (kFld (K := K) (pv 0) rfl) pa_nil))) (kTupT (K := K) (n := 2) (pgs_cons (pg_name (i := 2) sc_Disk_fall.nd rfl (by first | exact Or.inl rfl | exact Or.inr rfl)) (pgs_cons (pg_name (i := 3) sc_Disk_fall.nd rfl (by first | exact Or.inl rfl | exact Or.inr rfl)) pgs_nil)))
      (pss_one (ps_if (pt_cmpR op_ne (pv 2) (pe_gl (by rfl) T.g_LOST) (by first | exact nomark _ | rfl)) (pss_one (ps_expr (kApp (K := K) (kFld (K := K) (pv 0) rfl) (pe_tup (pa_cons (pe_ix (kIxT (K := K)) (pv 3) pe_int (fun _ _ => rfl)) (pa_cons (pe_ifExp (pt_cmpR op_eq (pv 2) (pe_gl (by rfl) T.g_WHOLE) (by first | exact nomark _ | rfl)) (pe_ix (kIxT (K := K)) (pv 3) pe_int (fun _ _ => rfl)) pe_non) (pa_cons (pe_cmpR op_eq (pv 2) (pe_gl (by rfl) T.g_WHOLE) (by first | exact nomark _ | rfl)) pa_nil))))))) pss_nil)))
      (pss_one (kSFld (K := K) (pv 0) (pe_lst pa_nil) rfl))))), ?_⟩
    walk_at "st"
    refine ⟨r, _, _, _, rfl, hR, by rw [List.length_map]; omega, ?_⟩
    have e1 : (decide (((ys.length : Nat) : Int) ≤ (((hs.map V.int).length : Nat) : Int)) && decide ((((hs.map V.int).length : Nat) : Int) ≤ ((ys.length : Nat) : Int))) = true := by
      rw [List.length_map, hlen, hny]; simp
    rw [e1]
    walk_at "st"
    intro D hD
    refine lc_it (walk_tup (xs := hs.map V.int)) (fun i H' => Fr [] H H' ∧ H' D = some (.lst ((List.replicate i true).map V.bl))) ⟨Fr.up hD, upd_same⟩ (fun i H' _ h => SqT.of (h.1.tup _ _ hR)) ?_ ?_
    · rintro i x H1 H2 hi ⟨f1, e1⟩ ⟨rfl, hx⟩
      rw [List.getElem?_map] at hx
      obtain ⟨h, hh, rfl⟩ := Option.map_eq_some_iff.mp hx
      obtain ⟨b0, b2⟩ := hbd h (List.mem_of_getElem? hh)
      rw [List.length_map] at hi
      walk_at "st"
      refine ⟨h, 0, 2, rfl, ?_⟩
      rw [decide_eq_true b0, decide_eq_true b2]
      refine ⟨_, e1, line_lt (by simp; omega), f1.wl e1 (.inr hD), ?_⟩
      rw [upd_same, List.replicate_succ', List.map_append]
      rfl
    · rintro H1 ⟨f1, e1⟩
      walk_at "st"
      refine st_all (SqL.of e1) ?_
      rw [show (List.replicate (hs.map V.int).length true).all id = true by simp]
      have hd1 := f1.same _ _ hd
      have hl1 := f1.same _ _ hl
      have hq1 := f1.same _ _ hq
      have hR1 := f1.same _ _ hR
      walk_at "st"
      refine for_it (walkZ (b := true) (c := false) (xs := hs.map V.int) (ys := ys) (n := ps.length) (by rw [List.length_map]; omega))
        (fun i σ H' => ∃ acc o1 o2, σ = [some (.ref d), some (.ref r), o1, o2] ∧ Fr [l] H H' ∧ H' l = some (.lst (xs ++ acc)) ∧ acc.length ≤ i ∧ TDs H' acc (fallen (ps.take i) (hs.take i)))
        ⟨[], none, none, rfl, f1.mono (by simp), by rw [List.append_nil]; exact hl1, Nat.le_refl _, .nil⟩ (fun i σ H' _ ⟨acc, o1, o2, _, g, _⟩ => ⟨SqT.of (g.tup _ _ hR), SqL.of (g.keep _ _ (by simpa using lq.symm) hq)⟩) ?_ ?_
      · rintro i x σ H2 H3 hi ⟨acc, o1, o2, rfl, g, e2, ea, ta⟩ ⟨t, v1, v2, rfl, ht, rfl, hx, hy⟩
        have hx : (hs.map V.int)[i]? = some v1 := hx
        have hy : ys[i]? = some v2 := hy
        rw [List.getElem?_map] at hx
        obtain ⟨h, hh, rfl⟩ := Option.map_eq_some_iff.mp hx
        have g1 := g.new (o := .tup [V.int h, v2]) ht
        obtain ⟨e, he, te⟩ := TDs.at_ (TDs.mono g1.tup _ _ tq) hy
        obtain ⟨kd, vd, rfl, _, _⟩ := hpr e (List.mem_of_getElem? he)
        cases te with
        | @tup a zs _ ha hT =>
        cases hT with
        | @cons z1 _ _ _ t1 hT =>
        cases hT with
        | @cons z2 _ _ _ t2 hT =>
        cases hT
        have e3 := upd_old (o' := HO.tup [V.int h, .ref a]) ht e2
        have hd3 := g1.keep _ _ (by simpa using (ne_of hd hl (by intro z; cases z) : d ≠ l)) hd
        have hT0 : Tp H2 (upd H2 t (.tup [V.int h, .ref a])) := (Fr.up (ms := []) ht).tup
        have fin : ∀ (H4 : Hp) (u : Addr) (z : List V) (zd : List PyData), upd H2 t (.tup [V.int h, .ref a]) u = none → H4 = upd (upd (upd H2 t (.tup [V.int h, .ref a])) u (.tup z)) l (.lst ((xs ++ acc) ++ [.ref u])) → TDs (upd H2 t (.tup [V.int h, .ref a])) z zd → fell (.tuple [kd, vd]) h = [.tuple zd] →
            ∃ acc' o1' o2', [some (V.ref d), some (V.ref r), some (V.int h), some (V.ref a)] = [some (.ref d), some (.ref r), o1', o2'] ∧ Fr [l] H H4 ∧ H4 l = some (.lst (xs ++ acc')) ∧ acc'.length ≤ i + 1 ∧ TDs H4 acc' (fallen (ps.take (i + 1)) (hs.take (i + 1))) := by
          intro H4 u z zd hu eH tz ef
          have e5 := upd_old (o' := HO.tup z) hu e3
          have gT : Tp (upd H2 t (.tup [V.int h, .ref a])) H4 := by
            rw [eH]
            exact ((Fr.up (ms := [l]) hu).wl e5 (.inl (by simp))).tup
          refine ⟨acc ++ [.ref u], _, _, rfl, ?_, ?_, by simp; omega, ?_⟩
          · rw [eH]
            exact (g1.new hu).wl e5 (.inl (by simp))
          · rw [eH, upd_same, List.append_assoc]
          · rw [fallen_snoc he hh, ef]
            refine TDs.snoc (TDs.mono (hT0.trans gT) _ _ ta) (.tup ?_ (TDs.mono gT _ _ tz))
            rw [eH, upd_ne (ne_of (H := upd (upd H2 t (.tup [V.int h, .ref a])) u (.tup z)) upd_same e5 (by intro z; cases z))]
            exact upd_same
        have hlim : (xs ++ acc).length ≤ 100000 := by rw [List.length_append]; omega
        walk_at "st"
        refine iteDN (fun h0 => ?_) (fun h0 => ?_)
        · cases h0
          refine ⟨acc, _, _, rfl, g1, e3, by omega, ?_⟩
          rw [fallen_snoc he hh]
          simp only [fell, if_pos, List.append_nil]
          exact TDs.mono hT0 _ _ ta
        · have n0 : h ≠ 0 := fun z => h0 (by rw [z])
          walk_at "st"
          refine iteD (fun h2 => ?_) (fun h2 => ?_)
          · have h2' : h = 2 := V.int.inj h2
            walk_at "st"
            rw [decide_eq_true h2]
            walk_at "st"
            intro u hu
            walk_at "st"
            exact fin _ u _ _ hu rfl (.cons t1 (.cons t2 (.cons (.bl true) .nil))) (by simp only [fell, if_neg n0, if_pos h2'])
          · have h2' : ¬ h = 2 := fun z => h2 (by rw [z])
            walk_at "st"
            rw [decide_eq_false h2]
            walk_at "st"
            intro u hu
            walk_at "st"
            exact fin _ u _ _ hu rfl (.cons t1 (.cons .non (.cons (.bl false) .nil))) (by simp only [fell, if_neg n0, if_neg h2'])
      · rintro σ H2 ⟨acc, o1, o2, rfl, g, e2, ea, ta⟩
        have dl : d ≠ l := ne_of hd hl (by intro z; cases z)
        have hd2 := g.keep _ _ (by simpa using dl) hd
        walk_at "st"
        intro q' hq'
        walk_at "st"
        have n1 : q' ≠ l := (ne_of_none e2 hq').symm
        have n2 : q' ≠ d := (ne_of_none hd2 hq').symm
        have gd := (g.mono (ns := [d, l]) (by simp)).new (o := .lst []) hq'
        have g1 := gd.wi (o' := .ins Z.Disk dx (DiskF (.ref l) (.ref q') (.int n))) (upd_old hq' hd2) (.inl (by simp))
        have g2 : Tp H2 _ := ((Fr.up (ms := [d, l]) (o := .lst []) hq').wi (o' := .ins Z.Disk dx (DiskF (.ref l) (.ref q') (.int n))) (upd_old hq' hd2) (.inl (by simp))).tup
        have t2 : hs.take ps.length = hs := List.take_of_length_le (by omega)
        rw [List.take_length, t2] at ta
        exact k _ q' (g.back (by simpa using n1) hq') ⟨⟨dx, upd_same⟩, ⟨xs ++ acc, by walk_at "hp", TDs.app (TDs.mono g1.tup _ _ tl) (TDs.mono g2 _ _ ta)⟩, ⟨[], by walk_at "hp", .nil⟩, n1.symm⟩ g1
def spWaiting (C : Addr) : Sp := fun vs H Q _ => ∃ (n : Int) (d l q : Addr) (ls ps : List PyData), vs = [.ref d] ∧ DiskAt C n H d l q ls ps ∧ Q (.int ps.length) H
abbrev s_Disk_waiting : Stmt := inClass (top 68) 5
theorem sc_Disk_waiting : FnScope ["self"] ["self"] (defScope s_Disk_waiting) := ⟨rfl, rfl, rfl, by decide +kernel, rfl, by decide +kernel, by decide +kernel⟩
theorem ok_Disk_waiting {f : Addr} {fd : FuncData} (F : Fun K "waiting" "Disk.waiting" s_Disk_waiting f fd) (T : Txt K mg Z) : FnOk P w K mg base (L2.CX P w) 1 f fd ["self"] (spWaiting Z.Disk) := by
  have cl := T.cl
  have aP := T.aP
  refine okN F sc_Disk_waiting (fun vs H Q E h => ?_) (fun cdv A outer s0 H vs Q E hr h => ?_)
  · obtain ⟨n, d, l, q, ls, ps, rfl, _⟩ := h
    rfl
  · obtain ⟨n, d, l, q, ls, ps, rfl, ⟨⟨dx, hd⟩, _, ⟨ys, hq, tq⟩, _⟩, k⟩ := h
    refine ⟨_, [some _], rfl, (pss_one (ps_ret (pe_callB (kLen (K := K)) (by rfl) T.n_len (by decide +kernel) (pa_cons (kFld (K := K) (pv 0) rfl) pa_nil)))), ?_⟩
    walk_at "st"
    rw [tq.length]
    exact k
end

section
variable {Z : Ads} {P : Program} {w : World} {K : PySem.W.Frag} {mg : Str → Option Value} {base : Heap}
def spWords (C : Addr) : Sp := fun vs H Q _ => ∃ (n : Int) (d l q : Addr) (ls ps : List PyData), vs = [.ref d] ∧ DiskAt C n H d l q ls ps ∧ ∀ H' p xs, H p = none → H' p = some (.lst xs) → TDs H' xs ls → Fr [] H H' → Q (.ref p) H'
abbrev s_Disk_words : Stmt := inClass (top 68) 4
theorem sc_Disk_words : FnScope ["self"] ["self"] (defScope s_Disk_words) := ⟨rfl, rfl, rfl, by decide +kernel, rfl, by decide +kernel, by decide +kernel⟩
theorem ok_Disk_words {f : Addr} {fd : FuncData} (F : Fun K "words" "Disk.words" s_Disk_words f fd) (T : Txt K mg Z) : FnOk P w K mg base (L2.CX P w) 1 f fd ["self"] (spWords Z.Disk) := by
  have cl := T.cl
  have aL := T.aL
  refine okN F sc_Disk_words (fun vs H Q E h => ?_) (fun cdv A outer s0 H vs Q E hr h => ?_)
  · obtain ⟨n, d, l, q, ls, ps, rfl, _⟩ := h
    rfl
  · obtain ⟨n, d, l, q, ls, ps, rfl, ⟨⟨dx, hd⟩, ⟨xs, hl, tl⟩, _, _⟩, k⟩ := h
    refine ⟨_, [some _], rfl, (pss_one (ps_ret (pe_callTy (kListOf (K := K)) (by rfl) T.n_list (by decide +kernel) (pa_cons (kFld (K := K) (pv 0) rfl) pa_nil)))), ?_⟩
    walk_at "st"
    intro p hp
    exact k _ p xs hp upd_same (TDs.mono (Fr.up (ms := []) hp).tup _ _ tl) (Fr.up hp)
end

section
variable {Z : Ads} {P : Program} {w : World} {K : PySem.W.Frag} {mg : Str → Option Value} {base : Heap}
/-! ### what is whole on a disk -/
def whole : PyData → List PyData
  | .tuple [k, v, .bool true] => [.tuple [k, v]]
  | _ => []
def wholes (ls ps : List PyData) : List PyData := ls.flatMap whole ++ ps
def IsTr (d : PyData) : Prop := ∃ k v b, d = .tuple [k, v, .bool b] ∧ KeyD k ∧ Nice 10 v
theorem whole_pr {e z : PyData} (h : IsTr e) (hz : z ∈ whole e) : IsPr z := by
  obtain ⟨k, v, b, rfl, hk, hv⟩ := h
  cases b with
  | false => exact nomatch hz
  | true =>
    rw [List.mem_singleton.mp hz]
    exact ⟨k, v, rfl, hk, hv⟩
theorem wholes_pr {ls ps : List PyData} (hl : ∀ e ∈ ls, IsTr e) (hp : ∀ e ∈ ps, IsPr e) : ∀ e ∈ wholes ls ps, IsPr e := by
  intro e he
  rcases List.mem_append.mp he with he | he
  · obtain ⟨x, hx, hm⟩ := List.mem_flatMap.mp he
    exact whole_pr (hl x hx) hm
  · exact hp e he
theorem whole_len (e : PyData) : (whole e).length ≤ 1 := by
  unfold whole
  split <;> simp
theorem wholes_len (ls ps : List PyData) : (wholes ls ps).length ≤ ls.length + ps.length := by
  unfold wholes
  rw [List.length_append]
  have : (ls.flatMap whole).length ≤ ls.length := by
    induction ls with
    | nil => simp
    | cons x ls ih =>
      rw [List.flatMap_cons, List.length_append, List.length_cons]
      have := whole_len x
      omega
  omega
theorem flat_snoc {ls : List PyData} {i : Nat} {e : PyData} (h : ls[i]? = some e) : (ls.take (i + 1)).flatMap whole = (ls.take i).flatMap whole ++ whole e := by
  rw [take_snoc h, List.flatMap_append]
  simp
def spWholes (C : Addr) : Sp := fun vs H Q _ => ∃ (n : Int) (d l q : Addr) (ls ps : List PyData), vs = [.ref d] ∧ DiskAt C n H d l q ls ps ∧ ls.length + ps.length ≤ 5000 ∧ (∀ e ∈ ls, IsTr e) ∧
  ∀ H' p xs, H p = none → H' p = some (.lst xs) → TDs H' xs (wholes ls ps) → Fr [] H H' → Q (.ref p) H'
abbrev s_Disk_wholes : Stmt := inClass (top 68) 8
theorem sc_Disk_wholes : FnScope ["self", "key", "thing", "is_whole"] ["self"] (defScope s_Disk_wholes) := ⟨rfl, rfl, rfl, by decide +kernel, rfl, by decide +kernel, by decide +kernel⟩
theorem ok_Disk_wholes {f : Addr} {fd : FuncData} (F : Fun K "wholes" "Disk.wholes" s_Disk_wholes f fd) (T : Txt K mg Z) : FnOk P w K mg base (L2.CX P w) 1 f fd ["self"] (spWholes Z.Disk) := by
  have cl := T.cl
  have aL := T.aL
  have aP := T.aP
  refine okN F sc_Disk_wholes (fun vs H Q E h => ?_) (fun cdv A outer s0 H vs Q E hr h => ?_)
  · obtain ⟨n, d, l, q, ls, ps, rfl, _⟩ := h
    rfl
  · obtain ⟨n, d, l, q, ls, ps, rfl, ⟨⟨dx, hd⟩, ⟨xs, hl, tl⟩, ⟨ys, hq, tq⟩, lq⟩, hsz, htr, k⟩ := h
    have hnx := tl.length
    have hny := tq.length
    refine ⟨_, [some _, none, none, none], rfl, (pss_one (ps_ret (pe_op op_cat (pe_lc (own := [("key", 1), ("thing", 2), ("is_whole", 3)]) (g := (gTup K 3 (gCons (gName 1) (gCons (gName 2) (gCons (gName 3) gNil))))) (tt := _) rfl sc_Disk_wholes.nd (kPiL (K := K) (kFld (K := K) (pv 0) rfl)) (blkOk_by (N := ["self", "key", "thing", "is_whole"]) (sc := defScope s_Disk_wholes) (by decide +kernel)) (fun _ _ _ _ _ => (kTupT (K := K) (n := 3) (pgs_cons (pg_name (i := 1) sc_Disk_wholes.nd rfl (by first | exact Or.inl rfl | exact Or.inr rfl)) (pgs_cons (pg_name (i := 2) sc_Disk_wholes.nd rfl (by first | exact Or.inl rfl | exact Or.inr rfl)) (pgs_cons (pg_name (i := 3) sc_Disk_wholes.nd rfl (by first | exact Or.inl rfl | exact Or.inr rfl)) pgs_nil))))) (fun _ _ _ _ _ => (pts_one (pt_val (pv 3)))) (fun _ _ _ _ _ => (pe_tup (pa_cons (pv 1) (pa_cons (pv 2) pa_nil))))) (kFld (K := K) (pv 0) rfl)))), ?_⟩
    walk_at "st"
    intro D hD
    refine lc_it (walk_list (xs := xs)) (fun i H' => Fr [] H H' ∧ ∃ acc, H' D = some (.lst acc) ∧ acc.length ≤ i ∧ TDs H' acc ((ls.take i).flatMap whole)) ⟨Fr.up hD, [], upd_same, Nat.le_refl _, .nil⟩ (fun i H' _ h => SqL.of (h.1.same _ _ hl)) ?_ ?_
    · rintro i x H1 H2 hi ⟨f1, acc, e1, ea, ta⟩ ⟨rfl, hx⟩
      obtain ⟨e, he, te⟩ := TDs.at_ (TDs.mono f1.tup _ _ tl) hx
      obtain ⟨kd, vd, b, rfl, _, _⟩ := htr e (List.mem_of_getElem? he)
      cases te with
      | @tup a zs _ ha hT =>
      cases hT with
      | @cons z1 _ _ _ t1 hT =>
      cases hT with
      | @cons z2 _ _ _ t2 hT =>
      cases hT with
      | @cons z3 _ _ _ t3 hT =>
      cases hT
      cases t3
      walk_at "st"
      cases b with
      | true =>
        walk_at "st"
        intro t ht
        have e2 := upd_old (o' := HO.tup [z1, z2]) ht e1
        have f2 := f1.new (o := .tup [z1, z2]) ht
        have f3 := f2.wl (o' := .lst (acc ++ [.ref t])) e2 (.inr hD)
        have gT : Tp H2 (upd (upd H2 t (.tup [z1, z2])) D (.lst (acc ++ [.ref t]))) := ((Fr.up (ms := [D]) ht).wl e2 (.inl (by simp))).tup
        refine ⟨acc, e2, line_lt (by omega), f3, acc ++ [.ref t], upd_same, by rw [List.length_append]; simp; omega, ?_⟩
        rw [flat_snoc he]
        refine TDs.snoc (TDs.mono gT _ _ ta) (.tup ?_ (.cons (TD.mono gT _ _ t1) (.cons (TD.mono gT _ _ t2) .nil)))
        rw [upd_ne (ne_of (H := upd H2 t (.tup [z1, z2])) upd_same e2 (by intro z; cases z))]
        exact upd_same
      | false =>
        walk_at "st"
        refine ⟨f1, acc, e1, by omega, ?_⟩
        rw [flat_snoc he]
        show TDs _ _ (_ ++ [])
        rw [List.append_nil]
        exact ta
    · rintro H1 ⟨f1, acc, e1, ea, ta⟩
      have hd1 := f1.same _ _ hd
      have hq1 := f1.same _ _ hq
      walk_at "st"
      intro p hp
      rw [List.take_of_length_le (by omega)] at ta
      have f2 := f1.new (o := .lst (acc ++ ys)) hp
      exact k _ p _ (f1.free hp) upd_same (TDs.app (TDs.mono (Fr.up (ms := []) hp).tup _ _ ta) (TDs.mono f2.tup _ _ tq)) f2
/-! ### a store -/
structure StoreAt (C : Addr) (H : Hp) (s d : Addr) : Prop where
  ok : ∃ dx, H s = some (.ins C dx (StoreF (.ref d)))
def spSInit (C : Addr) : Sp := fun vs H Q _ => ∃ (s dx d : Addr), vs = [.ref s, .ref d] ∧ H s = some (.ins C dx StoreF0) ∧ ∀ H', StoreAt C H' s d → Fr [s] H H' → Q .non H'
abbrev s_Store___init__ : Stmt := inClass (top 71) 0
theorem sc_Store___init__ : FnScope ["self", "disk"] ["self", "disk"] (defScope s_Store___init__) := ⟨rfl, rfl, rfl, by decide +kernel, rfl, by decide +kernel, by decide +kernel⟩
theorem ok_Store_init {f : Addr} {fd : FuncData} (F : Fun K "__init__" "Store.__init__" s_Store___init__ f fd) (T : Txt K mg Z) : FnOk P w K mg base (L2.CX P w) 1 f fd ["self", "disk"] (spSInit Z.Store) := by
  have clS := T.clS
  have aD := T.aD
  refine okN F sc_Store___init__ (fun vs H Q E h => ?_) (fun cdv A outer s0 H vs Q E hr h => ?_)
  · obtain ⟨s, dx, d, rfl, _⟩ := h
    rfl
  · obtain ⟨s, dx, d, rfl, hs, k⟩ := h
    refine ⟨_, [some _, some _], rfl, (pss_one (kSFld (K := K) (pv 0) (pv 1) rfl)), ?_⟩
    walk_at "st"
    exact k _ ⟨dx, upd_same⟩ ((Fr.refl H).wi hs (.inl (by simp)))
def spCheck (C D : Addr) : Sp := fun vs H Q _ => ∃ (s d l q : Addr) (ls ps : List PyData), vs = [.ref s] ∧ StoreAt C H s d ∧ DiskAt D 0 H d l q ls ps ∧ Q .non H
abbrev s_Store_check : Stmt := inClass (top 71) 1
theorem sc_Store_check : FnScope ["self", "words", "seals", "at"] ["self"] (defScope s_Store_check) := ⟨rfl, rfl, rfl, by decide +kernel, rfl, by decide +kernel, by decide +kernel⟩
theorem ok_Store_check {f : Addr} {fd : FuncData} (F : Fun K "check" "Store.check" s_Store_check f fd) (T : Txt K mg Z) (M_Disk_wholes : Mn P w K mg base Z.Disk "wholes" 1 ["self"] (spWholes Z.Disk)) : FnOk P w K mg base (L2.CX P w) 2 f fd ["self"] (spCheck Z.Store Z.Disk) := by
  have cl := T.cl
  have aS := T.aS
  have clS := T.clS
  have aD := T.aD
  refine okN F sc_Store_check (fun vs H Q E h => ?_) (fun cdv A outer s0 H vs Q E hr h => ?_)
  · obtain ⟨s, d, l, q, ls, ps, rfl, _⟩ := h
    rfl
  · obtain ⟨s, d, l, q, ls, ps, rfl, ⟨dx, hs⟩, ⟨⟨dx2, hd⟩, _, _, _⟩, k⟩ := h
    have hu64 := hr.units
    refine ⟨_, [some _, none, none, none], rfl, (pss_cons (ps_if (pt_cmpR op_eq (kFld (K := K) (kFld (K := K) (pv 0) rfl) rfl) pe_int (by first | exact nomark _ | rfl)) (pss_one ps_retN) pss_nil)
      (pss_cons (ps_set (i := 1) sc_Store_check.nd rfl (by first | exact Or.inl rfl | exact Or.inr rfl) (pe_m0 M_Disk_wholes E0 (hr.mono (by first | decide | omega)) (kFld (K := K) (pv 0) rfl) passL _))
      (pss_cons (ps_setLc (i := 2) (own := [("at", 3)]) (g := (gName 3)) (tt := _) rfl sc_Store_check.nd rfl rfl (sw_true rfl rfl rfl (by decide +kernel)) (pi_range1 (by rfl) T.n_range (pa_cons (pe_callB (kLen (K := K)) (by rfl) T.n_len (by decide +kernel) (pa_cons (pv 1) pa_nil)) pa_nil)) (blkOk_by (N := ["self", "words", "seals", "at"]) (sc := defScope s_Store_check) (by decide +kernel)) (fun _ _ _ _ _ => (pg_name (i := 3) sc_Store_check.nd rfl (by first | exact Or.inl rfl | exact Or.inr rfl))) (fun _ _ _ _ _ => (pts_one (pt_cmpR (kEqD hu64 (K := K)) (pe_ix (kIxT (K := K)) (pe_ix (kIxL (K := K)) (pv 1) (pv 3) (fun _ _ => rfl)) pe_int (fun _ _ => rfl)) (pe_tup (pa_cons (pe_gl (by rfl) T.g_SEAL) pa_nil)) (by first | exact nomark _ | rfl)))) (fun _ _ _ _ _ => (pv 3)))
      (pss_one (ps_if (PW.pt (pw_and (pt_cmpR op_gt (pe_callB (kLen (K := K)) (by rfl) T.n_len (by decide +kernel) (pa_cons (pv 2) pa_nil)) pe_int (by first | exact nomark _ | rfl)) (pw_and1 (pt_cmpR (kNeD hu64 (K := K)) (pe_ix (kIxT (K := K)) (pe_ix (kIxL (K := K)) (pv 1) (pe_ix (kIxL (K := K)) (pv 2) (pe_un un_neg pe_int) (fun _ _ => rfl)) (fun _ _ => rfl)) pe_int (fun _ _ => rfl)) (pe_ix (kIxL (K := K)) (pv 2) (pe_un un_neg pe_int) (fun _ _ => rfl)) (by first | exact nomark _ | rfl))))) (pss_one ps_never) pss_nil))))), ?_⟩
    walk_at "st"
    refine iteD (fun _ => ?_) (fun h => absurd rfl h)
    walk_at "st"
    exact k
/-! ### keys as values -/
def isSeal : PyData → Bool
  | .tuple (.str x :: _) => decide (x = "seal")
  | _ => false
theorem kparts_v {H : Hp} : ∀ (ds : List PyData) (vs : List V), TDs H vs ds → (∀ e ∈ ds, KPart e) → vs = (ds.map keyOf).map kV
  | [], _, h, _ => by cases h; rfl
  | d :: ds, _, h, k => by
    cases h with
    | cons a b =>
      rw [List.map_cons, List.map_cons, ← kparts_v ds _ b fun e he => k e (List.mem_cons_of_mem _ he)]
      rcases k d (by simp) with ⟨x, rfl, _⟩ | ⟨i, _, rfl⟩
      · cases a; rfl
      · cases a; rfl
theorem key_td {H : Hp} {v : V} {d : PyData} (t : TD H v d) (hk : KeyD d) : ∃ (b : Addr) (z : V) (zs : List V), v = .ref b ∧ H b = some (.tup (z :: zs)) ∧ (keysOf d).map kV = z :: zs ∧
    ((∃ x, z = .str x ∧ isSeal d = decide (x = "seal")) ∨ ∃ i, z = .int i ∧ isSeal d = false) := by
  obtain ⟨ds, rfl, h0, h3, hk⟩ := hk
  cases t with
  | @tup a xs _ ha hT =>
    have e := kparts_v ds xs hT hk
    cases ds with
    | nil => exact absurd h0 (by simp)
    | cons d ds =>
      cases hT with
      | @cons z zs _ _ t1 t2 =>
        refine ⟨a, z, zs, rfl, ha, e.symm, ?_⟩
        rcases hk d (by simp) with ⟨x, rfl, _⟩ | ⟨i, _, rfl⟩
        · cases t1
          exact .inl ⟨x, rfl, rfl⟩
        · cases t1
          exact .inr ⟨i, rfl, rfl⟩
theorem UKey.seal {d : PyData} (h : UKey d) : isSeal d = false := by
  obtain ⟨ds, rfl, h0, h3, hk⟩ := h
  cases ds with
  | nil => exact absurd h0 (by simp)
  | cons d ds =>
    obtain ⟨a, b⟩ := hk d (by simp)
    rcases a with ⟨x, rfl, _⟩ | ⟨i, _, rfl⟩
    · show decide (x = "seal") = false
      exact decide_eq_false fun e => b (by rw [e])
    · rfl
def spKeep (C D : Addr) : Sp := fun vs H Q _ => ∃ (s d l q : Addr) (ls ps : List PyData) (k v : V) (kd vd : PyData), vs = [.ref s, k, v] ∧ StoreAt C H s d ∧ DiskAt D 0 H d l q ls ps ∧ ps.length ≤ 1000 ∧ TD H k kd ∧ KeyD kd ∧ isSeal kd = false ∧ TD H v vd ∧ Nice 10 vd ∧
  ∀ H', DiskAt D 0 H' d l q ls (ps ++ [.tuple [kd, vd]]) → Fr [q] H H' → Q .non H'
abbrev s_Store_keep : Stmt := inClass (top 71) 2
theorem sc_Store_keep : FnScope ["self", "key", "thing"] ["self", "key", "thing"] (defScope s_Store_keep) := ⟨rfl, rfl, rfl, by decide +kernel, rfl, by decide +kernel, by decide +kernel⟩
theorem DiskAt.keep {C : Addr} {n : Int} {H H' : Hp} {d l q : Addr} {ls ps : List PyData} {ms : List Addr} (D : DiskAt C n H d l q ls ps) (f : Fr ms H H') (nd : d ∉ ms) (nl : l ∉ ms) (nq : q ∉ ms) : DiskAt C n H' d l q ls ps := by
  obtain ⟨⟨dx, hd⟩, ⟨xs, hl, tl⟩, ⟨ys, hq, tq⟩, lq⟩ := D
  exact ⟨⟨dx, f.keep _ _ nd hd⟩, ⟨xs, f.keep _ _ nl hl, TDs.mono f.tup _ _ tl⟩, ⟨ys, f.keep _ _ nq hq, TDs.mono f.tup _ _ tq⟩, lq⟩
theorem StoreAt.keep {C : Addr} {H H' : Hp} {s d : Addr} {ms : List Addr} (S : StoreAt C H s d) (f : Fr ms H H') (n : s ∉ ms) : StoreAt C H' s d := by
  obtain ⟨dx, h⟩ := S
  exact ⟨dx, f.keep _ _ n h⟩
theorem ok_Store_keep {f : Addr} {fd : FuncData} (F : Fun K "keep" "Store.keep" s_Store_keep f fd) (T : Txt K mg Z) (D_is_key : Dn P w K mg base "is_key" 3 ["thing"] spIsKey) (D_is_kept : Dn P w K mg base "is_kept" 11 ["thing"] (spKept 10))
    (M_Store_check : Mn P w K mg base Z.Store "check" 2 ["self"] (spCheck Z.Store Z.Disk)) (M_Disk_write : Mn P w K mg base Z.Disk "write" 12 ["self", "key", "thing"] (spWrite Z.Disk)) :
    FnOk P w K mg base (L2.CX P w) 13 f fd ["self", "key", "thing"] (spKeep Z.Store Z.Disk) := by
  have cl := T.cl
  have clS := T.clS
  have aD := T.aD
  refine okN F sc_Store_keep (fun vs H Q E h => ?_) (fun cdv A outer s0 H vs Q E hr h => ?_)
  · obtain ⟨s, d, l, q, ls, ps, kk, v, kd, vd, rfl, _⟩ := h
    rfl
  · obtain ⟨s, d, l, q, ls, ps, kk, v, kd, vd, rfl, S, D, hps, tk, hk, hseal, tv, hv, k⟩ := h
    refine ⟨_, [some _, some _, some _], rfl, (pss_cons (ps_if (PW.pt (pw_or (pt_not (pt_val (pe_d D_is_key E0 (hr.mono (by first | decide | omega)) (by rfl) passL (pa_cons (pv 1) pa_nil)))) (pw_or1 (pt_cmpR op_eq (pe_ix (kIxT (K := K)) (pv 1) pe_int (fun _ _ => rfl)) (pe_gl (by rfl) T.g_SEAL) (by first | exact nomark _ | rfl))))) (pss_one ps_never) pss_nil)
      (pss_cons (ps_if (pt_not (pt_val (pe_d D_is_kept E0 (hr.mono (by first | decide | omega)) (by rfl) passL (pa_cons (pv 2) pa_nil)))) (pss_one ps_never) pss_nil)
      (pss_cons (ps_expr (pe_m0 M_Store_check E0 (hr.mono (by first | decide | omega)) (pv 0) passL _))
      (pss_one (ps_expr (pe_m M_Disk_write E0 (hr.mono (by first | decide | omega)) (kFld (K := K) (pv 0) rfl) passL (pa_cons (pv 1) (pa_cons (pv 2) pa_nil)) _)))))), ?_⟩
    walk_at "st"
    refine ⟨kk, kd, rfl, tk, hk, fun H1 f1 => ?_⟩
    obtain ⟨b, z, zs, rfl, hb, _, hz⟩ := key_td (TD.mono f1.tup _ _ tk) hk
    have S1 := S.keep f1 List.not_mem_nil
    have D1 := D.keep f1 List.not_mem_nil List.not_mem_nil List.not_mem_nil
    obtain ⟨sx, hs⟩ := S1
    obtain ⟨dx, hd⟩ := D1.ok
    walk_at "st"
    rcases hz with ⟨x, rfl, hx⟩ | ⟨i, rfl, hx⟩
    all_goals
      walk_at "st"
      refine iteD (fun h => ?_) (fun h => ?_)
    · rw [hseal] at hx
      have e : x = "seal" := V.str.inj h
      rw [decide_eq_true e] at hx
      exact nomatch hx
    rotate_left
    · exact nomatch h
    all_goals
      walk_at "st"
      refine ⟨v, vd, rfl, TD.mono f1.tup _ _ tv, hv, fun H2 f2 => ?_⟩
      have f12 := f1.trans f2
      have hs2 := f2.same _ _ hs
      have hd2 := f2.same _ _ hd
      have D2 := D.keep f12 List.not_mem_nil List.not_mem_nil List.not_mem_nil
      walk_at "st"
      refine ⟨s, d, l, q, ls, ps, rfl, ⟨sx, hs2⟩, D2, ?_⟩
      walk_at "st"
      refine ⟨0, d, l, q, ls, ps, _, _, kd, vd, rfl, D2, hps, TD.mono f12.tup _ _ tk, hk, TD.mono f12.tup _ _ tv, hv, fun H3 D3 f3 => ?_⟩
      walk_at "st"
      exact k _ D3 ((f12.mono (by simp)).trans f3)
def sealD (j : Int) : PyData := .tuple [.tuple [.str "seal"], .int j]
theorem sealKey : KeyD (.tuple [.str "seal"]) := ⟨_, rfl, by decide, by decide, fun e he => by rw [List.mem_singleton.mp he]; exact .inl ⟨_, rfl, by decide +kernel⟩⟩
theorem nice_int (n : Nat) (j : Int) : Nice n (.int j) := ⟨rfl, Nat.zero_le _, rfl⟩
theorem sealPr (j : Int) : IsPr (sealD j) := ⟨_, _, rfl, sealKey, nice_int 10 j⟩
def spSeal (C D : Addr) : Sp := fun vs H Q _ => ∃ (s d l q : Addr) (ls ps : List PyData), vs = [.ref s] ∧ StoreAt C H s d ∧ DiskAt D 0 H d l q ls ps ∧ ps.length ≤ 900 ∧ ls.length ≤ 1000 ∧ (∀ e ∈ ls, IsTr e) ∧ (∀ e ∈ ps, IsPr e) ∧
  ∀ H' q' j, H q' = none → DiskAt D 0 H' d l q' (ls ++ (ps ++ [sealD j]).map trip) [] → Fr [d, l, q] H H' → Q .non H'
abbrev s_Store_seal : Stmt := inClass (top 71) 3
theorem sc_Store_seal : FnScope ["self"] ["self"] (defScope s_Store_seal) := ⟨rfl, rfl, rfl, by decide +kernel, rfl, by decide +kernel, by decide +kernel⟩
theorem ok_Store_seal {f : Addr} {fd : FuncData} (F : Fun K "seal" "Store.seal" s_Store_seal f fd) (T : Txt K mg Z)
    (M_Store_check : Mn P w K mg base Z.Store "check" 2 ["self"] (spCheck Z.Store Z.Disk)) (M_Disk_write : Mn P w K mg base Z.Disk "write" 12 ["self", "key", "thing"] (spWrite Z.Disk))
    (M_Disk_wholes : Mn P w K mg base Z.Disk "wholes" 1 ["self"] (spWholes Z.Disk)) (M_Disk_sync : Mn P w K mg base Z.Disk "sync" 1 ["self"] (spSync Z.Disk)) :
    FnOk P w K mg base (L2.CX P w) 13 f fd ["self"] (spSeal Z.Store Z.Disk) := by
  have cl := T.cl
  have clS := T.clS
  have aD := T.aD
  refine okN F sc_Store_seal (fun vs H Q E h => ?_) (fun cdv A outer s0 H vs Q E hr h => ?_)
  · obtain ⟨s, d, l, q, ls, ps, rfl, _⟩ := h
    rfl
  · obtain ⟨s, d, l, q, ls, ps, rfl, S, D, hps, hls, htr, hpr, k⟩ := h
    obtain ⟨sx, hs⟩ := id S
    obtain ⟨dx, hd⟩ := D.ok
    obtain ⟨xq, hq, _⟩ := D.pen
    have sq : s ≠ q := ne_of hs hq (by intro z; cases z)
    refine ⟨_, [some _], rfl, (pss_cons (ps_expr (pe_m0 M_Store_check E0 (hr.mono (by first | decide | omega)) (pv 0) passL _))
      (pss_cons (ps_expr (pe_m M_Disk_write E0 (hr.mono (by first | decide | omega)) (kFld (K := K) (pv 0) rfl) passL (pa_cons (pe_tup (pa_cons (pe_gl (by rfl) T.g_SEAL) pa_nil)) (pa_cons (pe_callB (kLen (K := K)) (by rfl) T.n_len (by decide +kernel) (pa_cons (pe_m0 M_Disk_wholes E0 (hr.mono (by first | decide | omega)) (kFld (K := K) (pv 0) rfl) passL _) pa_nil)) pa_nil)) _))
      (pss_one (ps_expr (pe_m0 M_Disk_sync E0 (hr.mono (by first | decide | omega)) (kFld (K := K) (pv 0) rfl) passL _))))), ?_⟩
    walk_at "st"
    refine ⟨s, d, l, q, ls, ps, rfl, S, D, ?_⟩
    walk_at "st"
    intro t ht
    have f1 : Fr [] H (upd H t (.tup [.str "seal"])) := Fr.up ht
    have D1 := D.keep f1 List.not_mem_nil List.not_mem_nil List.not_mem_nil
    have hs1 := f1.same _ _ hs
    have hd1 := f1.same _ _ hd
    walk_at "st"
    refine ⟨0, d, l, q, ls, ps, rfl, D1, by omega, htr, fun H2 p xs hp0 hp t2 f2 => ?_⟩
    have f12 := f1.trans f2
    have D2 := D1.keep f2 List.not_mem_nil List.not_mem_nil List.not_mem_nil
    have hs2 := f2.same _ _ hs1
    obtain ⟨dx2, hd2⟩ := D2.ok
    have ht2 : H2 t = some (.tup [.str "seal"]) := f2.same _ _ upd_same
    walk_at "st"
    refine ⟨0, d, l, q, ls, ps, _, _, .tuple [.str "seal"], .int _, rfl, D2, by omega, .tup ht2 (.cons (.str _) .nil), sealKey, .int _, nice_int _ _, fun H3 D3 f3 => ?_⟩
    have f13 := (f12.mono (ns := [q]) (by simp)).trans f3
    have hs3 := f13.keep _ _ (by simpa using sq) hs
    obtain ⟨dx3, hd3⟩ := D3.ok
    walk_at "st"
    refine ⟨0, d, l, q, ls, ps ++ [sealD (xs.length : Int)], rfl, D3, by rw [List.length_append]; simp; omega, hls, fun e he => ?_, fun H4 q' hq' D4 f4 => ?_⟩
    · rcases List.mem_append.mp he with he | he
      · exact hpr e he
      · rw [List.mem_singleton.mp he]; exact sealPr _
    · walk_at "st"
      refine k _ q' _ ?_ D4 ((f13.mono (by simp)).trans (f4.mono (by simp)))
      have qn : q' ≠ q := by
        obtain ⟨_, hq3, _⟩ := D3.pen
        exact (ne_of_none hq3 hq').symm
      exact f13.back (by simpa using qn) hq'
/-! ### what is found -/
def putE (m : Dd) : PyData → Dd
  | .tuple [k, v] => if isSeal k = true then m else putD m (keysOf k) v
  | _ => m
def tab (es : List PyData) : Dd := es.foldl putE []
theorem tab_snoc {es : List PyData} {i : Nat} {e : PyData} (h : es[i]? = some e) : tab (es.take (i + 1)) = putE (tab (es.take i)) e := by
  unfold tab
  rw [take_snoc h, List.foldl_append]
  rfl
theorem putE_len (m : Dd) (e : PyData) : (putE m e).length ≤ m.length + 1 := by
  unfold putE
  split
  · split
    · omega
    · exact len_put
  · omega
def spFound (C D : Addr) : Sp := fun vs H Q _ => ∃ (s d l q : Addr) (ls ps : List PyData), vs = [.ref s] ∧ StoreAt C H s d ∧ DiskAt D 0 H d l q ls ps ∧ ls.length + ps.length ≤ 5000 ∧ (∀ e ∈ ls, IsTr e) ∧ (∀ e ∈ ps, IsPr e) ∧
  ∀ H' p, H p = none → TabAt H' p (tab (wholes ls ps)) → Fr [] H H' → Q (.ref p) H'
abbrev s_Store_found : Stmt := inClass (top 71) 4
theorem sc_Store_found : FnScope ["self", "key", "thing"] ["self"] (defScope s_Store_found) := ⟨rfl, rfl, rfl, by decide +kernel, rfl, by decide +kernel, by decide +kernel⟩
theorem ok_Store_found {f : Addr} {fd : FuncData} (F : Fun K "found" "Store.found" s_Store_found f fd) (T : Txt K mg Z)
    (M_Store_check : Mn P w K mg base Z.Store "check" 2 ["self"] (spCheck Z.Store Z.Disk)) (M_Disk_wholes : Mn P w K mg base Z.Disk "wholes" 1 ["self"] (spWholes Z.Disk)) :
    FnOk P w K mg base (L2.CX P w) 3 f fd ["self"] (spFound Z.Store Z.Disk) := by
  have cl := T.cl
  have clS := T.clS
  have aD := T.aD
  refine okN F sc_Store_found (fun vs H Q E h => ?_) (fun cdv A outer s0 H vs Q E hr h => ?_)
  · obtain ⟨s, d, l, q, ls, ps, rfl, _⟩ := h
    rfl
  · obtain ⟨s, d, l, q, ls, ps, rfl, S, D, hsz, htr, hpr, k⟩ := h
    obtain ⟨sx, hs⟩ := id S
    obtain ⟨dx, hd⟩ := D.ok
    have hu0 := u0_of hr
    refine ⟨_, [some _, none, none], rfl, (pss_cons (ps_expr (pe_m0 M_Store_check E0 (hr.mono (by first | decide | omega)) (pv 0) passL _))
      (pss_one (ps_ret (pe_dcG (own := [("key", 1), ("thing", 2)]) (g := (gTup K 2 (gCons (gName 1) (gCons (gName 2) gNil)))) (tt := _) (.dT []) hu0 (Or.inr rfl) rfl sc_Store_found.nd (kPiL (K := K) (pe_m0 M_Disk_wholes E0 (hr.mono (by first | decide | omega)) (kFld (K := K) (pv 0) rfl) passL _)) (blkOk_by (N := ["self", "key", "thing"]) (sc := defScope s_Store_found) (by decide +kernel)) (fun _ _ _ _ _ => (kTupT (K := K) (n := 2) (pgs_cons (pg_name (i := 1) sc_Store_found.nd rfl (by first | exact Or.inl rfl | exact Or.inr rfl)) (pgs_cons (pg_name (i := 2) sc_Store_found.nd rfl (by first | exact Or.inl rfl | exact Or.inr rfl)) pgs_nil)))) (fun _ _ _ _ _ => (pts_one (pt_cmpR op_ne (pe_ix (kIxT (K := K)) (pv 1) pe_int (fun _ _ => rfl)) (pe_gl (by rfl) T.g_SEAL) (by first | exact nomark _ | rfl)))) (fun _ _ _ _ _ => (pv 1)) (fun _ _ _ _ _ => (pv 2)))))), ?_⟩
    walk_at "st"
    refine ⟨s, d, l, q, ls, ps, rfl, S, D, ?_⟩
    walk_at "st"
    refine ⟨0, d, l, q, ls, ps, rfl, D, hsz, htr, fun H1 p xs hp0 hp tp f1 => ?_⟩
    have hlen := tp.length
    have hwl := wholes_len ls ps
    have hpw := wholes_pr htr hpr
    walk_at "st"
    intro u hu
    refine dc_it (walk_list (xs := xs)) (fun i H' => Fr [] H1 H' ∧ ∃ kvs, H' u = some (.dT kvs) ∧ kvs.length ≤ i ∧ KD H' kvs (tab ((wholes ls ps).take i))) ⟨Fr.up hu, [], upd_same, Nat.le_refl _, .nil⟩ (fun i H' _ h => SqL.of (h.1.same _ _ hp)) ?_ ?_
    · rintro i x H2 H3 hi ⟨f2, kvs, e2, ek, tk⟩ ⟨rfl, hx⟩
      obtain ⟨e, he, te⟩ := TDs.at_ (TDs.mono f2.tup _ _ tp) hx
      obtain ⟨kd, vd, rfl, hkd, hvd⟩ := hpw e (List.mem_of_getElem? he)
      cases te with
      | @tup a zs _ ha hT =>
      cases hT with
      | @cons z1 _ _ _ t1 hT =>
      cases hT with
      | @cons z2 _ _ _ t2 hT =>
      cases hT
      obtain ⟨b, z, zs, rfl, hb, ekey, hz⟩ := key_td t1 hkd
      have hbk := hb
      rw [← ekey] at hbk
      have put : isSeal kd = false → kvs.length < sizeLine ∧ Fr [] H1 (upd H3 u (.dT (putK kvs (keysOf kd) z2))) ∧ ∃ kvs', upd H3 u (.dT (putK kvs (keysOf kd) z2)) u = some (.dT kvs') ∧ kvs'.length ≤ i + 1 ∧ KD (upd H3 u (.dT (putK kvs (keysOf kd) z2))) kvs' (tab ((wholes ls ps).take (i + 1))) := fun hs => by
        have f3 : Fr [u] H3 (upd H3 u (.dT (putK kvs (keysOf kd) z2))) := (Fr.refl H3).wr e2 trivial (.inl (by simp))
        refine ⟨line_lt (by omega), f2.wr e2 trivial (.inr hu), _, upd_same, ?_, ?_⟩
        · have := length_putK kvs (keysOf kd) z2
          omega
        · rw [tab_snoc he]
          show KD _ _ (if isSeal kd = true then _ else _)
          rw [hs, if_neg Bool.false_ne_true]
          exact (KD.put tk _ t2).mono f3.tup
      walk_at "st"
      rcases hz with ⟨x, rfl, hx⟩ | ⟨i', rfl, hx⟩
      · walk_at "st"
        refine iteDN (fun h => ?_) (fun h => ?_)
        · have e : x = "seal" := V.str.inj h
          rw [decide_eq_true e] at hx
          refine ⟨f2, kvs, e2, by omega, ?_⟩
          rw [tab_snoc he]
          show KD _ _ (if isSeal kd = true then _ else _)
          rw [hx, if_pos rfl]
          exact tk
        · have e : ¬ x = "seal" := fun z => h (by rw [z])
          rw [decide_eq_false e] at hx
          walk_at "st"
          exact (put hx).2
      · walk_at "st"
        refine iteDN (fun h => nomatch h) (fun h => ?_)
        walk_at "st"
        exact (put hx).2
    · rintro H2 ⟨f2, kvs, e2, ek, tk⟩
      rw [List.take_of_length_le (by omega)] at tk
      exact k _ u (f1.free hu) ⟨kvs, e2, tk⟩ (f1.trans f2)
end

end K39

namespace K39
open PySem PySem.Spec PyProof.Rows L2 Hq
local macro_rules | `(tactic| walk_at "st1") => `(tactic| first
  | with_reducible refine st_seq ?_ | with_reducible refine st_ret ?_ | with_reducible refine st_ifS ?_ | with_reducible refine st_asg ?_ | with_reducible refine st_drop ?_
  | ((with_reducible refine' st_var ?hv ?_); (case hv => rfl)) | with_reducible refine st_c ?_ | with_reducible refine st_op ?_ | with_reducible refine st_un ?_
  | with_reducible refine st_I0 ?_ | with_reducible refine st_U ?_ | ((with_reducible refine' st_I ?hc ?_); (case hc => walk_at "side"))
  | ((with_reducible refine' st_eq ?hs ?_); (case hs => rfl)) | ((with_reducible refine' st_ne ?hs ?_); (case hs => rfl))
  | with_reducible refine st_test ?_ | with_reducible refine st_B ?_ | with_reducible refine st_bl ?_ | with_reducible refine st_isN ?_ | with_reducible refine st_notN ?_
  | with_reducible refine st_chain ?_ | with_reducible refine st_and ?_ | with_reducible refine st_or ?_ | with_reducible refine st_not ?_
  | with_reducible refine st_andV ?_ | with_reducible refine st_orV ?_ | with_reducible refine st_notV ?_ | with_reducible refine st_if ?_
  | with_reducible refine st_CB ?_ | with_reducible refine st_cons ?_ | with_reducible refine st_nil ?_ | with_reducible refine st_fld ?_
  | ((with_reducible refine st_tup ?_)) | ((with_reducible refine st_lst ?_))
  | with_reducible refine st_call ?_ | with_reducible refine st_meth ?_ | with_reducible refine st_make ?_
  | with_reducible refine st_sl ?_ | with_reducible refine st_noPart ?_ | with_reducible refine st_part ?_ | with_reducible refine st_int ?_
  | ((with_reducible refine' st_ixL ?hq ?he ?_); (case hq => walk_at "sqL"); (case he => walk_at "at"))
  | ((with_reducible refine' st_ixT ?hq ?he ?_); (case hq => walk_at "sqT"); (case he => walk_at "at"))
  | with_reducible refine st_bm ?_ | with_reducible refine st_app ?_
  | ((with_reducible refine' st_append ?hq ?hl ?_); (case hq => walk_at "hp"); (case hl => walk_at "line"))
  | ((with_reducible refine' st_len (n := 0) ?hq ?_); (case hq => first | exact Or.inl (by walk_at "sqL") | exact Or.inr (by walk_at "sqT")))
  | ((with_reducible refine' st_listOf ?hq ?_); (case hq => first | exact Or.inl (by walk_at "sqL") | exact Or.inr (by walk_at "sqT")))
  | ((with_reducible refine st_name ?_); (try dsimp only [List.set_cons_zero, List.set_cons_succ])) | with_reducible refine st_par ?_
  | with_reducible refine st_gcons ?_ | with_reducible refine st_gnil ?_ | with_reducible refine st_gsub ?_ | with_reducible refine st_sFld ?_
  | ((with_reducible refine' st_gtup ?hq ?hl ?_); (case hq => walk_at "sqT"); (case hl => rfl))
  | ((with_reducible refine' st_setL ?hq ?hl ?_); (case hq => walk_at "hp"); (case hl => first | rfl | exact ix0 | exact ixN_nat (by assumption)); (try simp only [Int.reduceToNat, List.set_cons_zero, List.set_cons_succ]))
  | with_reducible refine st_intI ?_ | with_reducible refine st_abs ?_
  | ((with_reducible refine' st_popAt ?hq ?hk ?hy ?_); (case hq => walk_at "hp"); (case hk => exact seq0); (case hy => rfl))
  | ((with_reducible refine' and_left ?ht ?_); (case ht => walk_at "ty"))
  | with_reducible refine st_lc ?_ | with_reducible refine st_for ?_ | with_reducible refine st_iL ?_ | with_reducible refine st_iT ?_ | with_reducible refine st_iR1 ?_ | with_reducible refine st_iR2 ?_ | with_reducible refine st_iZ ?_
  | ((with_reducible refine' st_refL ?hq ?_); (case hq => walk_at "sqL")) | ((with_reducible refine' st_refT ?hq ?_); (case hq => walk_at "sqT"))
  | ((with_reducible refine' st_rng1 ?hq ?_); (case hq => walk_at "side")) | ((with_reducible refine' st_rng2 ?hq ?_); (case hq => walk_at "side"))
  | ((with_reducible refine' st_zip ?hq ?hr ?_); (case hq => walk_at "sqb"); (case hr => walk_at "sqb"))
  | ((with_reducible refine' st_size ?hw ?_); (case hw => walk_at "line"))
  | ((with_reducible refine' st_sum ?hq ?_); (case hq => walk_at "sqL"))
  | with_reducible refine st_two ?_ | with_reducible refine st_yes ?_ | ((with_reducible refine' st_wipe ?hw ?_); (case hw => rfl))
  | ((with_reducible refine' st_slL ?hq ?_); (case hq => walk_at "sqL"))
  | ((with_reducible refine' st_cat ?hq ?hr ?hl ?_); (case hq => walk_at "hp"); (case hr => walk_at "hp"); (case hl => walk_at "line"))
  | ((with_reducible refine' st_isi ?hk ?he ?_); (case hk => walk_at "kd"); (case he => walk_at "kit"))
  | ((with_reducible refine' st_ins ?hq ?hc ?hn ?hl ?_); (case hq => walk_at "hp"); (case hc => with_reducible assumption); (case hn => with_reducible assumption); (case hl => walk_at "flen"); walk_at "puts")
  | ((with_reducible refine' st_att ?hq ?hc ?hn ?hl ?_); (case hq => walk_at "hp"); (case hc => with_reducible assumption); (case hn => with_reducible assumption); (case hl => walk_at "lk"))
  | ((with_reducible refine' st_mt ?hq ?hl ?_); (case hq => walk_at "hp"); (case hl => walk_at "lk"))
  | ((with_reducible refine' st_extend ?hq ?hr ?hl ?_); (case hq => walk_at "hp"); (case hr => walk_at "hp"); (case hl => walk_at "line"))
  | with_reducible refine st_next ?_ | with_reducible refine st_retN ?_ | (with_reducible refine iteNT ?_) | (with_reducible refine iteNF ?_) | (with_reducible refine iteT ?_) | (with_reducible refine iteF ?_))
local macro_rules | `(tactic| walk_at "side") => `(tactic| first | omega | decide | assumption | exact ⟨by omega, by omega⟩ | exact Or.inr ⟨by omega, by omega⟩ | exact Or.inl ⟨by omega, by omega⟩ | (simp only [List.length_map, List.length_cons, List.length_nil, List.length_append] at *; omega))
local macro_rules | `(tactic| walk_at "hp") => `(tactic| first | assumption | exact upd_same | refine upd_old (by assumption) (by walk_at "hp") | (rw [upd_ne (by first | assumption | exact Ne.symm (by assumption))]; walk_at "hp"))
local macro_rules | `(tactic| walk_at "sqL") => `(tactic| first | assumption | exact SqL.of (by walk_at "hp"))
local macro_rules | `(tactic| walk_at "sqT") => `(tactic| first | assumption | exact SqT.of (by walk_at "hp"))
local macro_rules | `(tactic| walk_at "sqb") => `(tactic| (unfold SqB; first | ((with_reducible change SqL _ _ _ _); walk_at "sqL") | ((with_reducible change SqT _ _ _ _); walk_at "sqT")))
local macro_rules | `(tactic| walk_at "line") => `(tactic| first | assumption | decide | (apply line_of; walk_at "side") | (apply line_lt; walk_at "side"))
local macro_rules | `(tactic| walk_at "ty") => `(tactic| ((with_reducible refine' ty_lst ?hq); (case hq => walk_at "hp")))
local macro_rules | `(tactic| walk_at "at") => `(tactic| with_reducible first | assumption | exact at0 | exact at1 | exact at2 | exact at3 | exact at4 | exact at5 | exact at6 | exact at7 | exact at8)
local macro_rules | `(tactic| walk_at "st") => `(tactic| (repeat walk_at "st1"))
local macro_rules | `(tactic| walk_at "lk") => `(tactic| first | with_reducible assumption | rfl)
local macro_rules | `(tactic| walk_at "kd") => `(tactic| first | exact .base (.int _) | exact .base .non | exact .base (.bl _) | exact .base (.str _) | exact .base (.tup (by walk_at "hp")) | exact .base (.lst (by walk_at "hp")) | exact .base (.dK (by walk_at "hp")) | exact .base (.dT (by walk_at "hp")))
local macro_rules | `(tactic| walk_at "kit") => `(tactic| with_reducible first
  | exact kit_NoneType_bool
  | exact kit_NoneType_int
  | exact kit_NoneType_str
  | exact kit_NoneType_tuple
  | exact kit_NoneType_list
  | exact kit_NoneType_dict
  | exact kit_bool_bool
  | exact kit_bool_int
  | exact kit_bool_str
  | exact kit_bool_tuple
  | exact kit_bool_list
  | exact kit_bool_dict
  | exact kit_int_bool
  | exact kit_int_int
  | exact kit_int_str
  | exact kit_int_tuple
  | exact kit_int_list
  | exact kit_int_dict
  | exact kit_str_bool
  | exact kit_str_int
  | exact kit_str_str
  | exact kit_str_tuple
  | exact kit_str_list
  | exact kit_str_dict
  | exact kit_tuple_bool
  | exact kit_tuple_int
  | exact kit_tuple_str
  | exact kit_tuple_tuple
  | exact kit_tuple_list
  | exact kit_tuple_dict
  | exact kit_list_bool
  | exact kit_list_int
  | exact kit_list_str
  | exact kit_list_tuple
  | exact kit_list_list
  | exact kit_list_dict
  | exact kit_dict_bool
  | exact kit_dict_int
  | exact kit_dict_str
  | exact kit_dict_tuple
  | exact kit_dict_list
  | exact kit_dict_dict)
local macro_rules | `(tactic| walk_at "flen") => `(tactic| decide)
local macro_rules | `(tactic| walk_at "puts") => `(tactic| skip)

section
variable {Z : Ads} {P : Program} {w : World} {K : PySem.W.Frag} {mg : Str → Option Value} {base : Heap}
/-! ### the judges, asked of anything -/
def usOf (CE : Addr) : List Value := [.type "int", .type "bool", .type "str", .type "tuple", .ref CE]
def isIntJ : JD → Bool
  | .int _ => true
  | _ => false
def betwJ (l m : Int) : JD → Bool
  | .int i => decide (l ≤ i) && decide (i ≤ m)
  | _ => false
def numJ : JD → Bool
  | .int i => decide (0 ≤ i)
  | _ => false
def tupJ (l m : Int) : JD → Bool
  | .tuple ds => decide (l ≤ (ds.length : Int)) && decide ((ds.length : Int) ≤ m)
  | _ => false
def partJ : JD → Bool
  | .str _ => true
  | d => numJ d
def isKeyJ : JD → Bool
  | .tuple ds => !ds.isEmpty && ds.all partJ
  | _ => false
/-- kept, of nesting below n -/
def keptJ : Nat → JD → Bool
  | n + 1, .tuple ds => ds.all (keptJ n)
  | 0, .tuple _ => false
  | _, .other => false
  | _, _ => true
/-- nesting below n, no tuple of more than a hundred -/
def okJ : Nat → JD → Bool
  | n + 1, .tuple ds => decide (ds.length ≤ 100) && ds.all (okJ n)
  | 0, .tuple _ => false
  | _, _ => true
def shortJ : JD → Prop
  | .tuple ds => ds.length ≤ 100
  | _ => True
theorem okJ.short {n : Nat} {d : JD} (h : okJ n d = true) : shortJ d := by
  cases d with
  | tuple ds =>
    cases n with
    | zero => exact nomatch h
    | succ n =>
      have h' : (decide (ds.length ≤ 100) && ds.all (okJ n)) = true := h
      rw [Bool.and_eq_true] at h'
      show ds.length ≤ 100
      exact of_decide_eq_true h'.1
  | _ => trivial
abbrev ADZ (K : PySem.W.Frag) (Z : Ads) (H : Hp) : V → JD → Prop := AD K (usOf Z.Exchange) [] H
local macro_rules | `(tactic| walk_at "nocls") => `(tactic| (first | exact List.mem_cons_self | exact List.mem_cons_of_mem _ List.mem_cons_self | exact List.mem_cons_of_mem _ (List.mem_cons_of_mem _ List.mem_cons_self) | exact List.mem_cons_of_mem _ (List.mem_cons_of_mem _ (List.mem_cons_of_mem _ List.mem_cons_self))))
def spIsIntJ (K : PySem.W.Frag) (Z : Ads) : Sp := fun vs H Q _ => ∃ (v : V) (d : JD), vs = [v] ∧ ADZ K Z H v d ∧ Q (.bl (isIntJ d)) H
theorem okJ_is_integer {f : Addr} {fd : FuncData} (F : Fun K "is_integer" "is_integer" s_is_integer f fd) (T : Txt K mg Z) : FnOk P w K mg base (L2.CX P w) 1 f fd ["thing"] (spIsIntJ K Z) := by
  refine okN F sc_is_integer (fun vs H Q E h => ?_) (fun cdv A outer s H vs Q E hr h => ?_)
  · obtain ⟨v, d, rfl, _⟩ := h
    rfl
  · obtain ⟨v, d, rfl, ha, k⟩ := h
    refine ⟨_, [some _], rfl, (pss_one (ps_ret (pe_and (pe_callB (kIsi (K := K)) (by rfl) T.n_isinstance (by decide +kernel) (pa_cons (pv 0) (pa_cons (pe_ty "int" (by rfl) T.n_int (by decide +kernel)) pa_nil))) (pe_one (pe_not (pe_callB (kIsi (K := K)) (by rfl) T.n_isinstance (by decide +kernel) (pa_cons (pv 0) (pa_cons (pe_ty "bool" (by rfl) T.n_bool (by decide +kernel)) pa_nil)))))))), ?_⟩
    cases ha with
    | oth e n o us =>
      walk_at "st"
      refine st_isiO e o us (by walk_at "nocls") ?_
      walk_at "st"
      exact k
    | _ =>
      walk_at "st"
      exact k
def spBetweenJ (K : PySem.W.Frag) (Z : Ads) : Sp := fun vs H Q _ => ∃ (v : V) (d : JD) (l m : Int), vs = [v, .int l, .int m] ∧ ADZ K Z H v d ∧ Q (.bl (betwJ l m d)) H
theorem okJ_is_between {f : Addr} {fd : FuncData} (F : Fun K "is_between" "is_between" s_is_between f fd) (T : Txt K mg Z) (D_is_integer : Dn P w K mg base "is_integer" 1 ["thing"] (spIsIntJ K Z)) : FnOk P w K mg base (L2.CX P w) 2 f fd ["thing", "least", "most"] (spBetweenJ K Z) := by
  refine okN F sc_is_between (fun vs H Q E h => ?_) (fun cdv A outer s0 H vs Q E hr h => ?_)
  · obtain ⟨v, d, l, m, rfl, _⟩ := h
    rfl
  · obtain ⟨v, d, l, m, rfl, ha, k⟩ := h
    refine ⟨_, [some _, some _, some _], rfl, (pss_one (ps_ret (pe_and (pe_d D_is_integer E0 (hr.mono (by first | decide | omega)) (by rfl) passL (pa_cons (pv 0) pa_nil)) (pe_one (pe_chain op_le op_le (pv 1) (pv 0) (pv 2)))))), ?_⟩
    walk_at "st"
    refine ⟨v, d, rfl, ha, ?_⟩
    cases ha with
    | int i =>
      show ∃ c, V.bl true = V.bl c ∧ _
      walk_at "st"
      refine iteD (fun h => ?_) (fun h => ?_)
      · walk_at "st"
        rw [show betwJ l m (.int i) = (decide (l ≤ i) && decide (i ≤ m)) from rfl, decide_eq_true h, Bool.true_and] at k
        exact k
      · rw [show betwJ l m (.int i) = (decide (l ≤ i) && decide (i ≤ m)) from rfl, decide_eq_false h, Bool.false_and] at k
        exact k
    | _ =>
      show ∃ c, V.bl false = V.bl c ∧ _
      walk_at "st"
      exact k
def spNumberJ (K : PySem.W.Frag) (Z : Ads) : Sp := fun vs H Q _ => ∃ (v : V) (d : JD), vs = [v] ∧ ADZ K Z H v d ∧ Q (.bl (numJ d)) H
theorem okJ_is_number {f : Addr} {fd : FuncData} (F : Fun K "is_number" "is_number" s_is_number f fd) (T : Txt K mg Z) (D_is_integer : Dn P w K mg base "is_integer" 1 ["thing"] (spIsIntJ K Z)) : FnOk P w K mg base (L2.CX P w) 2 f fd ["thing"] (spNumberJ K Z) := by
  refine okN F sc_is_number (fun vs H Q E h => ?_) (fun cdv A outer s0 H vs Q E hr h => ?_)
  · obtain ⟨v, d, rfl, _⟩ := h
    rfl
  · obtain ⟨v, d, rfl, ha, k⟩ := h
    refine ⟨_, [some _], rfl, (pss_one (ps_ret (pe_and (pe_d D_is_integer E0 (hr.mono (by first | decide | omega)) (by rfl) passL (pa_cons (pv 0) pa_nil)) (pe_one (pe_cmpR op_ge (pv 0) pe_int (by first | exact nomark _ | rfl)))))), ?_⟩
    walk_at "st"
    refine ⟨v, d, rfl, ha, ?_⟩
    cases ha with
    | int i =>
      show ∃ c, V.bl true = V.bl c ∧ _
      walk_at "st"
      exact k
    | _ =>
      show ∃ c, V.bl false = V.bl c ∧ _
      walk_at "st"
      exact k
def spTupleJ (K : PySem.W.Frag) (Z : Ads) : Sp := fun vs H Q _ => ∃ (v : V) (d : JD) (l m : Int), vs = [v, .int l, .int m] ∧ ADZ K Z H v d ∧ shortJ d ∧ Q (.bl (tupJ l m d)) H
theorem okJ_is_tuple {f : Addr} {fd : FuncData} (F : Fun K "is_tuple" "is_tuple" s_is_tuple f fd) (T : Txt K mg Z) : FnOk P w K mg base (L2.CX P w) 1 f fd ["thing", "least", "most"] (spTupleJ K Z) := by
  refine okN F sc_is_tuple (fun vs H Q E h => ?_) (fun cdv A outer s0 H vs Q E hr h => ?_)
  · obtain ⟨v, d, l, m, rfl, _⟩ := h
    rfl
  · obtain ⟨v, d, l, m, rfl, ha, hs, k⟩ := h
    refine ⟨_, [some _, some _, some _], rfl, (pss_one (ps_ret (pe_and (pe_callB (kIsi (K := K)) (by rfl) T.n_isinstance (by decide +kernel) (pa_cons (pv 0) (pa_cons (pe_ty "tuple" (by rfl) T.n_tuple (by decide +kernel)) pa_nil))) (pe_one (pe_chain op_le op_le (pv 1) (pe_callB (kLen (K := K)) (by rfl) T.n_len (by decide +kernel) (pa_cons (pv 0) pa_nil)) (pv 2)))))), ?_⟩
    cases ha with
    | @tup a xs ds ha hT =>
      have hl := hT.length
      have hs' : ds.length ≤ 100 := hs
      walk_at "st"
      rw [show tupJ l m (.tuple ds) = (decide (l ≤ (ds.length : Int)) && decide ((ds.length : Int) ≤ m)) from rfl, ← hl] at k
      refine iteD (fun h => ?_) (fun h => ?_)
      · walk_at "st"
        rw [decide_eq_true h, Bool.true_and] at k
        exact k
      · rw [decide_eq_false h, Bool.false_and] at k
        exact k
    | oth e n o us =>
      walk_at "st"
      refine st_isiO e o us (by walk_at "nocls") ?_
      walk_at "st"
      exact k
    | _ =>
      walk_at "st"
      exact k
def spIsKeyJ (K : PySem.W.Frag) (Z : Ads) : Sp := fun vs H Q _ => ∃ (v : V) (d : JD), vs = [v] ∧ ADZ K Z H v d ∧ shortJ d ∧ ∀ H', Fr [] H H' → Q (.bl (isKeyJ d)) H'
theorem okJ_is_key {f : Addr} {fd : FuncData} (F : Fun K "is_key" "is_key" s_is_key f fd) (T : Txt K mg Z) (D_is_number : Dn P w K mg base "is_number" 2 ["thing"] (spNumberJ K Z)) : FnOk P w K mg base (L2.CX P w) 3 f fd ["thing"] (spIsKeyJ K Z) := by
  refine okN F sc_is_key (fun vs H Q E h => ?_) (fun cdv A outer s0 H vs Q E hr h => ?_)
  · obtain ⟨v, d, rfl, _⟩ := h
    rfl
  · obtain ⟨v, d, rfl, hv, hs, k⟩ := h
    refine ⟨_, [some _, none], rfl, (pss_cons (ps_if (PW.pt (pw_or (pt_not (pt_val (pe_callB (kIsi (K := K)) (by rfl) T.n_isinstance (by decide +kernel) (pa_cons (pv 0) (pa_cons (pe_ty "tuple" (by rfl) T.n_tuple (by decide +kernel)) pa_nil))))) (pw_or1 (pt_cmpR op_eq (pe_callB (kLen (K := K)) (by rfl) T.n_len (by decide +kernel) (pa_cons (pv 0) pa_nil)) pe_int (by first | exact nomark _ | rfl))))) (pss_one (ps_ret pe_bl)) pss_nil)
      (pss_one (ps_ret (pe_callB (kAll (K := K)) (by rfl) T.n_all (by decide +kernel) (pa_cons (pe_lc (own := [("part", 1)]) (g := (gName 1)) (tt := tYes) rfl sc_is_key.nd (kPiT (K := K) (pv 0)) (blkOk_by (N := ["thing", "part"]) (sc := defScope s_is_key) (by decide +kernel)) (fun _ _ _ _ _ => (pg_name (i := 1) sc_is_key.nd rfl (by first | exact Or.inl rfl | exact Or.inr rfl))) (fun _ _ _ _ _ => pts_nil) (fun _ _ _ _ _ => (pe_or (pe_callB (kIsi (K := K)) (by rfl) T.n_isinstance (by decide +kernel) (pa_cons (pv 1) (pa_cons (pe_ty "str" (by rfl) T.n_str (by decide +kernel)) pa_nil))) (pe_one (pe_d D_is_number E0 (hr.mono (by first | decide | omega)) (by rfl) passL (pa_cons (pv 1) pa_nil)))))) pa_nil))))), ?_⟩
    cases hv with
    | @tup a xs ds ha hT =>
      have hl := hT.length
      have hs' : ds.length ≤ 100 := hs
      walk_at "st"
      refine iteD (fun h => ?_) (fun h => ?_)
      · have h0 : xs.length = 0 := by
          have := V.int.inj h
          omega
        have e : ds = [] := List.length_eq_zero_iff.mp (by omega)
        subst e
        walk_at "st"
        exact k _ (Fr.refl H)
      · have hne : isKeyJ (.tuple ds) = ds.all partJ := by
          cases ds with
          | nil =>
            rw [hl] at h
            exact absurd rfl h
          | cons _ _ => rfl
        rw [hne] at k
        walk_at "st"
        intro D hD
        refine lc_it (walk_tup (xs := xs)) (fun i H' => Fr [] H H' ∧ H' D = some (.lst (((ds.take i).map partJ).map V.bl))) ⟨Fr.up hD, upd_same⟩ (fun i H' _ h => SqT.of (h.1.tup _ _ ha)) ?_ ?_
        · rintro i x H1 H2 hi ⟨f1, e1⟩ ⟨rfl, hx⟩
          obtain ⟨d, hd, td⟩ := ADs.at_ (ADs.mono f1.tup (f1.keepB (by simp)) _ _ hT) hx
          have fin : ∀ b, partJ d = b → ∃ acc, H2 D = some (.lst acc) ∧ acc.length < sizeLine ∧ Fr [] H (upd H2 D (.lst (acc ++ [V.bl b]))) ∧ (upd H2 D (.lst (acc ++ [V.bl b]))) D = some (.lst (((ds.take (i + 1)).map partJ).map V.bl)) := fun b e => by
            refine ⟨_, e1, line_lt (by simp; omega), f1.wl e1 (.inr hD), ?_⟩
            rw [upd_same, take_snoc hd, List.map_append, List.map_append, List.map_singleton, List.map_singleton, e]
          cases td with
          | str z =>
            walk_at "st"
            exact fin _ rfl
          | @oth b o t eo no oo uo =>
            walk_at "st"
            refine st_isiO eo oo uo (by walk_at "nocls") ?_
            walk_at "st"
            refine ⟨_, _, rfl, .oth eo no oo uo, ?_⟩
            exact fin _ rfl
          | int n =>
            walk_at "st"
            refine ⟨_, _, rfl, .int n, ?_⟩
            exact fin _ rfl
          | bl n =>
            walk_at "st"
            refine ⟨_, _, rfl, .bl n, ?_⟩
            exact fin _ rfl
          | non =>
            walk_at "st"
            refine ⟨_, _, rfl, .non, ?_⟩
            exact fin _ rfl
          | tup e2 h2 =>
            walk_at "st"
            refine ⟨_, _, rfl, .tup e2 h2, ?_⟩
            exact fin _ rfl
        · rintro H1 ⟨f1, e1⟩
          walk_at "st"
          refine st_all (SqL.of e1) ?_
          rw [List.take_of_length_le (by omega), List.all_map]
          exact k _ f1
    | oth e n o us =>
      walk_at "st"
      refine st_isiO e o us (by walk_at "nocls") ?_
      walk_at "st"
      exact k _ (Fr.refl H)
    | _ =>
      walk_at "st"
      exact k _ (Fr.refl H)
theorem isi3O {H : Hp} {a tp CE : Addr} {o : HO} {t : Value} {Q : VK} (h : H tp = some (.tup [.ty "int", .ty "str", .ref CE])) (e : H a = some o) (ho : Oth K o t) (hu : ∀ u ∈ usOf CE, PySem.W.kitOne K t u = some false) (q : Q (.bl false) H) : rIsiT K [.ref a, .ref tp] H Q := by
  refine ⟨.ref a, tp, _, t, [.type "int", .type "str", .ref CE], false, rfl, h, .cons (.ty _) (.cons (.ty _) (.cons (.own _) .nil)), ho.ty e, ?_, q⟩
  exact kitAny_cons (b := false) (hu _ (by walk_at "nocls")) (fun _ => kitAny_cons (b := false) (hu _ (by walk_at "nocls")) (fun _ => kitAny_cons (b := false) (hu _ (by simp [usOf])) (fun _ => rfl) (fun h => nomatch h)) (fun h => nomatch h)) (fun h => nomatch h)
def spKeptJ (K : PySem.W.Frag) (Z : Ads) (n : Nat) : Sp := fun vs H Q _ => ∃ (v : V) (d : JD), vs = [v] ∧ ADZ K Z H v d ∧ okJ n d = true ∧ ∀ H', Fr [] H H' → Q (.bl (keptJ n d)) H'
theorem stepJ_is_kept {f : Addr} {fd : FuncData} (F : Fun K "is_kept" "is_kept" s_is_kept f fd) (T : Txt K mg Z) (n : Nat)
    (D_is_kept : Dn P w K mg base "is_kept" (0 + n) ["thing"] (fun vs H Q E => ∃ m, m < n ∧ spKeptJ K Z m vs H Q E)) : FnOk P w K mg base (L2.CX P w) (0 + n + 1) f fd ["thing"] (spKeptJ K Z n) := by
  refine okN F sc_is_kept (fun vs H Q E h => ?_) (fun cdv A outer s0 H vs Q E hr h => ?_)
  · obtain ⟨v, d, rfl, _⟩ := h
    rfl
  · obtain ⟨v, d, rfl, hv, hN, k⟩ := h
    refine ⟨_, [some _, none], rfl, (pss_cons (ps_if (pt_val (pe_callB (kIsi (K := K)) (by rfl) T.n_isinstance (by decide +kernel) (pa_cons (pv 0) (pa_cons (pe_ty "tuple" (by rfl) T.n_tuple (by decide +kernel)) pa_nil)))) (pss_one (ps_ret (pe_callB (kAll (K := K)) (by rfl) T.n_all (by decide +kernel) (pa_cons (pe_lc (own := [("part", 1)]) (g := (gName 1)) (tt := tYes) rfl sc_is_kept.nd (kPiT (K := K) (pv 0)) (blkOk_by (N := ["thing", "part"]) (sc := defScope s_is_kept) (by decide +kernel)) (fun _ _ _ _ _ => (pg_name (i := 1) sc_is_kept.nd rfl (by first | exact Or.inl rfl | exact Or.inr rfl))) (fun _ _ _ _ _ => pts_nil) (fun _ _ _ _ _ => (pe_d D_is_kept E0 (hr.mono (by first | decide | omega)) (by rfl) passL (pa_cons (pv 1) pa_nil)))) pa_nil)))) pss_nil)
      (pss_one (ps_ret (pe_or (pe_cmp (pc_isN (pv 0))) (pe_one (pe_callB (kIsiT (K := K)) (by rfl) T.n_isinstance (by decide +kernel) (pa_cons (pv 0) (pa_cons (pe_tup (pa_cons (pe_ty "int" (by rfl) T.n_int (by decide +kernel)) (pa_cons (pe_ty "str" (by rfl) T.n_str (by decide +kernel)) (pa_cons (pe_gl (by rfl) T.g_Exchange) pa_nil)))) pa_nil)))))))), ?_⟩
    cases hv with
    | non =>
      rw [show keptJ n .none = true by cases n <;> rfl] at k
      walk_at "st"
      exact k _ (Fr.refl H)
    | bl b =>
      rw [show keptJ n (.bool b) = true by cases n <;> rfl] at k
      walk_at "st"
      rw [if_neg (by simp)]
      walk_at "st"
      intro t ht
      walk_at "st"
      exact isi3 upd_same (t := "bool") (by walk_at "kd") (by simp) (k _ (Fr.up ht))
    | int i =>
      rw [show keptJ n (.int i) = true by cases n <;> rfl] at k
      walk_at "st"
      rw [if_neg (by simp)]
      walk_at "st"
      intro t ht
      walk_at "st"
      exact isi3 upd_same (t := "int") (by walk_at "kd") (by simp) (k _ (Fr.up ht))
    | str x =>
      rw [show keptJ n (.str x) = true by cases n <;> rfl] at k
      walk_at "st"
      rw [if_neg (by simp)]
      walk_at "st"
      intro t ht
      walk_at "st"
      exact isi3 upd_same (t := "str") (by walk_at "kd") (by simp) (k _ (Fr.up ht))
    | @oth a o t e no oo uo =>
      rw [show keptJ n .other = false by cases n <;> rfl] at k
      walk_at "st"
      refine st_isiO e oo uo (by walk_at "nocls") ?_
      walk_at "st"
      rw [if_neg (by simp)]
      walk_at "st"
      intro u hu
      walk_at "st"
      exact isi3O upd_same (upd_old hu e) oo uo (k _ (Fr.up hu))
    | @tup a xs ds ha hT =>
      cases n with
      | zero => exact nomatch hN
      | succ n =>
      have hN' : (decide (ds.length ≤ 100) && ds.all (okJ n)) = true := hN
      rw [Bool.and_eq_true] at hN'
      have hsz : ds.length ≤ 100 := of_decide_eq_true hN'.1
      rw [show keptJ (n + 1) (.tuple ds) = ds.all (keptJ n) from rfl] at k
      walk_at "st"
      intro D hD
      have hl := hT.length
      refine lc_it (walk_tup (xs := xs)) (fun i H' => Fr [] H H' ∧ H' D = some (.lst (((ds.take i).map (keptJ n)).map V.bl))) ⟨Fr.up hD, upd_same⟩ (fun i H' _ h => SqT.of (h.1.tup _ _ ha)) ?_ ?_
      · rintro i x H1 H2 hi ⟨f1, e1⟩ ⟨rfl, hx⟩
        obtain ⟨d, hd, td⟩ := ADs.at_ (ADs.mono f1.tup (f1.keepB (by simp)) _ _ hT) hx
        walk_at "st"
        refine ⟨n, by omega, x, d, rfl, td, List.all_eq_true.mp hN'.2 _ (List.mem_of_getElem? hd), fun H3 f3 => ?_⟩
        have e3 := f3.keep _ _ List.not_mem_nil e1
        refine ⟨_, e3, line_lt (by simp; omega), (f1.trans f3).wl e3 (.inr hD), ?_⟩
        rw [upd_same, take_snoc hd, List.map_append, List.map_append, List.map_singleton, List.map_singleton]
      · rintro H1 ⟨f1, e1⟩
        walk_at "st"
        refine st_all (SqL.of e1) ?_
        rw [List.take_of_length_le (by omega), List.all_map]
        exact k _ f1
end

end K39

namespace K39
open PySem PySem.Spec PyProof.Rows L2 Hq
local macro_rules | `(tactic| walk_at "st1") => `(tactic| first
  | with_reducible refine st_seq ?_ | with_reducible refine st_ret ?_ | with_reducible refine st_ifS ?_ | with_reducible refine st_asg ?_ | with_reducible refine st_drop ?_
  | ((with_reducible refine' st_var ?hv ?_); (case hv => rfl)) | with_reducible refine st_c ?_ | with_reducible refine st_op ?_ | with_reducible refine st_un ?_
  | with_reducible refine st_I0 ?_ | with_reducible refine st_U ?_ | ((with_reducible refine' st_I ?hc ?_); (case hc => walk_at "side"))
  | ((with_reducible refine' st_eq ?hs ?_); (case hs => rfl)) | ((with_reducible refine' st_ne ?hs ?_); (case hs => rfl))
  | with_reducible refine st_test ?_ | with_reducible refine st_B ?_ | with_reducible refine st_bl ?_ | with_reducible refine st_isN ?_ | with_reducible refine st_notN ?_
  | with_reducible refine st_chain ?_ | with_reducible refine st_and ?_ | with_reducible refine st_or ?_ | with_reducible refine st_not ?_
  | with_reducible refine st_andV ?_ | with_reducible refine st_orV ?_ | with_reducible refine st_notV ?_ | with_reducible refine st_if ?_
  | with_reducible refine st_CB ?_ | with_reducible refine st_cons ?_ | with_reducible refine st_nil ?_ | with_reducible refine st_fld ?_
  | ((with_reducible refine st_tup ?_)) | ((with_reducible refine st_lst ?_))
  | with_reducible refine st_call ?_ | with_reducible refine st_meth ?_ | with_reducible refine st_make ?_
  | with_reducible refine st_sl ?_ | with_reducible refine st_noPart ?_ | with_reducible refine st_part ?_ | with_reducible refine st_int ?_
  | ((with_reducible refine' st_ixL ?hq ?he ?_); (case hq => walk_at "sqL"); (case he => walk_at "at"))
  | ((with_reducible refine' st_ixT ?hq ?he ?_); (case hq => walk_at "sqT"); (case he => walk_at "at"))
  | with_reducible refine st_bm ?_ | with_reducible refine st_app ?_
  | ((with_reducible refine' st_append ?hq ?hl ?_); (case hq => walk_at "hp"); (case hl => walk_at "line"))
  | ((with_reducible refine' st_len (n := 0) ?hq ?_); (case hq => first | exact Or.inl (by walk_at "sqL") | exact Or.inr (by walk_at "sqT")))
  | ((with_reducible refine' st_listOf ?hq ?_); (case hq => first | exact Or.inl (by walk_at "sqL") | exact Or.inr (by walk_at "sqT")))
  | ((with_reducible refine st_name ?_); (try dsimp only [List.set_cons_zero, List.set_cons_succ])) | with_reducible refine st_par ?_
  | with_reducible refine st_gcons ?_ | with_reducible refine st_gnil ?_ | with_reducible refine st_gsub ?_ | with_reducible refine st_sFld ?_
  | ((with_reducible refine' st_gtup ?hq ?hl ?_); (case hq => walk_at "sqT"); (case hl => rfl))
  | ((with_reducible refine' st_setL ?hq ?hl ?_); (case hq => walk_at "hp"); (case hl => first | rfl | exact ix0 | exact ixN_nat (by assumption)); (try simp only [Int.reduceToNat, List.set_cons_zero, List.set_cons_succ]))
  | with_reducible refine st_intI ?_ | with_reducible refine st_abs ?_
  | ((with_reducible refine' st_popAt ?hq ?hk ?hy ?_); (case hq => walk_at "hp"); (case hk => exact seq0); (case hy => rfl))
  | ((with_reducible refine' and_left ?ht ?_); (case ht => walk_at "ty"))
  | with_reducible refine st_lc ?_ | with_reducible refine st_for ?_ | with_reducible refine st_iL ?_ | with_reducible refine st_iT ?_ | with_reducible refine st_iR1 ?_ | with_reducible refine st_iR2 ?_ | with_reducible refine st_iZ ?_
  | ((with_reducible refine' st_refL ?hq ?_); (case hq => walk_at "sqL")) | ((with_reducible refine' st_refT ?hq ?_); (case hq => walk_at "sqT"))
  | ((with_reducible refine' st_rng1 ?hq ?_); (case hq => walk_at "side")) | ((with_reducible refine' st_rng2 ?hq ?_); (case hq => walk_at "side"))
  | ((with_reducible refine' st_zip ?hq ?hr ?_); (case hq => walk_at "sqb"); (case hr => walk_at "sqb"))
  | ((with_reducible refine' st_size ?hw ?_); (case hw => walk_at "line"))
  | ((with_reducible refine' st_sum ?hq ?_); (case hq => walk_at "sqL"))
  | with_reducible refine st_two ?_ | with_reducible refine st_yes ?_ | ((with_reducible refine' st_wipe ?hw ?_); (case hw => rfl))
  | ((with_reducible refine' st_slL ?hq ?_); (case hq => walk_at "sqL"))
  | ((with_reducible refine' st_cat ?hq ?hr ?hl ?_); (case hq => walk_at "hp"); (case hr => walk_at "hp"); (case hl => walk_at "line"))
  | ((with_reducible refine' st_isi ?hk ?he ?_); (case hk => walk_at "kd"); (case he => walk_at "kit"))
  | ((with_reducible refine' st_ins ?hq ?hc ?hn ?hl ?_); (case hq => walk_at "hp"); (case hc => with_reducible assumption); (case hn => with_reducible assumption); (case hl => walk_at "flen"); walk_at "puts")
  | ((with_reducible refine' st_att ?hq ?hc ?hn ?hl ?_); (case hq => walk_at "hp"); (case hc => with_reducible assumption); (case hn => with_reducible assumption); (case hl => walk_at "lk"))
  | ((with_reducible refine' st_mt ?hq ?hl ?_); (case hq => walk_at "hp"); (case hl => walk_at "lk"))
  | ((with_reducible refine' st_extend ?hq ?hr ?hl ?_); (case hq => walk_at "hp"); (case hr => walk_at "hp"); (case hl => walk_at "line"))
  | with_reducible refine st_next ?_ | with_reducible refine st_retN ?_ | (with_reducible refine iteNT ?_) | (with_reducible refine iteNF ?_) | (with_reducible refine iteT ?_) | (with_reducible refine iteF ?_))
local macro_rules | `(tactic| walk_at "side") => `(tactic| first | omega | decide | assumption | exact ⟨by omega, by omega⟩ | exact Or.inr ⟨by omega, by omega⟩ | exact Or.inl ⟨by omega, by omega⟩ | (simp only [List.length_map, List.length_cons, List.length_nil, List.length_append] at *; omega))
local macro_rules | `(tactic| walk_at "hp") => `(tactic| first | assumption | exact upd_same | refine upd_old (by assumption) (by walk_at "hp") | (rw [upd_ne (by first | assumption | exact Ne.symm (by assumption))]; walk_at "hp"))
local macro_rules | `(tactic| walk_at "sqL") => `(tactic| first | assumption | exact SqL.of (by walk_at "hp"))
local macro_rules | `(tactic| walk_at "sqT") => `(tactic| first | assumption | exact SqT.of (by walk_at "hp"))
local macro_rules | `(tactic| walk_at "sqb") => `(tactic| (unfold SqB; first | ((with_reducible change SqL _ _ _ _); walk_at "sqL") | ((with_reducible change SqT _ _ _ _); walk_at "sqT")))
local macro_rules | `(tactic| walk_at "line") => `(tactic| first | assumption | decide | (apply line_of; walk_at "side") | (apply line_lt; walk_at "side"))
local macro_rules | `(tactic| walk_at "ty") => `(tactic| ((with_reducible refine' ty_lst ?hq); (case hq => walk_at "hp")))
local macro_rules | `(tactic| walk_at "at") => `(tactic| with_reducible first | assumption | exact at0 | exact at1 | exact at2 | exact at3 | exact at4 | exact at5 | exact at6 | exact at7 | exact at8)
local macro_rules | `(tactic| walk_at "st") => `(tactic| (repeat walk_at "st1"))
local macro_rules | `(tactic| walk_at "lk") => `(tactic| first | with_reducible assumption | rfl)
local macro_rules | `(tactic| walk_at "kd") => `(tactic| first | exact .base (.int _) | exact .base .non | exact .base (.bl _) | exact .base (.str _) | exact .base (.tup (by walk_at "hp")) | exact .base (.lst (by walk_at "hp")) | exact .base (.dK (by walk_at "hp")) | exact .base (.dT (by walk_at "hp")))
local macro_rules | `(tactic| walk_at "kit") => `(tactic| with_reducible first
  | exact kit_NoneType_bool
  | exact kit_NoneType_int
  | exact kit_NoneType_str
  | exact kit_NoneType_tuple
  | exact kit_NoneType_list
  | exact kit_NoneType_dict
  | exact kit_bool_bool
  | exact kit_bool_int
  | exact kit_bool_str
  | exact kit_bool_tuple
  | exact kit_bool_list
  | exact kit_bool_dict
  | exact kit_int_bool
  | exact kit_int_int
  | exact kit_int_str
  | exact kit_int_tuple
  | exact kit_int_list
  | exact kit_int_dict
  | exact kit_str_bool
  | exact kit_str_int
  | exact kit_str_str
  | exact kit_str_tuple
  | exact kit_str_list
  | exact kit_str_dict
  | exact kit_tuple_bool
  | exact kit_tuple_int
  | exact kit_tuple_str
  | exact kit_tuple_tuple
  | exact kit_tuple_list
  | exact kit_tuple_dict
  | exact kit_list_bool
  | exact kit_list_int
  | exact kit_list_str
  | exact kit_list_tuple
  | exact kit_list_list
  | exact kit_list_dict
  | exact kit_dict_bool
  | exact kit_dict_int
  | exact kit_dict_str
  | exact kit_dict_tuple
  | exact kit_dict_list
  | exact kit_dict_dict)
local macro_rules | `(tactic| walk_at "flen") => `(tactic| decide)
local macro_rules | `(tactic| walk_at "puts") => `(tactic| skip)

local macro_rules | `(tactic| walk_at "st1") => `(tactic| first
  | with_reducible refine st_dc ?_ | with_reducible refine st_dgetS ?_ | with_reducible refine st_dinS ?_ | with_reducible refine st_dninS ?_ | with_reducible refine st_dputS ?_ | with_reducible refine st_newT ?_ | with_reducible refine iteNN ?_ | with_reducible refine iteYN ?_
  | ((with_reducible refine' st_getT ?hq ?hk ?hv ?_); (case hq => walk_at "hp"); (case hk => walk_at "key"); (case hv => with_reducible assumption))
  | ((with_reducible refine' st_inT ?hq ?hk ?_); (case hq => walk_at "hp"); (case hk => walk_at "key"))
  | ((with_reducible refine' st_ninT ?hq ?hk ?_); (case hq => walk_at "hp"); (case hk => walk_at "key"))
  | ((with_reducible refine' st_putT ?hq ?hk ?hl ?_); (case hq => walk_at "hp"); (case hk => walk_at "key"); (case hl => walk_at "line"))
  | ((with_reducible refine' st_cputT ?hq ?hk ?hl ?_); (case hq => walk_at "hp"); (case hk => walk_at "key"); (case hl => walk_at "line"))
  | ((with_reducible refine' st_ixB ?hq ?he ?_); (case hq => first | assumption | exact Or.inl (by walk_at "sqL") | exact Or.inr (by walk_at "sqT")); (case he => walk_at "at")))
local macro_rules | `(tactic| walk_at "key") => `(tactic| with_reducible assumption)

local macro_rules | `(tactic| walk_at "lk") => `(tactic| with_reducible first | assumption | exact DiskF_get_lying | exact DiskF_get_pending | exact DiskF_get_spoils | exact StoreF_get_disk | exact DiskF_no (by decide +kernel) (by decide +kernel) (by decide +kernel) | exact StoreF_no (by decide +kernel))
local macro_rules | `(tactic| walk_at "puts") => `(tactic| try simp only [DiskF_put_lying, DiskF_put_pending, DiskF_put_spoils, StoreF_put_disk, DiskF0_put, DiskF1_put, DiskF2_put, StoreF0_put])
local macro_rules | `(tactic| walk_at "flen") => `(tactic| first | with_reducible assumption | with_reducible (first | exact DiskF_len | exact StoreF_len | exact DiskF0_len | exact DiskF1_len | exact DiskF2_len | exact StoreF0_len) | decide)
section
variable {Z : Ads} {P : Program} {w : World} {K : PySem.W.Frag} {mg : Str → Option Value} {base : Heap}
/-! ### errors -/
theorem st_vei {K : PySem.W.Frag} {ta : TA} {σ : L2.St} {H : Hp} {Q : VK} (q : ta σ H fun vs H1 => ∃ (a C : Addr) (ws : List V), vs = .ref a :: ws ∧ ws.length ≤ 1000 ∧ OexC K C ∧ H1 a = some (exo a C none) ∧ Q .non H1) : tVeI K ta σ H Q := q
abbrev s_RunError___init__ : Stmt := inClass (top 16) 0
theorem sc_RunError___init__ : FnScope ["self"] ["self"] (defScope s_RunError___init__) := ⟨rfl, rfl, rfl, by decide +kernel, rfl, by decide +kernel, by decide +kernel⟩
theorem ok_RunError_init {f : Addr} {fd : FuncData} (F : Fun K "__init__" "RunError.__init__" s_RunError___init__ f fd) (T : Txt K mg Z) : FnOk P w K mg base (L2.CX P w) 1 f fd ["self"] (spErr0 K) := by
  refine okN F sc_RunError___init__ (fun vs H Q E h => ?_) (fun cdv A outer s0 H vs Q E hr h => ?_)
  · obtain ⟨a, C, rfl, _⟩ := h
    rfl
  · obtain ⟨a, C, rfl, hC, ha, k⟩ := h
    refine ⟨_, [some _], rfl, (pss_one (ps_expr (pe_veinit (by rfl) T.n_ValueError T.vV (pa_cons (pv 0) pa_nil)))), ?_⟩
    walk_at "st"
    refine st_vei ?_
    walk_at "st"
    exact ⟨a, C, [], rfl, by decide, hC, ha, k⟩
end

section
variable {Z : Ads} {P : Program} {w : World} {K : PySem.W.Frag} {mg : Str → Option Value} {base : Heap}
/-! ### what the disk and the store refuse -/
def spWriteBad (K : PySem.W.Frag) (Z : Ads) : Sp := fun vs H _ E => ∃ (d : Addr) (k v : V) (kd vd : JD), vs = [.ref d, k, v] ∧ ADZ K Z H k kd ∧ shortJ kd ∧ ADZ K Z H v vd ∧ okJ 10 vd = true ∧
  ((isKeyJ kd = false ∧ ∀ H', Fr [] H H' → E (.ref Z.NoKey) none H') ∨ (isKeyJ kd = true ∧ keptJ 10 vd = false ∧ ∀ H', Fr [] H H' → E (.ref Z.NoThing) none H'))
theorem okJ_Disk_write {f : Addr} {fd : FuncData} (F : Fun K "write" "Disk.write" s_Disk_write f fd) (T : Txt K mg Z) (D_is_key : Dn P w K mg base "is_key" 3 ["thing"] (spIsKeyJ K Z)) (D_is_kept : Dn P w K mg base "is_kept" 11 ["thing"] (spKeptJ K Z 10))
    (En_NoKey : En P w K mg base "NoKey" Z.NoKey 1) (En_NoThing : En P w K mg base "NoThing" Z.NoThing 1) : FnOk P w K mg base (L2.CX P w) 12 f fd ["self", "key", "thing"] (spWriteBad K Z) := by
  have cl := T.cl
  have aL := T.aL
  have aP := T.aP
  have aS := T.aS
  refine okE F sc_Disk_write (fun vs H Q E h => ?_) (fun cdv A outer s0 H vs Q E hr h => ?_)
  · obtain ⟨d, k, v, kd, vd, rfl, _⟩ := h
    rfl
  · obtain ⟨d, k, v, kd, vd, rfl, ak, sk, av, ov, h⟩ := h
    refine ⟨_, [some _, some _, some _], rfl, (pss_cons (ps_if (pt_not (pt_val (pe_d D_is_key E0 (hr.mono (by first | decide | omega)) (by rfl) passL (pa_cons (pv 1) pa_nil)))) (pss_one (ps_err0 En_NoKey (hr.mono (by first | decide | omega)) (by rfl))) pss_nil)
      (pss_cons (ps_if (pt_not (pt_val (pe_d D_is_kept E0 (hr.mono (by first | decide | omega)) (by rfl) passL (pa_cons (pv 2) pa_nil)))) (pss_one (ps_err0 En_NoThing (hr.mono (by first | decide | omega)) (by rfl))) pss_nil)
      (pss_one (ps_expr (kApp (K := K) (kFld (K := K) (pv 0) rfl) (pe_tup (pa_cons (pv 1) (pa_cons (pv 2) pa_nil)))))))), ?_⟩
    walk_at "st"
    refine ⟨k, kd, rfl, ak, sk, fun H1 f1 => ?_⟩
    rcases h with ⟨h1, h⟩ | ⟨h1, h2, h⟩
    · rw [h1]
      walk_at "st"
      exact h _ f1
    · rw [h1]
      walk_at "st"
      refine ⟨v, vd, rfl, AD.mono f1.tup (f1.keepB (by simp)) _ _ av, ov, fun H2 f2 => ?_⟩
      rw [h2]
      walk_at "st"
      exact h _ (f1.trans f2)
def spFallBad (K : PySem.W.Frag) (Z : Ads) : Sp := fun vs H _ E => ∃ (n : Int) (d l q : Addr) (ls ps : List PyData) (r : V) (rd : JD), vs = [.ref d, r] ∧ DiskAt Z.Disk n H d l q ls ps ∧ ps.length ≤ 1000 ∧ ADZ K Z H r rd ∧ shortJ rd ∧
  (tupJ ps.length ps.length rd = false ∨ ∃ ds, rd = .tuple ds ∧ ds.length = ps.length ∧ ds.all (betwJ 0 2) = false) ∧ ∀ H', Fr [] H H' → E (.ref Z.NoReached) none H'
theorem okJ_Disk_fall {f : Addr} {fd : FuncData} (F : Fun K "fall" "Disk.fall" s_Disk_fall f fd) (T : Txt K mg Z) (D_is_tuple : Dn P w K mg base "is_tuple" 1 ["thing", "least", "most"] (spTupleJ K Z)) (D_is_between : Dn P w K mg base "is_between" 2 ["thing", "least", "most"] (spBetweenJ K Z))
    (En_NoReached : En P w K mg base "NoReached" Z.NoReached 1) : FnOk P w K mg base (L2.CX P w) 3 f fd ["self", "reached"] (spFallBad K Z) := by
  have cl := T.cl
  have aL := T.aL
  have aP := T.aP
  have aS := T.aS
  refine okE F sc_Disk_fall (fun vs H Q E h => ?_) (fun cdv A outer s0 H vs Q E hr h => ?_)
  · obtain ⟨n, d, l, q, ls, ps, r, rd, rfl, _⟩ := h
    rfl
  · obtain ⟨n, d, l, q, ls, ps, r, rd, rfl, D, hps, ar, sr, hb, k⟩ := h
    obtain ⟨dx, hd⟩ := D.ok
    obtain ⟨xq, hq, tq⟩ := D.pen
    have lq := tq.length
    refine ⟨_, [some _, some _, none, none], rfl, (pss_cons (ps_if (pt_not (pt_val (pe_d D_is_tuple E0 (hr.mono (by first | decide | omega)) (by rfl) passL (pa_cons (pv 1) (pa_cons (pe_callB (kLen (K := K)) (by rfl) T.n_len (by decide +kernel) (pa_cons (kFld (K := K) (pv 0) rfl) pa_nil)) (pa_cons (pe_callB (kLen (K := K)) (by rfl) T.n_len (by decide +kernel) (pa_cons (kFld (K := K) (pv 0) rfl) pa_nil)) pa_nil)))))) (pss_one (ps_err0 En_NoReached (hr.mono (by first | decide | omega)) (by rfl))) pss_nil)
      (pss_cons (ps_if (pt_not (pt_val (pe_callB (kAll (K := K)) (by rfl) T.n_all (by decide +kernel) (pa_cons (pe_lc (own := [("one", 2)]) (g := (gName 2)) (tt := tYes) rfl sc_Disk_fall.nd (kPiT (K := K) (pv 1)) (blkOk_by (N := ["self", "reached", "one", "word"]) (sc := defScope s_Disk_fall) (by decide +kernel)) (fun _ _ _ _ _ => (pg_name (i := 2) sc_Disk_fall.nd rfl (by first | exact Or.inl rfl | exact Or.inr rfl))) (fun _ _ _ _ _ => pts_nil) (fun _ _ _ _ _ => (pe_d D_is_between E0 (hr.mono (by first | decide | omega)) (by rfl) passL (pa_cons (pv 2) (pa_cons (pe_gl (by rfl) T.g_LOST) (pa_cons (pe_gl (by rfl) T.g_WHOLE) pa_nil)))))) pa_nil)))) (pss_one (ps_err0 En_NoReached (hr.mono (by first | decide | omega)) (by rfl))) pss_nil)
      (pss_cons ps_never
      (pss_one (kSFld (K := K) (pv 0) (pe_lst pa_nil) rfl))))), ?_⟩
    walk_at "st"
    refine ⟨r, rd, _, _, rfl, ar, sr, ?_⟩
    rw [lq]
    rcases hb with hb | ⟨ds, rfl, h1, h2⟩
    · rw [hb]
      walk_at "st"
      exact k _ (Fr.refl H)
    · rw [show tupJ ps.length ps.length (.tuple ds) = true by
        show (decide _ && decide _) = true
        rw [h1, decide_eq_true (Int.le_refl _), Bool.and_self]]
      cases ar with
      | @tup a xs _ ha hT =>
      have hl := hT.length
      walk_at "st"
      intro D1 hD
      refine lc_it (walk_tup (xs := xs)) (fun i H' => Fr [] H H' ∧ H' D1 = some (.lst (((ds.take i).map (betwJ 0 2)).map V.bl))) ⟨Fr.up hD, upd_same⟩ (fun i H' _ h => SqT.of (h.1.tup _ _ ha)) ?_ ?_
      · rintro i x H1 H2 hi ⟨f1, e1⟩ ⟨rfl, hx⟩
        obtain ⟨d1, hd1, td⟩ := ADs.at_ (ADs.mono f1.tup (f1.keepB (by simp)) _ _ hT) hx
        walk_at "st"
        refine ⟨x, d1, 0, 2, rfl, td, ?_⟩
        refine ⟨_, e1, line_lt (by simp; omega), f1.wl e1 (.inr hD), ?_⟩
        rw [upd_same, take_snoc hd1, List.map_append, List.map_append, List.map_singleton, List.map_singleton]
      · rintro H1 ⟨f1, e1⟩
        walk_at "st"
        refine st_all (SqL.of e1) ?_
        rw [List.take_of_length_le (by omega), List.all_map, show ds.all (id ∘ betwJ 0 2) = false from h2]
        walk_at "st"
        exact k _ f1
def spSpoilBad (K : PySem.W.Frag) (Z : Ads) : Sp := fun vs H _ E => ∃ (n : Int) (d l q : Addr) (ls ps : List PyData) (r : V) (rd : JD), vs = [.ref d, r] ∧ DiskAt Z.Disk n H d l q ls ps ∧ ls.length ≤ 1000 ∧ ADZ K Z H r rd ∧
  betwJ 0 ((ls.length : Int) - 1) rd = false ∧ ∀ H', Fr [] H H' → E (.ref Z.NoPlace) none H'
abbrev s_Disk_spoil : Stmt := inClass (top 68) 6
theorem sc_Disk_spoil : FnScope ["self", "at"] ["self", "at"] (defScope s_Disk_spoil) := ⟨rfl, rfl, rfl, by decide +kernel, rfl, by decide +kernel, by decide +kernel⟩
theorem okJ_Disk_spoil {f : Addr} {fd : FuncData} (F : Fun K "spoil" "Disk.spoil" s_Disk_spoil f fd) (T : Txt K mg Z) (D_is_between : Dn P w K mg base "is_between" 2 ["thing", "least", "most"] (spBetweenJ K Z))
    (En_NoPlace : En P w K mg base "NoPlace" Z.NoPlace 1) : FnOk P w K mg base (L2.CX P w) 3 f fd ["self", "at"] (spSpoilBad K Z) := by
  have cl := T.cl
  have aL := T.aL
  have aP := T.aP
  have aS := T.aS
  refine okE F sc_Disk_spoil (fun vs H Q E h => ?_) (fun cdv A outer s0 H vs Q E hr h => ?_)
  · obtain ⟨n, d, l, q, ls, ps, r, rd, rfl, _⟩ := h
    rfl
  · obtain ⟨n, d, l, q, ls, ps, r, rd, rfl, D, hls, ar, hb, k⟩ := h
    obtain ⟨dx, hd⟩ := D.ok
    obtain ⟨xl, hl, tl⟩ := D.lie
    have ll := tl.length
    refine ⟨_, [some _, some _], rfl, (pss_cons (ps_if (pt_not (pt_val (pe_d D_is_between E0 (hr.mono (by first | decide | omega)) (by rfl) passL (pa_cons (pv 1) (pa_cons pe_int (pa_cons (pe_op op_sub (pe_callB (kLen (K := K)) (by rfl) T.n_len (by decide +kernel) (pa_cons (kFld (K := K) (pv 0) rfl) pa_nil)) pe_int) pa_nil)))))) (pss_one (ps_err0 En_NoPlace (hr.mono (by first | decide | omega)) (by rfl))) pss_nil)
      (pss_cons (ps_expr (kBm (K := K) PySem.F.plainAttrs_list PySem.F.slot_list_pop PySem.F.type_list_pop mt_popAt (kFld (K := K) (pv 0) rfl) (pa_cons (pv 1) pa_nil)))
      (pss_one (kSFld (K := K) (pv 0) (pe_op op_add (kFld (K := K) (pv 0) rfl) pe_int) rfl)))), ?_⟩
    walk_at "st"
    refine ⟨r, rd, _, _, rfl, ar, ?_⟩
    rw [ll, hb]
    walk_at "st"
    exact k _ (Fr.refl H)
def sealJ : JD → Bool
  | .tuple (.str x :: _) => decide (x = "seal")
  | _ => false
def spKeepBad (K : PySem.W.Frag) (Z : Ads) : Sp := fun vs H _ E => ∃ (s : Addr) (k v : V) (kd vd : JD), vs = [.ref s, k, v] ∧ ADZ K Z H k kd ∧ shortJ kd ∧ ADZ K Z H v vd ∧ okJ 10 vd = true ∧
  ((isKeyJ kd = false ∧ ∀ H', Fr [] H H' → E (.ref Z.NoKey) none H') ∨ (isKeyJ kd = true ∧ sealJ kd = true ∧ ∀ H', Fr [] H H' → E (.ref Z.NoKey) none H') ∨
    (isKeyJ kd = true ∧ sealJ kd = false ∧ keptJ 10 vd = false ∧ ∀ H', Fr [] H H' → E (.ref Z.NoThing) none H'))
theorem okJ_Store_keep {f : Addr} {fd : FuncData} (F : Fun K "keep" "Store.keep" s_Store_keep f fd) (T : Txt K mg Z) (D_is_key : Dn P w K mg base "is_key" 3 ["thing"] (spIsKeyJ K Z)) (D_is_kept : Dn P w K mg base "is_kept" 11 ["thing"] (spKeptJ K Z 10))
    (En_NoKey : En P w K mg base "NoKey" Z.NoKey 1) (En_NoThing : En P w K mg base "NoThing" Z.NoThing 1)
    (M_Store_check : Mn P w K mg base Z.Store "check" 2 ["self"] (spCheck Z.Store Z.Disk)) (M_Disk_write : Mn P w K mg base Z.Disk "write" 12 ["self", "key", "thing"] (spWrite Z.Disk)) : FnOk P w K mg base (L2.CX P w) 13 f fd ["self", "key", "thing"] (spKeepBad K Z) := by
  have cl := T.cl
  have clS := T.clS
  have aD := T.aD
  refine okE F sc_Store_keep (fun vs H Q E h => ?_) (fun cdv A outer s0 H vs Q E hr h => ?_)
  · obtain ⟨s, k, v, kd, vd, rfl, _⟩ := h
    rfl
  · obtain ⟨s, k, v, kd, vd, rfl, ak, sk, av, ov, h⟩ := h
    refine ⟨_, [some _, some _, some _], rfl, (pss_cons (ps_if (PW.pt (pw_or (pt_not (pt_val (pe_d D_is_key E0 (hr.mono (by first | decide | omega)) (by rfl) passL (pa_cons (pv 1) pa_nil)))) (pw_or1 (pt_cmpR op_eq (pe_ix (kIxT (K := K)) (pv 1) pe_int (fun _ _ => rfl)) (pe_gl (by rfl) T.g_SEAL) (by first | exact nomark _ | rfl))))) (pss_one (ps_err0 En_NoKey (hr.mono (by first | decide | omega)) (by rfl))) pss_nil)
      (pss_cons (ps_if (pt_not (pt_val (pe_d D_is_kept E0 (hr.mono (by first | decide | omega)) (by rfl) passL (pa_cons (pv 2) pa_nil)))) (pss_one (ps_err0 En_NoThing (hr.mono (by first | decide | omega)) (by rfl))) pss_nil)
      (pss_cons (ps_expr (pe_m0 M_Store_check E0 (hr.mono (by first | decide | omega)) (pv 0) passL _))
      (pss_one (ps_expr (pe_m M_Disk_write E0 (hr.mono (by first | decide | omega)) (kFld (K := K) (pv 0) rfl) passL (pa_cons (pv 1) (pa_cons (pv 2) pa_nil)) _)))))), ?_⟩
    walk_at "st"
    refine ⟨k, kd, rfl, ak, sk, fun H1 f1 => ?_⟩
    have ak1 := AD.mono f1.tup (f1.keepB (by simp)) _ _ ak
    have fin : ∀ b, sealJ kd = b → isKeyJ kd = true → ∃ (a : Addr) (z : V) (zs : List V), k = .ref a ∧ H1 a = some (.tup (z :: zs)) ∧ ((∃ x, z = .str x ∧ decide (x = "seal") = b) ∨ (∃ i, z = .int i ∧ b = false)) := fun b hb hk => by
      cases ak1 with
      | @tup a xs ds ha hT =>
        cases hT with
        | nil => exact nomatch hk
        | @cons z zs d ds hz hT =>
          refine ⟨a, z, zs, rfl, ha, ?_⟩
          have hk' : (d :: ds).all partJ = true := hk
          rw [List.all_cons, Bool.and_eq_true] at hk'
          cases hz with
          | str x => exact .inl ⟨x, rfl, hb⟩
          | int i => exact .inr ⟨i, rfl, hb.symm⟩
          | _ => exact absurd hk'.1 (by simp [partJ, numJ])
      | _ => exact nomatch hk
    rcases h with ⟨h1, h⟩ | ⟨h1, h2, h⟩ | ⟨h1, h2, h3, h⟩
    · rw [h1]
      walk_at "st"
      exact h _ f1
    · obtain ⟨a, z, zs, rfl, ha, hz⟩ := fin _ h2 h1
      rw [h1]
      rcases hz with ⟨x, rfl, hx⟩ | ⟨i, rfl, hx⟩
      · walk_at "st"
        refine iteD (fun e => ?_) (fun e => absurd (by rw [of_decide_eq_true hx]) e)
        walk_at "st"
        exact h _ f1
      · exact nomatch hx
    · obtain ⟨a, z, zs, rfl, ha, hz⟩ := fin _ h2 h1
      rw [h1]
      have av1 := AD.mono f1.tup (f1.keepB (by simp)) _ _ av
      rcases hz with ⟨x, rfl, hx⟩ | ⟨i, rfl, hx⟩
      all_goals
        walk_at "st"
        refine iteD (fun e => ?_) (fun e => ?_)
        rotate_left
        walk_at "st"
        refine ⟨v, vd, rfl, av1, ov, fun H2 f2 => ?_⟩
        rw [h3]
        walk_at "st"
        exact h _ (f1.trans f2)
      · exact absurd (V.str.inj e) (of_decide_eq_false hx)
      · exact nomatch e
end

end K39

namespace K39
open PySem PySem.Spec PyProof.Rows L2 Hq
local macro_rules | `(tactic| walk_at "st1") => `(tactic| first
  | with_reducible refine st_seq ?_ | with_reducible refine st_ret ?_ | with_reducible refine st_ifS ?_ | with_reducible refine st_asg ?_ | with_reducible refine st_drop ?_
  | ((with_reducible refine' st_var ?hv ?_); (case hv => rfl)) | with_reducible refine st_c ?_ | with_reducible refine st_op ?_ | with_reducible refine st_un ?_
  | with_reducible refine st_I0 ?_ | with_reducible refine st_U ?_ | ((with_reducible refine' st_I ?hc ?_); (case hc => walk_at "side"))
  | ((with_reducible refine' st_eq ?hs ?_); (case hs => rfl)) | ((with_reducible refine' st_ne ?hs ?_); (case hs => rfl))
  | with_reducible refine st_test ?_ | with_reducible refine st_B ?_ | with_reducible refine st_bl ?_ | with_reducible refine st_isN ?_ | with_reducible refine st_notN ?_
  | with_reducible refine st_chain ?_ | with_reducible refine st_and ?_ | with_reducible refine st_or ?_ | with_reducible refine st_not ?_
  | with_reducible refine st_andV ?_ | with_reducible refine st_orV ?_ | with_reducible refine st_notV ?_ | with_reducible refine st_if ?_
  | with_reducible refine st_CB ?_ | with_reducible refine st_cons ?_ | with_reducible refine st_nil ?_ | with_reducible refine st_fld ?_
  | ((with_reducible refine st_tup ?_)) | ((with_reducible refine st_lst ?_))
  | with_reducible refine st_call ?_ | with_reducible refine st_meth ?_ | with_reducible refine st_make ?_
  | with_reducible refine st_sl ?_ | with_reducible refine st_noPart ?_ | with_reducible refine st_part ?_ | with_reducible refine st_int ?_
  | ((with_reducible refine' st_ixL ?hq ?he ?_); (case hq => walk_at "sqL"); (case he => walk_at "at"))
  | ((with_reducible refine' st_ixT ?hq ?he ?_); (case hq => walk_at "sqT"); (case he => walk_at "at"))
  | with_reducible refine st_bm ?_ | with_reducible refine st_app ?_
  | ((with_reducible refine' st_append ?hq ?hl ?_); (case hq => walk_at "hp"); (case hl => walk_at "line"))
  | ((with_reducible refine' st_len (n := 0) ?hq ?_); (case hq => first | exact Or.inl (by walk_at "sqL") | exact Or.inr (by walk_at "sqT")))
  | ((with_reducible refine' st_listOf ?hq ?_); (case hq => first | exact Or.inl (by walk_at "sqL") | exact Or.inr (by walk_at "sqT")))
  | ((with_reducible refine st_name ?_); (try dsimp only [List.set_cons_zero, List.set_cons_succ])) | with_reducible refine st_par ?_
  | with_reducible refine st_gcons ?_ | with_reducible refine st_gnil ?_ | with_reducible refine st_gsub ?_ | with_reducible refine st_sFld ?_
  | ((with_reducible refine' st_gtup ?hq ?hl ?_); (case hq => walk_at "sqT"); (case hl => rfl))
  | ((with_reducible refine' st_setL ?hq ?hl ?_); (case hq => walk_at "hp"); (case hl => first | rfl | exact ix0 | exact ixN_nat (by assumption)); (try simp only [Int.reduceToNat, List.set_cons_zero, List.set_cons_succ]))
  | with_reducible refine st_intI ?_ | with_reducible refine st_abs ?_
  | ((with_reducible refine' st_popAt ?hq ?hk ?hy ?_); (case hq => walk_at "hp"); (case hk => exact seq0); (case hy => rfl))
  | ((with_reducible refine' and_left ?ht ?_); (case ht => walk_at "ty"))
  | with_reducible refine st_lc ?_ | with_reducible refine st_for ?_ | with_reducible refine st_iL ?_ | with_reducible refine st_iT ?_ | with_reducible refine st_iR1 ?_ | with_reducible refine st_iR2 ?_ | with_reducible refine st_iZ ?_
  | ((with_reducible refine' st_refL ?hq ?_); (case hq => walk_at "sqL")) | ((with_reducible refine' st_refT ?hq ?_); (case hq => walk_at "sqT"))
  | ((with_reducible refine' st_rng1 ?hq ?_); (case hq => walk_at "side")) | ((with_reducible refine' st_rng2 ?hq ?_); (case hq => walk_at "side"))
  | ((with_reducible refine' st_zip ?hq ?hr ?_); (case hq => walk_at "sqb"); (case hr => walk_at "sqb"))
  | ((with_reducible refine' st_size ?hw ?_); (case hw => walk_at "line"))
  | ((with_reducible refine' st_sum ?hq ?_); (case hq => walk_at "sqL"))
  | with_reducible refine st_two ?_ | with_reducible refine st_yes ?_ | ((with_reducible refine' st_wipe ?hw ?_); (case hw => rfl))
  | ((with_reducible refine' st_slL ?hq ?_); (case hq => walk_at "sqL"))
  | ((with_reducible refine' st_cat ?hq ?hr ?hl ?_); (case hq => walk_at "hp"); (case hr => walk_at "hp"); (case hl => walk_at "line"))
  | ((with_reducible refine' st_isi ?hk ?he ?_); (case hk => walk_at "kd"); (case he => walk_at "kit"))
  | ((with_reducible refine' st_ins ?hq ?hc ?hn ?hl ?_); (case hq => walk_at "hp"); (case hc => with_reducible assumption); (case hn => with_reducible assumption); (case hl => walk_at "flen"); walk_at "puts")
  | ((with_reducible refine' st_att ?hq ?hc ?hn ?hl ?_); (case hq => walk_at "hp"); (case hc => with_reducible assumption); (case hn => with_reducible assumption); (case hl => walk_at "lk"))
  | ((with_reducible refine' st_mt ?hq ?hl ?_); (case hq => walk_at "hp"); (case hl => walk_at "lk"))
  | ((with_reducible refine' st_extend ?hq ?hr ?hl ?_); (case hq => walk_at "hp"); (case hr => walk_at "hp"); (case hl => walk_at "line"))
  | with_reducible refine st_next ?_ | with_reducible refine st_retN ?_ | (with_reducible refine iteNT ?_) | (with_reducible refine iteNF ?_) | (with_reducible refine iteT ?_) | (with_reducible refine iteF ?_))
local macro_rules | `(tactic| walk_at "side") => `(tactic| first | omega | decide | assumption | exact ⟨by omega, by omega⟩ | exact Or.inr ⟨by omega, by omega⟩ | exact Or.inl ⟨by omega, by omega⟩ | (simp only [List.length_map, List.length_cons, List.length_nil, List.length_append] at *; omega))
local macro_rules | `(tactic| walk_at "hp") => `(tactic| first | assumption | exact upd_same | refine upd_old (by assumption) (by walk_at "hp") | (rw [upd_ne (by first | assumption | exact Ne.symm (by assumption))]; walk_at "hp"))
local macro_rules | `(tactic| walk_at "sqL") => `(tactic| first | assumption | exact SqL.of (by walk_at "hp"))
local macro_rules | `(tactic| walk_at "sqT") => `(tactic| first | assumption | exact SqT.of (by walk_at "hp"))
local macro_rules | `(tactic| walk_at "sqb") => `(tactic| (unfold SqB; first | ((with_reducible change SqL _ _ _ _); walk_at "sqL") | ((with_reducible change SqT _ _ _ _); walk_at "sqT")))
local macro_rules | `(tactic| walk_at "line") => `(tactic| first | assumption | decide | (apply line_of; walk_at "side") | (apply line_lt; walk_at "side"))
local macro_rules | `(tactic| walk_at "ty") => `(tactic| ((with_reducible refine' ty_lst ?hq); (case hq => walk_at "hp")))
local macro_rules | `(tactic| walk_at "at") => `(tactic| with_reducible first | assumption | exact at0 | exact at1 | exact at2 | exact at3 | exact at4 | exact at5 | exact at6 | exact at7 | exact at8)
local macro_rules | `(tactic| walk_at "st") => `(tactic| (repeat walk_at "st1"))
local macro_rules | `(tactic| walk_at "lk") => `(tactic| first | with_reducible assumption | rfl)
local macro_rules | `(tactic| walk_at "kd") => `(tactic| first | exact .base (.int _) | exact .base .non | exact .base (.bl _) | exact .base (.str _) | exact .base (.tup (by walk_at "hp")) | exact .base (.lst (by walk_at "hp")) | exact .base (.dK (by walk_at "hp")) | exact .base (.dT (by walk_at "hp")))
local macro_rules | `(tactic| walk_at "kit") => `(tactic| with_reducible first
  | exact kit_NoneType_bool
  | exact kit_NoneType_int
  | exact kit_NoneType_str
  | exact kit_NoneType_tuple
  | exact kit_NoneType_list
  | exact kit_NoneType_dict
  | exact kit_bool_bool
  | exact kit_bool_int
  | exact kit_bool_str
  | exact kit_bool_tuple
  | exact kit_bool_list
  | exact kit_bool_dict
  | exact kit_int_bool
  | exact kit_int_int
  | exact kit_int_str
  | exact kit_int_tuple
  | exact kit_int_list
  | exact kit_int_dict
  | exact kit_str_bool
  | exact kit_str_int
  | exact kit_str_str
  | exact kit_str_tuple
  | exact kit_str_list
  | exact kit_str_dict
  | exact kit_tuple_bool
  | exact kit_tuple_int
  | exact kit_tuple_str
  | exact kit_tuple_tuple
  | exact kit_tuple_list
  | exact kit_tuple_dict
  | exact kit_list_bool
  | exact kit_list_int
  | exact kit_list_str
  | exact kit_list_tuple
  | exact kit_list_list
  | exact kit_list_dict
  | exact kit_dict_bool
  | exact kit_dict_int
  | exact kit_dict_str
  | exact kit_dict_tuple
  | exact kit_dict_list
  | exact kit_dict_dict)
local macro_rules | `(tactic| walk_at "flen") => `(tactic| decide)
local macro_rules | `(tactic| walk_at "puts") => `(tactic| skip)

local macro_rules | `(tactic| walk_at "st1") => `(tactic| first
  | with_reducible refine st_dc ?_ | with_reducible refine st_dgetS ?_ | with_reducible refine st_dinS ?_ | with_reducible refine st_dninS ?_ | with_reducible refine st_dputS ?_ | with_reducible refine st_newT ?_ | with_reducible refine iteNN ?_ | with_reducible refine iteYN ?_
  | ((with_reducible refine' st_getT ?hq ?hk ?hv ?_); (case hq => walk_at "hp"); (case hk => walk_at "key"); (case hv => with_reducible assumption))
  | ((with_reducible refine' st_inT ?hq ?hk ?_); (case hq => walk_at "hp"); (case hk => walk_at "key"))
  | ((with_reducible refine' st_ninT ?hq ?hk ?_); (case hq => walk_at "hp"); (case hk => walk_at "key"))
  | ((with_reducible refine' st_putT ?hq ?hk ?hl ?_); (case hq => walk_at "hp"); (case hk => walk_at "key"); (case hl => walk_at "line"))
  | ((with_reducible refine' st_cputT ?hq ?hk ?hl ?_); (case hq => walk_at "hp"); (case hk => walk_at "key"); (case hl => walk_at "line"))
  | ((with_reducible refine' st_ixB ?hq ?he ?_); (case hq => first | assumption | exact Or.inl (by walk_at "sqL") | exact Or.inr (by walk_at "sqT")); (case he => walk_at "at")))
local macro_rules | `(tactic| walk_at "key") => `(tactic| with_reducible assumption)

local macro_rules | `(tactic| walk_at "lk") => `(tactic| with_reducible first | assumption | exact DiskF_get_lying | exact DiskF_get_pending | exact DiskF_get_spoils | exact StoreF_get_disk | exact DiskF_no (by decide +kernel) (by decide +kernel) (by decide +kernel) | exact StoreF_no (by decide +kernel))
local macro_rules | `(tactic| walk_at "puts") => `(tactic| try simp only [DiskF_put_lying, DiskF_put_pending, DiskF_put_spoils, StoreF_put_disk, DiskF0_put, DiskF1_put, DiskF2_put, StoreF0_put])
local macro_rules | `(tactic| walk_at "flen") => `(tactic| first | with_reducible assumption | with_reducible (first | exact DiskF_len | exact StoreF_len | exact DiskF0_len | exact DiskF1_len | exact DiskF2_len | exact StoreF0_len) | decide)
section
variable {Z : Ads} {P : Program} {w : World} {K : PySem.W.Frag} {mg : Str → Option Value} {base : Heap}
theorem made {H H2 : Hp} {C x dx : Addr} (hx : H x = none) (hdx : H dx = none) (n : dx ≠ x) (f : Fr [x] (upd (upd H dx (.own x)) x (.ins C dx [])) H2) : Fr [] H H2 := by
  have f1 : Fr [] H _ := ((Fr.refl H).new (o := .own x) hdx).new (o := .ins C dx []) (by rw [upd_ne n.symm]; exact hx)
  exact ((f1.mono (ns := [] ++ [x]) (by simp)).trans (f.mono (by simp))).cut (fun b hb => by rw [List.mem_singleton.mp hb]; exact hx)
theorem nice_shaped {v : PyData} (h : Nice 10 v) : SeqAt.shaped v = true := by
  unfold SeqAt.shaped
  rw [h.lay, decide_eq_true (show v.depth ≤ 64 from Nat.le_trans h.dep (by decide))]
  rfl
theorem good_put {m : Dd} {e : PyData} (g : GoodD m) (h : IsPr e) : GoodD (putE m e) := by
  obtain ⟨k, v, rfl, _, hv⟩ := h
  show GoodD (if isSeal k = true then m else _)
  by_cases z : isSeal k = true
  · rw [if_pos z]; exact g
  · rw [if_neg z]; exact g.put (nice_shaped hv)
theorem good_fold : ∀ {es : List PyData} {m : Dd}, (∀ e ∈ es, IsPr e) → GoodD m → GoodD (es.foldl putE m)
  | [], _, _, g => g
  | e :: es, m, h, g => good_fold (es := es) (fun x hx => h x (List.mem_cons_of_mem _ hx)) (good_put g (h e (by simp)))
theorem good_tab {es : List PyData} (h : ∀ e ∈ es, IsPr e) : GoodD (tab es) := good_fold h GoodD.nil
theorem tab_app (xs ys : List PyData) : tab (xs ++ ys) = ys.foldl putE (tab xs) := List.foldl_append
end

section
variable {Z : Ads} {P : Program} {w : World} {K : PySem.W.Frag} {mg : Str → Option Value} {base : Heap}
/-! ### odd things -/
structure TxO (K : PySem.W.Frag) (Z : Ads) : Prop where
  li : ∀ u ∈ usOf Z.Exchange, PySem.W.kitOne K (.type "list") u = some false
  di : ∀ u ∈ usOf Z.Exchange, PySem.W.kitOne K (.type "dict") u = some false
  ds : ∀ u ∈ usOf Z.Exchange, PySem.W.kitOne K (.ref Z.Disk) u = some false
  ha : PySem.W.findIn K (.ref Z.Disk) "__class__" = some (some (.builtin "object.__class__"))
  hn : PySem.W.specialIn K (.builtin "object.__class__") "__get__" = some (some (.builtin "getset_descriptor.__get__"))
  htk : PySem.W.takesIn K (.builtin "object.__class__") = some true
  hm : PySem.W.mroIn K Z.Disk (.type "object") = some true
theorem out_pg {p g u : Addr} (h : u ≠ p ∧ u ≠ g) : u ∉ [p, g] := by simpa using h
def spNoKey (K : PySem.W.Frag) (Z : Ads) : Sp := fun vs H Q _ => ∃ (p g m : Addr), vs = [.ref p] ∧ Pot H p g m ∧ ∀ H' v d, AD K (usOf Z.Exchange) [p, g] H' v d → isKeyJ d = false → shortJ d → Pot H' p g m → Fr [p, g] H H' → Q v H'
abbrev s_law_no_key : Stmt := top 81
theorem sc_law_no_key : FnScope ["pot", "odd"] ["pot"] (defScope s_law_no_key) := ⟨rfl, rfl, rfl, by decide +kernel, rfl, by decide +kernel, by decide +kernel⟩
theorem ok_law_no_key {f : Addr} {fd : FuncData} (F : Fun K "_law_no_key" "_law_no_key" s_law_no_key f fd) (T : Txt K mg Z) (O : TxO K Z) (D_law_any : Dn P w K mg base "_law_any" 2 ["pot", "items"] spAny) : FnOk P w K mg base (L2.CX P w) 3 f fd ["pot"] (spNoKey K Z) := by
  refine okN F sc_law_no_key (fun vs H Q E h => ?_) (fun cdv A outer s0 H vs Q E hr h => ?_)
  · obtain ⟨p, g, m, rfl, _⟩ := h
    rfl
  · obtain ⟨p, g, m, rfl, hP, k⟩ := h
    refine ⟨_, [some _, none], rfl, (pss_cons (ps_set (i := 1) sc_law_no_key.nd rfl (by first | exact Or.inl rfl | exact Or.inr rfl) (pe_lst (pa_cons pe_non (pa_cons (pe_tup pa_nil) (pa_cons pe_str (pa_cons pe_int (pa_cons (pe_lst (pa_cons pe_str pa_nil)) (pa_cons (pe_tup (pa_cons pe_str (pa_cons (pe_un un_neg pe_int) pa_nil))) (pa_cons (pe_tup (pa_cons pe_str (pa_cons pe_bl pa_nil))) (pa_cons (pe_tup (pa_cons pe_non pa_nil)) (pa_cons (pe_tup (pa_cons (pe_tup (pa_cons pe_str pa_nil)) pa_nil)) (pa_cons (pe_tup (pa_cons pe_str (pa_cons (pe_lst (pa_cons pe_str pa_nil)) pa_nil))) (pa_cons pe_dnewT (pa_cons (pe_tup (pa_cons pe_int (pa_cons pe_dnewT pa_nil))) pa_nil))))))))))))))
      (pss_one (ps_ret (pe_d D_law_any E0 (hr.mono (by first | decide | omega)) (by rfl) passL (pa_cons (pv 0) (pa_cons (pv 1) pa_nil)))))), ?_⟩
    walk_at "st"
    intro u1 hu1
    walk_at "st"
    intro u2 hu2
    walk_at "st"
    intro u3 hu3
    walk_at "st"
    intro u4 hu4
    walk_at "st"
    intro u5 hu5
    walk_at "st"
    intro u6 hu6
    walk_at "st"
    intro u7 hu7
    walk_at "st"
    intro u8 hu8
    walk_at "st"
    intro u9 hu9
    walk_at "st"
    intro u10 hu10
    walk_at "st"
    intro u11 hu11
    walk_at "st"
    intro u12 hu12
    walk_at "st"
    intro u13 hu13
    walk_at "st"
    have F : Fr [] H _ := ((((((((((((Fr.up hu1).new hu2).new hu3).new hu4).new hu5).new hu6).new hu7).new hu8).new hu9).new hu10).new hu11).new hu12).new (o := .lst [.non, .ref u1, .str "a", .int 5, .ref u2, .ref u3, .ref u4, .ref u5, .ref u7, .ref u9, .ref u10, .ref u12]) hu13
    have z2 : H u2 = none := fresh_of hu2
    have z8 : H u8 = none := fresh_of (fresh_of (fresh_of (fresh_of (fresh_of (fresh_of (fresh_of hu8))))))
    have z10 : H u10 = none := fresh_of (fresh_of (fresh_of (fresh_of (fresh_of (fresh_of (fresh_of (fresh_of (fresh_of hu10))))))))
    have z11 : H u11 = none := fresh_of (fresh_of (fresh_of (fresh_of (fresh_of (fresh_of (fresh_of (fresh_of (fresh_of (fresh_of hu11)))))))))
    have z13 : H u13 = none := fresh_of (fresh_of (fresh_of (fresh_of (fresh_of (fresh_of (fresh_of (fresh_of (fresh_of (fresh_of (fresh_of (fresh_of hu13)))))))))))
    have n2 := hP.ne z2
    have n8 := hP.ne z8
    have n10 := hP.ne z10
    have n11 := hP.ne z11
    have n13 := hP.ne z13
    refine ⟨p, g, m, u13, _, rfl, hP.keep F, .inr ⟨upd_same, n13.1, n13.2.1⟩, Nat.zero_lt_succ _, (show 12 < 1000 by decide), fun H' x hx hP' f' => ?_⟩
    have fin : ∀ d, AD K (usOf Z.Exchange) [p, g] _ x d → isKeyJ d = false → shortJ d → Q x H' := fun d a b c => k H' x d (AD.mono f'.tup (f'.keepB (fun _ h => h)) _ _ a) b c hP' ((F.mono (by simp)).trans f')
    simp only [List.mem_cons, List.not_mem_nil, or_false] at hx
    rcases hx with rfl | rfl | rfl | rfl | rfl | rfl | rfl | rfl | rfl | rfl | rfl | rfl
    · exact fin _ .non rfl trivial
    · exact fin _ (.tup (xs := []) (by walk_at "hp") .nil) rfl (Nat.zero_le _)
    · exact fin _ (.str _) rfl trivial
    · exact fin _ (.int _) rfl trivial
    · exact fin _ (.oth (o := .lst [V.str "a"]) (by walk_at "hp") (out_pg ⟨n2.1, n2.2.1⟩) (.lst _) O.li) rfl trivial
    · exact fin _ (.tup (xs := [.str "a", .int (-1)]) (by walk_at "hp") (.cons (.str _) (.cons (.int _) .nil))) rfl (show 2 ≤ 100 by decide)
    · exact fin _ (.tup (xs := [.str "a", .bl true]) (by walk_at "hp") (.cons (.str _) (.cons (.bl _) .nil))) rfl (show 2 ≤ 100 by decide)
    · exact fin _ (.tup (xs := [.non]) (by walk_at "hp") (.cons .non .nil)) rfl (show 1 ≤ 100 by decide)
    · exact fin _ (.tup (xs := [.ref u6]) (by walk_at "hp") (.cons (.tup (xs := [.str "a"]) (by walk_at "hp") (.cons (.str _) .nil)) .nil)) rfl (show 1 ≤ 100 by decide)
    · exact fin _ (.tup (xs := [.str "a", .ref u8]) (by walk_at "hp") (.cons (.str _) (.cons (.oth (o := .lst [V.str "b"]) (by walk_at "hp") (out_pg ⟨n8.1, n8.2.1⟩) (.lst _) O.li) .nil))) rfl (show 2 ≤ 100 by decide)
    · exact fin _ (.oth (o := .dT []) (by walk_at "hp") (out_pg ⟨n10.1, n10.2.1⟩) (.dT _) O.di) rfl trivial
    · exact fin _ (.tup (xs := [.int 1, .ref u11]) (by walk_at "hp") (.cons (.int _) (.cons (.oth (o := .dT []) (by walk_at "hp") (out_pg ⟨n11.1, n11.2.1⟩) (.dT _) O.di) .nil))) rfl (show 2 ≤ 100 by decide)
def spNoThing (K : PySem.W.Frag) (Z : Ads) : Sp := fun vs H Q _ => ∃ (p g m : Addr), vs = [.ref p, .int 5] ∧ Pot H p g m ∧ ∀ H' v d, AD K (usOf Z.Exchange) [p, g] H' v d → keptJ 10 d = false → okJ 10 d = true → Pot H' p g m → Fr [p, g] H H' → Q v H'
abbrev s_law_no_thing : Stmt := top 82
theorem sc_law_no_thing : FnScope ["pot", "deep", "odd", "turn"] ["pot", "deep"] (defScope s_law_no_thing) := ⟨rfl, rfl, rfl, by decide +kernel, rfl, by decide +kernel, by decide +kernel⟩
theorem ok_law_no_thing {f : Addr} {fd : FuncData} (F : Fun K "_law_no_thing" "_law_no_thing" s_law_no_thing f fd) (T : Txt K mg Z) (O : TxO K Z) (D_law_draw : Dn P w K mg base "_law_draw" 1 ["pot", "many"] spDraw) (D_law_any : Dn P w K mg base "_law_any" 2 ["pot", "items"] spAny)
    (C_Disk : Cn P w K mg base "Disk" Z.Disk 1 ["self"] (spInit Z.Disk)) : FnOk P w K mg base (L2.CX P w) 3 f fd ["pot", "deep"] (spNoThing K Z) := by
  have cl := T.cl
  refine okN F sc_law_no_thing (fun vs H Q E h => ?_) (fun cdv A outer s0 H vs Q E hr h => ?_)
  · obtain ⟨p, g, m, rfl, _⟩ := h
    rfl
  · obtain ⟨p, g, m, rfl, hP, k⟩ := h
    refine ⟨_, [some _, some _, none, none], rfl, (pss_cons (ps_set (i := 2) sc_law_no_thing.nd rfl (by first | exact Or.inl rfl | exact Or.inr rfl) (pe_d D_law_any E0 (hr.mono (by first | decide | omega)) (by rfl) passL (pa_cons (pv 0) (pa_cons (pe_lst (pa_cons (pe_lst pa_nil) (pa_cons pe_dnewT (pa_cons (pe_lst (pa_cons pe_int pa_nil)) (pa_cons (pe_disp (pps_cons pe_str pe_int pps_nil) (by rfl) (by rfl) (fun z => by cases z) (by decide)) (pa_cons (pe_c0 C_Disk E0 (hr.mono (by first | decide | omega)) (by rfl) passL) (pa_cons (pe_lst (pa_cons pe_str pa_nil)) pa_nil))))))) pa_nil))))
      (pss_cons (ps_for PassesOwn.never rfl (pi_range1 (by rfl) T.n_range (pa_cons (pe_d D_law_draw E0 (hr.mono (by first | decide | omega)) (by rfl) passL (pa_cons (pv 0) (pa_cons (pv 1) pa_nil))) pa_nil)) (pg_name (i := 3) sc_law_no_thing.nd rfl (by first | exact Or.inl rfl | exact Or.inr rfl))
      (pss_one (ps_set (i := 2) sc_law_no_thing.nd rfl (by first | exact Or.inl rfl | exact Or.inr rfl) (pe_ifExp (pt_cmpR op_eq (pe_d D_law_draw E0 (hr.mono (by first | decide | omega)) (by rfl) passL (pa_cons (pv 0) (pa_cons pe_int pa_nil))) pe_int (by first | exact nomark _ | rfl)) (pe_tup (pa_cons (pv 2) (pa_cons pe_int pa_nil))) (pe_tup (pa_cons pe_str (pa_cons (pv 2) pa_nil)))))))
      (pss_one (ps_ret (pv 2))))), ?_⟩
    walk_at "st"
    intro u1 hu1
    walk_at "st"
    intro u2 hu2
    walk_at "st"
    intro u3 hu3
    walk_at "st"
    intro u4 hu4
    walk_at "st"
    unfold tPairs
    walk_at "st"
    unfold tPairs
    refine ⟨upd_same, [(Sum.inr "a", .int 1)], rfl, by decide, ?_⟩
    rw [upd_upd]
    have F4 : Fr [] H (upd (upd (upd (upd H u1 (.lst [])) u2 (.dT [])) u3 (.lst [.int 1])) u4 (.dK (mergeK [] [(Sum.inr "a", .int 1)]))) := (((Fr.up hu1).new hu2).new hu3).new hu4
    have e1 : (upd (upd (upd (upd H u1 (.lst [])) u2 (.dT [])) u3 (.lst [V.int 1])) u4 (.dK (mergeK [] [(Sum.inr "a", .int 1)]))) u1 = some (.lst []) := upd_old hu4 (upd_old hu3 (upd_old hu2 upd_same))
    have e2 : (upd (upd (upd (upd H u1 (.lst [])) u2 (.dT [])) u3 (.lst [V.int 1])) u4 (.dK (mergeK [] [(Sum.inr "a", .int 1)]))) u2 = some (.dT []) := upd_old hu4 (upd_old hu3 upd_same)
    have e3 : (upd (upd (upd (upd H u1 (.lst [])) u2 (.dT [])) u3 (.lst [V.int 1])) u4 (.dK (mergeK [] [(Sum.inr "a", .int 1)]))) u3 = some (.lst [V.int 1]) := upd_old hu4 upd_same
    have e4 : (upd (upd (upd (upd H u1 (.lst [])) u2 (.dT [])) u3 (.lst [V.int 1])) u4 (.dK (mergeK [] [(Sum.inr "a", .int 1)]))) u4 = some (.dK (mergeK [] [(Sum.inr "a", .int 1)])) := upd_same
    have n1 := hP.ne hu1
    have n2 := hP.ne (fresh_of hu2)
    have n3 := hP.ne (fresh_of (fresh_of hu3))
    have n4 := hP.ne (fresh_of (fresh_of (fresh_of hu4)))
    have hP4 := hP.keep F4
    generalize upd (upd (upd (upd H u1 (.lst [])) u2 (.dT [])) u3 (.lst [V.int 1])) u4 (.dK (mergeK [] [(Sum.inr "a", .int 1)])) = H4 at F4 e1 e2 e3 e4 hP4 ⊢
    walk_at "st"
    intro d dx hd0 hdx0 dxd
    have n5 := hP4.ne hd0
    refine ⟨d, dx, rfl, upd_same, fun H5 l q hl hq D5 f5 => ⟨rfl, ?_⟩⟩
    have F5 := made hd0 hdx0 dxd f5
    obtain ⟨dx5, hd5⟩ := D5.ok
    have hP5 := hP4.keep F5
    walk_at "st"
    intro u6 hu6
    walk_at "st"
    intro u7 hu7
    have n6 := hP5.ne hu6
    have n7 := hP5.ne (fresh_of hu7)
    have G : Fr [] H5 (upd (upd H5 u6 (.lst [.str "x"])) u7 (.lst [.ref u1, .ref u2, .ref u3, .ref u4, .ref d, .ref u6])) := (Fr.up hu6).new hu7
    have F7 := F5.trans G
    have o1 := F7.same _ _ e1
    have o2 := F7.same _ _ e2
    have o3 := F7.same _ _ e3
    have o4 := F7.same _ _ e4
    have o5 := G.same _ _ hd5
    have o6 : (upd (upd H5 u6 (.lst [.str "x"])) u7 (.lst [.ref u1, .ref u2, .ref u3, .ref u4, .ref d, .ref u6])) u6 = some (.lst [.str "x"]) := upd_old hu7 upd_same
    have o7 : (upd (upd H5 u6 (.lst [.str "x"])) u7 (.lst [.ref u1, .ref u2, .ref u3, .ref u4, .ref d, .ref u6])) u7 = some (.lst [.ref u1, .ref u2, .ref u3, .ref u4, .ref d, .ref u6]) := upd_same
    have hP7 := hP5.keep G
    have F07 := F4.trans F7
    generalize upd (upd H5 u6 (.lst [.str "x"])) u7 (.lst [.ref u1, .ref u2, .ref u3, .ref u4, .ref d, .ref u6]) = H7 at F07 o1 o2 o3 o4 o5 o6 o7 hP7 ⊢
    walk_at "st"
    refine ⟨p, g, m, u7, _, rfl, hP7, .inr ⟨o7, n7.1, n7.2.1⟩, Nat.zero_lt_succ _, (show 6 < 1000 by decide), fun H8 x hx hP8 f8 => ?_⟩
    have ax : AD K (usOf Z.Exchange) [p, g] H8 x .other := by
      refine AD.mono f8.tup (f8.keepB (fun _ h => h)) _ _ ?_
      simp only [List.mem_cons, List.not_mem_nil, or_false] at hx
      rcases hx with rfl | rfl | rfl | rfl | rfl | rfl
      · exact .oth o1 (out_pg ⟨n1.1, n1.2.1⟩) (.lst _) O.li
      · exact .oth o2 (out_pg ⟨n2.1, n2.2.1⟩) (.dT _) O.di
      · exact .oth o3 (out_pg ⟨n3.1, n3.2.1⟩) (.lst _) O.li
      · exact .oth o4 (out_pg ⟨n4.1, n4.2.1⟩) (.dK _) O.di
      · exact .oth o5 (out_pg ⟨n5.1, n5.2.1⟩) (.ins _ _ cl O.ha O.hn O.htk O.hm) O.ds
      · exact .oth o6 (out_pg ⟨n6.1, n6.2.1⟩) (.lst _) O.li
    have F08 : Fr [p, g] H H8 := (F07.mono (by simp)).trans f8
    walk_at "st"
    refine ⟨p, g, m, 5, rfl, hP8, by omega, by omega, fun H9 n n0 n1 hP9 f9 => ?_⟩
    have F09 := F08.trans f9
    walk_at "st"
    refine for_it walk_range (fun i σ H' => ∃ v d o3, σ = [some (.ref p), some (.int 5), some v, o3] ∧ AD K (usOf Z.Exchange) [p, g] H' v d ∧ (∀ n, i ≤ n → keptJ n d = false ∧ okJ n d = true) ∧ Pot H' p g m ∧ Fr [p, g] H H')
      ⟨x, .other, none, rfl, AD.mono f9.tup (f9.keepB (fun _ h => h)) _ _ ax, fun n _ => by cases n <;> exact ⟨rfl, rfl⟩, hP9, F09⟩ (fun _ _ _ _ _ => trivial) ?_ ?_
    · rintro i y σ HA HB hi ⟨v, d1, o3, rfl, av, hv, hPA, FA⟩ ⟨rfl, rfl⟩
      walk_at "st"
      refine ⟨p, g, m, 2, rfl, hPA, by omega, by omega, fun HC n' n0' n1' hPC fC => ?_⟩
      have aC := AD.mono fC.tup (fC.keepB (fun _ h => h)) _ _ av
      walk_at "st"
      refine iteD (fun h => ?_) (fun h => ?_)
      · walk_at "st"
        intro t ht
        have ft : Fr [] HC (upd HC t (.tup [v, .int 1])) := Fr.up ht
        walk_at "st"
        refine ⟨_, .tuple [d1, .int 1], _, rfl, .tup upd_same (.cons (AD.mono ft.tup (ft.keepB (by simp)) _ _ aC) (.cons (.int _) .nil)), fun n hn => ?_, hPC.keep ft, (FA.trans fC).trans (ft.mono (by simp))⟩
        cases n with
        | zero => omega
        | succ n =>
          obtain ⟨a, b⟩ := hv n (by omega)
          refine ⟨?_, ?_⟩
          · show (keptJ n d1 && _) = false
            rw [a, Bool.false_and]
          · show (decide _ && (okJ n d1 && (okJ n (.int 1) && true))) = true
            rw [b]
            cases n <;> rfl
      · walk_at "st"
        intro t ht
        have ft : Fr [] HC (upd HC t (.tup [.str "x", v])) := Fr.up ht
        walk_at "st"
        refine ⟨_, .tuple [.str "x", d1], _, rfl, .tup upd_same (.cons (.str _) (.cons (AD.mono ft.tup (ft.keepB (by simp)) _ _ aC) .nil)), fun n hn => ?_, hPC.keep ft, (FA.trans fC).trans (ft.mono (by simp))⟩
        cases n with
        | zero => omega
        | succ n =>
          obtain ⟨a, b⟩ := hv n (by omega)
          refine ⟨?_, ?_⟩
          · show (keptJ n (.str "x") && (keptJ n d1 && true)) = false
            rw [a, Bool.false_and, Bool.and_false]
          · show (decide _ && (okJ n (.str "x") && (okJ n d1 && true))) = true
            rw [b]
            cases n <;> rfl
    · rintro σ HA ⟨v, d1, o3, rfl, av, hv, hPA, FA⟩
      walk_at "st"
      exact k HA v d1 av (hv 10 (by omega)).1 (hv 10 (by omega)).2 hPA FA
end

end K39

namespace K39
open PySem PySem.Spec PyProof.Rows L2 Hq
local macro_rules | `(tactic| walk_at "st1") => `(tactic| first
  | with_reducible refine st_seq ?_ | with_reducible refine st_ret ?_ | with_reducible refine st_ifS ?_ | with_reducible refine st_asg ?_ | with_reducible refine st_drop ?_
  | ((with_reducible refine' st_var ?hv ?_); (case hv => rfl)) | with_reducible refine st_c ?_ | with_reducible refine st_op ?_ | with_reducible refine st_un ?_
  | with_reducible refine st_I0 ?_ | with_reducible refine st_U ?_ | ((with_reducible refine' st_I ?hc ?_); (case hc => walk_at "side"))
  | ((with_reducible refine' st_eq ?hs ?_); (case hs => rfl)) | ((with_reducible refine' st_ne ?hs ?_); (case hs => rfl))
  | with_reducible refine st_test ?_ | with_reducible refine st_B ?_ | with_reducible refine st_bl ?_ | with_reducible refine st_isN ?_ | with_reducible refine st_notN ?_
  | with_reducible refine st_chain ?_ | with_reducible refine st_and ?_ | with_reducible refine st_or ?_ | with_reducible refine st_not ?_
  | with_reducible refine st_andV ?_ | with_reducible refine st_orV ?_ | with_reducible refine st_notV ?_ | with_reducible refine st_if ?_
  | with_reducible refine st_CB ?_ | with_reducible refine st_cons ?_ | with_reducible refine st_nil ?_ | with_reducible refine st_fld ?_
  | ((with_reducible refine st_tup ?_)) | ((with_reducible refine st_lst ?_))
  | with_reducible refine st_call ?_ | with_reducible refine st_meth ?_ | with_reducible refine st_make ?_
  | with_reducible refine st_sl ?_ | with_reducible refine st_noPart ?_ | with_reducible refine st_part ?_ | with_reducible refine st_int ?_
  | ((with_reducible refine' st_ixL ?hq ?he ?_); (case hq => walk_at "sqL"); (case he => walk_at "at"))
  | ((with_reducible refine' st_ixT ?hq ?he ?_); (case hq => walk_at "sqT"); (case he => walk_at "at"))
  | with_reducible refine st_bm ?_ | with_reducible refine st_app ?_
  | ((with_reducible refine' st_append ?hq ?hl ?_); (case hq => walk_at "hp"); (case hl => walk_at "line"))
  | ((with_reducible refine' st_len (n := 0) ?hq ?_); (case hq => first | exact Or.inl (by walk_at "sqL") | exact Or.inr (by walk_at "sqT")))
  | ((with_reducible refine' st_listOf ?hq ?_); (case hq => first | exact Or.inl (by walk_at "sqL") | exact Or.inr (by walk_at "sqT")))
  | ((with_reducible refine st_name ?_); (try dsimp only [List.set_cons_zero, List.set_cons_succ])) | with_reducible refine st_par ?_
  | with_reducible refine st_gcons ?_ | with_reducible refine st_gnil ?_ | with_reducible refine st_gsub ?_ | with_reducible refine st_sFld ?_
  | ((with_reducible refine' st_gtup ?hq ?hl ?_); (case hq => walk_at "sqT"); (case hl => rfl))
  | ((with_reducible refine' st_setL ?hq ?hl ?_); (case hq => walk_at "hp"); (case hl => first | rfl | exact ix0 | exact ixN_nat (by assumption)); (try simp only [Int.reduceToNat, List.set_cons_zero, List.set_cons_succ]))
  | with_reducible refine st_intI ?_ | with_reducible refine st_abs ?_
  | ((with_reducible refine' st_popAt ?hq ?hk ?hy ?_); (case hq => walk_at "hp"); (case hk => exact seq0); (case hy => rfl))
  | ((with_reducible refine' and_left ?ht ?_); (case ht => walk_at "ty"))
  | with_reducible refine st_lc ?_ | with_reducible refine st_for ?_ | with_reducible refine st_iL ?_ | with_reducible refine st_iT ?_ | with_reducible refine st_iR1 ?_ | with_reducible refine st_iR2 ?_ | with_reducible refine st_iZ ?_
  | ((with_reducible refine' st_refL ?hq ?_); (case hq => walk_at "sqL")) | ((with_reducible refine' st_refT ?hq ?_); (case hq => walk_at "sqT"))
  | ((with_reducible refine' st_rng1 ?hq ?_); (case hq => walk_at "side")) | ((with_reducible refine' st_rng2 ?hq ?_); (case hq => walk_at "side"))
  | ((with_reducible refine' st_zip ?hq ?hr ?_); (case hq => walk_at "sqb"); (case hr => walk_at "sqb"))
  | ((with_reducible refine' st_size ?hw ?_); (case hw => walk_at "line"))
  | ((with_reducible refine' st_sum ?hq ?_); (case hq => walk_at "sqL"))
  | with_reducible refine st_two ?_ | with_reducible refine st_yes ?_ | ((with_reducible refine' st_wipe ?hw ?_); (case hw => rfl))
  | ((with_reducible refine' st_slL ?hq ?_); (case hq => walk_at "sqL"))
  | ((with_reducible refine' st_cat ?hq ?hr ?hl ?_); (case hq => walk_at "hp"); (case hr => walk_at "hp"); (case hl => walk_at "line"))
  | ((with_reducible refine' st_isi ?hk ?he ?_); (case hk => walk_at "kd"); (case he => walk_at "kit"))
  | ((with_reducible refine' st_ins ?hq ?hc ?hn ?hl ?_); (case hq => walk_at "hp"); (case hc => with_reducible assumption); (case hn => with_reducible assumption); (case hl => walk_at "flen"); walk_at "puts")
  | ((with_reducible refine' st_att ?hq ?hc ?hn ?hl ?_); (case hq => walk_at "hp"); (case hc => with_reducible assumption); (case hn => with_reducible assumption); (case hl => walk_at "lk"))
  | ((with_reducible refine' st_mt ?hq ?hl ?_); (case hq => walk_at "hp"); (case hl => walk_at "lk"))
  | ((with_reducible refine' st_extend ?hq ?hr ?hl ?_); (case hq => walk_at "hp"); (case hr => walk_at "hp"); (case hl => walk_at "line"))
  | with_reducible refine st_next ?_ | with_reducible refine st_retN ?_ | (with_reducible refine iteNT ?_) | (with_reducible refine iteNF ?_) | (with_reducible refine iteT ?_) | (with_reducible refine iteF ?_))
local macro_rules | `(tactic| walk_at "side") => `(tactic| first | omega | decide | assumption | exact ⟨by omega, by omega⟩ | exact Or.inr ⟨by omega, by omega⟩ | exact Or.inl ⟨by omega, by omega⟩ | (simp only [List.length_map, List.length_cons, List.length_nil, List.length_append] at *; omega))
local macro_rules | `(tactic| walk_at "hp") => `(tactic| first | assumption | exact upd_same | refine upd_old (by assumption) (by walk_at "hp") | (rw [upd_ne (by first | assumption | exact Ne.symm (by assumption))]; walk_at "hp"))
local macro_rules | `(tactic| walk_at "sqL") => `(tactic| first | assumption | exact SqL.of (by walk_at "hp"))
local macro_rules | `(tactic| walk_at "sqT") => `(tactic| first | assumption | exact SqT.of (by walk_at "hp"))
local macro_rules | `(tactic| walk_at "sqb") => `(tactic| (unfold SqB; first | ((with_reducible change SqL _ _ _ _); walk_at "sqL") | ((with_reducible change SqT _ _ _ _); walk_at "sqT")))
local macro_rules | `(tactic| walk_at "line") => `(tactic| first | assumption | decide | (apply line_of; walk_at "side") | (apply line_lt; walk_at "side"))
local macro_rules | `(tactic| walk_at "ty") => `(tactic| ((with_reducible refine' ty_lst ?hq); (case hq => walk_at "hp")))
local macro_rules | `(tactic| walk_at "at") => `(tactic| with_reducible first | assumption | exact at0 | exact at1 | exact at2 | exact at3 | exact at4 | exact at5 | exact at6 | exact at7 | exact at8)
local macro_rules | `(tactic| walk_at "st") => `(tactic| (repeat walk_at "st1"))
local macro_rules | `(tactic| walk_at "lk") => `(tactic| first | with_reducible assumption | rfl)
local macro_rules | `(tactic| walk_at "kd") => `(tactic| first | exact .base (.int _) | exact .base .non | exact .base (.bl _) | exact .base (.str _) | exact .base (.tup (by walk_at "hp")) | exact .base (.lst (by walk_at "hp")) | exact .base (.dK (by walk_at "hp")) | exact .base (.dT (by walk_at "hp")))
local macro_rules | `(tactic| walk_at "kit") => `(tactic| with_reducible first
  | exact kit_NoneType_bool
  | exact kit_NoneType_int
  | exact kit_NoneType_str
  | exact kit_NoneType_tuple
  | exact kit_NoneType_list
  | exact kit_NoneType_dict
  | exact kit_bool_bool
  | exact kit_bool_int
  | exact kit_bool_str
  | exact kit_bool_tuple
  | exact kit_bool_list
  | exact kit_bool_dict
  | exact kit_int_bool
  | exact kit_int_int
  | exact kit_int_str
  | exact kit_int_tuple
  | exact kit_int_list
  | exact kit_int_dict
  | exact kit_str_bool
  | exact kit_str_int
  | exact kit_str_str
  | exact kit_str_tuple
  | exact kit_str_list
  | exact kit_str_dict
  | exact kit_tuple_bool
  | exact kit_tuple_int
  | exact kit_tuple_str
  | exact kit_tuple_tuple
  | exact kit_tuple_list
  | exact kit_tuple_dict
  | exact kit_list_bool
  | exact kit_list_int
  | exact kit_list_str
  | exact kit_list_tuple
  | exact kit_list_list
  | exact kit_list_dict
  | exact kit_dict_bool
  | exact kit_dict_int
  | exact kit_dict_str
  | exact kit_dict_tuple
  | exact kit_dict_list
  | exact kit_dict_dict)
local macro_rules | `(tactic| walk_at "flen") => `(tactic| decide)
local macro_rules | `(tactic| walk_at "puts") => `(tactic| skip)

local macro_rules | `(tactic| walk_at "st1") => `(tactic| first
  | with_reducible refine st_dc ?_ | with_reducible refine st_dgetS ?_ | with_reducible refine st_dinS ?_ | with_reducible refine st_dninS ?_ | with_reducible refine st_dputS ?_ | with_reducible refine st_newT ?_ | with_reducible refine iteNN ?_ | with_reducible refine iteYN ?_
  | ((with_reducible refine' st_getT ?hq ?hk ?hv ?_); (case hq => walk_at "hp"); (case hk => walk_at "key"); (case hv => with_reducible assumption))
  | ((with_reducible refine' st_inT ?hq ?hk ?_); (case hq => walk_at "hp"); (case hk => walk_at "key"))
  | ((with_reducible refine' st_ninT ?hq ?hk ?_); (case hq => walk_at "hp"); (case hk => walk_at "key"))
  | ((with_reducible refine' st_putT ?hq ?hk ?hl ?_); (case hq => walk_at "hp"); (case hk => walk_at "key"); (case hl => walk_at "line"))
  | ((with_reducible refine' st_cputT ?hq ?hk ?hl ?_); (case hq => walk_at "hp"); (case hk => walk_at "key"); (case hl => walk_at "line"))
  | ((with_reducible refine' st_ixB ?hq ?he ?_); (case hq => first | assumption | exact Or.inl (by walk_at "sqL") | exact Or.inr (by walk_at "sqT")); (case he => walk_at "at")))
local macro_rules | `(tactic| walk_at "key") => `(tactic| with_reducible assumption)

local macro_rules | `(tactic| walk_at "lk") => `(tactic| with_reducible first | assumption | exact DiskF_get_lying | exact DiskF_get_pending | exact DiskF_get_spoils | exact StoreF_get_disk | exact DiskF_no (by decide +kernel) (by decide +kernel) (by decide +kernel) | exact StoreF_no (by decide +kernel))
local macro_rules | `(tactic| walk_at "puts") => `(tactic| try simp only [DiskF_put_lying, DiskF_put_pending, DiskF_put_spoils, StoreF_put_disk, DiskF0_put, DiskF1_put, DiskF2_put, StoreF0_put])
local macro_rules | `(tactic| walk_at "flen") => `(tactic| first | with_reducible assumption | with_reducible (first | exact DiskF_len | exact StoreF_len | exact DiskF0_len | exact DiskF1_len | exact DiskF2_len | exact StoreF0_len) | decide)
section
variable {Z : Ads} {P : Program} {w : World} {K : PySem.W.Frag} {mg : Str → Option Value} {base : Heap}
def badHows (many : Nat) (d : JD) : Prop := tupJ many many d = false ∨ ∃ ds, d = .tuple ds ∧ ds.length = many ∧ ds.all (betwJ 0 2) = false
def OddAll (K : PySem.W.Frag) (Z : Ads) (p g : Addr) (many : Nat) (H : Hp) (xs : List V) : Prop := ∀ x ∈ xs, ∃ d, AD K (usOf Z.Exchange) [p, g] H x d ∧ shortJ d ∧ badHows many d
theorem OddAll.mono {p g : Addr} {many : Nat} {H H' : Hp} {xs : List V} {ms : List Addr} (h : OddAll K Z p g many H xs) (f : Fr ms H H') (hm : ∀ x ∈ ms, x ∈ [p, g]) : OddAll K Z p g many H' xs := fun x hx => by
  obtain ⟨d, a, b, c⟩ := h x hx
  exact ⟨d, AD.mono f.tup (f.keepB hm) _ _ a, b, c⟩
theorem ints_ad {us : List Value} {B : List Addr} {H : Hp} : ∀ hs : List Int, ADs K us B H (hs.map V.int) (hs.map JD.int)
  | [] => .nil
  | h :: hs => .cons (.int h) (ints_ad hs)
theorem tupJ_ne {m : Nat} {ds : List JD} (h : ds.length ≠ m) : tupJ m m (.tuple ds) = false := by
  show (decide ((m : Int) ≤ (ds.length : Int)) && decide ((ds.length : Int) ≤ m)) = false
  by_cases q : (m : Int) ≤ (ds.length : Int)
  · rw [decide_eq_true q, decide_eq_false (by omega)]; rfl
  · rw [decide_eq_false q]; rfl
theorem strs_sum : ∀ hs : List Int, (∀ h ∈ hs, 0 ≤ h ∧ h ≤ 2) → ((hs.map fun h => (toString h : Str)).map (·.length)).sum ≤ hs.length
  | [], _ => Nat.le_refl _
  | h :: hs, k => by
    have ih := strs_sum hs fun x hx => k x (List.mem_cons_of_mem _ hx)
    obtain ⟨a, b⟩ := k h (by simp)
    have e : (toString h : Str).length = 1 := by
      rcases (show h = 0 ∨ h = 1 ∨ h = 2 by omega) with rfl | rfl | rfl <;> decide +kernel
    rw [List.map_cons, List.map_cons, List.sum_cons, e, List.length_cons]
    omega
theorem ads_app {us : List Value} {B : List Addr} {H : Hp} {vs : List V} {ds : List JD} {ws : List V} {es : List JD} (h : ADs K us B H vs ds) (k : ADs K us B H ws es) : ADs K us B H (vs ++ ws) (ds ++ es) := by
  induction ds generalizing vs with
  | nil => cases h; exact k
  | cons d ds ih =>
    cases h with
    | cons a b => exact .cons a (ih b)
theorem all_hit {f : JD → Bool} {xs ys : List JD} {d : JD} (h : f d = false) : (xs ++ d :: ys).all f = false := by
  rw [List.all_append, List.all_cons, h, Bool.false_and, Bool.and_false]
theorem st_m1 {r : V → List V → Hp → VK → Prop} {to te : TE} {σ : L2.St} {H : Hp} {Q : VK} (q : to σ H fun x H1 => (∃ a, x = .str a) ∧ te σ H1 fun y H2 => r x [y] H2 Q) : tM1 r to te σ H Q := q
def spNoReached (K : PySem.W.Frag) (Z : Ads) : Sp := fun vs H Q _ => ∃ (p g m : Addr) (many : Nat), vs = [.ref p, .int (many : Nat)] ∧ Pot H p g m ∧ many ≤ 50 ∧ ∀ H' v d, AD K (usOf Z.Exchange) [p, g] H' v d → shortJ d → badHows many d → Pot H' p g m → Fr [p, g] H H' → Q v H'
abbrev s_law_no_reached : Stmt := top 83
theorem sc_law_no_reached : FnScope ["pot", "many", "good", "odd", "at", "turn", "one"] ["pot", "many"] (defScope s_law_no_reached) := ⟨rfl, rfl, rfl, by decide +kernel, rfl, by decide +kernel, by decide +kernel⟩
theorem ok_law_no_reached {f : Addr} {fd : FuncData} (F : Fun K "_law_no_reached" "_law_no_reached" s_law_no_reached f fd) (T : Txt K mg Z) (O : TxO K Z) (D_law_draw : Dn P w K mg base "_law_draw" 1 ["pot", "many"] spDraw) (D_law_any : Dn P w K mg base "_law_any" 2 ["pot", "items"] spAny) : FnOk P w K mg base (L2.CX P w) 3 f fd ["pot", "many"] (spNoReached K Z) := by
  refine okN F sc_law_no_reached (fun vs H Q E h => ?_) (fun cdv A outer s0 H vs Q E hr h => ?_)
  · obtain ⟨p, g, m, many, rfl, _⟩ := h
    rfl
  · obtain ⟨p, g, m, many, rfl, hP, hm50, k⟩ := h
    refine ⟨_, [some _, some _, none, none, none, none, none], rfl, (pss_cons (ps_setLc (i := 2) (own := [("turn", 5)]) (g := (gName 5)) (tt := tYes) rfl sc_law_no_reached.nd rfl rfl (sw_true rfl rfl rfl (by decide +kernel)) (pi_range1 (by rfl) T.n_range (pa_cons (pv 1) pa_nil)) (blkOk_by (N := ["pot", "many", "good", "odd", "at", "turn", "one"]) (sc := defScope s_law_no_reached) (by decide +kernel)) (fun _ _ _ _ _ => (pg_name (i := 5) sc_law_no_reached.nd rfl (by first | exact Or.inl rfl | exact Or.inr rfl))) (fun _ _ _ _ _ => pts_nil) (fun _ _ _ _ _ => (pe_d D_law_draw E0 (hr.mono (by first | decide | omega)) (by rfl) passL (pa_cons (pv 0) (pa_cons pe_int pa_nil)))))
      (pss_cons (ps_set (i := 3) sc_law_no_reached.nd rfl (by first | exact Or.inl rfl | exact Or.inr rfl) (pe_lst (pa_cons pe_non (pa_cons (pe_callTy (kListOf (K := K)) (by rfl) T.n_list (by decide +kernel) (pa_cons (pv 2) pa_nil)) (pa_cons (pe_callTy (kTupOf (K := K)) (by rfl) T.n_tuple (by decide +kernel) (pa_cons (pe_op op_cat (pv 2) (pe_lst (pa_cons pe_int pa_nil))) pa_nil)) (pa_cons (pe_join pe_str (pe_lc (own := [("one", 6)]) (g := (gName 6)) (tt := tYes) rfl sc_law_no_reached.nd (kPiL (K := K) (pv 2)) (blkOk_by (N := ["pot", "many", "good", "odd", "at", "turn", "one"]) (sc := defScope s_law_no_reached) (by decide +kernel)) (fun _ _ _ _ _ => (pg_name (i := 6) sc_law_no_reached.nd rfl (by first | exact Or.inl rfl | exact Or.inr rfl))) (fun _ _ _ _ _ => pts_nil) (fun _ _ _ _ _ => (pe_callTy call_str_int (by rfl) T.n_str (by decide +kernel) (pa_cons (pv 6) pa_nil))))) (pa_cons pe_dnewT (pa_cons (pe_callTy (kTupOf (K := K)) (by rfl) T.n_tuple (by decide +kernel) (pa_cons (pe_op op_cat (pe_slice (kSlL (K := K)) (pv 2) (po_some pe_int) po_none) (pe_lst (pa_cons pe_int (pa_cons pe_int pa_nil)))) pa_nil)) pa_nil))))))))
      (pss_cons (ps_if (pt_cmpR op_gt (pv 1) pe_int (by first | exact nomark _ | rfl)) (pss_cons (ps_set (i := 4) sc_law_no_reached.nd rfl (by first | exact Or.inl rfl | exact Or.inr rfl) (pe_d D_law_draw E0 (hr.mono (by first | decide | omega)) (by rfl) passL (pa_cons (pv 0) (pa_cons (pv 1) pa_nil))))
      (pss_one (ps_set (i := 3) sc_law_no_reached.nd rfl (by first | exact Or.inl rfl | exact Or.inr rfl) (pe_op op_cat (pv 3) (pe_lst (pa_cons (pe_callTy (kTupOf (K := K)) (by rfl) T.n_tuple (by decide +kernel) (pa_cons (pe_slice (kSlL (K := K)) (pv 2) (po_some pe_int) po_none) pa_nil)) (pa_cons (pe_callTy (kTupOf (K := K)) (by rfl) T.n_tuple (by decide +kernel) (pa_cons (pe_op op_cat (pe_op op_cat (pe_slice (kSlL (K := K)) (pv 2) po_none (po_some (pv 4))) (pe_lst (pa_cons (pe_d D_law_any E0 (hr.mono (by first | decide | omega)) (by rfl) passL (pa_cons (pv 0) (pa_cons (pe_lst (pa_cons pe_int (pa_cons (pe_un un_neg pe_int) (pa_cons pe_bl (pa_cons pe_non (pa_cons pe_str pa_nil)))))) pa_nil))) pa_nil))) (pe_slice (kSlL (K := K)) (pv 2) (po_some (pe_op op_add (pv 4) pe_int)) po_none)) pa_nil)) pa_nil))))))) pss_nil)
      (pss_one (ps_ret (pe_d D_law_any E0 (hr.mono (by first | decide | omega)) (by rfl) passL (pa_cons (pv 0) (pa_cons (pv 3) pa_nil)))))))), ?_⟩
    walk_at "st"
    intro D hD
    have nD := hP.ne hD
    refine lc_it walk_range (fun i H' => ∃ hs : List Int, H' D = some (.lst (hs.map V.int)) ∧ Fr [p, g] H H' ∧ Pot H' p g m ∧ hs.length = i ∧ ∀ h ∈ hs, 0 ≤ h ∧ h ≤ 2) ⟨[], upd_same, Fr.up hD, hP.up hD, rfl, (fun _ h => nomatch h)⟩ (fun _ _ _ _ => trivial) ?_ ?_
    · rintro j x H11 H12 hj ⟨hs, e11, f11, hP11, lh, hb⟩ ⟨rfl, hx⟩
      walk_at "st"
      refine ⟨p, g, m, _, rfl, hP11, by omega, by omega, fun H13 n n0 n1 hP13 f13 => ?_⟩
      have e13 := f13.keep D _ (by simpa using ⟨nD.1, nD.2.1⟩) e11
      refine ⟨_, e13, line_lt (by rw [List.length_map]; omega), hs ++ [n], ?_, (f11.trans f13).wl e13 (.inr hD), hP13.wr e13 nD, by simp [lh], fun h hh => ?_⟩
      · rw [upd_same, List.map_append]; rfl
      · rcases List.mem_append.mp hh with hh | hh
        · exact hb h hh
        · rw [List.mem_singleton.mp hh]; omega
    · rintro H1 ⟨hs, e1, F1, hP1, lh, hb⟩
      rw [show (many : Int).toNat = many by omega] at lh
      walk_at "st"
      intro u1 hu1
      have G1 : Fr [] H1 (upd H1 u1 (.lst (hs.map V.int))) := Fr.up hu1
      have E1 := G1.same _ _ e1
      walk_at "st"
      intro u2 hu2
      walk_at "st"
      intro u3 hu3
      walk_at "st"
      refine st_tupOf (SqL.of upd_same) fun u4 hu4 => ?_
      have G4 : Fr [] H1 (upd (upd (upd (upd H1 u1 (.lst (hs.map V.int))) u2 (.lst [V.int 0])) u3 (.lst (hs.map V.int ++ [V.int 0]))) u4 (.tup (hs.map V.int ++ [V.int 0]))) := ((G1.new hu2).new hu3).new hu4
      have a1 : (upd (upd (upd (upd H1 u1 (.lst (hs.map V.int))) u2 (.lst [V.int 0])) u3 (.lst (hs.map V.int ++ [V.int 0]))) u4 (.tup (hs.map V.int ++ [V.int 0]))) u1 = some (.lst (hs.map V.int)) := upd_old hu4 (upd_old hu3 (upd_old hu2 upd_same))
      have a4 : (upd (upd (upd (upd H1 u1 (.lst (hs.map V.int))) u2 (.lst [V.int 0])) u3 (.lst (hs.map V.int ++ [V.int 0]))) u4 (.tup (hs.map V.int ++ [V.int 0]))) u4 = some (.tup (hs.map V.int ++ [V.int 0])) := upd_same
      have E4 := G4.same _ _ e1
      have n1 := hP1.ne hu1
      generalize upd (upd (upd (upd H1 u1 (.lst (hs.map V.int))) u2 (.lst [V.int 0])) u3 (.lst (hs.map V.int ++ [V.int 0]))) u4 (.tup (hs.map V.int ++ [V.int 0])) = H4 at G4 a1 a4 E4 ⊢
      clear hu4 hu3 hu2 E1 G1
      walk_at "st"
      refine st_m1 ?_
      walk_at "st"
      refine ⟨⟨_, rfl⟩, ?_⟩
      walk_at "st"
      intro D2 hD2
      refine lc_it (walk_list (xs := hs.map V.int)) (fun i H' => Fr [] H4 H' ∧ H' D2 = some (.lst (((hs.take i).map fun h => (toString h : Str)).map V.str))) ⟨Fr.up hD2, upd_same⟩ (fun i H' _ h => SqL.of (h.1.same _ _ E4)) ?_ ?_
      · rintro j x H11 H12 hj ⟨f11, e11⟩ ⟨rfl, hx⟩
        rw [List.getElem?_map] at hx
        obtain ⟨h, hh, rfl⟩ := Option.map_eq_some_iff.mp hx
        obtain ⟨b0, b2⟩ := hb h (List.mem_of_getElem? hh)
        walk_at "st"
        refine ⟨h, rfl, ?_, ?_⟩
        · rcases (show h = 0 ∨ h = 1 ∨ h = 2 by omega) with rfl | rfl | rfl <;> decide
        · refine ⟨_, e11, line_lt (by simp; omega), f11.wl e11 (.inr hD2), ?_⟩
          rw [upd_same, take_snoc hh, List.map_append, List.map_append]
          rfl
      · rintro H5 ⟨f5, e5⟩
        rw [List.length_map, List.take_length] at e5
        have hsum := strs_sum hs hb
        refine ⟨_, D2, (hs.map fun h => (toString h : Str)), rfl, rfl, .inl (SqL.of e5), ?_, ?_⟩
        · have e0 : (Str.ofString "").length = 0 := by decide +kernel
          rw [e0, Nat.mul_zero, Nat.add_zero]
          omega
        have E5 := f5.same _ _ E4
        walk_at "st"
        intro u5 hu5
        have n5 := (hP1.keep (G4.trans f5)).ne hu5
        walk_at "st"
        intro u6 hu6
        have c1 : cutV (hs.map V.int) (some 1) none = (hs.drop 1).map V.int := by
          rw [show (1 : Int) = ((1 : Nat) : Int) from rfl, cut_drop, List.map_drop]
        rw [c1]
        have ld : (hs.drop 1).length = many - 1 := by rw [List.length_drop, lh]
        walk_at "st"
        intro u7 hu7
        walk_at "st"
        intro u8 hu8
        walk_at "st"
        refine st_tupOf (SqL.of upd_same) fun u9 hu9 => ?_
        walk_at "st"
        intro u10 hu10
        have G5 : Fr [] H5 (upd H5 u5 (.dT [])) := Fr.up hu5
        have e8 : (hs.drop 1).map V.int ++ [V.int 2, V.int 2] = (hs.drop 1 ++ [2, 2]).map V.int := by rw [List.map_append]; rfl
        have G10 := (((((G5.new (o := .lst ((hs.drop 1).map V.int)) hu6).new (o := .lst [V.int 2, V.int 2]) hu7).new (o := .lst ((hs.drop 1).map V.int ++ [V.int 2, V.int 2])) hu8).new (o := .tup ((hs.drop 1).map V.int ++ [V.int 2, V.int 2])) hu9)).new (o := .lst [.non, .ref u1, .ref u4, .str (Txt.join (Str.ofString "") (hs.map fun h => (toString h : Str))), .ref u5, .ref u9]) hu10
        have a5 := upd_old (o' := .lst [.non, .ref u1, .ref u4, .str (Txt.join (Str.ofString "") (hs.map fun h => (toString h : Str))), .ref u5, .ref u9]) hu10 (upd_old (o' := .tup ((hs.drop 1).map V.int ++ [V.int 2, V.int 2])) hu9 (upd_old (o' := .lst ((hs.drop 1).map V.int ++ [V.int 2, V.int 2])) hu8 (upd_old (o' := .lst [V.int 2, V.int 2]) hu7 (upd_old (o' := .lst ((hs.drop 1).map V.int)) hu6 (upd_same (H := H5) (a := u5) (o := .dT []))))))
        have a9 := upd_old (o' := .lst [.non, .ref u1, .ref u4, .str (Txt.join (Str.ofString "") (hs.map fun h => (toString h : Str))), .ref u5, .ref u9]) hu10 (upd_same (H := upd (upd (upd (upd H5 u5 (.dT [])) u6 (.lst ((hs.drop 1).map V.int))) u7 (.lst [V.int 2, V.int 2])) u8 (.lst ((hs.drop 1).map V.int ++ [V.int 2, V.int 2]))) (a := u9) (o := .tup ((hs.drop 1).map V.int ++ [V.int 2, V.int 2])))
        have a10 := upd_same (H := upd (upd (upd (upd (upd H5 u5 (.dT [])) u6 (.lst ((hs.drop 1).map V.int))) u7 (.lst [V.int 2, V.int 2])) u8 (.lst ((hs.drop 1).map V.int ++ [V.int 2, V.int 2]))) u9 (.tup ((hs.drop 1).map V.int ++ [V.int 2, V.int 2]))) (a := u10) (o := .lst [.non, .ref u1, .ref u4, .str (Txt.join (Str.ofString "") (hs.map fun h => (toString h : Str))), .ref u5, .ref u9])
        have hP10 := (hP1.keep (G4.trans f5)).keep G10
        have n10 := (hP1.keep (G4.trans f5)).ne (fresh_of (fresh_of (fresh_of (fresh_of (fresh_of hu10)))))
        have b1 := G10.same _ _ (f5.same _ _ a1)
        have b4 := G10.same _ _ (f5.same _ _ a4)
        have E10 := G10.same _ _ E5
        have F10 : Fr [p, g] H _ := F1.trans (((G4.trans f5).trans G10).mono (by simp))
        generalize upd (upd (upd (upd (upd (upd H5 u5 (.dT [])) u6 (.lst ((hs.drop 1).map V.int))) u7 (.lst [V.int 2, V.int 2])) u8 (.lst ((hs.drop 1).map V.int ++ [V.int 2, V.int 2]))) u9 (.tup ((hs.drop 1).map V.int ++ [V.int 2, V.int 2]))) u10 (.lst [.non, .ref u1, .ref u4, .str (Txt.join (Str.ofString "") (hs.map fun h => (toString h : Str))), .ref u5, .ref u9]) = H10 at a5 a9 a10 hP10 b1 b4 E10 F10 ⊢
        have odd : OddAll K Z p g many H10 [.non, .ref u1, .ref u4, .str (Txt.join (Str.ofString "") (hs.map fun h => (toString h : Str))), .ref u5, .ref u9] := by
          intro x hx
          simp only [List.mem_cons, List.not_mem_nil, or_false] at hx
          rcases hx with rfl | rfl | rfl | rfl | rfl | rfl
          · exact ⟨_, .non, trivial, .inl rfl⟩
          · exact ⟨_, .oth b1 (out_pg ⟨n1.1, n1.2.1⟩) (.lst _) O.li, trivial, .inl rfl⟩
          · refine ⟨.tuple (hs.map JD.int ++ [.int 0]), .tup b4 (ads_app (ints_ad hs) (.cons (.int 0) .nil)), ?_, .inl (tupJ_ne ?_)⟩
            · show (hs.map JD.int ++ [JD.int 0]).length ≤ 100
              simp; omega
            · simp; omega
          · exact ⟨_, .str _, trivial, .inl rfl⟩
          · exact ⟨_, .oth a5 (out_pg ⟨n5.1, n5.2.1⟩) (.dT _) O.di, trivial, .inl rfl⟩
          · refine ⟨.tuple ((hs.drop 1).map JD.int ++ [.int 2, .int 2]), .tup a9 (ads_app (ints_ad _) (.cons (.int 2) (.cons (.int 2) .nil))), ?_, .inl (tupJ_ne ?_)⟩
            · show ((hs.drop 1).map JD.int ++ [JD.int 2, JD.int 2]).length ≤ 100
              rw [List.length_append, List.length_map, ld]; simp; omega
            · rw [List.length_append, List.length_map, ld]; simp; omega
        clear hu10 hu9 hu8 hu7 hu6 hu5 G10 G5 a5 a9 b1 b4 e5 hsum e8 c1 f5 a1 a4 G4 E4 E5 hD2 hu1
        walk_at "st"
        have fin : ∀ (H' : Hp) (u : Addr) (xs : List V), Pot H' p g m → Fr [p, g] H H' → H' u = some (.lst xs) → u ≠ p → u ≠ g → 0 < xs.length → xs.length < 1000 → OddAll K Z p g many H' xs → spAny [.ref p, .ref u] H' Q E0 := fun H' u xs hP' F' hu np ng h0 h1 odd' => by
          refine ⟨p, g, m, u, xs, rfl, hP', .inr ⟨hu, np, ng⟩, h0, h1, fun H2 x hx hP2 f2 => ?_⟩
          obtain ⟨d, a, b, c⟩ := odd' x hx
          exact k H2 x d (AD.mono f2.tup (f2.keepB (fun _ h => h)) _ _ a) b c hP2 (F'.trans f2)
        by_cases h0 : 0 < (many : Int)
        · rw [if_pos (decide_eq_true h0)]
          walk_at "st"
          refine ⟨p, g, m, _, rfl, hP10, by omega, by omega, fun H11 at_ at0 at1 hP11 f11 => ?_⟩
          obtain ⟨j, rfl⟩ : ∃ j : Nat, at_ = (j : Int) := ⟨at_.toNat, by omega⟩
          have E11 := f11.keep D _ (by simpa using ⟨nD.1, nD.2.1⟩) E10
          have b10 := f11.keep u10 _ (by simpa using ⟨n10.1, n10.2.1⟩) a10
          have odd11 := odd.mono f11 (fun _ h => h)
          walk_at "st"
          intro u11 hu11
          walk_at "st"
          have c1 : cutV (hs.map V.int) (some 1) none = (hs.drop 1).map V.int := by
            rw [show (1 : Int) = ((1 : Nat) : Int) from rfl, cut_drop, List.map_drop]
          rw [c1]
          refine st_tupOf (SqL.of upd_same) fun u12 hu12 => ?_
          have G12 : Fr [] H11 (upd (upd H11 u11 (.lst ((hs.drop 1).map V.int))) u12 (.tup ((hs.drop 1).map V.int))) := (Fr.up hu11).new hu12
          have a12 : (upd (upd H11 u11 (.lst ((hs.drop 1).map V.int))) u12 (.tup ((hs.drop 1).map V.int))) u12 = some (.tup ((hs.drop 1).map V.int)) := upd_same
          have hP12 := hP11.keep G12
          have E12 := G12.same _ _ E11
          have b12 := G12.same _ _ b10
          have odd12 := odd11.mono G12 (by simp)
          have F12 := (F10.trans f11).trans (G12.mono (by simp))
          generalize upd (upd H11 u11 (.lst ((hs.drop 1).map V.int))) u12 (.tup ((hs.drop 1).map V.int)) = H12 at G12 a12 hP12 E12 b12 odd12 F12 ⊢
          walk_at "st"
          intro u13 hu13
          rw [cut_take, ← List.map_take]
          walk_at "st"
          intro u14 hu14
          have n13 := hP12.ne hu13
          have n14 := hP12.ne (fresh_of hu14)
          have G14 : Fr [] H12 (upd (upd H12 u13 (.lst ((hs.take j).map V.int))) u14 (.lst [.int 3, .int (-1), .bl true, .non, .str "1"])) := (Fr.up hu13).new hu14
          have a13 : (upd (upd H12 u13 (.lst ((hs.take j).map V.int))) u14 (.lst [.int 3, .int (-1), .bl true, .non, .str "1"])) u13 = some (.lst ((hs.take j).map V.int)) := upd_old hu14 upd_same
          have a14 : (upd (upd H12 u13 (.lst ((hs.take j).map V.int))) u14 (.lst [.int 3, .int (-1), .bl true, .non, .str "1"])) u14 = some (.lst [.int 3, .int (-1), .bl true, .non, .str "1"]) := upd_same
          have hP14 := hP12.keep G14
          have E14 := G14.same _ _ E12
          have b14 := G14.same _ _ b12
          have c14 := G14.same _ _ a12
          have odd14 := odd12.mono G14 (by simp)
          have F14 := F12.trans (G14.mono (by simp))
          generalize upd (upd H12 u13 (.lst ((hs.take j).map V.int))) u14 (.lst [.int 3, .int (-1), .bl true, .non, .str "1"]) = H14 at G14 a13 a14 hP14 E14 b14 c14 odd14 F14 ⊢
          walk_at "st"
          refine ⟨p, g, m, u14, _, rfl, hP14, .inr ⟨a14, n14.1, n14.2.1⟩, Nat.zero_lt_succ _, (show 5 < 1000 by decide), fun H15 x hx hP15 f15 => ?_⟩
          obtain ⟨dx, adx, hbx⟩ : ∃ dx, AD K (usOf Z.Exchange) [p, g] H15 x dx ∧ betwJ 0 2 dx = false := by
            simp only [List.mem_cons, List.not_mem_nil, or_false] at hx
            rcases hx with rfl | rfl | rfl | rfl | rfl
            · exact ⟨_, .int 3, rfl⟩
            · exact ⟨_, .int (-1), rfl⟩
            · exact ⟨_, .bl _, rfl⟩
            · exact ⟨_, .non, rfl⟩
            · exact ⟨_, .str _, rfl⟩
          have E15 := f15.keep D _ (by simpa using ⟨nD.1, nD.2.1⟩) E14
          have b15 := f15.keep u10 _ (by simpa using ⟨n10.1, n10.2.1⟩) b14
          have a15 := f15.keep u13 _ (by simpa using ⟨n13.1, n13.2.1⟩) a13
          have c15 := f15.tup _ _ c14
          have odd15 := odd14.mono f15 (fun _ h => h)
          have F15 := F14.trans f15
          have lt : (hs.take j).length = j := by rw [List.length_take]; omega
          have ld1 : (hs.drop (j + 1)).length = many - (j + 1) := by rw [List.length_drop, lh]
          have lc1 : (cutV (hs.map V.int) (some ((j : Int) + 1)) none).length = many - (j + 1) := by
            rw [show ((j : Int) + 1) = ((j + 1 : Nat) : Int) by omega, cut_drop, List.length_drop, List.length_map, lh]
          walk_at "st"
          intro u15 hu15
          walk_at "st"
          intro u16 hu16
          walk_at "st"
          intro u17 hu17
          have c17 : cutV (hs.map V.int) (some ((j : Int) + 1)) none = (hs.drop (j + 1)).map V.int := by
            rw [show ((j : Int) + 1) = ((j + 1 : Nat) : Int) by omega, cut_drop, List.map_drop]
          rw [c17]
          walk_at "st"
          intro u18 hu18
          walk_at "st"
          refine st_tupOf (SqL.of upd_same) fun u19 hu19 => ?_
          walk_at "st"
          intro u20 hu20
          walk_at "st"
          intro u21 hu21
          walk_at "st"
          have G21 := ((((((Fr.up (ms := []) (o := .lst [x]) hu15).new (o := .lst ((hs.take j).map V.int ++ [x])) hu16).new (o := .lst ((hs.drop (j + 1)).map V.int)) hu17).new (o := .lst ((hs.take j).map V.int ++ [x] ++ (hs.drop (j + 1)).map V.int)) hu18).new (o := .tup ((hs.take j).map V.int ++ [x] ++ (hs.drop (j + 1)).map V.int)) hu19).new (o := .lst [.ref u12, .ref u19]) hu20).new (o := .lst ([.non, .ref u1, .ref u4, .str (Txt.join (Str.ofString "") (hs.map fun h => (toString h : Str))), .ref u5, .ref u9] ++ [.ref u12, .ref u19])) hu21
          have a19 := upd_old (o' := .lst ([.non, .ref u1, .ref u4, .str (Txt.join (Str.ofString "") (hs.map fun h => (toString h : Str))), .ref u5, .ref u9] ++ [.ref u12, .ref u19])) hu21 (upd_old (o' := .lst [.ref u12, .ref u19]) hu20 (upd_same (H := upd (upd (upd (upd H15 u15 (.lst [x])) u16 (.lst ((hs.take j).map V.int ++ [x]))) u17 (.lst ((hs.drop (j + 1)).map V.int))) u18 (.lst ((hs.take j).map V.int ++ [x] ++ (hs.drop (j + 1)).map V.int))) (a := u19) (o := .tup ((hs.take j).map V.int ++ [x] ++ (hs.drop (j + 1)).map V.int))))
          have c21 := G21.same _ _ c15
          have adx' := AD.mono G21.tup (G21.keepB (by simp)) _ _ adx
          have n21 := hP15.ne (fresh_of (fresh_of (fresh_of (fresh_of (fresh_of (fresh_of hu21))))))
          refine fin _ _ _ (hP15.keep G21) (F15.trans (G21.mono (by simp))) upd_same n21.1 n21.2.1 (by simp) (by simp) ?_
          intro y hy
          rcases List.mem_append.mp hy with hy | hy
          · exact odd15.mono G21 (by simp) y hy
          · simp only [List.mem_cons, List.not_mem_nil, or_false] at hy
            rcases hy with rfl | rfl
            · refine ⟨.tuple ((hs.drop 1).map JD.int), .tup c21 (ints_ad _), ?_, .inl (tupJ_ne ?_)⟩
              · show ((hs.drop 1).map JD.int).length ≤ 100
                rw [List.length_map, ld]; omega
              · rw [List.length_map, ld]; omega
            · refine ⟨.tuple ((hs.take j).map JD.int ++ [dx] ++ (hs.drop (j + 1)).map JD.int), .tup a19 (ads_app (ads_app (ints_ad _) (.cons adx' .nil)) (ints_ad _)), ?_, .inr ⟨_, rfl, ?_, ?_⟩⟩
              · show ((hs.take j).map JD.int ++ [dx] ++ (hs.drop (j + 1)).map JD.int).length ≤ 100
                rw [List.length_append, List.length_append, List.length_map, List.length_map, lt, ld1]
                simp; omega
              · rw [List.length_append, List.length_append, List.length_map, List.length_map, lt, ld1]
                simp; omega
              · rw [List.append_assoc]
                exact all_hit hbx
        · rw [if_neg (by rw [decide_eq_false h0]; exact Bool.false_ne_true)]
          walk_at "st"
          exact fin _ _ _ hP10 F10 a10 n10.1 n10.2.1 (Nat.zero_lt_succ _) (show 6 < 1000 by decide) odd
end

end K39

namespace K39
open PySem PySem.Spec PyProof.Rows L2 Hq LamX
local macro_rules | `(tactic| walk_at "st1") => `(tactic| first
  | with_reducible refine st_seq ?_ | with_reducible refine st_ret ?_ | with_reducible refine st_ifS ?_ | with_reducible refine st_asg ?_ | with_reducible refine st_drop ?_
  | ((with_reducible refine' st_var ?hv ?_); (case hv => rfl)) | with_reducible refine st_c ?_ | with_reducible refine st_op ?_ | with_reducible refine st_un ?_
  | with_reducible refine st_I0 ?_ | with_reducible refine st_U ?_ | ((with_reducible refine' st_I ?hc ?_); (case hc => walk_at "side"))
  | ((with_reducible refine' st_eq ?hs ?_); (case hs => rfl)) | ((with_reducible refine' st_ne ?hs ?_); (case hs => rfl))
  | with_reducible refine st_test ?_ | with_reducible refine st_B ?_ | with_reducible refine st_bl ?_ | with_reducible refine st_isN ?_ | with_reducible refine st_notN ?_
  | with_reducible refine st_chain ?_ | with_reducible refine st_and ?_ | with_reducible refine st_or ?_ | with_reducible refine st_not ?_
  | with_reducible refine st_andV ?_ | with_reducible refine st_orV ?_ | with_reducible refine st_notV ?_ | with_reducible refine st_if ?_
  | with_reducible refine st_CB ?_ | with_reducible refine st_cons ?_ | with_reducible refine st_nil ?_ | with_reducible refine st_fld ?_
  | ((with_reducible refine st_tup ?_)) | ((with_reducible refine st_lst ?_))
  | with_reducible refine st_call ?_ | with_reducible refine st_meth ?_ | with_reducible refine st_make ?_
  | with_reducible refine st_sl ?_ | with_reducible refine st_noPart ?_ | with_reducible refine st_part ?_ | with_reducible refine st_int ?_
  | ((with_reducible refine' st_ixL ?hq ?he ?_); (case hq => walk_at "sqL"); (case he => walk_at "at"))
  | ((with_reducible refine' st_ixT ?hq ?he ?_); (case hq => walk_at "sqT"); (case he => walk_at "at"))
  | with_reducible refine st_bm ?_ | with_reducible refine st_app ?_
  | ((with_reducible refine' st_append ?hq ?hl ?_); (case hq => walk_at "hp"); (case hl => walk_at "line"))
  | ((with_reducible refine' st_len (n := 0) ?hq ?_); (case hq => first | exact Or.inl (by walk_at "sqL") | exact Or.inr (by walk_at "sqT")))
  | ((with_reducible refine' st_listOf ?hq ?_); (case hq => first | exact Or.inl (by walk_at "sqL") | exact Or.inr (by walk_at "sqT")))
  | ((with_reducible refine st_name ?_); (try dsimp only [List.set_cons_zero, List.set_cons_succ])) | with_reducible refine st_par ?_
  | with_reducible refine st_gcons ?_ | with_reducible refine st_gnil ?_ | with_reducible refine st_gsub ?_ | with_reducible refine st_sFld ?_
  | ((with_reducible refine' st_gtup ?hq ?hl ?_); (case hq => walk_at "sqT"); (case hl => rfl))
  | ((with_reducible refine' st_setL ?hq ?hl ?_); (case hq => walk_at "hp"); (case hl => first | rfl | exact ix0 | exact ixN_nat (by assumption)); (try simp only [Int.reduceToNat, List.set_cons_zero, List.set_cons_succ]))
  | with_reducible refine st_intI ?_ | with_reducible refine st_abs ?_
  | ((with_reducible refine' st_popAt ?hq ?hk ?hy ?_); (case hq => walk_at "hp"); (case hk => exact seq0); (case hy => rfl))
  | ((with_reducible refine' and_left ?ht ?_); (case ht => walk_at "ty"))
  | with_reducible refine st_lc ?_ | with_reducible refine st_for ?_ | with_reducible refine st_iL ?_ | with_reducible refine st_iT ?_ | with_reducible refine st_iR1 ?_ | with_reducible refine st_iR2 ?_ | with_reducible refine st_iZ ?_
  | ((with_reducible refine' st_refL ?hq ?_); (case hq => walk_at "sqL")) | ((with_reducible refine' st_refT ?hq ?_); (case hq => walk_at "sqT"))
  | ((with_reducible refine' st_rng1 ?hq ?_); (case hq => walk_at "side")) | ((with_reducible refine' st_rng2 ?hq ?_); (case hq => walk_at "side"))
  | ((with_reducible refine' st_zip ?hq ?hr ?_); (case hq => walk_at "sqb"); (case hr => walk_at "sqb"))
  | ((with_reducible refine' st_size ?hw ?_); (case hw => walk_at "line"))
  | ((with_reducible refine' st_sum ?hq ?_); (case hq => walk_at "sqL"))
  | with_reducible refine st_two ?_ | with_reducible refine st_yes ?_ | ((with_reducible refine' st_wipe ?hw ?_); (case hw => rfl))
  | ((with_reducible refine' st_slL ?hq ?_); (case hq => walk_at "sqL"))
  | ((with_reducible refine' st_cat ?hq ?hr ?hl ?_); (case hq => walk_at "hp"); (case hr => walk_at "hp"); (case hl => walk_at "line"))
  | ((with_reducible refine' st_isi ?hk ?he ?_); (case hk => walk_at "kd"); (case he => walk_at "kit"))
  | ((with_reducible refine' st_ins ?hq ?hc ?hn ?hl ?_); (case hq => walk_at "hp"); (case hc => with_reducible assumption); (case hn => with_reducible assumption); (case hl => walk_at "flen"); walk_at "puts")
  | ((with_reducible refine' st_att ?hq ?hc ?hn ?hl ?_); (case hq => walk_at "hp"); (case hc => with_reducible assumption); (case hn => with_reducible assumption); (case hl => walk_at "lk"))
  | ((with_reducible refine' st_mt ?hq ?hl ?_); (case hq => walk_at "hp"); (case hl => walk_at "lk"))
  | ((with_reducible refine' st_extend ?hq ?hr ?hl ?_); (case hq => walk_at "hp"); (case hr => walk_at "hp"); (case hl => walk_at "line"))
  | with_reducible refine st_next ?_ | with_reducible refine st_retN ?_ | (with_reducible refine iteNT ?_) | (with_reducible refine iteNF ?_) | (with_reducible refine iteT ?_) | (with_reducible refine iteF ?_))
local macro_rules | `(tactic| walk_at "side") => `(tactic| first | omega | decide | assumption | exact ⟨by omega, by omega⟩ | exact Or.inr ⟨by omega, by omega⟩ | exact Or.inl ⟨by omega, by omega⟩ | (simp only [List.length_map, List.length_cons, List.length_nil, List.length_append] at *; omega))
local macro_rules | `(tactic| walk_at "hp") => `(tactic| first | assumption | exact upd_same | refine upd_old (by assumption) (by walk_at "hp") | (rw [upd_ne (by first | assumption | exact Ne.symm (by assumption))]; walk_at "hp"))
local macro_rules | `(tactic| walk_at "sqL") => `(tactic| first | assumption | exact SqL.of (by walk_at "hp"))
local macro_rules | `(tactic| walk_at "sqT") => `(tactic| first | assumption | exact SqT.of (by walk_at "hp"))
local macro_rules | `(tactic| walk_at "sqb") => `(tactic| (unfold SqB; first | ((with_reducible change SqL _ _ _ _); walk_at "sqL") | ((with_reducible change SqT _ _ _ _); walk_at "sqT")))
local macro_rules | `(tactic| walk_at "line") => `(tactic| first | assumption | decide | (apply line_of; walk_at "side") | (apply line_lt; walk_at "side"))
local macro_rules | `(tactic| walk_at "ty") => `(tactic| ((with_reducible refine' ty_lst ?hq); (case hq => walk_at "hp")))
local macro_rules | `(tactic| walk_at "at") => `(tactic| with_reducible first | assumption | exact at0 | exact at1 | exact at2 | exact at3 | exact at4 | exact at5 | exact at6 | exact at7 | exact at8)
local macro_rules | `(tactic| walk_at "st") => `(tactic| (repeat walk_at "st1"))
local macro_rules | `(tactic| walk_at "lk") => `(tactic| first | with_reducible assumption | rfl)
local macro_rules | `(tactic| walk_at "kd") => `(tactic| first | exact .base (.int _) | exact .base .non | exact .base (.bl _) | exact .base (.str _) | exact .base (.tup (by walk_at "hp")) | exact .base (.lst (by walk_at "hp")) | exact .base (.dK (by walk_at "hp")) | exact .base (.dT (by walk_at "hp")))
local macro_rules | `(tactic| walk_at "kit") => `(tactic| with_reducible first
  | exact kit_NoneType_bool
  | exact kit_NoneType_int
  | exact kit_NoneType_str
  | exact kit_NoneType_tuple
  | exact kit_NoneType_list
  | exact kit_NoneType_dict
  | exact kit_bool_bool
  | exact kit_bool_int
  | exact kit_bool_str
  | exact kit_bool_tuple
  | exact kit_bool_list
  | exact kit_bool_dict
  | exact kit_int_bool
  | exact kit_int_int
  | exact kit_int_str
  | exact kit_int_tuple
  | exact kit_int_list
  | exact kit_int_dict
  | exact kit_str_bool
  | exact kit_str_int
  | exact kit_str_str
  | exact kit_str_tuple
  | exact kit_str_list
  | exact kit_str_dict
  | exact kit_tuple_bool
  | exact kit_tuple_int
  | exact kit_tuple_str
  | exact kit_tuple_tuple
  | exact kit_tuple_list
  | exact kit_tuple_dict
  | exact kit_list_bool
  | exact kit_list_int
  | exact kit_list_str
  | exact kit_list_tuple
  | exact kit_list_list
  | exact kit_list_dict
  | exact kit_dict_bool
  | exact kit_dict_int
  | exact kit_dict_str
  | exact kit_dict_tuple
  | exact kit_dict_list
  | exact kit_dict_dict)
local macro_rules | `(tactic| walk_at "flen") => `(tactic| decide)
local macro_rules | `(tactic| walk_at "puts") => `(tactic| skip)

local macro_rules | `(tactic| walk_at "st1") => `(tactic| first
  | with_reducible refine st_dc ?_ | with_reducible refine st_dgetS ?_ | with_reducible refine st_dinS ?_ | with_reducible refine st_dninS ?_ | with_reducible refine st_dputS ?_ | with_reducible refine st_newT ?_ | with_reducible refine iteNN ?_ | with_reducible refine iteYN ?_
  | ((with_reducible refine' st_getT ?hq ?hk ?hv ?_); (case hq => walk_at "hp"); (case hk => walk_at "key"); (case hv => with_reducible assumption))
  | ((with_reducible refine' st_inT ?hq ?hk ?_); (case hq => walk_at "hp"); (case hk => walk_at "key"))
  | ((with_reducible refine' st_ninT ?hq ?hk ?_); (case hq => walk_at "hp"); (case hk => walk_at "key"))
  | ((with_reducible refine' st_putT ?hq ?hk ?hl ?_); (case hq => walk_at "hp"); (case hk => walk_at "key"); (case hl => walk_at "line"))
  | ((with_reducible refine' st_cputT ?hq ?hk ?hl ?_); (case hq => walk_at "hp"); (case hk => walk_at "key"); (case hl => walk_at "line"))
  | ((with_reducible refine' st_ixB ?hq ?he ?_); (case hq => first | assumption | exact Or.inl (by walk_at "sqL") | exact Or.inr (by walk_at "sqT")); (case he => walk_at "at")))
local macro_rules | `(tactic| walk_at "key") => `(tactic| with_reducible assumption)

local macro_rules | `(tactic| walk_at "lk") => `(tactic| with_reducible first | assumption | exact DiskF_get_lying | exact DiskF_get_pending | exact DiskF_get_spoils | exact StoreF_get_disk | exact DiskF_no (by decide +kernel) (by decide +kernel) (by decide +kernel) | exact StoreF_no (by decide +kernel))
local macro_rules | `(tactic| walk_at "puts") => `(tactic| try simp only [DiskF_put_lying, DiskF_put_pending, DiskF_put_spoils, StoreF_put_disk, DiskF0_put, DiskF1_put, DiskF2_put, StoreF0_put])
local macro_rules | `(tactic| walk_at "flen") => `(tactic| first | with_reducible assumption | with_reducible (first | exact DiskF_len | exact StoreF_len | exact DiskF0_len | exact DiskF1_len | exact DiskF2_len | exact StoreF0_len) | decide)
section
variable {Z : Ads} {P : Program} {w : World} {K : PySem.W.Frag} {mg : Str → Option Value} {base : Heap}
/-! ### a lambda handed to a def that tells which error ends it -/
def clsAt (Z : Ads) : Nat → Addr
  | 0 => Z.NoKey
  | 1 => Z.NoThing
  | 2 => Z.NoReached
  | _ => Z.NoPlace
def wordAt : Nat → Str
  | 0 => "key"
  | 1 => "thing"
  | 2 => "hows"
  | _ => "place"
structure TxE (K : PySem.W.Frag) (Z : Ads) : Prop where
  ex : ∀ i, i < 4 → ExcC K (clsAt Z i)
  em : ∀ i, i < 4 → PySem.W.exmOne K (.ref (clsAt Z i)) (.ref Z.RunError) = some true
  ki : ∀ i j, i < 4 → j < 4 → PySem.W.kitOne K (.ref (clsAt Z i)) (.ref (clsAt Z j)) = some (decide (i = j))
abbrev s_law_word : Stmt := top 80
theorem sc_law_word : FnScope ["call", "found", "e", "flags"] ["call"] (defScope s_law_word) := ⟨rfl, rfl, rfl, by decide +kernel, rfl, by decide +kernel, by decide +kernel⟩
def wordEnd (Z : Ads) (Q : VK) : XK := fun cls d H' => ∃ i, i < 4 ∧ cls = .ref (clsAt Z i) ∧ d = none ∧ ∀ H'', Fr [] H' H'' → Q (.str (wordAt i)) H''
def TWord (Z : Ads) : (XK → Hp → VK → Prop) → Hp → VK → Prop := fun tl H Q => tl (wordEnd Z Q) H (fun _ H' => Q (.str "told") H')
theorem takes_len {X : Cx} {W : WX} (t : Takes X W) : Takes X (fun c d σ H => σ.length = X.N.length → W c d σ H) := fun u s' ⟨a, B, sI, pins, σ, H, cls, d, e, I, nb, up, sky, na, os, ag, w⟩ =>
  t u s' ⟨a, B, sI, pins, σ, H, cls, d, e, I, nb, up, sky, na, os, ag, w I.len⟩
theorem len4 {α : Type} {σ : List α} (h : σ.length = 4) : ∃ x y z t, σ = [x, y, z, t] := by
  match σ, h with
  | [x, y, z, t], _ => exact ⟨x, y, z, t, rfl⟩
theorem word_gives {X : Cx} {q : Str} {g : Addr} {cdg : Value} (T : Txt X.K X.mg Z) (TE : TxE X.K Z) : GivesTo X ["call", "found", "e", "flags"] "_law_word" (defScope s_law_word) g cdg (defBody s_law_word) "call" q (TWord Z) := by
  intro f c' s H Q tl act hc h
  obtain ⟨uR, hR, rR⟩ := id T.g_RunError
  cases (show uR = .ref Z.RunError from rR)
  refine ⟨_, pss_cons (ps_set (i := 1) sc_law_word.nd rfl (Or.inl rfl) pe_str) (pss_cons (ps_try_as (i := 2) (X := (cxOf C8.CX0 X.prog X.w X.K X.mg X.base _ "_law_word" (defScope s_law_word) g cdg X.A X.stack s H C8.E0).nox) (c := .ref Z.RunError)
      (tb := fun W D σ H => ∃ Ech : XK, (∀ cls d σ' H', Ech cls d H' → σ'.length = 4 → W cls d σ' H') ∧ σ[0]? = some (some (.ref f)) ∧ H c' = some (CodeO c' q) ∧ tl Ech H (fun _ H' => D.nx σ H'))
      (ts := fun a cls d D σ H => ∃ x y z i, i < 4 ∧ σ = [x, y, some (.ref a), z] ∧ cls = .ref (clsAt Z i) ∧ d = none ∧ ∀ H'', Fr [] H H'' → ∀ z', D.nx [x, some (.str (wordAt i)), some (.ref a), z'] H'')
      rfl rfl sc_law_word.nd rfl rfl ⟨rfl, by decide, .inl hR⟩ LamX.takes0 (fun W pn xe tk _ => ?_) (fun a oe cls d pn hz hf => ?_)) (pss_one (ps_ret (pv 1)))), ?_⟩
  · refine ⟨fun pins s' σ H' D I h' => ?_⟩
    obtain ⟨Ech, hW, h1, h2, h3⟩ := h'
    exact (pss_one (ps_expr (act (fun c d σ H => σ.length = 4 → W c d σ H) pn xe Ech _ _ (takes_len tk) hW))).run pins s' σ H' D I ⟨h1, h2, h3⟩
  · by_cases hcd : ∃ i, i < 4 ∧ cls = .ref (clsAt Z i) ∧ d = none
    · obtain ⟨i, hi, rfl, rfl⟩ := hcd
      refine ⟨fun pins s' σ H' D I h' => ?_⟩
      obtain ⟨x, y, z, i', hi', rfl, he, _, h3⟩ := h'
      have hii : i = i' := by
        have h1 := TE.ki i i' hi hi'
        have h2 := TE.ki i' i' hi' hi'
        rw [← he] at h1 h2
        rw [h1] at h2
        by_cases q : i = i'
        · exact q
        · rw [decide_eq_false q, decide_eq_true rfl] at h2
          exact nomatch h2
      subst hii
      refine ((pss_cons (ps_set (i := 3) sc_law_word.nd rfl (by first | exact Or.inl rfl | exact Or.inr rfl) (pe_lst (pa_cons (pe_callB (call_isE (X := (cxOf C8.CX0 X.prog X.w X.K X.mg X.base _ "_law_word" (defScope s_law_word) g cdg X.A X.stack s H C8.E0).nox) (TE.ex i hi) hz hf) (by rfl) T.n_isinstance (by decide +kernel) (pa_cons (pv 2) (pa_cons (pe_gl (by rfl) T.g_NoKey) pa_nil))) (pa_cons (pe_callB (call_isE (X := (cxOf C8.CX0 X.prog X.w X.K X.mg X.base _ "_law_word" (defScope s_law_word) g cdg X.A X.stack s H C8.E0).nox) (TE.ex i hi) hz hf) (by rfl) T.n_isinstance (by decide +kernel) (pa_cons (pv 2) (pa_cons (pe_gl (by rfl) T.g_NoThing) pa_nil))) (pa_cons (pe_callB (call_isE (X := (cxOf C8.CX0 X.prog X.w X.K X.mg X.base _ "_law_word" (defScope s_law_word) g cdg X.A X.stack s H C8.E0).nox) (TE.ex i hi) hz hf) (by rfl) T.n_isinstance (by decide +kernel) (pa_cons (pv 2) (pa_cons (pe_gl (by rfl) T.g_NoReached) pa_nil))) (pa_cons (pe_callB (call_isE (X := (cxOf C8.CX0 X.prog X.w X.K X.mg X.base _ "_law_word" (defScope s_law_word) g cdg X.A X.stack s H C8.E0).nox) (TE.ex i hi) hz hf) (by rfl) T.n_isinstance (by decide +kernel) (pa_cons (pv 2) (pa_cons (pe_gl (by rfl) T.g_NoPlace) pa_nil))) pa_nil))))))
      (pss_one (ps_set (i := 1) sc_law_word.nd rfl (by first | exact Or.inl rfl | exact Or.inr rfl) (pe_ifExp (pt_cmpR op_eq (kBm (K := X.K) PySem.F.plainAttrs_list PySem.F.slot_list_count PySem.F.type_list_count kCnt (pv 3) (pa_cons pe_bl pa_nil)) pe_int (by first | exact nomark _ | rfl)) (pe_ix (kIxL (K := X.K)) (pe_lst (pa_cons pe_str (pa_cons pe_str (pa_cons pe_str (pa_cons pe_str pa_nil))))) (kBm (K := X.K) PySem.F.plainAttrs_list PySem.F.slot_list_index PySem.F.type_list_index kIdx (pv 3) (pa_cons pe_bl pa_nil)) (fun _ _ => rfl)) pe_str))))).run pins s' _ H' D I ?_
      rcases (show i = 0 ∨ i = 1 ∨ i = 2 ∨ i = 3 by omega) with rfl | rfl | rfl | rfl
      all_goals
        walk_at "st"
        refine ⟨.ref Z.NoKey, .ref Z.NoKey, _, rfl, fun u hu => hu, TE.ki _ 0 hi (by decide), ?_⟩
        walk_at "st"
        refine ⟨.ref Z.NoThing, .ref Z.NoThing, _, rfl, fun u hu => hu, TE.ki _ 1 hi (by decide), ?_⟩
        walk_at "st"
        refine ⟨.ref Z.NoReached, .ref Z.NoReached, _, rfl, fun u hu => hu, TE.ki _ 2 hi (by decide), ?_⟩
        walk_at "st"
        refine ⟨.ref Z.NoPlace, .ref Z.NoPlace, _, rfl, fun u hu => hu, TE.ki _ 3 hi (by decide), ?_⟩
        walk_at "st"
        intro u hu
        walk_at "st"
        refine ⟨u, _, .bl true, rfl, rfl, SqL.of upd_same, rfl, rfl, ?_⟩
        walk_at "st"
        refine iteD (fun _ => ?_) (fun h => absurd rfl h)
        walk_at "st"
        intro v hv
        walk_at "st"
      · refine ⟨u, _, .bl true, 0, .bl true, rfl, rfl, SqL.of (upd_old hv upd_same), rfl, rfl, rfl, rfl, (fun m z' hm hz => by rcases m with _ | _ | _ | m <;> first | omega | (cases hz; rfl)), ?_⟩
        refine st_ixL (SqL.of upd_same) (atI_nat rfl) ?_
        walk_at "st"
        exact h3 _ ((Fr.up hu).new hv) _
      · refine ⟨u, _, .bl true, 1, .bl true, rfl, rfl, SqL.of (upd_old hv upd_same), rfl, rfl, rfl, rfl, (fun m z' hm hz => by rcases m with _ | _ | _ | m <;> first | omega | (cases hz; rfl)), ?_⟩
        refine st_ixL (SqL.of upd_same) (atI_nat rfl) ?_
        walk_at "st"
        exact h3 _ ((Fr.up hu).new hv) _
      · refine ⟨u, _, .bl true, 2, .bl true, rfl, rfl, SqL.of (upd_old hv upd_same), rfl, rfl, rfl, rfl, (fun m z' hm hz => by rcases m with _ | _ | _ | m <;> first | omega | (cases hz; rfl)), ?_⟩
        refine st_ixL (SqL.of upd_same) (atI_nat rfl) ?_
        walk_at "st"
        exact h3 _ ((Fr.up hu).new hv) _
      · refine ⟨u, _, .bl true, 3, .bl true, rfl, rfl, SqL.of (upd_old hv upd_same), rfl, rfl, rfl, rfl, (fun m z' hm hz => by rcases m with _ | _ | _ | m <;> first | omega | (cases hz; rfl)), ?_⟩
        refine st_ixL (SqL.of upd_same) (atI_nat rfl) ?_
        walk_at "st"
        exact h3 _ ((Fr.up hu).new hv) _
    · refine ⟨fun pins s' σ H' D I h' => ?_⟩
      obtain ⟨x, y, z, i, hi, _, h1, h2, _⟩ := h'
      exact absurd ⟨i, hi, h1, h2⟩ hcd
  · walk_at "st"
    refine ⟨wordEnd Z Q, fun cls d σ' H' he hl => ?_, rfl, hc, ?_⟩
    · obtain ⟨i, hi, rfl, rfl, hq⟩ := he
      obtain ⟨x, y, z, t, rfl⟩ := len4 hl
      refine ⟨true, TE.em i hi, fun _ a ha => ⟨x, y, t, i, hi, rfl, rfl, rfl, fun H2 f2 z' => ?_⟩, fun z => nomatch z⟩
      show tRet (tVar 1) _ [x, some (.str (wordAt i)), none, z'] H2
      walk_at "st"
      exact hq _ f2
    · have e : ∀ D : Ends, D.rt = Q → (fun (_ : V) H' => tRet (tVar 1) D [some (.ref f), some (.str "told"), none, none] H') = fun _ H' => Q (.str "told") H' := by
        intro D hD
        subst hD
        funext v H'
        exact propext ⟨fun ⟨v, hv, q⟩ => by cases hv; exact q, fun q => ⟨_, rfl, q⟩⟩
      exact Eq.mpr (congrArg (tl (wordEnd Z Q) H) (e _ rfl)) h
end
end K39

namespace K39
open PySem PySem.Spec PyProof.Rows L2 Hq LamX
local macro_rules | `(tactic| walk_at "st1") => `(tactic| first
  | with_reducible refine st_seq ?_ | with_reducible refine st_ret ?_ | with_reducible refine st_ifS ?_ | with_reducible refine st_asg ?_ | with_reducible refine st_drop ?_
  | ((with_reducible refine' st_var ?hv ?_); (case hv => rfl)) | with_reducible refine st_c ?_ | with_reducible refine st_op ?_ | with_reducible refine st_un ?_
  | with_reducible refine st_I0 ?_ | with_reducible refine st_U ?_ | ((with_reducible refine' st_I ?hc ?_); (case hc => walk_at "side"))
  | ((with_reducible refine' st_eq ?hs ?_); (case hs => rfl)) | ((with_reducible refine' st_ne ?hs ?_); (case hs => rfl))
  | with_reducible refine st_test ?_ | with_reducible refine st_B ?_ | with_reducible refine st_bl ?_ | with_reducible refine st_isN ?_ | with_reducible refine st_notN ?_
  | with_reducible refine st_chain ?_ | with_reducible refine st_and ?_ | with_reducible refine st_or ?_ | with_reducible refine st_not ?_
  | with_reducible refine st_andV ?_ | with_reducible refine st_orV ?_ | with_reducible refine st_notV ?_ | with_reducible refine st_if ?_
  | with_reducible refine st_CB ?_ | with_reducible refine st_cons ?_ | with_reducible refine st_nil ?_ | with_reducible refine st_fld ?_
  | ((with_reducible refine st_tup ?_)) | ((with_reducible refine st_lst ?_))
  | with_reducible refine st_call ?_ | with_reducible refine st_meth ?_ | with_reducible refine st_make ?_
  | with_reducible refine st_sl ?_ | with_reducible refine st_noPart ?_ | with_reducible refine st_part ?_ | with_reducible refine st_int ?_
  | ((with_reducible refine' st_ixL ?hq ?he ?_); (case hq => walk_at "sqL"); (case he => walk_at "at"))
  | ((with_reducible refine' st_ixT ?hq ?he ?_); (case hq => walk_at "sqT"); (case he => walk_at "at"))
  | with_reducible refine st_bm ?_ | with_reducible refine st_app ?_
  | ((with_reducible refine' st_append ?hq ?hl ?_); (case hq => walk_at "hp"); (case hl => walk_at "line"))
  | ((with_reducible refine' st_len (n := 0) ?hq ?_); (case hq => first | exact Or.inl (by walk_at "sqL") | exact Or.inr (by walk_at "sqT")))
  | ((with_reducible refine' st_listOf ?hq ?_); (case hq => first | exact Or.inl (by walk_at "sqL") | exact Or.inr (by walk_at "sqT")))
  | ((with_reducible refine st_name ?_); (try dsimp only [List.set_cons_zero, List.set_cons_succ])) | with_reducible refine st_par ?_
  | with_reducible refine st_gcons ?_ | with_reducible refine st_gnil ?_ | with_reducible refine st_gsub ?_ | with_reducible refine st_sFld ?_
  | ((with_reducible refine' st_gtup ?hq ?hl ?_); (case hq => walk_at "sqT"); (case hl => rfl))
  | ((with_reducible refine' st_setL ?hq ?hl ?_); (case hq => walk_at "hp"); (case hl => first | rfl | exact ix0 | exact ixN_nat (by assumption)); (try simp only [Int.reduceToNat, List.set_cons_zero, List.set_cons_succ]))
  | with_reducible refine st_intI ?_ | with_reducible refine st_abs ?_
  | ((with_reducible refine' st_popAt ?hq ?hk ?hy ?_); (case hq => walk_at "hp"); (case hk => exact seq0); (case hy => rfl))
  | ((with_reducible refine' and_left ?ht ?_); (case ht => walk_at "ty"))
  | with_reducible refine st_lc ?_ | with_reducible refine st_for ?_ | with_reducible refine st_iL ?_ | with_reducible refine st_iT ?_ | with_reducible refine st_iR1 ?_ | with_reducible refine st_iR2 ?_ | with_reducible refine st_iZ ?_
  | ((with_reducible refine' st_refL ?hq ?_); (case hq => walk_at "sqL")) | ((with_reducible refine' st_refT ?hq ?_); (case hq => walk_at "sqT"))
  | ((with_reducible refine' st_rng1 ?hq ?_); (case hq => walk_at "side")) | ((with_reducible refine' st_rng2 ?hq ?_); (case hq => walk_at "side"))
  | ((with_reducible refine' st_zip ?hq ?hr ?_); (case hq => walk_at "sqb"); (case hr => walk_at "sqb"))
  | ((with_reducible refine' st_size ?hw ?_); (case hw => walk_at "line"))
  | ((with_reducible refine' st_sum ?hq ?_); (case hq => walk_at "sqL"))
  | with_reducible refine st_two ?_ | with_reducible refine st_yes ?_ | ((with_reducible refine' st_wipe ?hw ?_); (case hw => rfl))
  | ((with_reducible refine' st_slL ?hq ?_); (case hq => walk_at "sqL"))
  | ((with_reducible refine' st_cat ?hq ?hr ?hl ?_); (case hq => walk_at "hp"); (case hr => walk_at "hp"); (case hl => walk_at "line"))
  | ((with_reducible refine' st_isi ?hk ?he ?_); (case hk => walk_at "kd"); (case he => walk_at "kit"))
  | ((with_reducible refine' st_ins ?hq ?hc ?hn ?hl ?_); (case hq => walk_at "hp"); (case hc => with_reducible assumption); (case hn => with_reducible assumption); (case hl => walk_at "flen"); walk_at "puts")
  | ((with_reducible refine' st_att ?hq ?hc ?hn ?hl ?_); (case hq => walk_at "hp"); (case hc => with_reducible assumption); (case hn => with_reducible assumption); (case hl => walk_at "lk"))
  | ((with_reducible refine' st_mt ?hq ?hl ?_); (case hq => walk_at "hp"); (case hl => walk_at "lk"))
  | ((with_reducible refine' st_extend ?hq ?hr ?hl ?_); (case hq => walk_at "hp"); (case hr => walk_at "hp"); (case hl => walk_at "line"))
  | with_reducible refine st_next ?_ | with_reducible refine st_retN ?_ | (with_reducible refine iteNT ?_) | (with_reducible refine iteNF ?_) | (with_reducible refine iteT ?_) | (with_reducible refine iteF ?_))
local macro_rules | `(tactic| walk_at "side") => `(tactic| first | omega | decide | assumption | exact ⟨by omega, by omega⟩ | exact Or.inr ⟨by omega, by omega⟩ | exact Or.inl ⟨by omega, by omega⟩ | (simp only [List.length_map, List.length_cons, List.length_nil, List.length_append] at *; omega))
local macro_rules | `(tactic| walk_at "hp") => `(tactic| first | assumption | exact upd_same | refine upd_old (by assumption) (by walk_at "hp") | (rw [upd_ne (by first | assumption | exact Ne.symm (by assumption))]; walk_at "hp"))
local macro_rules | `(tactic| walk_at "sqL") => `(tactic| first | assumption | exact SqL.of (by walk_at "hp"))
local macro_rules | `(tactic| walk_at "sqT") => `(tactic| first | assumption | exact SqT.of (by walk_at "hp"))
local macro_rules | `(tactic| walk_at "sqb") => `(tactic| (unfold SqB; first | ((with_reducible change SqL _ _ _ _); walk_at "sqL") | ((with_reducible change SqT _ _ _ _); walk_at "sqT")))
local macro_rules | `(tactic| walk_at "line") => `(tactic| first | assumption | decide | (apply line_of; walk_at "side") | (apply line_lt; walk_at "side"))
local macro_rules | `(tactic| walk_at "ty") => `(tactic| ((with_reducible refine' ty_lst ?hq); (case hq => walk_at "hp")))
local macro_rules | `(tactic| walk_at "at") => `(tactic| with_reducible first | assumption | exact at0 | exact at1 | exact at2 | exact at3 | exact at4 | exact at5 | exact at6 | exact at7 | exact at8)
local macro_rules | `(tactic| walk_at "st") => `(tactic| (repeat walk_at "st1"))
local macro_rules | `(tactic| walk_at "lk") => `(tactic| first | with_reducible assumption | rfl)
local macro_rules | `(tactic| walk_at "kd") => `(tactic| first | exact .base (.int _) | exact .base .non | exact .base (.bl _) | exact .base (.str _) | exact .base (.tup (by walk_at "hp")) | exact .base (.lst (by walk_at "hp")) | exact .base (.dK (by walk_at "hp")) | exact .base (.dT (by walk_at "hp")))
local macro_rules | `(tactic| walk_at "kit") => `(tactic| with_reducible first
  | exact kit_NoneType_bool
  | exact kit_NoneType_int
  | exact kit_NoneType_str
  | exact kit_NoneType_tuple
  | exact kit_NoneType_list
  | exact kit_NoneType_dict
  | exact kit_bool_bool
  | exact kit_bool_int
  | exact kit_bool_str
  | exact kit_bool_tuple
  | exact kit_bool_list
  | exact kit_bool_dict
  | exact kit_int_bool
  | exact kit_int_int
  | exact kit_int_str
  | exact kit_int_tuple
  | exact kit_int_list
  | exact kit_int_dict
  | exact kit_str_bool
  | exact kit_str_int
  | exact kit_str_str
  | exact kit_str_tuple
  | exact kit_str_list
  | exact kit_str_dict
  | exact kit_tuple_bool
  | exact kit_tuple_int
  | exact kit_tuple_str
  | exact kit_tuple_tuple
  | exact kit_tuple_list
  | exact kit_tuple_dict
  | exact kit_list_bool
  | exact kit_list_int
  | exact kit_list_str
  | exact kit_list_tuple
  | exact kit_list_list
  | exact kit_list_dict
  | exact kit_dict_bool
  | exact kit_dict_int
  | exact kit_dict_str
  | exact kit_dict_tuple
  | exact kit_dict_list
  | exact kit_dict_dict)
local macro_rules | `(tactic| walk_at "flen") => `(tactic| decide)
local macro_rules | `(tactic| walk_at "puts") => `(tactic| skip)

local macro_rules | `(tactic| walk_at "st1") => `(tactic| first
  | with_reducible refine st_dc ?_ | with_reducible refine st_dgetS ?_ | with_reducible refine st_dinS ?_ | with_reducible refine st_dninS ?_ | with_reducible refine st_dputS ?_ | with_reducible refine st_newT ?_ | with_reducible refine iteNN ?_ | with_reducible refine iteYN ?_
  | ((with_reducible refine' st_getT ?hq ?hk ?hv ?_); (case hq => walk_at "hp"); (case hk => walk_at "key"); (case hv => with_reducible assumption))
  | ((with_reducible refine' st_inT ?hq ?hk ?_); (case hq => walk_at "hp"); (case hk => walk_at "key"))
  | ((with_reducible refine' st_ninT ?hq ?hk ?_); (case hq => walk_at "hp"); (case hk => walk_at "key"))
  | ((with_reducible refine' st_putT ?hq ?hk ?hl ?_); (case hq => walk_at "hp"); (case hk => walk_at "key"); (case hl => walk_at "line"))
  | ((with_reducible refine' st_cputT ?hq ?hk ?hl ?_); (case hq => walk_at "hp"); (case hk => walk_at "key"); (case hl => walk_at "line"))
  | ((with_reducible refine' st_ixB ?hq ?he ?_); (case hq => first | assumption | exact Or.inl (by walk_at "sqL") | exact Or.inr (by walk_at "sqT")); (case he => walk_at "at")))
local macro_rules | `(tactic| walk_at "key") => `(tactic| with_reducible assumption)

local macro_rules | `(tactic| walk_at "lk") => `(tactic| with_reducible first | assumption | exact DiskF_get_lying | exact DiskF_get_pending | exact DiskF_get_spoils | exact StoreF_get_disk | exact DiskF_no (by decide +kernel) (by decide +kernel) (by decide +kernel) | exact StoreF_no (by decide +kernel))
local macro_rules | `(tactic| walk_at "puts") => `(tactic| try simp only [DiskF_put_lying, DiskF_put_pending, DiskF_put_spoils, StoreF_put_disk, DiskF0_put, DiskF1_put, DiskF2_put, StoreF0_put])
local macro_rules | `(tactic| walk_at "flen") => `(tactic| first | with_reducible assumption | with_reducible (first | exact DiskF_len | exact StoreF_len | exact DiskF0_len | exact DiskF1_len | exact DiskF2_len | exact StoreF0_len) | decide)
section
variable {Z : Ads} {P : Program} {w : World} {K : PySem.W.Frag} {mg : Str → Option Value} {base : Heap}
/-! ### what is told of the disk and the store -/
def spState (Z : Ads) : Sp := fun vs H Q _ => ∃ (d l q s : Addr) (ls ps : List PyData), vs = [.ref d, .ref s] ∧ StoreAt Z.Store H s d ∧ DiskAt Z.Disk 0 H d l q ls ps ∧ ls.length + ps.length ≤ 1000 ∧ (∀ e ∈ ls, IsTr e) ∧ (∀ e ∈ ps, IsPr e) ∧
  ∀ H' t l1 d1 xs, H l1 = none → H d1 = none → H t = none → H' t = some (.tup [.ref l1, .int (ps.length : Nat), .ref d1]) → H' l1 = some (.lst xs) → TDs H' xs ls → TabAt H' d1 (tab (wholes ls ps)) → Fr [] H H' → Q (.ref t) H'
abbrev s_law_state : Stmt := top 84
theorem sc_law_state : FnScope ["disk", "store"] ["disk", "store"] (defScope s_law_state) := ⟨rfl, rfl, rfl, by decide +kernel, rfl, by decide +kernel, by decide +kernel⟩
theorem ok_law_state {f : Addr} {fd : FuncData} (F : Fun K "_law_state" "_law_state" s_law_state f fd) (T : Txt K mg Z) (M_Disk_words : Mn P w K mg base Z.Disk "words" 1 ["self"] (spWords Z.Disk)) (M_Disk_waiting : Mn P w K mg base Z.Disk "waiting" 1 ["self"] (spWaiting Z.Disk))
    (M_Store_found : Mn P w K mg base Z.Store "found" 3 ["self"] (spFound Z.Store Z.Disk)) : FnOk P w K mg base (L2.CX P w) 4 f fd ["disk", "store"] (spState Z) := by
  have cl := T.cl
  have clS := T.clS
  refine okN F sc_law_state (fun vs H Q E h => ?_) (fun cdv A outer s0 H vs Q E hr h => ?_)
  · obtain ⟨d, l, q, s, ls, ps, rfl, _⟩ := h
    rfl
  · obtain ⟨d, l, q, s, ls, ps, rfl, S, D, hsz, htr, hpr, k⟩ := h
    obtain ⟨dx, hd⟩ := D.ok
    obtain ⟨sx, hs⟩ := S.ok
    refine ⟨_, [some _, some _], rfl, (pss_one (ps_ret (pe_tup (pa_cons (pe_m0 M_Disk_words E0 (hr.mono (by first | decide | omega)) (pv 0) passL _) (pa_cons (pe_m0 M_Disk_waiting E0 (hr.mono (by first | decide | omega)) (pv 0) passL _) (pa_cons (pe_m0 M_Store_found E0 (hr.mono (by first | decide | omega)) (pv 1) passL _) pa_nil)))))), ?_⟩
    walk_at "st"
    refine ⟨0, d, l, q, ls, ps, rfl, D, fun H1 l1 xs hl0 hl1 tx f1 => ?_⟩
    have D1 := D.keep f1 List.not_mem_nil List.not_mem_nil List.not_mem_nil
    have S1 := S.keep f1 List.not_mem_nil
    have hd1 := f1.same _ _ hd
    have hs1 := f1.same _ _ hs
    walk_at "st"
    refine ⟨0, d, l, q, ls, ps, rfl, D1, ?_⟩
    walk_at "st"
    refine ⟨s, d, l, q, ls, ps, rfl, S1, D1, by omega, htr, hpr, fun H2 d1 hd0 td f2 => ?_⟩
    walk_at "st"
    intro t ht
    have f3 : Fr [] H2 (upd H2 t (.tup [.ref l1, .int (ps.length : Nat), .ref d1])) := Fr.up ht
    have f12 := f1.trans f2
    exact k _ t l1 d1 xs hl0 (f1.free hd0) (f12.free ht) upd_same ((f2.trans f3).same _ _ hl1) (TDs.mono (f2.trans f3).tup _ _ tx) (td.keep f3 List.not_mem_nil) (f12.trans f3)
theorem extN_tp {H H' : Hp} (e : ExtN H H') : Tp H H' := fun a xs h => e a _ h (fun ps z => nomatch z)
theorem Pot.ext {H H' : Hp} {p g m : Addr} (h : Pot H p g m) (e : ExtN H H') : Pot H' p g m := by
  obtain ⟨⟨gs, ss, t, c, h1, h2, h3, h4⟩, a, b, c'⟩ := h
  exact ⟨⟨gs, ss, t, c, e _ _ h1 (fun _ z => nomatch z), e _ _ h2 (fun _ z => nomatch z), e _ _ h3 (fun _ z => nomatch z), h4⟩, a, b, c'⟩
/-- a list or an instance -/
def Soft (o : HO) : Prop := (∃ xs, o = .lst xs) ∨ ∃ C dx fs, o = .ins C dx fs
theorem tabs_fr {Tb : List (Addr × Str)} {H H' : Hp} {ms : List Addr} (t : Tabs Tb H) (f : Fr ms H H') (hm : ∀ x ∈ ms, ∃ o, H x = some o ∧ Soft o) : Tabs Tb H' := by
  intro pr hpr
  obtain ⟨ps, h1, h2, h3⟩ := t pr hpr
  refine ⟨ps, f.keep _ _ (fun hx => ?_) h1, h2, fun pos cv hc => ?_⟩
  · obtain ⟨o, ho, n1⟩ := hm _ hx
    rw [h1] at ho
    cases ho
    rcases n1 with ⟨_, z⟩ | ⟨_, _, _, z⟩ <;> exact nomatch z
  · obtain ⟨c, e1, e2⟩ := h3 pos cv hc
    refine ⟨c, e1, f.keep _ _ (fun hx => ?_) e2⟩
    obtain ⟨o, ho, n1⟩ := hm _ hx
    rw [e2] at ho
    cases ho
    rcases n1 with ⟨_, z⟩ | ⟨_, _, _, z⟩ <;> exact nomatch z
theorem pot_soft {H : Hp} {p g m : Addr} (h : Pot H p g m) : ∀ x ∈ [p, g], ∃ o, H x = some o ∧ Soft o := by
  obtain ⟨⟨gs, ss, t, c, h1, h2, h3, h4⟩, _, _, _⟩ := h
  intro x hx
  simp only [List.mem_cons, List.not_mem_nil, or_false] at hx
  rcases hx with rfl | rfl
  · exact ⟨_, h1, .inl ⟨_, rfl⟩⟩
  · exact ⟨_, h2, .inl ⟨_, rfl⟩⟩
theorem disk_soft {C : Addr} {n : Int} {H : Hp} {d l q : Addr} {ls ps : List PyData} (D : DiskAt C n H d l q ls ps) : ∀ x ∈ [d, l, q], ∃ o, H x = some o ∧ Soft o := by
  obtain ⟨⟨dx, hd⟩, ⟨xl, hl, _⟩, ⟨xq, hq, _⟩, _⟩ := D
  intro x hx
  simp only [List.mem_cons, List.not_mem_nil, or_false] at hx
  rcases hx with rfl | rfl | rfl
  · exact ⟨_, hd, .inr ⟨_, _, _, rfl⟩⟩
  · exact ⟨_, hl, .inl ⟨_, rfl⟩⟩
  · exact ⟨_, hq, .inl ⟨_, rfl⟩⟩
theorem DiskAt.keepB {C : Addr} {n : Int} {B : List Addr} {H H' : Hp} {d l q : Addr} {ls ps : List PyData} (D : DiskAt C n H d l q ls ps) (k : KeepB B H H') (t : Tp H H') (h1 : d ∉ B) (h2 : l ∉ B) (h3 : q ∉ B) : DiskAt C n H' d l q ls ps := by
  obtain ⟨⟨dx, hd⟩, ⟨xs, hl, tl⟩, ⟨ys, hq, tq⟩, lq⟩ := D
  exact ⟨⟨dx, k _ _ h1 hd (fun _ z => nomatch z)⟩, ⟨xs, k _ _ h2 hl (fun _ z => nomatch z), TDs.mono t _ _ tl⟩, ⟨ys, k _ _ h3 hq (fun _ z => nomatch z), TDs.mono t _ _ tq⟩, lq⟩
/-- all that the law holds behind the first look -/
structure LawSt (Tb : List (Addr × Str)) (K : PySem.W.Frag) (Z : Ads) (B : List Addr) (H : Hp) (p g m d l q s t1 l1 d1 : Addr) (ls ps : List PyData) (xs1 : List V) (kv tv : V) (kd td : JD) : Prop where
  pot : Pot H p g m
  disk : DiskAt Z.Disk 0 H d l q ls ps
  store : StoreAt Z.Store H s d
  tabs : Tabs Tb H
  st : H t1 = some (.tup [.ref l1, .int (ps.length : Nat), .ref d1])
  sl : H l1 = some (.lst xs1)
  sx : TDs H xs1 ls
  sd : TabAt H d1 (tab (wholes ls ps))
  key : AD K (usOf Z.Exchange) B H kv kd
  thing : AD K (usOf Z.Exchange) B H tv td
  out : ∀ x ∈ [d, l, q, s, l1, d1], x ∉ B
section
variable {Tb : List (Addr × Str)} {B : List Addr} {H H' : Hp} {p g m d l q s t1 l1 d1 : Addr} {ls ps : List PyData} {xs1 : List V} {kv tv : V} {kd td : JD}
theorem LawSt.step (L : LawSt Tb K Z B H p g m d l q s t1 l1 d1 ls ps xs1 kv tv kd td) (k : KeepB B H H') (t : Tp H H') (hP : Pot H' p g m) (hT : Tabs Tb H') : LawSt Tb K Z B H' p g m d l q s t1 l1 d1 ls ps xs1 kv tv kd td := by
  obtain ⟨sx, hs⟩ := L.store
  obtain ⟨kvs, h1, h2⟩ := L.sd
  exact ⟨hP, L.disk.keepB k t (L.out d (by simp)) (L.out l (by simp)) (L.out q (by simp)), ⟨sx, k _ _ (L.out s (by simp)) hs (fun _ z => nomatch z)⟩, hT, t _ _ L.st, k _ _ (L.out l1 (by simp)) L.sl (fun _ z => nomatch z), TDs.mono t _ _ L.sx,
    ⟨kvs, k _ _ (L.out d1 (by simp)) h1 (fun _ z => nomatch z), h2.mono t⟩, AD.mono t k _ _ L.key, AD.mono t k _ _ L.thing, L.out⟩
theorem LawSt.ext (L : LawSt Tb K Z B H p g m d l q s t1 l1 d1 ls ps xs1 kv tv kd td) (e : ExtN H H') (hT : Tabs Tb H') : LawSt Tb K Z B H' p g m d l q s t1 l1 d1 ls ps xs1 kv tv kd td := L.step (keepB_ext e) (extN_tp e) (L.pot.ext e) hT
theorem LawSt.fr (L : LawSt Tb K Z B H p g m d l q s t1 l1 d1 ls ps xs1 kv tv kd td) (f : Fr [] H H') : LawSt Tb K Z B H' p g m d l q s t1 l1 d1 ls ps xs1 kv tv kd td := L.step (f.keepB (by simp)) f.tup (L.pot.keep f) (L.tabs.ext f.same)
theorem LawSt.drawn (L : LawSt Tb K Z B H p g m d l q s t1 l1 d1 ls ps xs1 kv tv kd td) (f : Fr [p, g] H H') (hB : ∀ x ∈ [p, g], x ∈ B) (hP : Pot H' p g m) : LawSt Tb K Z B H' p g m d l q s t1 l1 d1 ls ps xs1 kv tv kd td := L.step (f.keepB hB) f.tup hP (tabs_fr L.tabs f (pot_soft L.pot))
/-- the list of words is written -/
theorem LawSt.app {W : Addr} {xs ys : List V} (L : LawSt Tb K Z B H p g m d l q s t1 l1 d1 ls ps xs1 kv tv kd td) (hW : H W = some (.lst xs)) (hB : W ∈ B) (n : W ≠ p ∧ W ≠ g ∧ W ≠ m) : LawSt Tb K Z B (upd H W (.lst ys)) p g m d l q s t1 l1 d1 ls ps xs1 kv tv kd td := by
  have f : Fr [W] H (upd H W (.lst ys)) := (Fr.refl H).wl hW (.inl (by simp))
  exact L.step (f.keepB (by simpa using hB)) f.tup (L.pot.wr hW n) (tabs_fr L.tabs f fun x hx => by rw [List.mem_singleton.mp hx]; exact ⟨_, hW, .inl ⟨_, rfl⟩⟩)
end
mutual
theorem AD.more {us : List Value} {B : List Addr} {H : Hp} {W : Addr} (h0 : H W = none) : ∀ (d : JD) (v : V), AD K us B H v d → AD K us (W :: B) H v d
  | .none, _, h => by cases h; exact .non
  | .bool _, _, h => by cases h; exact .bl _
  | .int _, _, h => by cases h; exact .int _
  | .str _, _, h => by cases h; exact .str _
  | .tuple ds, _, h => by
    cases h with
    | tup e hs => exact .tup e (ADs.more h0 ds _ hs)
  | .other, _, h => by
    cases h with
    | oth e n o us => exact .oth e (fun z => (List.mem_cons.mp z).elim (ne_of_none e h0) n) o us
theorem ADs.more {us : List Value} {B : List Addr} {H : Hp} {W : Addr} (h0 : H W = none) : ∀ (ds : List JD) (vs : List V), ADs K us B H vs ds → ADs K us (W :: B) H vs ds
  | [], _, h => by cases h; exact .nil
  | d :: ds, _, h => by
    cases h with
    | cons a b => exact .cons (AD.more h0 d _ a) (ADs.more h0 ds _ b)
end
theorem LawSt.more {Tb : List (Addr × Str)} {B : List Addr} {H : Hp} {p g m d l q s t1 l1 d1 W : Addr} {ls ps : List PyData} {xs1 : List V} {kv tv : V} {kd td : JD} (L : LawSt Tb K Z B H p g m d l q s t1 l1 d1 ls ps xs1 kv tv kd td) (h0 : H W = none) :
    LawSt Tb K Z (W :: B) H p g m d l q s t1 l1 d1 ls ps xs1 kv tv kd td := by
  refine ⟨L.pot, L.disk, L.store, L.tabs, L.st, L.sl, L.sx, L.sd, AD.more h0 _ _ L.key, AD.more h0 _ _ L.thing, fun x hx z => ?_⟩
  obtain ⟨dx, hd⟩ := L.disk.ok
  obtain ⟨xl, hl, _⟩ := L.disk.lie
  obtain ⟨xq, hq, _⟩ := L.disk.pen
  obtain ⟨sx, hs⟩ := L.store.ok
  obtain ⟨kvs, h1, _⟩ := L.sd
  have live : ∃ o, H x = some o := by
    simp only [List.mem_cons, List.not_mem_nil, or_false] at hx
    rcases hx with rfl | rfl | rfl | rfl | rfl | rfl
    · exact ⟨_, hd⟩
    · exact ⟨_, hl⟩
    · exact ⟨_, hq⟩
    · exact ⟨_, hs⟩
    · exact ⟨_, L.sl⟩
    · exact ⟨_, h1⟩
  obtain ⟨o, ho⟩ := live
  rcases List.mem_cons.mp z with e | z
  · exact ne_of_none ho h0 e
  · exact L.out x hx z
/-- the def that is handed a lambda -/
structure WordDef (K : PySem.W.Frag) (mg : Str → Option Value) : Prop where
  ok : ∃ (g : Addr) (oc : Value) (od : Option Addr) (kV doc pm : Value) (an : Option Addr) (cdv ct : Value) (osl : Array (Option Value)), mg "_law_word" = some (.ref g) ∧ PySem.W.keepIn K (.ref g) = true ∧
    K.lookup g = some ⟨oc, od, .func (PySem.W.fnOf "_law_word" "_law_word" (defArgs s_law_word) (defBody s_law_word) (defScope s_law_word) .none kV doc pm an cdv ct), osl⟩ ∧ PySem.W.codeIn K cdv "_law_word" = true ∧
    L2.Binds K (PySem.W.fnOf "_law_word" "_law_word" (defArgs s_law_word) (defBody s_law_word) (defScope s_law_word) .none kV doc pm an cdv ct) ["call"] []
theorem pe_word {X : Cx} {Tb : List (Addr × Str)} {c Pt : Addr} {k : Nat} {params : Arguments} {body : Expr} {scope : Scope} {t : XK → TE} {p lpos pos : Pos} (W : WordDef X.K X.mg) (T : Txt X.K X.mg Z) (TE : TxE X.K Z) (hg : Gl X "_law_word")
    {qn : Str} (TB : TabB X.base X.mg c Pt) (hcode : X.env.code = .ref c) (hqn : X.env.qual = qn) (hmT : (Pt, qn ++ "<lambda>") ∈ Tb) (hu : ∀ p ∈ Tb, p.1 = Pt → p.2 = qn ++ "<lambda>") (hr : Room (k + 2) X.A) (L : LamS X.env.scope scope)
    (hbody : ∀ (A : Around) (outer : List Env) (s : Shared) (H : Hp) (E : XK) (f c' : Addr), Room k (A.deeper (lamEnv X scope s.heap.objs.size f c')) → PE (lamCx X A outer s H E scope f c') body (t E))
    (hdef : defaultsOf params X.env = ([], []) := by rfl)
    (hbind : ∀ (q : Str) (cl : List (Str × Addr)) (pm cv ctv : Value), bindArgs (PySem.W.kla_fn "<lambda>" q params body scope cl pm cv ctv) ⟨[], []⟩ = pure [] := by intro _ _ _ _ _; rfl) :
    PE X (.Call (.Name "_law_word" p) [.Lambda params body scope lpos] [] pos) (tLam Tb (TWord Z) t) := by
  subst hqn
  obtain ⟨g, oc, od, kV, doc, pm, an, cdv, ct, osl, hm, hk, lk, hcg, hb⟩ := W.ok
  exact pe_lamcall (Ng := ["call", "found", "e", "flags"]) hg hm hk lk hcg hb sc_law_word rfl (.inl rfl) (word_gives T TE) TB hcode hmT hu hr L hdef hbind hbody
/-- a def whose own code is told -/
theorem okL {P : Program} {w : World} {K : PySem.W.Frag} {mg : Str → Option Value} {base : Heap} {x qual : Str} {st : Stmt} {f : Addr} {N ps : List Str} {k : Nat} {sp : Sp} {oc : Value} {od : Option Addr} {kV doc pm : Value} {an : Option Addr} {cdv ct : Value} {osl : Array (Option Value)}
    (lk : K.lookup f = some ⟨oc, od, .func (PySem.W.fnOf x qual (defArgs st) (defBody st) (defScope st) .none kV doc pm an cdv ct), osl⟩) (hcd : PySem.W.codeIn K cdv qual = true) (S : FnScope N ps (defScope st)) (len : ∀ vs H Q E, sp vs H Q E → vs.length = ps.length)
    (hb : ∀ (A : Around) (outer : List Env) (s : Shared) (H : Hp) (vs : List V) (Q : VK) (E : XK), Room k (A.deeper (envOfC qual (defScope st) s.heap.objs.size f cdv)) → sp vs H Q E →
      ∃ t σ, L2.start N vs = σ ∧ PSs (cxOf (L2.CX P w) P w K mg base N qual (defScope st) f cdv A outer s H E).nox (defBody st) t ∧ t { nx := fun _ H' => Q .non H', rt := Q } σ H) :
    FnOk P w K mg base (L2.CX P w) (k + 1) f (PySem.W.fnOf x qual (defArgs st) (defBody st) (defScope st) .none kV doc pm an cdv ct) ps sp :=
  fn_of lk hcd S len fun A outer s H vs Q E hr hs => by
    obtain ⟨t, σ, e, h, q⟩ := hb A outer s H vs Q E hr hs
    cases e
    exact ⟨t, h.nox, q⟩
end
end K39

namespace K39
open PySem PySem.Spec PyProof.Rows L2 Hq LamX
local macro_rules | `(tactic| walk_at "st1") => `(tactic| first
  | with_reducible refine st_seq ?_ | with_reducible refine st_ret ?_ | with_reducible refine st_ifS ?_ | with_reducible refine st_asg ?_ | with_reducible refine st_drop ?_
  | ((with_reducible refine' st_var ?hv ?_); (case hv => rfl)) | with_reducible refine st_c ?_ | with_reducible refine st_op ?_ | with_reducible refine st_un ?_
  | with_reducible refine st_I0 ?_ | with_reducible refine st_U ?_ | ((with_reducible refine' st_I ?hc ?_); (case hc => walk_at "side"))
  | ((with_reducible refine' st_eq ?hs ?_); (case hs => rfl)) | ((with_reducible refine' st_ne ?hs ?_); (case hs => rfl))
  | with_reducible refine st_test ?_ | with_reducible refine st_B ?_ | with_reducible refine st_bl ?_ | with_reducible refine st_isN ?_ | with_reducible refine st_notN ?_
  | with_reducible refine st_chain ?_ | with_reducible refine st_and ?_ | with_reducible refine st_or ?_ | with_reducible refine st_not ?_
  | with_reducible refine st_andV ?_ | with_reducible refine st_orV ?_ | with_reducible refine st_notV ?_ | with_reducible refine st_if ?_
  | with_reducible refine st_CB ?_ | with_reducible refine st_cons ?_ | with_reducible refine st_nil ?_ | with_reducible refine st_fld ?_
  | ((with_reducible refine st_tup ?_)) | ((with_reducible refine st_lst ?_))
  | with_reducible refine st_call ?_ | with_reducible refine st_meth ?_ | with_reducible refine st_make ?_
  | with_reducible refine st_sl ?_ | with_reducible refine st_noPart ?_ | with_reducible refine st_part ?_ | with_reducible refine st_int ?_
  | ((with_reducible refine' st_ixL ?hq ?he ?_); (case hq => walk_at "sqL"); (case he => walk_at "at"))
  | ((with_reducible refine' st_ixT ?hq ?he ?_); (case hq => walk_at "sqT"); (case he => walk_at "at"))
  | with_reducible refine st_bm ?_ | with_reducible refine st_app ?_
  | ((with_reducible refine' st_append ?hq ?hl ?_); (case hq => walk_at "hp"); (case hl => walk_at "line"))
  | ((with_reducible refine' st_len (n := 0) ?hq ?_); (case hq => first | exact Or.inl (by walk_at "sqL") | exact Or.inr (by walk_at "sqT")))
  | ((with_reducible refine' st_listOf ?hq ?_); (case hq => first | exact Or.inl (by walk_at "sqL") | exact Or.inr (by walk_at "sqT")))
  | ((with_reducible refine st_name ?_); (try dsimp only [List.set_cons_zero, List.set_cons_succ])) | with_reducible refine st_par ?_
  | with_reducible refine st_gcons ?_ | with_reducible refine st_gnil ?_ | with_reducible refine st_gsub ?_ | with_reducible refine st_sFld ?_
  | ((with_reducible refine' st_gtup ?hq ?hl ?_); (case hq => walk_at "sqT"); (case hl => rfl))
  | ((with_reducible refine' st_setL ?hq ?hl ?_); (case hq => walk_at "hp"); (case hl => first | rfl | exact ix0 | exact ixN_nat (by assumption)); (try simp only [Int.reduceToNat, List.set_cons_zero, List.set_cons_succ]))
  | with_reducible refine st_intI ?_ | with_reducible refine st_abs ?_
  | ((with_reducible refine' st_popAt ?hq ?hk ?hy ?_); (case hq => walk_at "hp"); (case hk => exact seq0); (case hy => rfl))
  | ((with_reducible refine' and_left ?ht ?_); (case ht => walk_at "ty"))
  | with_reducible refine st_lc ?_ | with_reducible refine st_for ?_ | with_reducible refine st_iL ?_ | with_reducible refine st_iT ?_ | with_reducible refine st_iR1 ?_ | with_reducible refine st_iR2 ?_ | with_reducible refine st_iZ ?_
  | ((with_reducible refine' st_refL ?hq ?_); (case hq => walk_at "sqL")) | ((with_reducible refine' st_refT ?hq ?_); (case hq => walk_at "sqT"))
  | ((with_reducible refine' st_rng1 ?hq ?_); (case hq => walk_at "side")) | ((with_reducible refine' st_rng2 ?hq ?_); (case hq => walk_at "side"))
  | ((with_reducible refine' st_zip ?hq ?hr ?_); (case hq => walk_at "sqb"); (case hr => walk_at "sqb"))
  | ((with_reducible refine' st_size ?hw ?_); (case hw => walk_at "line"))
  | ((with_reducible refine' st_sum ?hq ?_); (case hq => walk_at "sqL"))
  | with_reducible refine st_two ?_ | with_reducible refine st_yes ?_ | ((with_reducible refine' st_wipe ?hw ?_); (case hw => rfl))
  | ((with_reducible refine' st_slL ?hq ?_); (case hq => walk_at "sqL"))
  | ((with_reducible refine' st_cat ?hq ?hr ?hl ?_); (case hq => walk_at "hp"); (case hr => walk_at "hp"); (case hl => walk_at "line"))
  | ((with_reducible refine' st_isi ?hk ?he ?_); (case hk => walk_at "kd"); (case he => walk_at "kit"))
  | ((with_reducible refine' st_ins ?hq ?hc ?hn ?hl ?_); (case hq => walk_at "hp"); (case hc => with_reducible assumption); (case hn => with_reducible assumption); (case hl => walk_at "flen"); walk_at "puts")
  | ((with_reducible refine' st_att ?hq ?hc ?hn ?hl ?_); (case hq => walk_at "hp"); (case hc => with_reducible assumption); (case hn => with_reducible assumption); (case hl => walk_at "lk"))
  | ((with_reducible refine' st_mt ?hq ?hl ?_); (case hq => walk_at "hp"); (case hl => walk_at "lk"))
  | ((with_reducible refine' st_extend ?hq ?hr ?hl ?_); (case hq => walk_at "hp"); (case hr => walk_at "hp"); (case hl => walk_at "line"))
  | with_reducible refine st_next ?_ | with_reducible refine st_retN ?_ | (with_reducible refine iteNT ?_) | (with_reducible refine iteNF ?_) | (with_reducible refine iteT ?_) | (with_reducible refine iteF ?_))
local macro_rules | `(tactic| walk_at "side") => `(tactic| first | omega | decide | assumption | exact ⟨by omega, by omega⟩ | exact Or.inr ⟨by omega, by omega⟩ | exact Or.inl ⟨by omega, by omega⟩ | (simp only [List.length_map, List.length_cons, List.length_nil, List.length_append] at *; omega))
local macro_rules | `(tactic| walk_at "hp") => `(tactic| first | assumption | exact upd_same | refine upd_old (by assumption) (by walk_at "hp") | (rw [upd_ne (by first | assumption | exact Ne.symm (by assumption))]; walk_at "hp"))
local macro_rules | `(tactic| walk_at "sqL") => `(tactic| first | assumption | exact SqL.of (by walk_at "hp"))
local macro_rules | `(tactic| walk_at "sqT") => `(tactic| first | assumption | exact SqT.of (by walk_at "hp"))
local macro_rules | `(tactic| walk_at "sqb") => `(tactic| (unfold SqB; first | ((with_reducible change SqL _ _ _ _); walk_at "sqL") | ((with_reducible change SqT _ _ _ _); walk_at "sqT")))
local macro_rules | `(tactic| walk_at "line") => `(tactic| first | assumption | decide | (apply line_of; walk_at "side") | (apply line_lt; walk_at "side"))
local macro_rules | `(tactic| walk_at "ty") => `(tactic| ((with_reducible refine' ty_lst ?hq); (case hq => walk_at "hp")))
local macro_rules | `(tactic| walk_at "at") => `(tactic| with_reducible first | assumption | exact at0 | exact at1 | exact at2 | exact at3 | exact at4 | exact at5 | exact at6 | exact at7 | exact at8)
local macro_rules | `(tactic| walk_at "st") => `(tactic| (repeat walk_at "st1"))
local macro_rules | `(tactic| walk_at "lk") => `(tactic| first | with_reducible assumption | rfl)
local macro_rules | `(tactic| walk_at "kd") => `(tactic| first | exact .base (.int _) | exact .base .non | exact .base (.bl _) | exact .base (.str _) | exact .base (.tup (by walk_at "hp")) | exact .base (.lst (by walk_at "hp")) | exact .base (.dK (by walk_at "hp")) | exact .base (.dT (by walk_at "hp")))
local macro_rules | `(tactic| walk_at "kit") => `(tactic| with_reducible first
  | exact kit_NoneType_bool
  | exact kit_NoneType_int
  | exact kit_NoneType_str
  | exact kit_NoneType_tuple
  | exact kit_NoneType_list
  | exact kit_NoneType_dict
  | exact kit_bool_bool
  | exact kit_bool_int
  | exact kit_bool_str
  | exact kit_bool_tuple
  | exact kit_bool_list
  | exact kit_bool_dict
  | exact kit_int_bool
  | exact kit_int_int
  | exact kit_int_str
  | exact kit_int_tuple
  | exact kit_int_list
  | exact kit_int_dict
  | exact kit_str_bool
  | exact kit_str_int
  | exact kit_str_str
  | exact kit_str_tuple
  | exact kit_str_list
  | exact kit_str_dict
  | exact kit_tuple_bool
  | exact kit_tuple_int
  | exact kit_tuple_str
  | exact kit_tuple_tuple
  | exact kit_tuple_list
  | exact kit_tuple_dict
  | exact kit_list_bool
  | exact kit_list_int
  | exact kit_list_str
  | exact kit_list_tuple
  | exact kit_list_list
  | exact kit_list_dict
  | exact kit_dict_bool
  | exact kit_dict_int
  | exact kit_dict_str
  | exact kit_dict_tuple
  | exact kit_dict_list
  | exact kit_dict_dict)
local macro_rules | `(tactic| walk_at "flen") => `(tactic| decide)
local macro_rules | `(tactic| walk_at "puts") => `(tactic| skip)

local macro_rules | `(tactic| walk_at "st1") => `(tactic| first
  | with_reducible refine st_dc ?_ | with_reducible refine st_dgetS ?_ | with_reducible refine st_dinS ?_ | with_reducible refine st_dninS ?_ | with_reducible refine st_dputS ?_ | with_reducible refine st_newT ?_ | with_reducible refine iteNN ?_ | with_reducible refine iteYN ?_
  | ((with_reducible refine' st_getT ?hq ?hk ?hv ?_); (case hq => walk_at "hp"); (case hk => walk_at "key"); (case hv => with_reducible assumption))
  | ((with_reducible refine' st_inT ?hq ?hk ?_); (case hq => walk_at "hp"); (case hk => walk_at "key"))
  | ((with_reducible refine' st_ninT ?hq ?hk ?_); (case hq => walk_at "hp"); (case hk => walk_at "key"))
  | ((with_reducible refine' st_putT ?hq ?hk ?hl ?_); (case hq => walk_at "hp"); (case hk => walk_at "key"); (case hl => walk_at "line"))
  | ((with_reducible refine' st_cputT ?hq ?hk ?hl ?_); (case hq => walk_at "hp"); (case hk => walk_at "key"); (case hl => walk_at "line"))
  | ((with_reducible refine' st_ixB ?hq ?he ?_); (case hq => first | assumption | exact Or.inl (by walk_at "sqL") | exact Or.inr (by walk_at "sqT")); (case he => walk_at "at")))
local macro_rules | `(tactic| walk_at "key") => `(tactic| with_reducible assumption)

local macro_rules | `(tactic| walk_at "lk") => `(tactic| with_reducible first | assumption | exact DiskF_get_lying | exact DiskF_get_pending | exact DiskF_get_spoils | exact StoreF_get_disk | exact DiskF_no (by decide +kernel) (by decide +kernel) (by decide +kernel) | exact StoreF_no (by decide +kernel))
local macro_rules | `(tactic| walk_at "puts") => `(tactic| try simp only [DiskF_put_lying, DiskF_put_pending, DiskF_put_spoils, StoreF_put_disk, DiskF0_put, DiskF1_put, DiskF2_put, StoreF0_put])
local macro_rules | `(tactic| walk_at "flen") => `(tactic| first | with_reducible assumption | with_reducible (first | exact DiskF_len | exact StoreF_len | exact DiskF0_len | exact DiskF1_len | exact DiskF2_len | exact StoreF0_len) | decide)
section
variable {Z : Ads} {P : Program} {w : World} {K : PySem.W.Frag} {mg : Str → Option Value} {base : Heap}
def spLaw (Tb : List (Addr × Str)) (K : PySem.W.Frag) : Sp := fun vs H Q _ => ∃ (a : Addr) (ns : List Int), vs = [.ref a] ∧ SqL K H a (ns.map V.int) ∧ ns.length ≤ 63 ∧ Tabs Tb H ∧ ∀ H', Q (.bl true) H'
abbrev s_law : Stmt := top 85
theorem sc_law : FnScope ["script", "pot", "disk", "turn", "store", "state", "many", "key", "thing", "sealed", "words", "hows", "lying", "place", "good"] ["script"] (defScope s_law) := ⟨rfl, rfl, rfl, by decide +kernel, rfl, by decide +kernel, by decide +kernel⟩
structure OkL (e : PyData) : Prop where
  lay : e.canLay0 = true
  dep : e.depth ≤ 20
theorem okl_all : ∀ {ls : List PyData}, (∀ e ∈ ls, OkL e) → PyData.canLayAll0 ls = true ∧ PyData.depthAll ls ≤ 20
  | [], _ => ⟨rfl, Nat.zero_le _⟩
  | d :: ds, h => by
    obtain ⟨a, b⟩ := h d (by simp)
    obtain ⟨a2, b2⟩ := okl_all fun e he => h e (List.mem_cons_of_mem _ he)
    simp only [PyData.canLayAll0, PyData.depthAll, a, a2, Bool.and_self, true_and]
    omega
theorem okl_shaped {ls : List PyData} (h : ∀ e ∈ ls, OkL e) : SeqAt.shaped (.list ls) = true := by
  obtain ⟨a, b⟩ := okl_all h
  have h1 : PyData.canLay0 (.list ls) = true := by simpa only [PyData.canLay0] using a
  have h2 : PyData.depth (.list ls) ≤ 64 := by
    simp only [PyData.depth]
    omega
  unfold SeqAt.shaped
  rw [h1, decide_eq_true h2]
  rfl
theorem key_okl {k : PyData} (h : KeyD k) : k.canLay0 = true ∧ k.depth ≤ 12 := by
  obtain ⟨ds, rfl, h0, h3, hk⟩ := h
  obtain ⟨a, b⟩ := okl_all (ls := ds) fun e he => by
    rcases hk e he with ⟨x, rfl, hx⟩ | ⟨n, _, rfl⟩
    · exact ⟨hx, Nat.zero_le _⟩
    · exact ⟨rfl, Nat.zero_le _⟩
  have b' : PyData.depthAll ds ≤ 10 := by
    have all : ∀ ds : List PyData, (∀ e ∈ ds, KPart e) → PyData.depthAll ds = 0 := by
      intro ds
      induction ds with
      | nil => intro _; rfl
      | cons d ds ih =>
        intro h
        have a2 := ih fun e he => h e (List.mem_cons_of_mem _ he)
        have ab : d.depth = 0 := by
          rcases h d (by simp) with ⟨x, rfl, hx⟩ | ⟨n, _, rfl⟩ <;> rfl
        simp only [PyData.depthAll, ab, a2]
        omega
    rw [all ds hk]
    exact Nat.zero_le _
  refine ⟨by simpa only [PyData.canLay0] using a, ?_⟩
  simp only [PyData.depth]
  omega
theorem tr_okl {e : PyData} (h : IsTr e) : OkL e := by
  obtain ⟨k, v, b, rfl, hk, hv⟩ := h
  obtain ⟨a, c⟩ := key_okl hk
  have d := hv.dep
  refine ⟨?_, ?_⟩
  · simp only [PyData.canLay0, PyData.canLayAll0, a, hv.lay, Bool.and_self]
  · simp only [PyData.depth, PyData.depthAll]
    omega
theorem lookD_put {ms : Dd} {k : List Key} {d : PyData} : lookD (putD ms k d) k = some d := by
  unfold putD
  by_cases q : (ms.any fun m => decide (m.1 = k)) = true
  · rw [if_pos q]
    unfold lookD
    induction ms with
    | nil => exact nomatch q
    | cons m ms ih =>
      rw [List.map_cons]
      by_cases e : m.1 = k
      · rw [if_pos e, List.find?_cons_of_pos (by simp [e])]
        rfl
      · rw [if_neg e, List.find?_cons_of_neg (by simp [e])]
        refine ih ?_
        rw [List.any_cons, decide_eq_false e, Bool.false_or] at q
        exact q
  · rw [if_neg q]
    unfold lookD
    rw [List.find?_append, List.find?_eq_none.mpr fun m hm z => q (List.any_eq_true.mpr ⟨m, hm, z⟩)]
    simp
theorem st_repN {K : PySem.W.Frag} {H : Hp} {l : Addr} {k : Nat} {xs : List V} {Q : VK} (h : H l = some (.tup xs)) (ne : xs ≠ []) (hk : k ≤ 1000) (hl : xs.length ≤ 1000) (q : ∀ H' u, Fr [] H H' → H' u = some (.tup (List.replicate k xs).flatten) → Q (.ref u) H') : rRepN K (.ref l) (.int k) H Q := by
  refine ⟨l, k, xs, rfl, rfl, SqT.of h, ne, hk, hl, fun e => ?_, fun _ p hp => q _ p (Fr.up hp) upd_same⟩
  subst e
  refine q H l (Fr.refl H) ?_
  rw [h]
  simp
theorem st_dget2 {td ty tx : TE} {σ : L2.St} {H : Hp} {Q : VK} (q : td σ H fun x H1 => ∃ a, x = .ref a ∧ IsD H1 a ∧ ty σ H1 fun y H2 => tx σ H2 fun z H3 => ∃ o, DGet H3 a y o ∧ Q (o.getD z) H3) : tDGet2 td ty tx σ H Q := q
def goodK : PyData := .tuple [.str "good", .int 1]
theorem goodKey : KeyD goodK := ⟨_, rfl, by decide, by decide, fun e he => by
  simp only [List.mem_cons, List.not_mem_nil, or_false] at he
  rcases he with rfl | rfl
  · exact .inl ⟨_, rfl, by decide +kernel⟩
  · exact .inr ⟨1, by decide, rfl⟩⟩
theorem goodSeal : isSeal goodK = false := by decide +kernel
theorem good_look {ls ps : List PyData} {gd : PyData} : lookD (tab (wholes ls (ps ++ [.tuple [goodK, gd]]))) [Sum.inr "good", Sum.inl 1] = some gd := by
  unfold wholes
  rw [← List.append_assoc, tab_app]
  generalize tab (ls.flatMap whole ++ ps) = m
  show lookD (if isSeal goodK = true then m else putD m (keysOf goodK) gd) _ = _
  rw [goodSeal, if_neg Bool.false_ne_true]
  exact lookD_put
theorem tripTr {e : PyData} (h : IsPr e) : IsTr (trip e) := by
  obtain ⟨k, v, rfl, hk, hv⟩ := h
  exact ⟨k, v, true, rfl, hk, hv⟩
theorem ok_law {oc : Value} {od : Option Addr} {kV doc pm : Value} {an : Option Addr} {c Pt : Addr} {ct : Value} {osl : Array (Option Value)} {f : Addr} {Tb : List (Addr × Str)}
    (lk : K.lookup f = some ⟨oc, od, .func (PySem.W.fnOf "law" "law" (defArgs s_law) (defBody s_law) (defScope s_law) .none kV doc pm an (.ref c) ct), osl⟩) (hcd : PySem.W.codeIn K (.ref c) "law" = true)
    (T : Txt K mg Z) (O : TxO K Z) (TE : TxE K Z) (WD : WordDef K mg) (TB : TabB base mg c Pt) (hmT : (Pt, (("law" : Str) ++ ".<locals>.") ++ "<lambda>") ∈ Tb) (huT : ∀ p ∈ Tb, p.1 = Pt → p.2 = (("law" : Str) ++ ".<locals>.") ++ "<lambda>")
    (D_law_pot : Dn P w K mg base "_law_pot" 1 ["script"] (spPot K)) (D_law_draw : Dn P w K mg base "_law_draw" 1 ["pot", "many"] spDraw) (D_law_any : Dn P w K mg base "_law_any" 2 ["pot", "items"] spAny) (D_law_key : Dn P w K mg base "_law_key" 3 ["pot"] spKey)
    (D_law_thing : Dn P w K mg base "_law_thing" 6 ["pot", "deep"] (fun vs H Q E => ∃ m, m < 4 ∧ spThing m vs H Q E)) (D_law_no_key : Dn P w K mg base "_law_no_key" 3 ["pot"] (spNoKey K Z)) (D_law_no_thing : Dn P w K mg base "_law_no_thing" 3 ["pot", "deep"] (spNoThing K Z))
    (D_law_no_reached : Dn P w K mg base "_law_no_reached" 3 ["pot", "many"] (spNoReached K Z)) (D_law_state : Dn P w K mg base "_law_state" 4 ["disk", "store"] (spState Z))
    (C_Disk : Cn P w K mg base "Disk" Z.Disk 1 ["self"] (spInit Z.Disk)) (C_Store : Cn P w K mg base "Store" Z.Store 1 ["self", "disk"] (spSInit Z.Store))
    (M_Disk_write : Mn P w K mg base Z.Disk "write" 12 ["self", "key", "thing"] (fun vs H Q E => spWriteBad K Z vs H Q E ∨ spWrite Z.Disk vs H Q E)) (M_Disk_sync : Mn P w K mg base Z.Disk "sync" 1 ["self"] (spSync Z.Disk))
    (M_Disk_fall : Mn P w K mg base Z.Disk "fall" 3 ["self", "reached"] (fun vs H Q E => spFallBad K Z vs H Q E ∨ spFall Z.Disk vs H Q E)) (M_Disk_spoil : Mn P w K mg base Z.Disk "spoil" 3 ["self", "at"] (spSpoilBad K Z))
    (M_Disk_waiting : Mn P w K mg base Z.Disk "waiting" 1 ["self"] (spWaiting Z.Disk)) (M_Disk_words : Mn P w K mg base Z.Disk "words" 1 ["self"] (spWords Z.Disk))
    (M_Store_found : Mn P w K mg base Z.Store "found" 3 ["self"] (spFound Z.Store Z.Disk)) (M_Store_keep : Mn P w K mg base Z.Store "keep" 13 ["self", "key", "thing"] (fun vs H Q E => spKeepBad K Z vs H Q E ∨ spKeep Z.Store Z.Disk vs H Q E)) :
    FnOk P w K mg base (L2.CX P w) 16 f (PySem.W.fnOf "law" "law" (defArgs s_law) (defBody s_law) (defScope s_law) .none kV doc pm an (.ref c) ct) ["script"] (spLaw Tb K) := by
  have cl := T.cl
  have clS := T.clS
  refine okL lk hcd sc_law (fun vs H Q E h => ?_) (fun A outer s0 H vs Q E hr h => ?_)
  · obtain ⟨a, ns, rfl, _⟩ := h
    rfl
  · obtain ⟨a, ns, rfl, hS, hlen, hT, k⟩ := h
    have hu := u1_of hr
    have hu64 := hr.units
    have hu70 := u70_of hr
    refine ⟨_, [some _, none, none, none, none, none, none, none, none, none, none, none, none, none, none], rfl, (pss_cons (ps_set (i := 1) sc_law.nd rfl (by first | exact Or.inl rfl | exact Or.inr rfl) (pe_d D_law_pot E0 (hr.mono (by first | decide | omega)) (by rfl) passL (pa_cons (pv 0) pa_nil)))
      (pss_cons (ps_set (i := 2) sc_law.nd rfl (by first | exact Or.inl rfl | exact Or.inr rfl) (pe_c0 C_Disk E0 (hr.mono (by first | decide | omega)) (by rfl) passL))
      (pss_cons (ps_for PassesOwn.never rfl (pi_range1 (by rfl) T.n_range (pa_cons (pe_d D_law_draw E0 (hr.mono (by first | decide | omega)) (by rfl) passL (pa_cons (pv 1) (pa_cons pe_int pa_nil))) pa_nil)) (pg_name (i := 3) sc_law.nd rfl (by first | exact Or.inl rfl | exact Or.inr rfl))
      (pss_cons (ps_expr (pe_m M_Disk_write E0 (hr.mono (by first | decide | omega)) (pv 2) passL (pa_cons (pe_d D_law_key E0 (hr.mono (by first | decide | omega)) (by rfl) passL (pa_cons (pv 1) pa_nil)) (pa_cons (pe_d D_law_thing E0 (hr.mono (by first | decide | omega)) (by rfl) passL (pa_cons (pv 1) (pa_cons pe_int pa_nil))) pa_nil)) _))
      (pss_one (ps_if (pt_cmpR op_eq (pe_d D_law_draw E0 (hr.mono (by first | decide | omega)) (by rfl) passL (pa_cons (pv 1) (pa_cons pe_int pa_nil))) pe_int (by first | exact nomark _ | rfl)) (pss_one (ps_expr (pe_m0 M_Disk_sync E0 (hr.mono (by first | decide | omega)) (pv 2) passL _))) pss_nil))))
      (pss_cons (ps_set (i := 4) sc_law.nd rfl (by first | exact Or.inl rfl | exact Or.inr rfl) (pe_c C_Store E0 (hr.mono (by first | decide | omega)) (by rfl) passL (pa_cons (pv 2) pa_nil)))
      (pss_cons (ps_asg (pe_tup (pa_cons (pe_d D_law_state E0 (hr.mono (by first | decide | omega)) (by rfl) passL (pa_cons (pv 2) (pa_cons (pv 4) pa_nil))) (pa_cons (pe_m0 M_Disk_waiting E0 (hr.mono (by first | decide | omega)) (pv 2) passL _) pa_nil))) (kTupT (K := K) (n := 2) (pgs_cons (pg_name (i := 5) sc_law.nd rfl (by first | exact Or.inl rfl | exact Or.inr rfl)) (pgs_cons (pg_name (i := 6) sc_law.nd rfl (by first | exact Or.inl rfl | exact Or.inr rfl)) pgs_nil))))
      (pss_cons (ps_asg (pe_tup (pa_cons (pe_d D_law_no_key E0 (hr.mono (by first | decide | omega)) (by rfl) passL (pa_cons (pv 1) pa_nil)) (pa_cons (pe_d D_law_no_thing E0 (hr.mono (by first | decide | omega)) (by rfl) passL (pa_cons (pv 1) (pa_cons pe_int pa_nil))) pa_nil))) (kTupT (K := K) (n := 2) (pgs_cons (pg_name (i := 7) sc_law.nd rfl (by first | exact Or.inl rfl | exact Or.inr rfl)) (pgs_cons (pg_name (i := 8) sc_law.nd rfl (by first | exact Or.inl rfl | exact Or.inr rfl)) pgs_nil))))
      (pss_cons (ps_set (i := 9) sc_law.nd rfl (by first | exact Or.inl rfl | exact Or.inr rfl) (pe_d D_law_any E0 (hr.mono (by first | decide | omega)) (by rfl) passL (pa_cons (pv 1) (pa_cons (pe_lst (pa_cons (pe_tup (pa_cons pe_str pa_nil)) (pa_cons (pe_tup (pa_cons pe_str (pa_cons pe_int pa_nil))) (pa_cons (pe_tup (pa_cons pe_str (pa_cons pe_str (pa_cons pe_int pa_nil)))) pa_nil)))) pa_nil))))
      (pss_cons (ps_set (i := 10) sc_law.nd rfl (by first | exact Or.inl rfl | exact Or.inr rfl) (pe_lst (pa_cons (pe_word WD T TE (by rfl) TB (by rfl) (by rfl) hmT huT (hr.mono (by first | decide | omega)) (LamX.lamS_by (sc := defScope s_law) (by decide +kernel)) (fun A' outer' s' H' E' f' c' hr' => (pe_m M_Disk_write E' hr' (pv 2) (passes_call (takes_of rfl rfl rfl rfl) fun _ _ _ _ h => h) (pa_cons (pv 7) (pa_cons (pv 8) pa_nil)) _))) pa_nil)))
      (pss_cons (ps_expr (kApp (K := K) (pv 10) (pe_word WD T TE (by rfl) TB (by rfl) (by rfl) hmT huT (hr.mono (by first | decide | omega)) (LamX.lamS_by (sc := defScope s_law) (by decide +kernel)) (fun A' outer' s' H' E' f' c' hr' => (pe_m M_Store_keep E' hr' (pv 4) (passes_call (takes_of rfl rfl rfl rfl) fun _ _ _ _ h => h) (pa_cons (pv 7) (pa_cons (pv 8) pa_nil)) _)))))
      (pss_cons (ps_expr (kApp (K := K) (pv 10) (pe_word WD T TE (by rfl) TB (by rfl) (by rfl) hmT huT (hr.mono (by first | decide | omega)) (LamX.lamS_by (sc := defScope s_law) (by decide +kernel)) (fun A' outer' s' H' E' f' c' hr' => (pe_m M_Disk_write E' hr' (pv 2) (passes_call (takes_of rfl rfl rfl rfl) fun _ _ _ _ h => h) (pa_cons (pe_tup (pa_cons pe_str pa_nil)) (pa_cons (pv 8) pa_nil)) _)))))
      (pss_cons (ps_expr (kApp (K := K) (pv 10) (pe_word WD T TE (by rfl) TB (by rfl) (by rfl) hmT huT (hr.mono (by first | decide | omega)) (LamX.lamS_by (sc := defScope s_law) (by decide +kernel)) (fun A' outer' s' H' E' f' c' hr' => (pe_m M_Store_keep E' hr' (pv 4) (passes_call (takes_of rfl rfl rfl rfl) fun _ _ _ _ h => h) (pa_cons (pe_tup (pa_cons pe_str (pa_cons pe_int pa_nil))) (pa_cons (pv 8) pa_nil)) _)))))
      (pss_cons (ps_expr (kApp (K := K) (pv 10) (pe_word WD T TE (by rfl) TB (by rfl) (by rfl) hmT huT (hr.mono (by first | decide | omega)) (LamX.lamS_by (sc := defScope s_law) (by decide +kernel)) (fun A' outer' s' H' E' f' c' hr' => (pe_m M_Store_keep E' hr' (pv 4) (passes_call (takes_of rfl rfl rfl rfl) fun _ _ _ _ h => h) (pa_cons (pv 9) (pa_cons (pv 8) pa_nil)) _)))))
      (pss_cons (ps_expr (kApp (K := K) (pv 10) (pe_word WD T TE (by rfl) TB (by rfl) (by rfl) hmT huT (hr.mono (by first | decide | omega)) (LamX.lamS_by (sc := defScope s_law) (by decide +kernel)) (fun A' outer' s' H' E' f' c' hr' => (pe_m M_Store_keep E' hr' (pv 4) (passes_call (takes_of rfl rfl rfl rfl) fun _ _ _ _ h => h) (pa_cons (pv 9) (pa_cons pe_int pa_nil)) _)))))
      (pss_cons (ps_set (i := 11) sc_law.nd rfl (by first | exact Or.inl rfl | exact Or.inr rfl) (pe_d D_law_no_reached E0 (hr.mono (by first | decide | omega)) (by rfl) passL (pa_cons (pv 1) (pa_cons (pv 6) pa_nil))))
      (pss_cons (ps_expr (kApp (K := K) (pv 10) (pe_word WD T TE (by rfl) TB (by rfl) (by rfl) hmT huT (hr.mono (by first | decide | omega)) (LamX.lamS_by (sc := defScope s_law) (by decide +kernel)) (fun A' outer' s' H' E' f' c' hr' => (pe_m M_Disk_fall E' hr' (pv 2) (passes_call (takes_of rfl rfl rfl rfl) fun _ _ _ _ h => h) (pa_cons (pv 11) pa_nil) _)))))
      (pss_cons (ps_set (i := 12) sc_law.nd rfl (by first | exact Or.inl rfl | exact Or.inr rfl) (pe_callB (kLen (K := K)) (by rfl) T.n_len (by decide +kernel) (pa_cons (pe_m0 M_Disk_words E0 (hr.mono (by first | decide | omega)) (pv 2) passL _) pa_nil)))
      (pss_cons (ps_set (i := 13) sc_law.nd rfl (by first | exact Or.inl rfl | exact Or.inr rfl) (pe_d D_law_any E0 (hr.mono (by first | decide | omega)) (by rfl) passL (pa_cons (pv 1) (pa_cons (pe_lst (pa_cons pe_non (pa_cons (pe_un un_neg pe_int) (pa_cons (pv 12) (pa_cons (pe_op op_add (pv 12) pe_int) (pa_cons pe_bl (pa_cons pe_str (pa_cons (pe_tup (pa_cons pe_int pa_nil)) (pa_cons (pe_lst (pa_cons pe_int pa_nil)) pa_nil))))))))) pa_nil))))
      (pss_cons (ps_expr (kApp (K := K) (pv 10) (pe_word WD T TE (by rfl) TB (by rfl) (by rfl) hmT huT (hr.mono (by first | decide | omega)) (LamX.lamS_by (sc := defScope s_law) (by decide +kernel)) (fun A' outer' s' H' E' f' c' hr' => (pe_m M_Disk_spoil E' hr' (pv 2) (passes_call (takes_of rfl rfl rfl rfl) fun _ _ _ _ h => h) (pa_cons (pv 13) pa_nil) _)))))
      (pss_cons (ps_if (PW.pt (pw_or (pt_cmpR (kNeD hu64 (K := K)) (pv 10) (pe_lst (pa_cons pe_str (pa_cons pe_str (pa_cons pe_str (pa_cons pe_str (pa_cons pe_str (pa_cons pe_str (pa_cons pe_str (pa_cons pe_str pa_nil))))))))) (by first | exact nomark _ | rfl)) (pw_or1 (pt_cmpR (kNeS hu70 (K := K)) (pe_d D_law_state E0 (hr.mono (by first | decide | omega)) (by rfl) passL (pa_cons (pv 2) (pa_cons (pv 4) pa_nil))) (pv 5) (by first | exact nomark _ | rfl))))) (pss_one (ps_ret pe_bl)) pss_nil)
      (pss_cons (ps_set (i := 14) sc_law.nd rfl (by first | exact Or.inl rfl | exact Or.inr rfl) (pe_d D_law_thing E0 (hr.mono (by first | decide | omega)) (by rfl) passL (pa_cons (pv 1) (pa_cons pe_int pa_nil))))
      (pss_cons (ps_if (PW.pt (pw_or (pt_cmpR op_ne (pe_word WD T TE (by rfl) TB (by rfl) (by rfl) hmT huT (hr.mono (by first | decide | omega)) (LamX.lamS_by (sc := defScope s_law) (by decide +kernel)) (fun A' outer' s' H' E' f' c' hr' => (pe_m M_Store_keep E' hr' (pv 4) (passes_call (takes_of rfl rfl rfl rfl) fun _ _ _ _ h => h) (pa_cons (pe_tup (pa_cons pe_str (pa_cons pe_int pa_nil))) (pa_cons (pv 14) pa_nil)) _))) pe_str (by first | exact nomark _ | rfl)) (pw_or1 (pt_cmpR (kNeD hu64 (K := K)) (pe_dget2 hu (pe_m0 M_Store_found E0 (hr.mono (by first | decide | omega)) (pv 4) passL _) (pe_tup (pa_cons pe_str (pa_cons pe_int pa_nil))) pe_int ⟨rfl, rfl, rfl, rfl⟩) (pv 14) (by first | exact nomark _ | rfl))))) (pss_one (ps_ret pe_bl)) pss_nil)
      (pss_one (ps_ret (pe_and (pe_cmpR op_eq (pe_word WD T TE (by rfl) TB (by rfl) (by rfl) hmT huT (hr.mono (by first | decide | omega)) (LamX.lamS_by (sc := defScope s_law) (by decide +kernel)) (fun A' outer' s' H' E' f' c' hr' => (pe_m M_Disk_fall E' hr' (pv 2) (passes_call (takes_of rfl rfl rfl rfl) fun _ _ _ _ h => h) (pa_cons (pe_op (kRepN (K := K)) (pe_tup (pa_cons pe_int pa_nil)) (pe_op op_add (pv 6) pe_int)) pa_nil) _))) pe_str (by first | exact nomark _ | rfl)) (pe_one (pe_cmpR op_eq (pe_m0 M_Disk_waiting E0 (hr.mono (by first | decide | omega)) (pv 2) passL _) pe_int (by first | exact nomark _ | rfl))))))))))))))))))))))))))), ?_⟩
    clear hu hu70 hu64
    walk_at "st"
    refine ⟨a, ns, rfl, hS, hlen, fun H1 p g m hP f1 hp0 hg0 hm0 => ?_⟩
    walk_at "st"
    intro d dx hd0 hdx0 dxd
    refine ⟨d, dx, rfl, upd_same, fun H2 l q0 hl0 hq0 D2 f2 => ⟨rfl, ?_⟩⟩
    have F2 := made hd0 hdx0 dxd f2
    have hP2 := hP.keep F2
    have l0 : H1 l = none := fresh_of (fresh_of hl0)
    have q00 : H1 q0 = none := fresh_of (fresh_of hq0)
    have hT2 := (hT.ext f1.same).ext F2.same
    have n1 := hP.ne hd0
    have n2 := hP.ne l0
    have n3 := hP.ne q00
    have ap2 : ∀ x ∈ [p, g, m], x ≠ d ∧ x ≠ l ∧ x ≠ q0 := fun x hx => by
      simp only [List.mem_cons, List.not_mem_nil, or_false] at hx
      rcases hx with rfl | rfl | rfl
      · exact ⟨n1.1.symm, n2.1.symm, n3.1.symm⟩
      · exact ⟨n1.2.1.symm, n2.2.1.symm, n3.2.1.symm⟩
      · exact ⟨n1.2.2.symm, n2.2.2.symm, n3.2.2.symm⟩
    clear n1 n2 n3 l0 q00 F2 hl0 hq0 f2 dxd hdx0 hd0
    walk_at "st"
    refine ⟨p, g, m, 6, rfl, hP2, by omega, by omega, fun H3 n nn0 nn1 hP3 f3 => ?_⟩
    have D3 := D2.keep f3 (by simpa using ⟨(ap2 p (by simp)).1.symm, (ap2 g (by simp)).1.symm⟩) (by simpa using ⟨(ap2 p (by simp)).2.1.symm, (ap2 g (by simp)).2.1.symm⟩) (by simpa using ⟨(ap2 p (by simp)).2.2.symm, (ap2 g (by simp)).2.2.symm⟩)
    have hT3 := tabs_fr hT2 f3 (pot_soft hP2)
    walk_at "st"
    refine for_it walk_range (fun i σ H' => ∃ q ls ps o3, σ = [some (.ref a), some (.ref p), some (.ref d), o3, none, none, none, none, none, none, none, none, none, none, none] ∧ Pot H' p g m ∧ DiskAt Z.Disk 0 H' d l q ls ps ∧ (∀ x ∈ [p, g, m], x ≠ d ∧ x ≠ l ∧ x ≠ q) ∧ Tabs Tb H' ∧ ls.length + ps.length ≤ i ∧ (∀ e ∈ ls, IsTr e) ∧ (∀ e ∈ ps, IsPr e))
      ⟨q0, [], [], none, rfl, hP3, D3, ap2, hT3, Nat.le_refl _, (fun _ h => nomatch h), (fun _ h => nomatch h)⟩ (fun _ _ _ _ _ => trivial) ?_ ?_
    · rintro i y σ HA HB hi ⟨q, ls, ps, o3, rfl, hPA, DA, ap, hTA, hsz, htr, hpr⟩ ⟨rfl, rfl⟩
      have dpg : d ∉ [p, g] := by simpa using ⟨(ap p (by simp)).1.symm, (ap g (by simp)).1.symm⟩
      have lpg : l ∉ [p, g] := by simpa using ⟨(ap p (by simp)).2.1.symm, (ap g (by simp)).2.1.symm⟩
      have qpg : q ∉ [p, g] := by simpa using ⟨(ap p (by simp)).2.2.symm, (ap g (by simp)).2.2.symm⟩
      obtain ⟨dxA, hdA⟩ := DA.ok
      walk_at "st"
      refine ⟨p, g, m, rfl, hPA, fun HC kv kd tk uk hPC fC => ?_⟩
      have DC := DA.keep fC dpg lpg qpg
      have hTC := tabs_fr hTA fC (pot_soft hPA)
      walk_at "st"
      refine ⟨2, by decide, p, g, m, rfl, hPC, fun HD v vd tv hv hPD fD => ?_⟩
      have DD := DC.keep fD dpg lpg qpg
      have hTD := tabs_fr hTC fD (pot_soft hPC)
      obtain ⟨dxD, hdD⟩ := DD.ok
      walk_at "st"
      refine .inr ⟨0, d, l, q, ls, ps, kv, v, kd, vd, rfl, DD, by omega, TD.mono fD.tup _ _ tk, uk.key, tv, hv.mono (by decide), fun HE DE fE => ?_⟩
      have hPE := hPD.keep fE (by simpa using (ap p (by simp)).2.2) (by simpa using (ap g (by simp)).2.2) (by simpa using (ap m (by simp)).2.2)
      have hTE := tabs_fr hTD fE fun x hx => disk_soft DD x (by rw [List.mem_singleton.mp hx]; simp)
      have hpr' : ∀ e ∈ ps ++ [.tuple [kd, vd]], IsPr e := fun e he => by
        rcases List.mem_append.mp he with he | he
        · exact hpr e he
        · rw [List.mem_singleton.mp he]; exact ⟨kd, vd, rfl, uk.key, hv.mono (by decide)⟩
      walk_at "st"
      refine ⟨p, g, m, 2, rfl, hPE, by omega, by omega, fun HF n2 n20 n21 hPF fF => ?_⟩
      have DF := DE.keep fF dpg lpg qpg
      have hTF := tabs_fr hTE fF (pot_soft hPE)
      obtain ⟨dxF, hdF⟩ := DF.ok
      walk_at "st"
      refine iteD (fun _ => ?_) (fun _ => ?_)
      · walk_at "st"
        refine ⟨0, d, l, q, ls, _, rfl, DF, by simp; omega, by omega, hpr', fun HG q' hq' DG fG => ?_⟩
        have hnq := hPF.ne hq'
        have hPG := hPF.keep fG (by simpa using ⟨(ap p (by simp)).1, (ap p (by simp)).2.1⟩) (by simpa using ⟨(ap g (by simp)).1, (ap g (by simp)).2.1⟩) (by simpa using ⟨(ap m (by simp)).1, (ap m (by simp)).2.1⟩)
        have hTG := tabs_fr hTF fG fun x hx => disk_soft DF x (by simp at hx ⊢; rcases hx with rfl | rfl <;> simp)
        walk_at "st"
        refine ⟨q', _, [], _, rfl, hPG, DG, fun x hx => ⟨(ap x hx).1, (ap x hx).2.1, ?_⟩, hTG, ?_, fun e he => ?_, (fun _ h => nomatch h)⟩
        · simp only [List.mem_cons, List.not_mem_nil, or_false] at hx
          rcases hx with rfl | rfl | rfl
          · exact hnq.1.symm
          · exact hnq.2.1.symm
          · exact hnq.2.2.symm
        · simp only [List.length_append, List.length_map, List.length_cons, List.length_nil]; omega
        · rcases List.mem_append.mp he with he | he
          · exact htr e he
          · obtain ⟨x, hx, rfl⟩ := List.mem_map.mp he
            exact tripTr (hpr' x hx)
      · walk_at "st"
        refine ⟨q, ls, _, _, rfl, hPF, DF, ap, hTF, ?_, htr, hpr'⟩
        rw [List.length_append]; simp; omega
    · rintro σ HA ⟨q, ls, ps, o3, rfl, hPA, DA, ap, hTA, hsz, htr, hpr⟩
      have hsz5 : ls.length + ps.length ≤ 5 := by omega
      clear hsz hT3 D3 f3 hP3 hT2 ap2 hP2 D2
      have dpg : d ∉ [p, g] := by simpa using ⟨(ap p (by simp)).1.symm, (ap g (by simp)).1.symm⟩
      have lpg : l ∉ [p, g] := by simpa using ⟨(ap p (by simp)).2.1.symm, (ap g (by simp)).2.1.symm⟩
      have qpg : q ∉ [p, g] := by simpa using ⟨(ap p (by simp)).2.2.symm, (ap g (by simp)).2.2.symm⟩
      walk_at "st"
      intro s sx hs0 hsx0 sxs
      refine ⟨s, sx, d, rfl, upd_same, fun HB SB fB => ⟨rfl, ?_⟩⟩
      have FB := made hs0 hsx0 sxs fB
      have spg : s ∉ [p, g] := by
        have := hPA.ne hs0
        simpa using ⟨this.1, this.2.1⟩
      have DB := DA.keep FB List.not_mem_nil List.not_mem_nil List.not_mem_nil
      have hPB := hPA.keep FB
      have hTB := hTA.ext FB.same
      obtain ⟨sxB, hsB⟩ := SB.ok
      obtain ⟨dxB, hdB⟩ := DB.ok
      walk_at "st"
      refine ⟨d, l, q, s, ls, ps, rfl, SB, DB, by omega, htr, hpr, fun HC t1 l1 d1 xs1 hl10 hd10 ht10 ht1 hl1 sx1 sd1 fC => ?_⟩
      have l1pg : l1 ∉ [p, g] := by
        have := hPB.ne hl10
        simpa using ⟨this.1, this.2.1⟩
      have d1pg : d1 ∉ [p, g] := by
        have := hPB.ne hd10
        simpa using ⟨this.1, this.2.1⟩
      have hdC := fC.same _ _ hdB
      walk_at "st"
      refine ⟨0, d, l, q, ls, ps, rfl, DB.keep fC List.not_mem_nil List.not_mem_nil List.not_mem_nil, ?_⟩
      walk_at "st"
      intro u1 hu1
      have fD := fC.new (o := .tup [.ref t1, .int (ps.length : Nat)]) hu1
      have gD : Fr [] HC (upd HC u1 (.tup [.ref t1, .int (ps.length : Nat)])) := Fr.up hu1
      walk_at "st"
      refine ⟨p, g, m, rfl, hPB.keep fD, fun HE kv kd ak hk sk hPE fE => ?_⟩
      walk_at "st"
      refine ⟨p, g, m, rfl, hPE, fun HF tv td at_ htd otd hPF fF => ?_⟩
      have fEF := fE.trans fF
      have FBF : Fr [p, g] HB HF := (fD.mono (by simp)).trans fEF
      have FCF : Fr [p, g] HC HF := (gD.mono (by simp)).trans fEF
      have hTF : Tabs Tb HF := tabs_fr (tabs_fr (hTB.ext fD.same) fE (pot_soft (hPB.keep fD))) fF (pot_soft hPE)
      have L : LawSt Tb K Z [p, g] HF p g m d l q s t1 l1 d1 ls ps xs1 kv tv kd td := by
        refine ⟨hPF, DB.keep FBF dpg lpg qpg, SB.keep FBF spg, hTF, FCF.tup _ _ ht1, FCF.keep l1 _ l1pg hl1, TDs.mono FCF.tup _ _ sx1, sd1.keep FCF d1pg, AD.mono fF.tup (fF.keepB fun _ h => h) _ _ ak, at_, fun x hx => ?_⟩
        simp only [List.mem_cons, List.not_mem_nil, or_false] at hx
        rcases hx with rfl | rfl | rfl | rfl | rfl | rfl <;> assumption
      clear hTF FCF FBF fEF fF fE gD fD hu1 hdC fC sd1 sx1 hl1 ht1 ht10 hd10 hl10 hdB hsB hTB hPB DB FB fB hs0 hsx0 sxs SB hPA DA hTA hPE hPF ak at_
      walk_at "st"
      intro u2 hu2
      have L2 := L.fr (Fr.up (o := .tup [kv, tv]) hu2)
      clear L
      walk_at "st"
      intro u3 hu3
      have L3 := L2.fr (Fr.up (o := .tup [.str "seal"]) hu3)
      walk_at "st"
      intro u4 hu4
      have L4 := L3.fr (Fr.up (o := .tup [.str "seal", .int 0]) hu4)
      walk_at "st"
      intro u5 hu5
      have L5 := L4.fr (Fr.up (o := .tup [.str "seal", .str "a", .int 2]) hu5)
      walk_at "st"
      intro u6 hu6
      have n6 := L5.pot.ne hu6
      have L6 := L5.fr (Fr.up (o := .lst [.ref u3, .ref u4, .ref u5]) hu6)
      have e3 := upd_old (o' := .lst [.ref u3, .ref u4, .ref u5]) hu6 (upd_old (o' := .tup [.str "seal", .str "a", .int 2]) hu5 (upd_old (o' := .tup [.str "seal", .int 0]) hu4 (upd_same (H := upd HF u2 (.tup [kv, tv])) (a := u3) (o := .tup [.str "seal"]))))
      have e4 := upd_old (o' := .lst [.ref u3, .ref u4, .ref u5]) hu6 (upd_old (o' := .tup [.str "seal", .str "a", .int 2]) hu5 (upd_same (H := upd (upd HF u2 (.tup [kv, tv])) u3 (.tup [.str "seal"])) (a := u4) (o := .tup [.str "seal", .int 0])))
      have e5 := upd_old (o' := .lst [.ref u3, .ref u4, .ref u5]) hu6 (upd_same (H := upd (upd (upd HF u2 (.tup [kv, tv])) u3 (.tup [.str "seal"])) u4 (.tup [.str "seal", .int 0])) (a := u5) (o := .tup [.str "seal", .str "a", .int 2]))
      have e6 := upd_same (H := upd (upd (upd (upd HF u2 (.tup [kv, tv])) u3 (.tup [.str "seal"])) u4 (.tup [.str "seal", .int 0])) u5 (.tup [.str "seal", .str "a", .int 2])) (a := u6) (o := .lst [.ref u3, .ref u4, .ref u5])
      clear L5 L4 L3 L2
      generalize upd (upd (upd (upd (upd HF u2 (.tup [kv, tv])) u3 (.tup [.str "seal"])) u4 (.tup [.str "seal", .int 0])) u5 (.tup [.str "seal", .str "a", .int 2])) u6 (.lst [.ref u3, .ref u4, .ref u5]) = HG at L6 e3 e4 e5 e6 ⊢
      walk_at "st"
      refine ⟨p, g, m, u6, _, rfl, L6.pot, .inr ⟨e6, n6.1, n6.2.1⟩, Nat.zero_lt_succ _, (show 3 < 1000 by decide), fun HH sv hsv hPH fH => ?_⟩
      have L := L6.drawn fH (fun _ h => h) hPH
      obtain ⟨sP, tsP, sk1, sk2, sk3⟩ : ∃ sP, TD HH sv sP ∧ isKeyJ (ofP sP) = true ∧ sealJ (ofP sP) = true ∧ shortJ (ofP sP) := by
        simp only [List.mem_cons, List.not_mem_nil, or_false] at hsv
        rcases hsv with rfl | rfl | rfl
        · exact ⟨_, .tup (fH.tup _ _ e3) (.cons (.str _) .nil), rfl, by decide +kernel, show 1 ≤ 100 by decide⟩
        · exact ⟨_, .tup (fH.tup _ _ e4) (.cons (.str _) (.cons (.int _) .nil)), rfl, by decide +kernel, show 2 ≤ 100 by decide⟩
        · exact ⟨_, .tup (fH.tup _ _ e5) (.cons (.str _) (.cons (.str _) (.cons (.int _) .nil))), rfl, by decide +kernel, show 3 ≤ 100 by decide⟩
      clear L6 e3 e4 e5 e6 n6 hu6 hu5 hu4 hu3 hu2 hsv fH hPH
      walk_at "st"
      refine ⟨L.tabs, fun HI eI hTI => ?_⟩
      have M := L.ext eI hTI
      replace tsP := TD.mono (extN_tp eI) _ _ tsP
      obtain ⟨dxI, hdI⟩ := M.disk.ok
      unfold TWord
      walk_at "st"
      refine .inl ⟨d, kv, tv, kd, td, rfl, AD.less (by simp) _ _ M.key, sk, AD.less (by simp) _ _ M.thing, otd, .inl ⟨hk, fun HJ fJ => ⟨0, by decide, rfl, rfl, fun HK fK => ?_⟩⟩⟩
      have N := M.fr (fJ.trans fK)
      replace tsP := TD.mono (fJ.trans fK).tup _ _ tsP
      clear M hdI hTI eI L fJ fK
      walk_at "st"
      intro W hW0
      have nW := N.pot.ne hW0
      have L := (N.more hW0).fr (Fr.up (o := .lst [.str (wordAt 0)]) hW0)
      replace tsP := TD.mono (Fr.up (ms := []) (o := .lst [.str (wordAt 0)]) hW0).tup _ _ tsP
      have hW := upd_same (H := HK) (a := W) (o := .lst [.str (wordAt 0)])
      clear N hW0
      generalize upd HK W (.lst [.str (wordAt 0)]) = HL at L hW tsP ⊢
      have Bpg : ∀ x ∈ [p, g], x ∈ [W, p, g] := fun x hx => List.mem_cons_of_mem _ hx
      clear HJ HI
      walk_at "st"
      refine ⟨L.tabs, fun HI eI hTI => ?_⟩
      have M := L.ext eI hTI
      have hWI := eI _ _ hW (fun _ z => nomatch z)
      replace tsP := TD.mono (extN_tp eI) _ _ tsP
      obtain ⟨sxI, hsI⟩ := M.store.ok
      walk_at "st"
      refine .inl ⟨s, kv, tv, kd, td, rfl, AD.less (by simp) _ _ M.key, sk, AD.less (by simp) _ _ M.thing, otd, .inl ⟨hk, fun HJ fJ => ⟨0, by decide, rfl, rfl, fun HK fK => ?_⟩⟩⟩
      have N := M.fr (fJ.trans fK)
      have hWK := (fJ.trans fK).same _ _ hWI
      replace tsP := TD.mono (fJ.trans fK).tup _ _ tsP
      walk_at "st"
      have L' := N.app (ys := [.str (wordAt 0)] ++ [.str (wordAt 0)]) hWK List.mem_cons_self nW
      replace tsP := TD.mono ((Fr.refl HK).wl (ms := [W]) (o' := .lst ([.str (wordAt 0)] ++ [.str (wordAt 0)])) hWK (.inl (by simp))).tup _ _ tsP
      replace hW := upd_same (H := HK) (a := W) (o := .lst ([.str (wordAt 0)] ++ [.str (wordAt 0)]))
      clear N hWK hWI M L
      have L := L'
      clear L'
      generalize upd HK W (.lst ([.str (wordAt 0)] ++ [.str (wordAt 0)])) = HL' at L hW tsP ⊢
      rw [show ([.str (wordAt 0)] ++ [V.str (wordAt 0)] : List V) = [V.str (wordAt 0), V.str (wordAt 0)] from rfl] at hW
      walk_at "st"
      refine ⟨L.tabs, fun HI eI hTI => ?_⟩
      have M := L.ext eI hTI
      have hWI := eI _ _ hW (fun _ z => nomatch z)
      replace tsP := TD.mono (extN_tp eI) _ _ tsP
      obtain ⟨dxI, hdI⟩ := M.disk.ok
      walk_at "st"
      intro t ht
      have ft : Fr [] HI (upd HI t (.tup [.str "a"])) := Fr.up ht
      have M' := M.fr ft
      have hdI' := ft.same _ _ hdI
      walk_at "st"
      refine .inl ⟨d, .ref t, tv, .tuple [.str "a"], td, rfl, .tup upd_same (.cons (.str _) .nil), (show 1 ≤ 100 by decide), AD.less (by simp) _ _ M'.thing, otd, .inr ⟨rfl, htd, fun HJ fJ => ⟨1, by decide, rfl, rfl, fun HK fK => ?_⟩⟩⟩
      have N := M.fr (ft.trans (fJ.trans fK))
      have hWK := (ft.trans (fJ.trans fK)).same _ _ hWI
      replace tsP := TD.mono (ft.trans (fJ.trans fK)).tup _ _ tsP
      walk_at "st"
      have L' := N.app (ys := [.str (wordAt 0), .str (wordAt 0)] ++ [.str (wordAt 1)]) hWK List.mem_cons_self nW
      replace tsP := TD.mono ((Fr.refl HK).wl (ms := [W]) (o' := .lst ([.str (wordAt 0), .str (wordAt 0)] ++ [.str (wordAt 1)])) hWK (.inl (by simp))).tup _ _ tsP
      replace hW := upd_same (H := HK) (a := W) (o := .lst ([.str (wordAt 0), .str (wordAt 0)] ++ [.str (wordAt 1)]))
      clear N hWK hWI M L
      have L := L'
      clear L'
      generalize upd HK W (.lst ([.str (wordAt 0), .str (wordAt 0)] ++ [.str (wordAt 1)])) = HL' at L hW tsP ⊢
      rw [show ([.str (wordAt 0), .str (wordAt 0)] ++ [V.str (wordAt 1)] : List V) = [V.str (wordAt 0), V.str (wordAt 0), V.str (wordAt 1)] from rfl] at hW
      walk_at "st"
      refine ⟨L.tabs, fun HI eI hTI => ?_⟩
      have M := L.ext eI hTI
      have hWI := eI _ _ hW (fun _ z => nomatch z)
      replace tsP := TD.mono (extN_tp eI) _ _ tsP
      obtain ⟨sxI, hsI⟩ := M.store.ok
      walk_at "st"
      intro t ht
      have ft : Fr [] HI (upd HI t (.tup [.str "a", .int 0])) := Fr.up ht
      have M' := M.fr ft
      have hsI' := ft.same _ _ hsI
      walk_at "st"
      refine .inl ⟨s, .ref t, tv, .tuple [.str "a", .int 0], td, rfl, .tup upd_same (.cons (.str _) (.cons (.int _) .nil)), (show 2 ≤ 100 by decide), AD.less (by simp) _ _ M'.thing, otd, .inr (.inr ⟨rfl, (by decide +kernel), htd, fun HJ fJ => ⟨1, by decide, rfl, rfl, fun HK fK => ?_⟩⟩)⟩
      have N := M.fr (ft.trans (fJ.trans fK))
      have hWK := (ft.trans (fJ.trans fK)).same _ _ hWI
      replace tsP := TD.mono (ft.trans (fJ.trans fK)).tup _ _ tsP
      walk_at "st"
      have L' := N.app (ys := [.str (wordAt 0), .str (wordAt 0), .str (wordAt 1)] ++ [.str (wordAt 1)]) hWK List.mem_cons_self nW
      replace tsP := TD.mono ((Fr.refl HK).wl (ms := [W]) (o' := .lst ([.str (wordAt 0), .str (wordAt 0), .str (wordAt 1)] ++ [.str (wordAt 1)])) hWK (.inl (by simp))).tup _ _ tsP
      replace hW := upd_same (H := HK) (a := W) (o := .lst ([.str (wordAt 0), .str (wordAt 0), .str (wordAt 1)] ++ [.str (wordAt 1)]))
      clear N hWK hWI M L
      have L := L'
      clear L'
      generalize upd HK W (.lst ([.str (wordAt 0), .str (wordAt 0), .str (wordAt 1)] ++ [.str (wordAt 1)])) = HL' at L hW tsP ⊢
      rw [show ([.str (wordAt 0), .str (wordAt 0), .str (wordAt 1)] ++ [V.str (wordAt 1)] : List V) = [V.str (wordAt 0), V.str (wordAt 0), V.str (wordAt 1), V.str (wordAt 1)] from rfl] at hW
      walk_at "st"
      refine ⟨L.tabs, fun HI eI hTI => ?_⟩
      have M := L.ext eI hTI
      have hWI := eI _ _ hW (fun _ z => nomatch z)
      replace tsP := TD.mono (extN_tp eI) _ _ tsP
      obtain ⟨sxI, hsI⟩ := M.store.ok
      walk_at "st"
      refine .inl ⟨s, sv, tv, ofP sP, td, rfl, TD.ad _ _ tsP, sk3, AD.less (by simp) _ _ M.thing, otd, .inr (.inl ⟨sk1, sk2, fun HJ fJ => ⟨0, by decide, rfl, rfl, fun HK fK => ?_⟩⟩)⟩
      have N := M.fr (fJ.trans fK)
      have hWK := (fJ.trans fK).same _ _ hWI
      replace tsP := TD.mono (fJ.trans fK).tup _ _ tsP
      walk_at "st"
      have L' := N.app (ys := [.str (wordAt 0), .str (wordAt 0), .str (wordAt 1), .str (wordAt 1)] ++ [.str (wordAt 0)]) hWK List.mem_cons_self nW
      replace tsP := TD.mono ((Fr.refl HK).wl (ms := [W]) (o' := .lst ([.str (wordAt 0), .str (wordAt 0), .str (wordAt 1), .str (wordAt 1)] ++ [.str (wordAt 0)])) hWK (.inl (by simp))).tup _ _ tsP
      replace hW := upd_same (H := HK) (a := W) (o := .lst ([.str (wordAt 0), .str (wordAt 0), .str (wordAt 1), .str (wordAt 1)] ++ [.str (wordAt 0)]))
      clear N hWK hWI M L
      have L := L'
      clear L'
      generalize upd HK W (.lst ([.str (wordAt 0), .str (wordAt 0), .str (wordAt 1), .str (wordAt 1)] ++ [.str (wordAt 0)])) = HL' at L hW tsP ⊢
      rw [show ([.str (wordAt 0), .str (wordAt 0), .str (wordAt 1), .str (wordAt 1)] ++ [V.str (wordAt 0)] : List V) = [V.str (wordAt 0), V.str (wordAt 0), V.str (wordAt 1), V.str (wordAt 1), V.str (wordAt 0)] from rfl] at hW
      walk_at "st"
      refine ⟨L.tabs, fun HI eI hTI => ?_⟩
      have M := L.ext eI hTI
      have hWI := eI _ _ hW (fun _ z => nomatch z)
      replace tsP := TD.mono (extN_tp eI) _ _ tsP
      obtain ⟨sxI, hsI⟩ := M.store.ok
      walk_at "st"
      refine .inl ⟨s, sv, .int 5, ofP sP, .int 5, rfl, TD.ad _ _ tsP, sk3, .int 5, rfl, .inr (.inl ⟨sk1, sk2, fun HJ fJ => ⟨0, by decide, rfl, rfl, fun HK fK => ?_⟩⟩)⟩
      have N := M.fr (fJ.trans fK)
      have hWK := (fJ.trans fK).same _ _ hWI
      replace tsP := TD.mono (fJ.trans fK).tup _ _ tsP
      walk_at "st"
      have L' := N.app (ys := [.str (wordAt 0), .str (wordAt 0), .str (wordAt 1), .str (wordAt 1), .str (wordAt 0)] ++ [.str (wordAt 0)]) hWK List.mem_cons_self nW
      replace tsP := TD.mono ((Fr.refl HK).wl (ms := [W]) (o' := .lst ([.str (wordAt 0), .str (wordAt 0), .str (wordAt 1), .str (wordAt 1), .str (wordAt 0)] ++ [.str (wordAt 0)])) hWK (.inl (by simp))).tup _ _ tsP
      replace hW := upd_same (H := HK) (a := W) (o := .lst ([.str (wordAt 0), .str (wordAt 0), .str (wordAt 1), .str (wordAt 1), .str (wordAt 0)] ++ [.str (wordAt 0)]))
      clear N hWK hWI M L
      have L := L'
      clear L'
      generalize upd HK W (.lst ([.str (wordAt 0), .str (wordAt 0), .str (wordAt 1), .str (wordAt 1), .str (wordAt 0)] ++ [.str (wordAt 0)])) = HL' at L hW tsP ⊢
      rw [show ([.str (wordAt 0), .str (wordAt 0), .str (wordAt 1), .str (wordAt 1), .str (wordAt 0)] ++ [V.str (wordAt 0)] : List V) = [V.str (wordAt 0), V.str (wordAt 0), V.str (wordAt 1), V.str (wordAt 1), V.str (wordAt 0), V.str (wordAt 0)] from rfl] at hW
      walk_at "st"
      refine ⟨p, g, m, ps.length, rfl, L.pot, by omega, fun HR rv rd ar sr br hPR fR => ?_⟩
      replace hW := fR.keep W _ (by simpa using ⟨nW.1, nW.2.1⟩) hW
      have L' := L.drawn fR Bpg hPR
      clear L
      have L := L'
      clear L' tsP
      walk_at "st"
      refine ⟨L.tabs, fun HI eI hTI => ?_⟩
      have M := L.ext eI hTI
      have hWI := eI _ _ hW (fun _ z => nomatch z)
      obtain ⟨dxI, hdI⟩ := M.disk.ok
      walk_at "st"
      refine .inl ⟨0, d, l, q, ls, ps, rv, rd, rfl, M.disk, by omega, AD.less (B' := []) (by simp) _ _ (AD.mono (extN_tp eI) (keepB_ext eI) _ _ ar), sr, br, fun HJ fJ => ⟨2, by decide, rfl, rfl, fun HK fK => ?_⟩⟩
      have N := M.fr (fJ.trans fK)
      have hWK := (fJ.trans fK).same _ _ hWI
      walk_at "st"
      have L' := N.app (ys := [.str (wordAt 0), .str (wordAt 0), .str (wordAt 1), .str (wordAt 1), .str (wordAt 0), .str (wordAt 0)] ++ [.str (wordAt 2)]) hWK List.mem_cons_self nW
      replace hW := upd_same (H := HK) (a := W) (o := .lst ([.str (wordAt 0), .str (wordAt 0), .str (wordAt 1), .str (wordAt 1), .str (wordAt 0), .str (wordAt 0)] ++ [.str (wordAt 2)]))
      clear N hWK hWI M L
      have L := L'
      clear L'
      generalize upd HK W (.lst ([.str (wordAt 0), .str (wordAt 0), .str (wordAt 1), .str (wordAt 1), .str (wordAt 0), .str (wordAt 0)] ++ [.str (wordAt 2)])) = HL' at L hW ⊢
      rw [show ([.str (wordAt 0), .str (wordAt 0), .str (wordAt 1), .str (wordAt 1), .str (wordAt 0), .str (wordAt 0)] ++ [V.str (wordAt 2)] : List V) = [V.str (wordAt 0), V.str (wordAt 0), V.str (wordAt 1), V.str (wordAt 1), V.str (wordAt 0), V.str (wordAt 0), V.str (wordAt 2)] from rfl] at hW
      obtain ⟨dxS, hdS⟩ := L.disk.ok
      walk_at "st"
      refine ⟨0, d, l, q, ls, ps, rfl, L.disk, fun HS pw xw _ hpw tw fS => ?_⟩
      have L' := L.fr fS
      replace hW := fS.same _ _ hW
      clear L
      have L := L'
      clear L'
      have hlw := tw.length
      walk_at "st"
      intro u7 hu7
      have L7 := L.fr (Fr.up (o := .tup [.int 0]) hu7)
      walk_at "st"
      intro u8 hu8
      have n8 := L7.pot.ne hu8
      have L8 := L7.fr (Fr.up (o := .lst [.int 0]) hu8)
      walk_at "st"
      intro u9 hu9
      have n9 := L8.pot.ne hu9
      rw [hlw]
      have L9 := L8.fr (Fr.up (o := .lst [.non, .int (-1), .int (ls.length : Nat), .int ((ls.length : Nat) + 5), .bl true, .str "0", .ref u7, .ref u8]) hu9)
      have hW9 := upd_old (o' := .lst [.non, .int (-1), .int (ls.length : Nat), .int ((ls.length : Nat) + 5), .bl true, .str "0", .ref u7, .ref u8]) hu9 (upd_old (o' := .lst [.int 0]) hu8 (upd_old (o' := .tup [.int 0]) hu7 hW))
      have e7 := upd_old (o' := .lst [.non, .int (-1), .int (ls.length : Nat), .int ((ls.length : Nat) + 5), .bl true, .str "0", .ref u7, .ref u8]) hu9 (upd_old (o' := .lst [.int 0]) hu8 (upd_same (H := HS) (a := u7) (o := .tup [.int 0])))
      have e8 := upd_old (o' := .lst [.non, .int (-1), .int (ls.length : Nat), .int ((ls.length : Nat) + 5), .bl true, .str "0", .ref u7, .ref u8]) hu9 (upd_same (H := upd HS u7 (.tup [.int 0])) (a := u8) (o := .lst [.int 0]))
      have e9 := upd_same (H := upd (upd HS u7 (.tup [.int 0])) u8 (.lst [.int 0])) (a := u9) (o := .lst [.non, .int (-1), .int (ls.length : Nat), .int ((ls.length : Nat) + 5), .bl true, .str "0", .ref u7, .ref u8])
      clear L8 L7 L hW hu9 hu8 hu7
      generalize upd (upd (upd HS u7 (.tup [.int 0])) u8 (.lst [.int 0])) u9 (.lst [.non, .int (-1), .int (ls.length : Nat), .int ((ls.length : Nat) + 5), .bl true, .str "0", .ref u7, .ref u8]) = H9 at L9 hW9 e7 e8 e9 ⊢
      walk_at "st"
      refine ⟨p, g, m, u9, _, rfl, L9.pot, .inr ⟨e9, n9.1, n9.2.1⟩, Nat.zero_lt_succ _, (show 8 < 1000 by decide), fun HT pv hpv hPT fT => ?_⟩
      have L := L9.drawn fT Bpg hPT
      have hW := fT.keep W _ (by simpa using ⟨nW.1, nW.2.1⟩) hW9
      obtain ⟨pd, apd, hpd⟩ : ∃ pd, AD K (usOf Z.Exchange) [p, g] HT pv pd ∧ betwJ 0 ((ls.length : Int) - 1) pd = false := by
        have bt : ∀ i : Int, i < 0 ∨ (ls.length : Int) ≤ i → betwJ 0 ((ls.length : Int) - 1) (.int i) = false := fun i hi => by
          show (decide (0 ≤ i) && decide (i ≤ (ls.length : Int) - 1)) = false
          rcases hi with hi | hi
          · rw [decide_eq_false (show ¬ 0 ≤ i by omega)]; rfl
          · rw [decide_eq_false (show ¬ i ≤ (ls.length : Int) - 1 by omega), Bool.and_false]
        simp only [List.mem_cons, List.not_mem_nil, or_false] at hpv
        rcases hpv with rfl | rfl | rfl | rfl | rfl | rfl | rfl | rfl
        · exact ⟨_, .non, rfl⟩
        · exact ⟨_, .int _, bt _ (.inl (by decide))⟩
        · exact ⟨_, .int _, bt _ (.inr (by omega))⟩
        · exact ⟨_, .int _, bt _ (.inr (by omega))⟩
        · exact ⟨_, .bl _, rfl⟩
        · exact ⟨_, .str _, rfl⟩
        · exact ⟨_, .tup (fT.tup _ _ e7) (.cons (.int _) .nil), rfl⟩
        · exact ⟨_, .oth (fT.keep u8 _ (by simpa using ⟨n8.1, n8.2.1⟩) e8) (out_pg ⟨n8.1, n8.2.1⟩) (.lst _) O.li, rfl⟩
      clear L9 hW9 e7 e8 e9 n9 n8 hpv fT hPT tw hpw fS hdS
      walk_at "st"
      refine ⟨L.tabs, fun HI eI hTI => ?_⟩
      have M := L.ext eI hTI
      have hWI := eI _ _ hW (fun _ z => nomatch z)
      obtain ⟨dxI, hdI⟩ := M.disk.ok
      walk_at "st"
      refine ⟨0, d, l, q, ls, ps, pv, pd, rfl, M.disk, by omega, AD.less (B' := []) (by simp) _ _ (AD.mono (extN_tp eI) (keepB_ext eI) _ _ apd), hpd, fun HJ fJ => ⟨3, by decide, rfl, rfl, fun HK fK => ?_⟩⟩
      have N := M.fr (fJ.trans fK)
      have hWK := (fJ.trans fK).same _ _ hWI
      walk_at "st"
      have L' := N.app (ys := [.str (wordAt 0), .str (wordAt 0), .str (wordAt 1), .str (wordAt 1), .str (wordAt 0), .str (wordAt 0), .str (wordAt 2)] ++ [.str (wordAt 3)]) hWK List.mem_cons_self nW
      replace hW := upd_same (H := HK) (a := W) (o := .lst ([.str (wordAt 0), .str (wordAt 0), .str (wordAt 1), .str (wordAt 1), .str (wordAt 0), .str (wordAt 0), .str (wordAt 2)] ++ [.str (wordAt 3)]))
      clear N hWK hWI M L
      have L := L'
      clear L'
      generalize upd HK W (.lst ([.str (wordAt 0), .str (wordAt 0), .str (wordAt 1), .str (wordAt 1), .str (wordAt 0), .str (wordAt 0), .str (wordAt 2)] ++ [.str (wordAt 3)])) = HL' at L hW ⊢
      rw [show ([.str (wordAt 0), .str (wordAt 0), .str (wordAt 1), .str (wordAt 1), .str (wordAt 0), .str (wordAt 0), .str (wordAt 2)] ++ [V.str (wordAt 3)] : List V) = [V.str (wordAt 0), V.str (wordAt 0), V.str (wordAt 1), V.str (wordAt 1), V.str (wordAt 0), V.str (wordAt 0), V.str (wordAt 2), V.str (wordAt 3)] from rfl] at hW
      walk_at "st"
      intro v1 hv1
      have g1 : Fr [] HL' (upd HL' v1 (.lst [.str "key", .str "key", .str "thing", .str "thing", .str "key", .str "key", .str "hows", .str "place"])) := Fr.up hv1
      have L' := L.fr g1
      refine ⟨.list [.str (wordAt 0), .str (wordAt 0), .str (wordAt 1), .str (wordAt 1), .str (wordAt 0), .str (wordAt 0), .str (wordAt 2), .str (wordAt 3)], .list [.str "key", .str "key", .str "thing", .str "thing", .str "key", .str "key", .str "hows", .str "place"],
        .lst (SqL.of (g1.same _ _ hW)) (.cons (.str _) (.cons (.str _) (.cons (.str _) (.cons (.str _) (.cons (.str _) (.cons (.str _) (.cons (.str _) (.cons (.str _) .nil)))))))),
        .lst (SqL.of upd_same) (.cons (.str _) (.cons (.str _) (.cons (.str _) (.cons (.str _) (.cons (.str _) (.cons (.str _) (.cons (.str _) (.cons (.str _) .nil)))))))), by decide +kernel, by decide +kernel, ?_⟩
      rw [show PyData.eqv (.list [.str (wordAt 0), .str (wordAt 0), .str (wordAt 1), .str (wordAt 1), .str (wordAt 0), .str (wordAt 0), .str (wordAt 2), .str (wordAt 3)]) (.list [.str "key", .str "key", .str "thing", .str "thing", .str "key", .str "key", .str "hows", .str "place"]) = true by decide +kernel]
      clear L hW g1 hv1
      generalize upd HL' v1 (.lst [.str "key", .str "key", .str "thing", .str "thing", .str "key", .str "key", .str "hows", .str "place"]) = HM at L' ⊢
      walk_at "st"
      refine ⟨d, l, q, s, ls, ps, rfl, L'.store, L'.disk, by omega, htr, hpr, fun HN t2 l2 d2 xs2 hl20 hd20 ht20 ht2 hl2 sx2 sd2 fN => ?_⟩
      have M := L'.fr fN
      have nl : l2 ≠ l1 := (ne_of_none L'.sl hl20).symm
      have nd : d2 ≠ d1 := by
        obtain ⟨kvs, z, _⟩ := L'.sd
        exact (ne_of_none z hd20).symm
      walk_at "st"
      refine ⟨t2, t1, l2, l1, d2, d1, _, ls, rfl, rfl, ht2, M.st, .lst (SqL.of hl2) (TDs.dp _ _ sx2), .lst (SqL.of M.sl) (TDs.dp _ _ M.sx), okl_shaped fun e he => tr_okl (htr e he), nl, nd, sameT_eq sd2 M.sd (good_tab (wholes_pr htr hpr)), ?_⟩
      clear nl nd sd2 sx2 hl2 ht2 ht20 hd20 hl20 fN L'
      walk_at "st"
      refine ⟨3, by decide, p, g, m, rfl, M.pot, fun HO gv gd tg ng hPO fO => ?_⟩
      have L := M.drawn fO Bpg hPO
      clear M
      walk_at "st"
      refine ⟨L.tabs, fun HI eI hTI => ?_⟩
      have M := L.ext eI hTI
      replace tg := TD.mono (extN_tp eI) _ _ tg
      obtain ⟨sxI, hsI⟩ := M.store.ok
      walk_at "st"
      intro t ht
      have ft : Fr [] HI (upd HI t (.tup [.str "good", .int 1])) := Fr.up ht
      have M' := M.fr ft
      replace tg := TD.mono ft.tup _ _ tg
      walk_at "st"
      refine .inr ⟨s, d, l, q, ls, ps, .ref t, gv, goodK, gd, rfl, M'.store, M'.disk, by omega, .tup upd_same (.cons (.str _) (.cons (.int _) .nil)), goodKey, goodSeal, tg, ng.mono (by decide), fun HJ DJ fJ => ?_⟩
      have sq : s ≠ q := by
        obtain ⟨_, hq, _⟩ := M.disk.pen
        exact ne_of hsI hq (by intro z; cases z)
      have SJ := M'.store.keep fJ (by simpa using sq)
      have TJ := tabs_fr M'.tabs fJ fun x hx => disk_soft M'.disk x (by rw [List.mem_singleton.mp hx]; simp)
      replace tg := TD.mono fJ.tup _ _ tg
      have hpr' : ∀ e ∈ ps ++ [.tuple [goodK, gd]], IsPr e := fun e he => by
        rcases List.mem_append.mp he with he | he
        · exact hpr e he
        · rw [List.mem_singleton.mp he]; exact ⟨goodK, gd, rfl, goodKey, ng.mono (by decide)⟩
      have hlp : (ps ++ [PyData.tuple [goodK, gd]]).length = ps.length + 1 := by simp
      clear M' M L ft ht fO hPO hTI eI hsI fJ
      iterate 3 walk_at "st1"
      refine iteDN (fun _ => ?_) (fun h => absurd rfl h)
      obtain ⟨sxJ, hsJ⟩ := SJ.ok
      walk_at "st"
      refine st_dget2 ?_
      walk_at "st"
      refine ⟨s, d, l, q, ls, _, rfl, SJ, DJ, by omega, htr, hpr', fun HK pf _ tf fK => ?_⟩
      obtain ⟨kvs, hk3, tk3⟩ := tf
      have DK := DJ.keep fK List.not_mem_nil List.not_mem_nil List.not_mem_nil
      have TK := TJ.ext fK.same
      replace tg := TD.mono fK.tup _ _ tg
      walk_at "st"
      refine ⟨pf, rfl, .inr ⟨kvs, .inl hk3⟩, ?_⟩
      walk_at "st"
      intro t3 ht3
      have f3 : Fr [] HK (upd HK t3 (.tup [.str "good", .int 1])) := Fr.up ht3
      walk_at "st"
      refine ⟨_, DGet.t (k := [Sum.inr "good", Sum.inl 1]) (upd_old ht3 hk3) upd_same, ?_⟩
      rcases KD.look tk3 [Sum.inr "good", Sum.inl 1] with ⟨n1, _⟩ | ⟨v, dd, l1', l2', tv'⟩
      · rw [good_look] at n1
        exact nomatch n1
      rw [good_look] at l1'
      cases l1'
      rw [l2']
      walk_at "st"
      have sg := nice_shaped (ng.mono (by decide))
      refine ⟨gd, gd, TD.dp _ _ (TD.mono f3.tup _ _ tv'), TD.dp _ _ (TD.mono f3.tup _ _ tg), sg, sg, ?_⟩
      rw [SeqAt.eqv_refl _ (SeqAt.canLay_of_shaped sg)]
      have DL := DK.keep f3 List.not_mem_nil List.not_mem_nil List.not_mem_nil
      have TL := TK.ext f3.same
      clear f3 tv' tg l2' tk3 hk3 ht3 TK DK fK TJ DJ hsJ SJ
      generalize upd HK t3 (.tup [.str "good", .int 1]) = HL at DL TL ⊢
      walk_at "st"
      refine ⟨TL, fun HM eM hTM => ?_⟩
      have DM := DL.keepB (keepB_ext (B := []) eM) (extN_tp eM) List.not_mem_nil List.not_mem_nil List.not_mem_nil
      obtain ⟨dxM, hdM⟩ := DM.ok
      walk_at "st"
      intro t4 ht4
      have f4 : Fr [] HM (upd HM t4 (.tup [.int 2])) := Fr.up ht4
      have D4 := DM.keep f4 List.not_mem_nil List.not_mem_nil List.not_mem_nil
      have hd4 := f4.same _ _ hdM
      walk_at "st"
      rw [show ((ps.length : Nat) : Int) + 1 = ((ps.length + 1 : Nat) : Int) by omega]
      refine st_repN upd_same (by simp) (by omega) (by decide) fun HN u fN hu => ?_
      have e2 : (List.replicate (ps.length + 1) [V.int 2]).flatten = (List.replicate (ps.length + 1) (2 : Int)).map V.int := by
        generalize ps.length + 1 = k
        induction k with
        | zero => rfl
        | succ k ih => rw [List.replicate_succ, List.replicate_succ, List.flatten_cons, List.map_cons, ih]; rfl
      rw [e2] at hu
      have hdN := fN.same _ _ hd4
      walk_at "st"
      refine .inr ⟨0, d, l, q, u, ls, _, List.replicate (ps.length + 1) 2, rfl, D4.keep fN List.not_mem_nil List.not_mem_nil List.not_mem_nil, hu, by rw [List.length_replicate, hlp], fun h hh => by rw [List.eq_of_mem_replicate hh]; decide, by omega, by omega, hpr', fun HP q2 hq2 DP fP => ?_⟩
      obtain ⟨dxP, hdP⟩ := DP.ok
      refine st_c ?_
      refine st_eq rfl ?_
      refine ⟨_, rfl, ?_⟩
      refine iteD (fun _ => ?_) (fun h => absurd rfl h)
      walk_at "st"
      refine ⟨0, d, l, q2, _, [], rfl, DP, ?_⟩
      walk_at "st"
      exact k _
end
end K39

namespace K39
open PySem PySem.Spec PyProof.Rows L2 Hq
theorem all_mk {q : Program} {l : PySem.W.OpenLaw} {w : World} {K : PySem.W.Frag} {h : Heap} {mg : Str → Option Value} {fa : Addr} (X : K.In h) (G : h.Ns mainGlobals mg) (own : OwnTabs q K mg h) (hfa : mg "law" = some (.ref fa))
    {C_Disk : Addr}
    {C_Store : Addr}
    {C_Exchange : Addr}
    {C_RunError : Addr}
    {C_NoKey : Addr}
    {C_NoThing : Addr}
    {C_NoReached : Addr}
    {C_NoPlace : Addr}
    {f_is_integer : Addr} {od_is_integer an_is_integer : Option Addr} {sl_is_integer : Array (Option Value)} {oc_is_integer kV_is_integer dc_is_integer pm_is_integer cd_is_integer ct_is_integer : Value}
    {f_is_between : Addr} {od_is_between an_is_between : Option Addr} {sl_is_between : Array (Option Value)} {oc_is_between kV_is_between dc_is_between pm_is_between cd_is_between ct_is_between : Value}
    {f_is_number : Addr} {od_is_number an_is_number : Option Addr} {sl_is_number : Array (Option Value)} {oc_is_number kV_is_number dc_is_number pm_is_number cd_is_number ct_is_number : Value}
    {f_is_tuple : Addr} {od_is_tuple an_is_tuple : Option Addr} {sl_is_tuple : Array (Option Value)} {oc_is_tuple kV_is_tuple dc_is_tuple pm_is_tuple cd_is_tuple ct_is_tuple : Value}
    {f_is_key : Addr} {od_is_key an_is_key : Option Addr} {sl_is_key : Array (Option Value)} {oc_is_key kV_is_key dc_is_key pm_is_key cd_is_key ct_is_key : Value}
    {f_is_kept : Addr} {od_is_kept an_is_kept : Option Addr} {sl_is_kept : Array (Option Value)} {oc_is_kept kV_is_kept dc_is_kept pm_is_kept cd_is_kept ct_is_kept : Value}
    {f_Disk___init__ : Addr} {od_Disk___init__ an_Disk___init__ : Option Addr} {sl_Disk___init__ : Array (Option Value)} {oc_Disk___init__ kV_Disk___init__ dc_Disk___init__ pm_Disk___init__ cd_Disk___init__ ct_Disk___init__ : Value}
    {f_Disk_write : Addr} {od_Disk_write an_Disk_write : Option Addr} {sl_Disk_write : Array (Option Value)} {oc_Disk_write kV_Disk_write dc_Disk_write pm_Disk_write cd_Disk_write ct_Disk_write : Value}
    {f_Disk_sync : Addr} {od_Disk_sync an_Disk_sync : Option Addr} {sl_Disk_sync : Array (Option Value)} {oc_Disk_sync kV_Disk_sync dc_Disk_sync pm_Disk_sync cd_Disk_sync ct_Disk_sync : Value}
    {f_Disk_fall : Addr} {od_Disk_fall an_Disk_fall : Option Addr} {sl_Disk_fall : Array (Option Value)} {oc_Disk_fall kV_Disk_fall dc_Disk_fall pm_Disk_fall cd_Disk_fall ct_Disk_fall : Value}
    {f_Disk_spoil : Addr} {od_Disk_spoil an_Disk_spoil : Option Addr} {sl_Disk_spoil : Array (Option Value)} {oc_Disk_spoil kV_Disk_spoil dc_Disk_spoil pm_Disk_spoil cd_Disk_spoil ct_Disk_spoil : Value}
    {f_Disk_words : Addr} {od_Disk_words an_Disk_words : Option Addr} {sl_Disk_words : Array (Option Value)} {oc_Disk_words kV_Disk_words dc_Disk_words pm_Disk_words cd_Disk_words ct_Disk_words : Value}
    {f_Disk_waiting : Addr} {od_Disk_waiting an_Disk_waiting : Option Addr} {sl_Disk_waiting : Array (Option Value)} {oc_Disk_waiting kV_Disk_waiting dc_Disk_waiting pm_Disk_waiting cd_Disk_waiting ct_Disk_waiting : Value}
    {f_Disk_wholes : Addr} {od_Disk_wholes an_Disk_wholes : Option Addr} {sl_Disk_wholes : Array (Option Value)} {oc_Disk_wholes kV_Disk_wholes dc_Disk_wholes pm_Disk_wholes cd_Disk_wholes ct_Disk_wholes : Value}
    {f_RunError___init__ : Addr} {od_RunError___init__ an_RunError___init__ : Option Addr} {sl_RunError___init__ : Array (Option Value)} {oc_RunError___init__ kV_RunError___init__ dc_RunError___init__ pm_RunError___init__ cd_RunError___init__ ct_RunError___init__ : Value}
    {f_Store___init__ : Addr} {od_Store___init__ an_Store___init__ : Option Addr} {sl_Store___init__ : Array (Option Value)} {oc_Store___init__ kV_Store___init__ dc_Store___init__ pm_Store___init__ cd_Store___init__ ct_Store___init__ : Value}
    {f_Store_check : Addr} {od_Store_check an_Store_check : Option Addr} {sl_Store_check : Array (Option Value)} {oc_Store_check kV_Store_check dc_Store_check pm_Store_check cd_Store_check ct_Store_check : Value}
    {f_Store_keep : Addr} {od_Store_keep an_Store_keep : Option Addr} {sl_Store_keep : Array (Option Value)} {oc_Store_keep kV_Store_keep dc_Store_keep pm_Store_keep cd_Store_keep ct_Store_keep : Value}
    {f_Store_found : Addr} {od_Store_found an_Store_found : Option Addr} {sl_Store_found : Array (Option Value)} {oc_Store_found kV_Store_found dc_Store_found pm_Store_found cd_Store_found ct_Store_found : Value}
    {f_law_pot : Addr} {od_law_pot an_law_pot : Option Addr} {sl_law_pot : Array (Option Value)} {oc_law_pot kV_law_pot dc_law_pot pm_law_pot cd_law_pot ct_law_pot : Value}
    {f_law_draw : Addr} {od_law_draw an_law_draw : Option Addr} {sl_law_draw : Array (Option Value)} {oc_law_draw kV_law_draw dc_law_draw pm_law_draw cd_law_draw ct_law_draw : Value}
    {f_law_any : Addr} {od_law_any an_law_any : Option Addr} {sl_law_any : Array (Option Value)} {oc_law_any kV_law_any dc_law_any pm_law_any cd_law_any ct_law_any : Value}
    {f_law_key : Addr} {od_law_key an_law_key : Option Addr} {sl_law_key : Array (Option Value)} {oc_law_key kV_law_key dc_law_key pm_law_key cd_law_key ct_law_key : Value}
    {f_law_thing : Addr} {od_law_thing an_law_thing : Option Addr} {sl_law_thing : Array (Option Value)} {oc_law_thing kV_law_thing dc_law_thing pm_law_thing cd_law_thing ct_law_thing : Value}
    {f_law_word : Addr} {od_law_word an_law_word : Option Addr} {sl_law_word : Array (Option Value)} {oc_law_word kV_law_word dc_law_word pm_law_word cd_law_word ct_law_word : Value}
    {f_law_no_key : Addr} {od_law_no_key an_law_no_key : Option Addr} {sl_law_no_key : Array (Option Value)} {oc_law_no_key kV_law_no_key dc_law_no_key pm_law_no_key cd_law_no_key ct_law_no_key : Value}
    {f_law_no_thing : Addr} {od_law_no_thing an_law_no_thing : Option Addr} {sl_law_no_thing : Array (Option Value)} {oc_law_no_thing kV_law_no_thing dc_law_no_thing pm_law_no_thing cd_law_no_thing ct_law_no_thing : Value}
    {f_law_no_reached : Addr} {od_law_no_reached an_law_no_reached : Option Addr} {sl_law_no_reached : Array (Option Value)} {oc_law_no_reached kV_law_no_reached dc_law_no_reached pm_law_no_reached cd_law_no_reached ct_law_no_reached : Value}
    {f_law_state : Addr} {od_law_state an_law_state : Option Addr} {sl_law_state : Array (Option Value)} {oc_law_state kV_law_state dc_law_state pm_law_state cd_law_state ct_law_state : Value}
    {f_law : Addr} {od_law an_law : Option Addr} {sl_law : Array (Option Value)} {oc_law kV_law dc_law pm_law ct_law : Value}
    {t_LOST : Tok}
    {t_WHOLE : Tok}
    {t_SEAL : Tok}
    {xnm_NoKey : _} {xq_NoKey : _} {xN_NoKey : _} {xbs_NoKey : _} {xbm_NoKey : _} {xsn_NoKey : _} {xsub_NoKey : _} {xab_NoKey : _} {xcol_NoKey : _} {xdd_NoKey : _} {xk0_NoKey : _} {xk1_NoKey : _} {xk2_NoKey : _} {xk3_NoKey : _} {xk5_NoKey : _}
    {xnm_NoThing : _} {xq_NoThing : _} {xN_NoThing : _} {xbs_NoThing : _} {xbm_NoThing : _} {xsn_NoThing : _} {xsub_NoThing : _} {xab_NoThing : _} {xcol_NoThing : _} {xdd_NoThing : _} {xk0_NoThing : _} {xk1_NoThing : _} {xk2_NoThing : _} {xk3_NoThing : _} {xk5_NoThing : _}
    {xnm_NoReached : _} {xq_NoReached : _} {xN_NoReached : _} {xbs_NoReached : _} {xbm_NoReached : _} {xsn_NoReached : _} {xsub_NoReached : _} {xab_NoReached : _} {xcol_NoReached : _} {xdd_NoReached : _} {xk0_NoReached : _} {xk1_NoReached : _} {xk2_NoReached : _} {xk3_NoReached : _} {xk5_NoReached : _}
    {xnm_NoPlace : _} {xq_NoPlace : _} {xN_NoPlace : _} {xbs_NoPlace : _} {xbm_NoPlace : _} {xsn_NoPlace : _} {xsub_NoPlace : _} {xab_NoPlace : _} {xcol_NoPlace : _} {xdd_NoPlace : _} {xk0_NoPlace : _} {xk1_NoPlace : _} {xk2_NoPlace : _} {xk3_NoPlace : _} {xk5_NoPlace : _}
    {cc_law P_law : Addr} {te_law : Value} {td_law : Option Addr} {tv_law : Array Value} {ts_law : Array (Option Value)}
    (aC_Disk : PySem.W.nsIn K mainGlobals "Disk" = some (some (.ref C_Disk)))
    (pg_Disk : PySem.W.plainGet K C_Disk Str.empty = true)
    (hd_Disk : PySem.W.hasDictIn K C_Disk = true)
    (po_Disk : PySem.W.plainOver K C_Disk = true)
    (sa_Disk : PySem.W.findIn K (.ref C_Disk) "__setattr__" = some (some (.builtin "object.__setattr__")))
    (mk_Disk : PySem.W.makesIn K C_Disk = true)
    (kc_Disk : PySem.W.keepIn K (.ref C_Disk) = true)
    (aC_Store : PySem.W.nsIn K mainGlobals "Store" = some (some (.ref C_Store)))
    (pg_Store : PySem.W.plainGet K C_Store Str.empty = true)
    (hd_Store : PySem.W.hasDictIn K C_Store = true)
    (po_Store : PySem.W.plainOver K C_Store = true)
    (sa_Store : PySem.W.findIn K (.ref C_Store) "__setattr__" = some (some (.builtin "object.__setattr__")))
    (mk_Store : PySem.W.makesIn K C_Store = true)
    (kc_Store : PySem.W.keepIn K (.ref C_Store) = true)
    (aC_Exchange : PySem.W.nsIn K mainGlobals "Exchange" = some (some (.ref C_Exchange)))
    (aC_RunError : PySem.W.nsIn K mainGlobals "RunError" = some (some (.ref C_RunError)))
    (aC_NoKey : PySem.W.nsIn K mainGlobals "NoKey" = some (some (.ref C_NoKey)))
    (aC_NoThing : PySem.W.nsIn K mainGlobals "NoThing" = some (some (.ref C_NoThing)))
    (aC_NoReached : PySem.W.nsIn K mainGlobals "NoReached" = some (some (.ref C_NoReached)))
    (aC_NoPlace : PySem.W.nsIn K mainGlobals "NoPlace" = some (some (.ref C_NoPlace)))
    (a_is_integer : PySem.W.nsIn K mainGlobals "is_integer" = some (some (.ref f_is_integer)))
    (l_is_integer : K.lookup f_is_integer = some ⟨oc_is_integer, od_is_integer, .func (PySem.W.fnOf "is_integer" "is_integer" (defArgs s_is_integer) (defBody s_is_integer) (defScope s_is_integer) .none kV_is_integer dc_is_integer pm_is_integer an_is_integer cd_is_integer ct_is_integer), sl_is_integer⟩)
    (c_is_integer : PySem.W.codeIn K cd_is_integer "is_integer" = true)
    (k_is_integer : PySem.W.keepIn K (.ref f_is_integer) = true)
    (a_is_between : PySem.W.nsIn K mainGlobals "is_between" = some (some (.ref f_is_between)))
    (l_is_between : K.lookup f_is_between = some ⟨oc_is_between, od_is_between, .func (PySem.W.fnOf "is_between" "is_between" (defArgs s_is_between) (defBody s_is_between) (defScope s_is_between) .none kV_is_between dc_is_between pm_is_between an_is_between cd_is_between ct_is_between), sl_is_between⟩)
    (c_is_between : PySem.W.codeIn K cd_is_between "is_between" = true)
    (k_is_between : PySem.W.keepIn K (.ref f_is_between) = true)
    (a_is_number : PySem.W.nsIn K mainGlobals "is_number" = some (some (.ref f_is_number)))
    (l_is_number : K.lookup f_is_number = some ⟨oc_is_number, od_is_number, .func (PySem.W.fnOf "is_number" "is_number" (defArgs s_is_number) (defBody s_is_number) (defScope s_is_number) .none kV_is_number dc_is_number pm_is_number an_is_number cd_is_number ct_is_number), sl_is_number⟩)
    (c_is_number : PySem.W.codeIn K cd_is_number "is_number" = true)
    (k_is_number : PySem.W.keepIn K (.ref f_is_number) = true)
    (a_is_tuple : PySem.W.nsIn K mainGlobals "is_tuple" = some (some (.ref f_is_tuple)))
    (l_is_tuple : K.lookup f_is_tuple = some ⟨oc_is_tuple, od_is_tuple, .func (PySem.W.fnOf "is_tuple" "is_tuple" (defArgs s_is_tuple) (defBody s_is_tuple) (defScope s_is_tuple) .none kV_is_tuple dc_is_tuple pm_is_tuple an_is_tuple cd_is_tuple ct_is_tuple), sl_is_tuple⟩)
    (c_is_tuple : PySem.W.codeIn K cd_is_tuple "is_tuple" = true)
    (k_is_tuple : PySem.W.keepIn K (.ref f_is_tuple) = true)
    (a_is_key : PySem.W.nsIn K mainGlobals "is_key" = some (some (.ref f_is_key)))
    (l_is_key : K.lookup f_is_key = some ⟨oc_is_key, od_is_key, .func (PySem.W.fnOf "is_key" "is_key" (defArgs s_is_key) (defBody s_is_key) (defScope s_is_key) .none kV_is_key dc_is_key pm_is_key an_is_key cd_is_key ct_is_key), sl_is_key⟩)
    (c_is_key : PySem.W.codeIn K cd_is_key "is_key" = true)
    (k_is_key : PySem.W.keepIn K (.ref f_is_key) = true)
    (a_is_kept : PySem.W.nsIn K mainGlobals "is_kept" = some (some (.ref f_is_kept)))
    (l_is_kept : K.lookup f_is_kept = some ⟨oc_is_kept, od_is_kept, .func (PySem.W.fnOf "is_kept" "is_kept" (defArgs s_is_kept) (defBody s_is_kept) (defScope s_is_kept) .none kV_is_kept dc_is_kept pm_is_kept an_is_kept cd_is_kept ct_is_kept), sl_is_kept⟩)
    (c_is_kept : PySem.W.codeIn K cd_is_kept "is_kept" = true)
    (k_is_kept : PySem.W.keepIn K (.ref f_is_kept) = true)
    (a_Disk___init__ : PySem.W.findIn K (.ref C_Disk) "__init__" = some (some (.ref f_Disk___init__)))
    (i_Disk___init__ : PySem.W.isFn K (.ref f_Disk___init__) = true)
    (l_Disk___init__ : K.lookup f_Disk___init__ = some ⟨oc_Disk___init__, od_Disk___init__, .func (PySem.W.fnOf "__init__" "Disk.__init__" (defArgs s_Disk___init__) (defBody s_Disk___init__) (defScope s_Disk___init__) .none kV_Disk___init__ dc_Disk___init__ pm_Disk___init__ an_Disk___init__ cd_Disk___init__ ct_Disk___init__), sl_Disk___init__⟩)
    (c_Disk___init__ : PySem.W.codeIn K cd_Disk___init__ "Disk.__init__" = true)
    (k_Disk___init__ : PySem.W.keepIn K (.ref f_Disk___init__) = true)
    (a_Disk_write : PySem.W.findIn K (.ref C_Disk) "write" = some (some (.ref f_Disk_write)))
    (i_Disk_write : PySem.W.isFn K (.ref f_Disk_write) = true)
    (l_Disk_write : K.lookup f_Disk_write = some ⟨oc_Disk_write, od_Disk_write, .func (PySem.W.fnOf "write" "Disk.write" (defArgs s_Disk_write) (defBody s_Disk_write) (defScope s_Disk_write) .none kV_Disk_write dc_Disk_write pm_Disk_write an_Disk_write cd_Disk_write ct_Disk_write), sl_Disk_write⟩)
    (c_Disk_write : PySem.W.codeIn K cd_Disk_write "Disk.write" = true)
    (k_Disk_write : PySem.W.keepIn K (.ref f_Disk_write) = true)
    (a_Disk_sync : PySem.W.findIn K (.ref C_Disk) "sync" = some (some (.ref f_Disk_sync)))
    (i_Disk_sync : PySem.W.isFn K (.ref f_Disk_sync) = true)
    (l_Disk_sync : K.lookup f_Disk_sync = some ⟨oc_Disk_sync, od_Disk_sync, .func (PySem.W.fnOf "sync" "Disk.sync" (defArgs s_Disk_sync) (defBody s_Disk_sync) (defScope s_Disk_sync) .none kV_Disk_sync dc_Disk_sync pm_Disk_sync an_Disk_sync cd_Disk_sync ct_Disk_sync), sl_Disk_sync⟩)
    (c_Disk_sync : PySem.W.codeIn K cd_Disk_sync "Disk.sync" = true)
    (k_Disk_sync : PySem.W.keepIn K (.ref f_Disk_sync) = true)
    (a_Disk_fall : PySem.W.findIn K (.ref C_Disk) "fall" = some (some (.ref f_Disk_fall)))
    (i_Disk_fall : PySem.W.isFn K (.ref f_Disk_fall) = true)
    (l_Disk_fall : K.lookup f_Disk_fall = some ⟨oc_Disk_fall, od_Disk_fall, .func (PySem.W.fnOf "fall" "Disk.fall" (defArgs s_Disk_fall) (defBody s_Disk_fall) (defScope s_Disk_fall) .none kV_Disk_fall dc_Disk_fall pm_Disk_fall an_Disk_fall cd_Disk_fall ct_Disk_fall), sl_Disk_fall⟩)
    (c_Disk_fall : PySem.W.codeIn K cd_Disk_fall "Disk.fall" = true)
    (k_Disk_fall : PySem.W.keepIn K (.ref f_Disk_fall) = true)
    (a_Disk_spoil : PySem.W.findIn K (.ref C_Disk) "spoil" = some (some (.ref f_Disk_spoil)))
    (i_Disk_spoil : PySem.W.isFn K (.ref f_Disk_spoil) = true)
    (l_Disk_spoil : K.lookup f_Disk_spoil = some ⟨oc_Disk_spoil, od_Disk_spoil, .func (PySem.W.fnOf "spoil" "Disk.spoil" (defArgs s_Disk_spoil) (defBody s_Disk_spoil) (defScope s_Disk_spoil) .none kV_Disk_spoil dc_Disk_spoil pm_Disk_spoil an_Disk_spoil cd_Disk_spoil ct_Disk_spoil), sl_Disk_spoil⟩)
    (c_Disk_spoil : PySem.W.codeIn K cd_Disk_spoil "Disk.spoil" = true)
    (k_Disk_spoil : PySem.W.keepIn K (.ref f_Disk_spoil) = true)
    (a_Disk_words : PySem.W.findIn K (.ref C_Disk) "words" = some (some (.ref f_Disk_words)))
    (i_Disk_words : PySem.W.isFn K (.ref f_Disk_words) = true)
    (l_Disk_words : K.lookup f_Disk_words = some ⟨oc_Disk_words, od_Disk_words, .func (PySem.W.fnOf "words" "Disk.words" (defArgs s_Disk_words) (defBody s_Disk_words) (defScope s_Disk_words) .none kV_Disk_words dc_Disk_words pm_Disk_words an_Disk_words cd_Disk_words ct_Disk_words), sl_Disk_words⟩)
    (c_Disk_words : PySem.W.codeIn K cd_Disk_words "Disk.words" = true)
    (k_Disk_words : PySem.W.keepIn K (.ref f_Disk_words) = true)
    (a_Disk_waiting : PySem.W.findIn K (.ref C_Disk) "waiting" = some (some (.ref f_Disk_waiting)))
    (i_Disk_waiting : PySem.W.isFn K (.ref f_Disk_waiting) = true)
    (l_Disk_waiting : K.lookup f_Disk_waiting = some ⟨oc_Disk_waiting, od_Disk_waiting, .func (PySem.W.fnOf "waiting" "Disk.waiting" (defArgs s_Disk_waiting) (defBody s_Disk_waiting) (defScope s_Disk_waiting) .none kV_Disk_waiting dc_Disk_waiting pm_Disk_waiting an_Disk_waiting cd_Disk_waiting ct_Disk_waiting), sl_Disk_waiting⟩)
    (c_Disk_waiting : PySem.W.codeIn K cd_Disk_waiting "Disk.waiting" = true)
    (k_Disk_waiting : PySem.W.keepIn K (.ref f_Disk_waiting) = true)
    (a_Disk_wholes : PySem.W.findIn K (.ref C_Disk) "wholes" = some (some (.ref f_Disk_wholes)))
    (i_Disk_wholes : PySem.W.isFn K (.ref f_Disk_wholes) = true)
    (l_Disk_wholes : K.lookup f_Disk_wholes = some ⟨oc_Disk_wholes, od_Disk_wholes, .func (PySem.W.fnOf "wholes" "Disk.wholes" (defArgs s_Disk_wholes) (defBody s_Disk_wholes) (defScope s_Disk_wholes) .none kV_Disk_wholes dc_Disk_wholes pm_Disk_wholes an_Disk_wholes cd_Disk_wholes ct_Disk_wholes), sl_Disk_wholes⟩)
    (c_Disk_wholes : PySem.W.codeIn K cd_Disk_wholes "Disk.wholes" = true)
    (k_Disk_wholes : PySem.W.keepIn K (.ref f_Disk_wholes) = true)
    (a_RunError___init__ : PySem.W.findIn K (.ref C_RunError) "__init__" = some (some (.ref f_RunError___init__)))
    (i_RunError___init__ : PySem.W.isFn K (.ref f_RunError___init__) = true)
    (l_RunError___init__ : K.lookup f_RunError___init__ = some ⟨oc_RunError___init__, od_RunError___init__, .func (PySem.W.fnOf "__init__" "RunError.__init__" (defArgs s_RunError___init__) (defBody s_RunError___init__) (defScope s_RunError___init__) .none kV_RunError___init__ dc_RunError___init__ pm_RunError___init__ an_RunError___init__ cd_RunError___init__ ct_RunError___init__), sl_RunError___init__⟩)
    (c_RunError___init__ : PySem.W.codeIn K cd_RunError___init__ "RunError.__init__" = true)
    (k_RunError___init__ : PySem.W.keepIn K (.ref f_RunError___init__) = true)
    (a_Store___init__ : PySem.W.findIn K (.ref C_Store) "__init__" = some (some (.ref f_Store___init__)))
    (i_Store___init__ : PySem.W.isFn K (.ref f_Store___init__) = true)
    (l_Store___init__ : K.lookup f_Store___init__ = some ⟨oc_Store___init__, od_Store___init__, .func (PySem.W.fnOf "__init__" "Store.__init__" (defArgs s_Store___init__) (defBody s_Store___init__) (defScope s_Store___init__) .none kV_Store___init__ dc_Store___init__ pm_Store___init__ an_Store___init__ cd_Store___init__ ct_Store___init__), sl_Store___init__⟩)
    (c_Store___init__ : PySem.W.codeIn K cd_Store___init__ "Store.__init__" = true)
    (k_Store___init__ : PySem.W.keepIn K (.ref f_Store___init__) = true)
    (a_Store_check : PySem.W.findIn K (.ref C_Store) "check" = some (some (.ref f_Store_check)))
    (i_Store_check : PySem.W.isFn K (.ref f_Store_check) = true)
    (l_Store_check : K.lookup f_Store_check = some ⟨oc_Store_check, od_Store_check, .func (PySem.W.fnOf "check" "Store.check" (defArgs s_Store_check) (defBody s_Store_check) (defScope s_Store_check) .none kV_Store_check dc_Store_check pm_Store_check an_Store_check cd_Store_check ct_Store_check), sl_Store_check⟩)
    (c_Store_check : PySem.W.codeIn K cd_Store_check "Store.check" = true)
    (k_Store_check : PySem.W.keepIn K (.ref f_Store_check) = true)
    (a_Store_keep : PySem.W.findIn K (.ref C_Store) "keep" = some (some (.ref f_Store_keep)))
    (i_Store_keep : PySem.W.isFn K (.ref f_Store_keep) = true)
    (l_Store_keep : K.lookup f_Store_keep = some ⟨oc_Store_keep, od_Store_keep, .func (PySem.W.fnOf "keep" "Store.keep" (defArgs s_Store_keep) (defBody s_Store_keep) (defScope s_Store_keep) .none kV_Store_keep dc_Store_keep pm_Store_keep an_Store_keep cd_Store_keep ct_Store_keep), sl_Store_keep⟩)
    (c_Store_keep : PySem.W.codeIn K cd_Store_keep "Store.keep" = true)
    (k_Store_keep : PySem.W.keepIn K (.ref f_Store_keep) = true)
    (a_Store_found : PySem.W.findIn K (.ref C_Store) "found" = some (some (.ref f_Store_found)))
    (i_Store_found : PySem.W.isFn K (.ref f_Store_found) = true)
    (l_Store_found : K.lookup f_Store_found = some ⟨oc_Store_found, od_Store_found, .func (PySem.W.fnOf "found" "Store.found" (defArgs s_Store_found) (defBody s_Store_found) (defScope s_Store_found) .none kV_Store_found dc_Store_found pm_Store_found an_Store_found cd_Store_found ct_Store_found), sl_Store_found⟩)
    (c_Store_found : PySem.W.codeIn K cd_Store_found "Store.found" = true)
    (k_Store_found : PySem.W.keepIn K (.ref f_Store_found) = true)
    (a_law_pot : PySem.W.nsIn K mainGlobals "_law_pot" = some (some (.ref f_law_pot)))
    (l_law_pot : K.lookup f_law_pot = some ⟨oc_law_pot, od_law_pot, .func (PySem.W.fnOf "_law_pot" "_law_pot" (defArgs s_law_pot) (defBody s_law_pot) (defScope s_law_pot) .none kV_law_pot dc_law_pot pm_law_pot an_law_pot cd_law_pot ct_law_pot), sl_law_pot⟩)
    (c_law_pot : PySem.W.codeIn K cd_law_pot "_law_pot" = true)
    (k_law_pot : PySem.W.keepIn K (.ref f_law_pot) = true)
    (a_law_draw : PySem.W.nsIn K mainGlobals "_law_draw" = some (some (.ref f_law_draw)))
    (l_law_draw : K.lookup f_law_draw = some ⟨oc_law_draw, od_law_draw, .func (PySem.W.fnOf "_law_draw" "_law_draw" (defArgs s_law_draw) (defBody s_law_draw) (defScope s_law_draw) .none kV_law_draw dc_law_draw pm_law_draw an_law_draw cd_law_draw ct_law_draw), sl_law_draw⟩)
    (c_law_draw : PySem.W.codeIn K cd_law_draw "_law_draw" = true)
    (k_law_draw : PySem.W.keepIn K (.ref f_law_draw) = true)
    (a_law_any : PySem.W.nsIn K mainGlobals "_law_any" = some (some (.ref f_law_any)))
    (l_law_any : K.lookup f_law_any = some ⟨oc_law_any, od_law_any, .func (PySem.W.fnOf "_law_any" "_law_any" (defArgs s_law_any) (defBody s_law_any) (defScope s_law_any) .none kV_law_any dc_law_any pm_law_any an_law_any cd_law_any ct_law_any), sl_law_any⟩)
    (c_law_any : PySem.W.codeIn K cd_law_any "_law_any" = true)
    (k_law_any : PySem.W.keepIn K (.ref f_law_any) = true)
    (a_law_key : PySem.W.nsIn K mainGlobals "_law_key" = some (some (.ref f_law_key)))
    (l_law_key : K.lookup f_law_key = some ⟨oc_law_key, od_law_key, .func (PySem.W.fnOf "_law_key" "_law_key" (defArgs s_law_key) (defBody s_law_key) (defScope s_law_key) .none kV_law_key dc_law_key pm_law_key an_law_key cd_law_key ct_law_key), sl_law_key⟩)
    (c_law_key : PySem.W.codeIn K cd_law_key "_law_key" = true)
    (k_law_key : PySem.W.keepIn K (.ref f_law_key) = true)
    (a_law_thing : PySem.W.nsIn K mainGlobals "_law_thing" = some (some (.ref f_law_thing)))
    (l_law_thing : K.lookup f_law_thing = some ⟨oc_law_thing, od_law_thing, .func (PySem.W.fnOf "_law_thing" "_law_thing" (defArgs s_law_thing) (defBody s_law_thing) (defScope s_law_thing) .none kV_law_thing dc_law_thing pm_law_thing an_law_thing cd_law_thing ct_law_thing), sl_law_thing⟩)
    (c_law_thing : PySem.W.codeIn K cd_law_thing "_law_thing" = true)
    (k_law_thing : PySem.W.keepIn K (.ref f_law_thing) = true)
    (a_law_word : PySem.W.nsIn K mainGlobals "_law_word" = some (some (.ref f_law_word)))
    (l_law_word : K.lookup f_law_word = some ⟨oc_law_word, od_law_word, .func (PySem.W.fnOf "_law_word" "_law_word" (defArgs s_law_word) (defBody s_law_word) (defScope s_law_word) .none kV_law_word dc_law_word pm_law_word an_law_word cd_law_word ct_law_word), sl_law_word⟩)
    (c_law_word : PySem.W.codeIn K cd_law_word "_law_word" = true)
    (k_law_word : PySem.W.keepIn K (.ref f_law_word) = true)
    (a_law_no_key : PySem.W.nsIn K mainGlobals "_law_no_key" = some (some (.ref f_law_no_key)))
    (l_law_no_key : K.lookup f_law_no_key = some ⟨oc_law_no_key, od_law_no_key, .func (PySem.W.fnOf "_law_no_key" "_law_no_key" (defArgs s_law_no_key) (defBody s_law_no_key) (defScope s_law_no_key) .none kV_law_no_key dc_law_no_key pm_law_no_key an_law_no_key cd_law_no_key ct_law_no_key), sl_law_no_key⟩)
    (c_law_no_key : PySem.W.codeIn K cd_law_no_key "_law_no_key" = true)
    (k_law_no_key : PySem.W.keepIn K (.ref f_law_no_key) = true)
    (a_law_no_thing : PySem.W.nsIn K mainGlobals "_law_no_thing" = some (some (.ref f_law_no_thing)))
    (l_law_no_thing : K.lookup f_law_no_thing = some ⟨oc_law_no_thing, od_law_no_thing, .func (PySem.W.fnOf "_law_no_thing" "_law_no_thing" (defArgs s_law_no_thing) (defBody s_law_no_thing) (defScope s_law_no_thing) .none kV_law_no_thing dc_law_no_thing pm_law_no_thing an_law_no_thing cd_law_no_thing ct_law_no_thing), sl_law_no_thing⟩)
    (c_law_no_thing : PySem.W.codeIn K cd_law_no_thing "_law_no_thing" = true)
    (k_law_no_thing : PySem.W.keepIn K (.ref f_law_no_thing) = true)
    (a_law_no_reached : PySem.W.nsIn K mainGlobals "_law_no_reached" = some (some (.ref f_law_no_reached)))
    (l_law_no_reached : K.lookup f_law_no_reached = some ⟨oc_law_no_reached, od_law_no_reached, .func (PySem.W.fnOf "_law_no_reached" "_law_no_reached" (defArgs s_law_no_reached) (defBody s_law_no_reached) (defScope s_law_no_reached) .none kV_law_no_reached dc_law_no_reached pm_law_no_reached an_law_no_reached cd_law_no_reached ct_law_no_reached), sl_law_no_reached⟩)
    (c_law_no_reached : PySem.W.codeIn K cd_law_no_reached "_law_no_reached" = true)
    (k_law_no_reached : PySem.W.keepIn K (.ref f_law_no_reached) = true)
    (a_law_state : PySem.W.nsIn K mainGlobals "_law_state" = some (some (.ref f_law_state)))
    (l_law_state : K.lookup f_law_state = some ⟨oc_law_state, od_law_state, .func (PySem.W.fnOf "_law_state" "_law_state" (defArgs s_law_state) (defBody s_law_state) (defScope s_law_state) .none kV_law_state dc_law_state pm_law_state an_law_state cd_law_state ct_law_state), sl_law_state⟩)
    (c_law_state : PySem.W.codeIn K cd_law_state "_law_state" = true)
    (k_law_state : PySem.W.keepIn K (.ref f_law_state) = true)
    (a_law : PySem.W.nsIn K mainGlobals "law" = some (some (.ref f_law)))
    (l_law : K.lookup f_law = some ⟨oc_law, od_law, .func (PySem.W.fnOf "law" "law" (defArgs s_law) (defBody s_law) (defScope s_law) .none kV_law dc_law pm_law an_law (.ref cc_law) ct_law), sl_law⟩)
    (c_law : PySem.W.codeIn K (.ref cc_law) "law" = true)
    (k_law : PySem.W.keepIn K (.ref f_law) = true)
    (no_Disk_lying : PySem.W.findIn K (.ref C_Disk) "lying" = some none)
    (no_Disk_pending : PySem.W.findIn K (.ref C_Disk) "pending" = some none)
    (no_Disk_spoils : PySem.W.findIn K (.ref C_Disk) "spoils" = some none)
    (no_Store_disk : PySem.W.findIn K (.ref C_Store) "disk" = some none)
    (z_len : PySem.W.nsIn K mainGlobals "len" = some none)
    (z_int : PySem.W.nsIn K mainGlobals "int" = some none)
    (z_bool : PySem.W.nsIn K mainGlobals "bool" = some none)
    (z_str : PySem.W.nsIn K mainGlobals "str" = some none)
    (z_tuple : PySem.W.nsIn K mainGlobals "tuple" = some none)
    (z_list : PySem.W.nsIn K mainGlobals "list" = some none)
    (z_isinstance : PySem.W.nsIn K mainGlobals "isinstance" = some none)
    (z_all : PySem.W.nsIn K mainGlobals "all" = some none)
    (z_abs : PySem.W.nsIn K mainGlobals "abs" = some none)
    (z_sum : PySem.W.nsIn K mainGlobals "sum" = some none)
    (z_range : PySem.W.nsIn K mainGlobals "range" = some none)
    (z_zip : PySem.W.nsIn K mainGlobals "zip" = some none)
    (z_ValueError : PySem.W.nsIn K mainGlobals "ValueError" = some none)
    (g_LOST : PySem.W.nsIn K mainGlobals "LOST" = some (some (.int 0 t_LOST)))
    (g_WHOLE : PySem.W.nsIn K mainGlobals "WHOLE" = some (some (.int 2 t_WHOLE)))
    (g_SEAL : PySem.W.nsIn K mainGlobals "SEAL" = some (some (.str "seal" t_SEAL)))
    (lo_NoKey : K.lookup C_NoKey = some (excClassObj xnm_NoKey xq_NoKey C_NoKey xN_NoKey xbs_NoKey xbm_NoKey true xsn_NoKey xsub_NoKey xab_NoKey xcol_NoKey xdd_NoKey xk0_NoKey xk1_NoKey xk2_NoKey xk3_NoKey xk5_NoKey "ValueError.__new__"))
    (rv_NoKey : PySem.HandSPX.refsVE xbm_NoKey = true)
    (xsa_NoKey : PySem.W.findIn K (.ref C_NoKey) "__setattr__" = some (some (.builtin "object.__setattr__")))
    (xbe_NoKey : PySem.W.subIn K (.ref C_NoKey) (.type "BaseException") = some true)
    (xty_NoKey : PySem.W.typeIn K (.ref C_NoKey) = some (.type "type"))
    (xk_NoKey : PySem.W.keepIn K (.ref C_NoKey) = true)
    (xga_NoKey : PySem.W.findIn K (.ref C_NoKey) "__getattribute__" = some (some (.builtin "BaseException.__getattribute__")))
    (xgt_NoKey : PySem.W.findIn K (.ref C_NoKey) "__getattr__" = some none)
    (xhd_NoKey : PySem.W.hasDictIn K C_NoKey = true)
    (xcl_NoKey : PySem.W.findIn K (.ref C_NoKey) "__class__" = some (some (.builtin "object.__class__")))
    (xmr_NoKey : PySem.W.mroIn K C_NoKey (.type "object") = some true)
    (lo_NoThing : K.lookup C_NoThing = some (excClassObj xnm_NoThing xq_NoThing C_NoThing xN_NoThing xbs_NoThing xbm_NoThing true xsn_NoThing xsub_NoThing xab_NoThing xcol_NoThing xdd_NoThing xk0_NoThing xk1_NoThing xk2_NoThing xk3_NoThing xk5_NoThing "ValueError.__new__"))
    (rv_NoThing : PySem.HandSPX.refsVE xbm_NoThing = true)
    (xsa_NoThing : PySem.W.findIn K (.ref C_NoThing) "__setattr__" = some (some (.builtin "object.__setattr__")))
    (xbe_NoThing : PySem.W.subIn K (.ref C_NoThing) (.type "BaseException") = some true)
    (xty_NoThing : PySem.W.typeIn K (.ref C_NoThing) = some (.type "type"))
    (xk_NoThing : PySem.W.keepIn K (.ref C_NoThing) = true)
    (xga_NoThing : PySem.W.findIn K (.ref C_NoThing) "__getattribute__" = some (some (.builtin "BaseException.__getattribute__")))
    (xgt_NoThing : PySem.W.findIn K (.ref C_NoThing) "__getattr__" = some none)
    (xhd_NoThing : PySem.W.hasDictIn K C_NoThing = true)
    (xcl_NoThing : PySem.W.findIn K (.ref C_NoThing) "__class__" = some (some (.builtin "object.__class__")))
    (xmr_NoThing : PySem.W.mroIn K C_NoThing (.type "object") = some true)
    (lo_NoReached : K.lookup C_NoReached = some (excClassObj xnm_NoReached xq_NoReached C_NoReached xN_NoReached xbs_NoReached xbm_NoReached true xsn_NoReached xsub_NoReached xab_NoReached xcol_NoReached xdd_NoReached xk0_NoReached xk1_NoReached xk2_NoReached xk3_NoReached xk5_NoReached "ValueError.__new__"))
    (rv_NoReached : PySem.HandSPX.refsVE xbm_NoReached = true)
    (xsa_NoReached : PySem.W.findIn K (.ref C_NoReached) "__setattr__" = some (some (.builtin "object.__setattr__")))
    (xbe_NoReached : PySem.W.subIn K (.ref C_NoReached) (.type "BaseException") = some true)
    (xty_NoReached : PySem.W.typeIn K (.ref C_NoReached) = some (.type "type"))
    (xk_NoReached : PySem.W.keepIn K (.ref C_NoReached) = true)
    (xga_NoReached : PySem.W.findIn K (.ref C_NoReached) "__getattribute__" = some (some (.builtin "BaseException.__getattribute__")))
    (xgt_NoReached : PySem.W.findIn K (.ref C_NoReached) "__getattr__" = some none)
    (xhd_NoReached : PySem.W.hasDictIn K C_NoReached = true)
    (xcl_NoReached : PySem.W.findIn K (.ref C_NoReached) "__class__" = some (some (.builtin "object.__class__")))
    (xmr_NoReached : PySem.W.mroIn K C_NoReached (.type "object") = some true)
    (lo_NoPlace : K.lookup C_NoPlace = some (excClassObj xnm_NoPlace xq_NoPlace C_NoPlace xN_NoPlace xbs_NoPlace xbm_NoPlace true xsn_NoPlace xsub_NoPlace xab_NoPlace xcol_NoPlace xdd_NoPlace xk0_NoPlace xk1_NoPlace xk2_NoPlace xk3_NoPlace xk5_NoPlace "ValueError.__new__"))
    (rv_NoPlace : PySem.HandSPX.refsVE xbm_NoPlace = true)
    (xsa_NoPlace : PySem.W.findIn K (.ref C_NoPlace) "__setattr__" = some (some (.builtin "object.__setattr__")))
    (xbe_NoPlace : PySem.W.subIn K (.ref C_NoPlace) (.type "BaseException") = some true)
    (xty_NoPlace : PySem.W.typeIn K (.ref C_NoPlace) = some (.type "type"))
    (xk_NoPlace : PySem.W.keepIn K (.ref C_NoPlace) = true)
    (xga_NoPlace : PySem.W.findIn K (.ref C_NoPlace) "__getattribute__" = some (some (.builtin "BaseException.__getattribute__")))
    (xgt_NoPlace : PySem.W.findIn K (.ref C_NoPlace) "__getattr__" = some none)
    (xhd_NoPlace : PySem.W.hasDictIn K C_NoPlace = true)
    (xcl_NoPlace : PySem.W.findIn K (.ref C_NoPlace) "__class__" = some (some (.builtin "object.__class__")))
    (xmr_NoPlace : PySem.W.mroIn K C_NoPlace (.type "object") = some true)
    (xsp : PySem.W.specialIn K (.builtin "object.__class__") "__get__" = some (some (.builtin "getset_descriptor.__get__")))
    (xtk : PySem.W.takesIn K (.builtin "object.__class__") = some true)
    (xvV : PySem.W.findCls K (.type "ValueError") (.type "type") "__init__" = some (.val (.builtin "ValueError.__init__")))
    (lc_law : K.lookup cc_law = some ⟨te_law, td_law, .fields tv_law, ts_law⟩)
    (lv_law : tv_law[11]? = some (.ref P_law))
    (lh_law : PySem.W.codeHdIn K cc_law P_law = true)
    (lo_law : K.lookup P_law = none)
    (lr_law : ((recsOf q).any fun e => e.name == ("law" : Str)) = true)
    (ei_NoKey : PySem.W.findIn K (.ref C_NoKey) "__init__" = some (some (.ref f_RunError___init__)))
    (ei_NoThing : PySem.W.findIn K (.ref C_NoThing) "__init__" = some (some (.ref f_RunError___init__)))
    (ei_NoReached : PySem.W.findIn K (.ref C_NoReached) "__init__" = some (some (.ref f_RunError___init__)))
    (ei_NoPlace : PySem.W.findIn K (.ref C_NoPlace) "__init__" = some (some (.ref f_RunError___init__)))
    (ty_RunError___init__ : PySem.W.typeIn K (.ref f_RunError___init__) = some (.type "function"))
    (x_em_NoKey : PySem.W.exmOne K (.ref C_NoKey) (.ref C_RunError) = some true)
    (x_em_NoThing : PySem.W.exmOne K (.ref C_NoThing) (.ref C_RunError) = some true)
    (x_em_NoReached : PySem.W.exmOne K (.ref C_NoReached) (.ref C_RunError) = some true)
    (x_em_NoPlace : PySem.W.exmOne K (.ref C_NoPlace) (.ref C_RunError) = some true)
    (x_ki_NoKey_NoKey : PySem.W.kitOne K (.ref C_NoKey) (.ref C_NoKey) = some true)
    (x_ki_NoKey_NoThing : PySem.W.kitOne K (.ref C_NoKey) (.ref C_NoThing) = some false)
    (x_ki_NoKey_NoReached : PySem.W.kitOne K (.ref C_NoKey) (.ref C_NoReached) = some false)
    (x_ki_NoKey_NoPlace : PySem.W.kitOne K (.ref C_NoKey) (.ref C_NoPlace) = some false)
    (x_ki_NoThing_NoKey : PySem.W.kitOne K (.ref C_NoThing) (.ref C_NoKey) = some false)
    (x_ki_NoThing_NoThing : PySem.W.kitOne K (.ref C_NoThing) (.ref C_NoThing) = some true)
    (x_ki_NoThing_NoReached : PySem.W.kitOne K (.ref C_NoThing) (.ref C_NoReached) = some false)
    (x_ki_NoThing_NoPlace : PySem.W.kitOne K (.ref C_NoThing) (.ref C_NoPlace) = some false)
    (x_ki_NoReached_NoKey : PySem.W.kitOne K (.ref C_NoReached) (.ref C_NoKey) = some false)
    (x_ki_NoReached_NoThing : PySem.W.kitOne K (.ref C_NoReached) (.ref C_NoThing) = some false)
    (x_ki_NoReached_NoReached : PySem.W.kitOne K (.ref C_NoReached) (.ref C_NoReached) = some true)
    (x_ki_NoReached_NoPlace : PySem.W.kitOne K (.ref C_NoReached) (.ref C_NoPlace) = some false)
    (x_ki_NoPlace_NoKey : PySem.W.kitOne K (.ref C_NoPlace) (.ref C_NoKey) = some false)
    (x_ki_NoPlace_NoThing : PySem.W.kitOne K (.ref C_NoPlace) (.ref C_NoThing) = some false)
    (x_ki_NoPlace_NoReached : PySem.W.kitOne K (.ref C_NoPlace) (.ref C_NoReached) = some false)
    (x_ki_NoPlace_NoPlace : PySem.W.kitOne K (.ref C_NoPlace) (.ref C_NoPlace) = some true)
    (x_LE : PySem.W.kitOne K (.type "list") (.ref C_Exchange) = some false)
    (x_DE : PySem.W.kitOne K (.type "dict") (.ref C_Exchange) = some false)
    (x_d_int : PySem.W.kitOne K (.ref C_Disk) (.type "int") = some false)
    (x_d_bool : PySem.W.kitOne K (.ref C_Disk) (.type "bool") = some false)
    (x_d_str : PySem.W.kitOne K (.ref C_Disk) (.type "str") = some false)
    (x_d_tuple : PySem.W.kitOne K (.ref C_Disk) (.type "tuple") = some false)
    (x_d_E : PySem.W.kitOne K (.ref C_Disk) (.ref C_Exchange) = some false)
    (d_cls : PySem.W.findIn K (.ref C_Disk) "__class__" = some (some (.builtin "object.__class__")))
    (d_mro : PySem.W.mroIn K C_Disk (.type "object") = some true)
    : LamX.LawAtS l w K (L2.CX l.prog w) 16 63 "script" mg fa h := by
  have e := hfa.symm.trans (PySem.W.mg_of X G a_law)
  cases e
  have F_is_integer := fun_mk (st := s_is_integer) l_is_integer c_is_integer k_is_integer
  have b_is_integer := F_is_integer.binds (ps := ["thing"]) fun _ _ _ _ _ _ us hl => match us, hl with | [_], _ => rfl
  have F_is_between := fun_mk (st := s_is_between) l_is_between c_is_between k_is_between
  have b_is_between := F_is_between.binds (ps := ["thing", "least", "most"]) fun _ _ _ _ _ _ us hl => match us, hl with | [_, _, _], _ => rfl
  have F_is_number := fun_mk (st := s_is_number) l_is_number c_is_number k_is_number
  have b_is_number := F_is_number.binds (ps := ["thing"]) fun _ _ _ _ _ _ us hl => match us, hl with | [_], _ => rfl
  have F_is_tuple := fun_mk (st := s_is_tuple) l_is_tuple c_is_tuple k_is_tuple
  have b_is_tuple := F_is_tuple.binds (ps := ["thing", "least", "most"]) fun _ _ _ _ _ _ us hl => match us, hl with | [_, _, _], _ => rfl
  have F_is_key := fun_mk (st := s_is_key) l_is_key c_is_key k_is_key
  have b_is_key := F_is_key.binds (ps := ["thing"]) fun _ _ _ _ _ _ us hl => match us, hl with | [_], _ => rfl
  have F_is_kept := fun_mk (st := s_is_kept) l_is_kept c_is_kept k_is_kept
  have b_is_kept := F_is_kept.binds (ps := ["thing"]) fun _ _ _ _ _ _ us hl => match us, hl with | [_], _ => rfl
  have F_Disk___init__ := fun_mk (st := s_Disk___init__) l_Disk___init__ c_Disk___init__ k_Disk___init__
  have b_Disk___init__ := F_Disk___init__.binds (ps := ["self"]) fun _ _ _ _ _ _ us hl => match us, hl with | [_], _ => rfl
  have F_Disk_write := fun_mk (st := s_Disk_write) l_Disk_write c_Disk_write k_Disk_write
  have b_Disk_write := F_Disk_write.binds (ps := ["self", "key", "thing"]) fun _ _ _ _ _ _ us hl => match us, hl with | [_, _, _], _ => rfl
  have F_Disk_sync := fun_mk (st := s_Disk_sync) l_Disk_sync c_Disk_sync k_Disk_sync
  have b_Disk_sync := F_Disk_sync.binds (ps := ["self"]) fun _ _ _ _ _ _ us hl => match us, hl with | [_], _ => rfl
  have F_Disk_fall := fun_mk (st := s_Disk_fall) l_Disk_fall c_Disk_fall k_Disk_fall
  have b_Disk_fall := F_Disk_fall.binds (ps := ["self", "reached"]) fun _ _ _ _ _ _ us hl => match us, hl with | [_, _], _ => rfl
  have F_Disk_spoil := fun_mk (st := s_Disk_spoil) l_Disk_spoil c_Disk_spoil k_Disk_spoil
  have b_Disk_spoil := F_Disk_spoil.binds (ps := ["self", "at"]) fun _ _ _ _ _ _ us hl => match us, hl with | [_, _], _ => rfl
  have F_Disk_words := fun_mk (st := s_Disk_words) l_Disk_words c_Disk_words k_Disk_words
  have b_Disk_words := F_Disk_words.binds (ps := ["self"]) fun _ _ _ _ _ _ us hl => match us, hl with | [_], _ => rfl
  have F_Disk_waiting := fun_mk (st := s_Disk_waiting) l_Disk_waiting c_Disk_waiting k_Disk_waiting
  have b_Disk_waiting := F_Disk_waiting.binds (ps := ["self"]) fun _ _ _ _ _ _ us hl => match us, hl with | [_], _ => rfl
  have F_Disk_wholes := fun_mk (st := s_Disk_wholes) l_Disk_wholes c_Disk_wholes k_Disk_wholes
  have b_Disk_wholes := F_Disk_wholes.binds (ps := ["self"]) fun _ _ _ _ _ _ us hl => match us, hl with | [_], _ => rfl
  have F_RunError___init__ := fun_mk (st := s_RunError___init__) l_RunError___init__ c_RunError___init__ k_RunError___init__
  have b_RunError___init__ := F_RunError___init__.binds (ps := ["self"]) fun _ _ _ _ _ _ us hl => match us, hl with | [_], _ => rfl
  have F_Store___init__ := fun_mk (st := s_Store___init__) l_Store___init__ c_Store___init__ k_Store___init__
  have b_Store___init__ := F_Store___init__.binds (ps := ["self", "disk"]) fun _ _ _ _ _ _ us hl => match us, hl with | [_, _], _ => rfl
  have F_Store_check := fun_mk (st := s_Store_check) l_Store_check c_Store_check k_Store_check
  have b_Store_check := F_Store_check.binds (ps := ["self"]) fun _ _ _ _ _ _ us hl => match us, hl with | [_], _ => rfl
  have F_Store_keep := fun_mk (st := s_Store_keep) l_Store_keep c_Store_keep k_Store_keep
  have b_Store_keep := F_Store_keep.binds (ps := ["self", "key", "thing"]) fun _ _ _ _ _ _ us hl => match us, hl with | [_, _, _], _ => rfl
  have F_Store_found := fun_mk (st := s_Store_found) l_Store_found c_Store_found k_Store_found
  have b_Store_found := F_Store_found.binds (ps := ["self"]) fun _ _ _ _ _ _ us hl => match us, hl with | [_], _ => rfl
  have F_law_pot := fun_mk (st := s_law_pot) l_law_pot c_law_pot k_law_pot
  have b_law_pot := F_law_pot.binds (ps := ["script"]) fun _ _ _ _ _ _ us hl => match us, hl with | [_], _ => rfl
  have F_law_draw := fun_mk (st := s_law_draw) l_law_draw c_law_draw k_law_draw
  have b_law_draw := F_law_draw.binds (ps := ["pot", "many"]) fun _ _ _ _ _ _ us hl => match us, hl with | [_, _], _ => rfl
  have F_law_any := fun_mk (st := s_law_any) l_law_any c_law_any k_law_any
  have b_law_any := F_law_any.binds (ps := ["pot", "items"]) fun _ _ _ _ _ _ us hl => match us, hl with | [_, _], _ => rfl
  have F_law_key := fun_mk (st := s_law_key) l_law_key c_law_key k_law_key
  have b_law_key := F_law_key.binds (ps := ["pot"]) fun _ _ _ _ _ _ us hl => match us, hl with | [_], _ => rfl
  have F_law_thing := fun_mk (st := s_law_thing) l_law_thing c_law_thing k_law_thing
  have b_law_thing := F_law_thing.binds (ps := ["pot", "deep"]) fun _ _ _ _ _ _ us hl => match us, hl with | [_, _], _ => rfl
  have F_law_word := fun_mk (st := s_law_word) l_law_word c_law_word k_law_word
  have b_law_word := F_law_word.binds (ps := ["call"]) fun _ _ _ _ _ _ us hl => match us, hl with | [_], _ => rfl
  have F_law_no_key := fun_mk (st := s_law_no_key) l_law_no_key c_law_no_key k_law_no_key
  have b_law_no_key := F_law_no_key.binds (ps := ["pot"]) fun _ _ _ _ _ _ us hl => match us, hl with | [_], _ => rfl
  have F_law_no_thing := fun_mk (st := s_law_no_thing) l_law_no_thing c_law_no_thing k_law_no_thing
  have b_law_no_thing := F_law_no_thing.binds (ps := ["pot", "deep"]) fun _ _ _ _ _ _ us hl => match us, hl with | [_, _], _ => rfl
  have F_law_no_reached := fun_mk (st := s_law_no_reached) l_law_no_reached c_law_no_reached k_law_no_reached
  have b_law_no_reached := F_law_no_reached.binds (ps := ["pot", "many"]) fun _ _ _ _ _ _ us hl => match us, hl with | [_, _], _ => rfl
  have F_law_state := fun_mk (st := s_law_state) l_law_state c_law_state k_law_state
  have b_law_state := F_law_state.binds (ps := ["disk", "store"]) fun _ _ _ _ _ _ us hl => match us, hl with | [_, _], _ => rfl
  have F_law := fun_mk (st := s_law) l_law c_law k_law
  have o_law : h.get? P_law = some { cls := .none, data := .fields #[] } := own _ _ lr_law (PySem.W.mg_of X G a_law) _ _ _ _ _ _ _ _ l_law rfl rfl lc_law lv_law
  have b_law := F_law.binds (ps := ["script"]) fun _ _ _ _ _ _ us hl => match us, hl with | [_], _ => rfl
  have n_ : ∀ x, PySem.W.nsIn K mainGlobals x = some none → mg x = none := fun x h => PySem.W.mg_none_of X G h
  have T : Txt K mg ⟨C_Disk, C_Store, C_Exchange, C_RunError, C_NoKey, C_NoThing, C_NoReached, C_NoPlace⟩ := ⟨⟨_, PySem.W.mg_of X G aC_Exchange, rfl⟩, ⟨_, PySem.W.mg_of X G g_LOST, ⟨_, rfl⟩⟩, ⟨_, PySem.W.mg_of X G g_WHOLE, ⟨_, rfl⟩⟩, ⟨_, PySem.W.mg_of X G g_SEAL, ⟨_, rfl⟩⟩, ⟨pg_Disk, hd_Disk, po_Disk, sa_Disk⟩, no_Disk_lying, no_Disk_pending, no_Disk_spoils, ⟨pg_Store, hd_Store, po_Store, sa_Store⟩, no_Store_disk,
    n_ _ z_len, n_ _ z_int, n_ _ z_bool, n_ _ z_str, n_ _ z_tuple, n_ _ z_list, n_ _ z_isinstance, n_ _ z_all, n_ _ z_abs, n_ _ z_sum, n_ _ z_range, n_ _ z_zip, n_ _ z_ValueError, xvV, ⟨_, PySem.W.mg_of X G aC_RunError, rfl⟩, ⟨_, PySem.W.mg_of X G aC_NoKey, rfl⟩, ⟨_, PySem.W.mg_of X G aC_NoThing, rfl⟩, ⟨_, PySem.W.mg_of X G aC_NoReached, rfl⟩, ⟨_, PySem.W.mg_of X G aC_NoPlace, rfl⟩⟩
  have hTab : ∀ p ∈ [(cc_law, P_law)], h.get? p.2 = some { cls := .none, data := .fields #[] } := fun p hp => by
    rw [List.mem_singleton.mp hp]
    exact o_law
  have nTab : ∀ p ∈ [(cc_law, P_law)], K.lookup p.2 = none := fun p hp => by
    rw [List.mem_singleton.mp hp]
    exact lo_law
  have cTab : ∀ p ∈ [(cc_law, P_law)], PySem.W.CodeHd h p.1 p.2 := fun p hp => by
    rw [List.mem_singleton.mp hp]
    exact PySem.W.codeHd_of_K X lh_law
  refine ⟨PySem.W.fnOf "law" "law" (defArgs s_law) (defBody s_law) (defScope s_law) .none kV_law dc_law pm_law an_law (.ref cc_law) ct_law, [(cc_law, P_law)], spLaw [(P_law, ((("law" : Str) ++ ".<locals>.") ++ "<lambda>"))] K, hTab, nTab, cTab, fun s v => .of_eq rfl, fun H a ns hl _ hH hS => ⟨a, ns, rfl, hS, hl, ?_, fun _ => rfl⟩, fun base KB GB TB => ?_⟩
  · intro p hp
    rw [List.mem_singleton.mp hp]
    exact LamX.TabS.nil (hH (cc_law, P_law) tc_1)
  have cl := T.cl
  have clS := T.clS
  have TE : TxE K ⟨C_Disk, C_Store, C_Exchange, C_RunError, C_NoKey, C_NoThing, C_NoReached, C_NoPlace⟩ := ⟨fun i hi => match i, hi with | 0, _ => ⟨xga_NoKey, xgt_NoKey, xbe_NoKey, xhd_NoKey, xcl_NoKey, xsp, xtk, xmr_NoKey⟩ | 1, _ => ⟨xga_NoThing, xgt_NoThing, xbe_NoThing, xhd_NoThing, xcl_NoThing, xsp, xtk, xmr_NoThing⟩ | 2, _ => ⟨xga_NoReached, xgt_NoReached, xbe_NoReached, xhd_NoReached, xcl_NoReached, xsp, xtk, xmr_NoReached⟩ | 3, _ => ⟨xga_NoPlace, xgt_NoPlace, xbe_NoPlace, xhd_NoPlace, xcl_NoPlace, xsp, xtk, xmr_NoPlace⟩ | i + 4, h => absurd h (by omega), fun i hi => match i, hi with | 0, _ => x_em_NoKey | 1, _ => x_em_NoThing | 2, _ => x_em_NoReached | 3, _ => x_em_NoPlace | i + 4, h => absurd h (by omega), fun i j hi hj => match i, j, hi, hj with | 0, 0, _, _ => x_ki_NoKey_NoKey | 0, 1, _, _ => x_ki_NoKey_NoThing | 0, 2, _, _ => x_ki_NoKey_NoReached | 0, 3, _, _ => x_ki_NoKey_NoPlace | 1, 0, _, _ => x_ki_NoThing_NoKey | 1, 1, _, _ => x_ki_NoThing_NoThing | 1, 2, _, _ => x_ki_NoThing_NoReached | 1, 3, _, _ => x_ki_NoThing_NoPlace | 2, 0, _, _ => x_ki_NoReached_NoKey | 2, 1, _, _ => x_ki_NoReached_NoThing | 2, 2, _, _ => x_ki_NoReached_NoReached | 2, 3, _, _ => x_ki_NoReached_NoPlace | 3, 0, _, _ => x_ki_NoPlace_NoKey | 3, 1, _, _ => x_ki_NoPlace_NoThing | 3, 2, _, _ => x_ki_NoPlace_NoReached | 3, 3, _, _ => x_ki_NoPlace_NoPlace | i + 4, _, h, _ => absurd h (by omega) | _, j + 4, _, h => absurd h (by omega)⟩
  have oLi : ∀ u ∈ usOf C_Exchange, PySem.W.kitOne K (.type "list") u = some false := by
    intro u hu
    simp only [usOf, List.mem_cons, List.not_mem_nil, or_false] at hu
    rcases hu with rfl | rfl | rfl | rfl | rfl
    · exact kit_ty kit_list_int
    · exact kit_ty kit_list_bool
    · exact kit_ty kit_list_str
    · exact kit_ty kit_list_tuple
    · exact x_LE
  have oDi : ∀ u ∈ usOf C_Exchange, PySem.W.kitOne K (.type "dict") u = some false := by
    intro u hu
    simp only [usOf, List.mem_cons, List.not_mem_nil, or_false] at hu
    rcases hu with rfl | rfl | rfl | rfl | rfl
    · exact kit_ty kit_dict_int
    · exact kit_ty kit_dict_bool
    · exact kit_ty kit_dict_str
    · exact kit_ty kit_dict_tuple
    · exact x_DE
  have oDs : ∀ u ∈ usOf C_Exchange, PySem.W.kitOne K (.ref C_Disk) u = some false := by
    intro u hu
    simp only [usOf, List.mem_cons, List.not_mem_nil, or_false] at hu
    rcases hu with rfl | rfl | rfl | rfl | rfl
    · exact x_d_int
    · exact x_d_bool
    · exact x_d_str
    · exact x_d_tuple
    · exact x_d_E
  have O : TxO K ⟨C_Disk, C_Store, C_Exchange, C_RunError, C_NoKey, C_NoThing, C_NoReached, C_NoPlace⟩ := ⟨oLi, oDi, oDs, d_cls, xsp, xtk, d_mro⟩
  have WD : WordDef K mg := ⟨_, _, _, _, _, _, _, _, _, _, PySem.W.mg_of X G a_law_word, k_law_word, l_law_word, c_law_word, b_law_word⟩
  have D_is_integer := dn_mk (mg := mg) (base := base) (P := l.prog) (w := w) F_is_integer (PySem.W.mg_of X G a_is_integer) b_is_integer (ok_is_integer F_is_integer T)
  have D_is_between := dn_mk (mg := mg) (base := base) (P := l.prog) (w := w) F_is_between (PySem.W.mg_of X G a_is_between) b_is_between (ok_is_between F_is_between T D_is_integer)
  have D_is_number := dn_mk (mg := mg) (base := base) (P := l.prog) (w := w) F_is_number (PySem.W.mg_of X G a_is_number) b_is_number (ok_is_number F_is_number T D_is_integer)
  have D_is_tuple := dn_mk (mg := mg) (base := base) (P := l.prog) (w := w) F_is_tuple (PySem.W.mg_of X G a_is_tuple) b_is_tuple (ok_is_tuple F_is_tuple T)
  have D_is_key := dn_mk (mg := mg) (base := base) (P := l.prog) (w := w) F_is_key (PySem.W.mg_of X G a_is_key) b_is_key (ok_is_key F_is_key T D_is_number)
  have D_is_kept := dn_mk (mg := mg) (base := base) (P := l.prog) (w := w) F_is_kept (PySem.W.mg_of X G a_is_kept) b_is_kept (fn_rec (k := 0) F_is_kept (PySem.W.mg_of X G a_is_kept) b_is_kept (fun n D => step_is_kept F_is_kept T n D) 10)
  have J_is_integer := dn_mk (mg := mg) (base := base) (P := l.prog) (w := w) F_is_integer (PySem.W.mg_of X G a_is_integer) b_is_integer (okJ_is_integer (Z := ⟨C_Disk, C_Store, C_Exchange, C_RunError, C_NoKey, C_NoThing, C_NoReached, C_NoPlace⟩) F_is_integer T)
  have J_is_between := dn_mk (mg := mg) (base := base) (P := l.prog) (w := w) F_is_between (PySem.W.mg_of X G a_is_between) b_is_between (okJ_is_between (Z := ⟨C_Disk, C_Store, C_Exchange, C_RunError, C_NoKey, C_NoThing, C_NoReached, C_NoPlace⟩) F_is_between T J_is_integer)
  have J_is_number := dn_mk (mg := mg) (base := base) (P := l.prog) (w := w) F_is_number (PySem.W.mg_of X G a_is_number) b_is_number (okJ_is_number (Z := ⟨C_Disk, C_Store, C_Exchange, C_RunError, C_NoKey, C_NoThing, C_NoReached, C_NoPlace⟩) F_is_number T J_is_integer)
  have J_is_tuple := dn_mk (mg := mg) (base := base) (P := l.prog) (w := w) F_is_tuple (PySem.W.mg_of X G a_is_tuple) b_is_tuple (okJ_is_tuple (Z := ⟨C_Disk, C_Store, C_Exchange, C_RunError, C_NoKey, C_NoThing, C_NoReached, C_NoPlace⟩) F_is_tuple T)
  have J_is_key := dn_mk (mg := mg) (base := base) (P := l.prog) (w := w) F_is_key (PySem.W.mg_of X G a_is_key) b_is_key (okJ_is_key (Z := ⟨C_Disk, C_Store, C_Exchange, C_RunError, C_NoKey, C_NoThing, C_NoReached, C_NoPlace⟩) F_is_key T J_is_number)
  have J_is_kept := dn_mk (mg := mg) (base := base) (P := l.prog) (w := w) F_is_kept (PySem.W.mg_of X G a_is_kept) b_is_kept (fn_rec (k := 0) (sp := spKeptJ K ⟨C_Disk, C_Store, C_Exchange, C_RunError, C_NoKey, C_NoThing, C_NoReached, C_NoPlace⟩) F_is_kept (PySem.W.mg_of X G a_is_kept) b_is_kept (fun n D => stepJ_is_kept F_is_kept T n D) 10)
  have D_law_draw := dn_mk (mg := mg) (base := base) (P := l.prog) (w := w) F_law_draw (PySem.W.mg_of X G a_law_draw) b_law_draw (ok_law_draw F_law_draw T)
  have D_law_pot := dn_mk (mg := mg) (base := base) (P := l.prog) (w := w) F_law_pot (PySem.W.mg_of X G a_law_pot) b_law_pot (ok_law_pot F_law_pot T)
  have D_law_any := dn_mk (mg := mg) (base := base) (P := l.prog) (w := w) F_law_any (PySem.W.mg_of X G a_law_any) b_law_any (ok_law_any F_law_any T D_law_draw)
  have D_law_key := dn_mk (mg := mg) (base := base) (P := l.prog) (w := w) F_law_key (PySem.W.mg_of X G a_law_key) b_law_key (ok_law_key F_law_key T D_law_draw D_law_any)
  have D_law_thing := dn_mk (mg := mg) (base := base) (P := l.prog) (w := w) F_law_thing (PySem.W.mg_of X G a_law_thing) b_law_thing (fn_less (n := 4) (sp := spThing) (k := 6) fun m hm => (fn_rec (k := 2) F_law_thing (PySem.W.mg_of X G a_law_thing) b_law_thing (fun n D => step_law_thing F_law_thing T D_law_draw D_law_any n D) m).mono (by omega))
  have En_NoKey : En l.prog w K mg base "NoKey" C_NoKey 1 := ⟨PySem.W.mg_of X G aC_NoKey, ⟨⟨_, _, _, _, _, _, _, _, _, _, _, _, _, _, _, lo_NoKey, rv_NoKey⟩, xsa_NoKey, xbe_NoKey, xty_NoKey, xk_NoKey⟩, ⟨_, _, ok_RunError_init F_RunError___init__ T, ei_NoKey, ty_RunError___init__, b_RunError___init__⟩⟩
  have En_NoThing : En l.prog w K mg base "NoThing" C_NoThing 1 := ⟨PySem.W.mg_of X G aC_NoThing, ⟨⟨_, _, _, _, _, _, _, _, _, _, _, _, _, _, _, lo_NoThing, rv_NoThing⟩, xsa_NoThing, xbe_NoThing, xty_NoThing, xk_NoThing⟩, ⟨_, _, ok_RunError_init F_RunError___init__ T, ei_NoThing, ty_RunError___init__, b_RunError___init__⟩⟩
  have En_NoReached : En l.prog w K mg base "NoReached" C_NoReached 1 := ⟨PySem.W.mg_of X G aC_NoReached, ⟨⟨_, _, _, _, _, _, _, _, _, _, _, _, _, _, _, lo_NoReached, rv_NoReached⟩, xsa_NoReached, xbe_NoReached, xty_NoReached, xk_NoReached⟩, ⟨_, _, ok_RunError_init F_RunError___init__ T, ei_NoReached, ty_RunError___init__, b_RunError___init__⟩⟩
  have En_NoPlace : En l.prog w K mg base "NoPlace" C_NoPlace 1 := ⟨PySem.W.mg_of X G aC_NoPlace, ⟨⟨_, _, _, _, _, _, _, _, _, _, _, _, _, _, _, lo_NoPlace, rv_NoPlace⟩, xsa_NoPlace, xbe_NoPlace, xty_NoPlace, xk_NoPlace⟩, ⟨_, _, ok_RunError_init F_RunError___init__ T, ei_NoPlace, ty_RunError___init__, b_RunError___init__⟩⟩
  have M_Disk_write := mn_mk (mg := mg) (base := base) (P := l.prog) (w := w) cl F_Disk_write ⟨a_Disk_write, i_Disk_write, k_Disk_write⟩ b_Disk_write (ok_Disk_write F_Disk_write T D_is_key D_is_kept)
  have M_Disk_sync := mn_mk (mg := mg) (base := base) (P := l.prog) (w := w) cl F_Disk_sync ⟨a_Disk_sync, i_Disk_sync, k_Disk_sync⟩ b_Disk_sync (ok_Disk_sync F_Disk_sync T)
  have M_Disk_words := mn_mk (mg := mg) (base := base) (P := l.prog) (w := w) cl F_Disk_words ⟨a_Disk_words, i_Disk_words, k_Disk_words⟩ b_Disk_words (ok_Disk_words F_Disk_words T)
  have M_Disk_waiting := mn_mk (mg := mg) (base := base) (P := l.prog) (w := w) cl F_Disk_waiting ⟨a_Disk_waiting, i_Disk_waiting, k_Disk_waiting⟩ b_Disk_waiting (ok_Disk_waiting F_Disk_waiting T)
  have M_Disk_wholes := mn_mk (mg := mg) (base := base) (P := l.prog) (w := w) cl F_Disk_wholes ⟨a_Disk_wholes, i_Disk_wholes, k_Disk_wholes⟩ b_Disk_wholes (ok_Disk_wholes F_Disk_wholes T)
  have M_Store_check := mn_mk (mg := mg) (base := base) (P := l.prog) (w := w) clS F_Store_check ⟨a_Store_check, i_Store_check, k_Store_check⟩ b_Store_check (ok_Store_check F_Store_check T M_Disk_wholes)
  have M_Store_found := mn_mk (mg := mg) (base := base) (P := l.prog) (w := w) clS F_Store_found ⟨a_Store_found, i_Store_found, k_Store_found⟩ b_Store_found (ok_Store_found F_Store_found T M_Store_check M_Disk_wholes)
  have W_Disk_write := mn_mk (mg := mg) (base := base) (P := l.prog) (w := w) cl F_Disk_write ⟨a_Disk_write, i_Disk_write, k_Disk_write⟩ b_Disk_write (fn_or (okJ_Disk_write (Z := ⟨C_Disk, C_Store, C_Exchange, C_RunError, C_NoKey, C_NoThing, C_NoReached, C_NoPlace⟩) F_Disk_write T J_is_key J_is_kept En_NoKey En_NoThing) (ok_Disk_write F_Disk_write T D_is_key D_is_kept))
  have W_Disk_fall := mn_mk (mg := mg) (base := base) (P := l.prog) (w := w) cl F_Disk_fall ⟨a_Disk_fall, i_Disk_fall, k_Disk_fall⟩ b_Disk_fall (fn_or (okJ_Disk_fall (Z := ⟨C_Disk, C_Store, C_Exchange, C_RunError, C_NoKey, C_NoThing, C_NoReached, C_NoPlace⟩) F_Disk_fall T J_is_tuple J_is_between En_NoReached) (ok_Disk_fall F_Disk_fall T D_is_tuple D_is_between))
  have W_Disk_spoil := mn_mk (mg := mg) (base := base) (P := l.prog) (w := w) cl F_Disk_spoil ⟨a_Disk_spoil, i_Disk_spoil, k_Disk_spoil⟩ b_Disk_spoil (okJ_Disk_spoil (Z := ⟨C_Disk, C_Store, C_Exchange, C_RunError, C_NoKey, C_NoThing, C_NoReached, C_NoPlace⟩) F_Disk_spoil T J_is_between En_NoPlace)
  have W_Store_keep := mn_mk (mg := mg) (base := base) (P := l.prog) (w := w) clS F_Store_keep ⟨a_Store_keep, i_Store_keep, k_Store_keep⟩ b_Store_keep (fn_or (okJ_Store_keep (Z := ⟨C_Disk, C_Store, C_Exchange, C_RunError, C_NoKey, C_NoThing, C_NoReached, C_NoPlace⟩) F_Store_keep T J_is_key J_is_kept En_NoKey En_NoThing M_Store_check M_Disk_write) (ok_Store_keep F_Store_keep T D_is_key D_is_kept M_Store_check M_Disk_write))
  have C_Disk : Cn l.prog w K mg base "Disk" C_Disk 1 ["self"] (spInit C_Disk) := ⟨PySem.W.mg_of X G aC_Disk, _, _, ok_Disk_init F_Disk___init__ T, ⟨mk_Disk, a_Disk___init__, i_Disk___init__, kc_Disk⟩, b_Disk___init__⟩
  have C_Store : Cn l.prog w K mg base "Store" C_Store 1 ["self", "disk"] (spSInit C_Store) := ⟨PySem.W.mg_of X G aC_Store, _, _, ok_Store_init F_Store___init__ T, ⟨mk_Store, a_Store___init__, i_Store___init__, kc_Store⟩, b_Store___init__⟩
  have D_law_no_key := dn_mk (mg := mg) (base := base) (P := l.prog) (w := w) F_law_no_key (PySem.W.mg_of X G a_law_no_key) b_law_no_key (ok_law_no_key F_law_no_key T O D_law_any)
  have D_law_no_thing := dn_mk (mg := mg) (base := base) (P := l.prog) (w := w) F_law_no_thing (PySem.W.mg_of X G a_law_no_thing) b_law_no_thing (ok_law_no_thing F_law_no_thing T O D_law_draw D_law_any C_Disk)
  have D_law_no_reached := dn_mk (mg := mg) (base := base) (P := l.prog) (w := w) F_law_no_reached (PySem.W.mg_of X G a_law_no_reached) b_law_no_reached (ok_law_no_reached F_law_no_reached T O D_law_draw D_law_any)
  have D_law_state := dn_mk (mg := mg) (base := base) (P := l.prog) (w := w) F_law_state (PySem.W.mg_of X G a_law_state) b_law_state (ok_law_state F_law_state T M_Disk_words M_Disk_waiting M_Store_found)
  exact ok_law l_law c_law T O TE WD (TB _ tc_1) tb_1 tb_u D_law_pot D_law_draw D_law_any D_law_key D_law_thing D_law_no_key D_law_no_thing D_law_no_reached D_law_state C_Disk C_Store W_Disk_write M_Disk_sync W_Disk_fall W_Disk_spoil M_Disk_waiting M_Disk_words M_Store_found W_Store_keep
theorem walk {l : PySem.W.OpenLaw} {q : Program} {loose : List Str} {XP : (Str → Option Value) → Heap → Prop} {YP : World → Heap → Prop} {d : DefRec} {K : Params → PySem.W.Frag} (hn : l.most = some 63) (hdf : d.params.defaults = [])
    (hY : ∀ (w : World) (h : Heap), YP w h → (K w.params).In h)
    (F : ∀ (w : World) (mg : Str → Option Value) (fa : Addr) (h : Heap), (K w.params).In h → h.Ns mainGlobals mg → mg d.name = some (.ref fa) → OwnTabs q (K w.params) mg h → LamX.LawAtS l w (K w.params) (L2.CX l.prog w) 16 63 "script" mg fa h) :
    PySem.W.WalkO q loose XP YP l.row.toRowW d [] (fun f vs => PySem.call f vs) :=
  walk_ofOwns (n := 63) (k := 16) (x := "script") (CX := fun w => L2.CX l.prog w) hn (by decide) hdf ⟨rfl, by decide, by decide⟩ hY (fun w mg fa h _ KX G hm own => F w mg fa h KX G hm own) fun _ _ _ _ _ z => by
    obtain ⟨_, _, _, _, _, _, _, _, _, _, _, _, z⟩ := z
    exact z.elim
end K39



open PySem PySem.W PyProof.Rows in
set_option maxRecDepth 100000 in
set_option maxHeartbeats 0 in
theorem PySem.Challenge.cw_oneplainrun_k39_disks_and_stores_refuse_holds : PySem.Challenge.rw_oneplainrun_k39_disks_and_stores_refuse.Holds := by
  w_on; o_law; k_head; (case hw => w_witness2)
  k_fill
  refine K39.walk (l := PySem.Challenge.rw_oneplainrun_k39_disks_and_stores_refuse) rfl rfl (fun w h Y => PySem.W.km_in_of Y) ?F
  case F =>
    intro w mg fa h KX G hmg own
    refine' K39.all_mk KX G own hmg ?aC_Disk ?pg_Disk ?hd_Disk ?po_Disk ?sa_Disk ?mk_Disk ?kc_Disk ?aC_Store ?pg_Store ?hd_Store ?po_Store ?sa_Store ?mk_Store ?kc_Store ?aC_Exchange ?aC_RunError ?aC_NoKey ?aC_NoThing ?aC_NoReached ?aC_NoPlace ?a_is_integer ?l_is_integer ?c_is_integer ?k_is_integer ?a_is_between ?l_is_between ?c_is_between ?k_is_between ?a_is_number ?l_is_number ?c_is_number ?k_is_number ?a_is_tuple ?l_is_tuple ?c_is_tuple ?k_is_tuple ?a_is_key ?l_is_key ?c_is_key ?k_is_key ?a_is_kept ?l_is_kept ?c_is_kept ?k_is_kept ?a_Disk___init__ ?i_Disk___init__ ?l_Disk___init__ ?c_Disk___init__ ?k_Disk___init__ ?a_Disk_write ?i_Disk_write ?l_Disk_write ?c_Disk_write ?k_Disk_write ?a_Disk_sync ?i_Disk_sync ?l_Disk_sync ?c_Disk_sync ?k_Disk_sync ?a_Disk_fall ?i_Disk_fall ?l_Disk_fall ?c_Disk_fall ?k_Disk_fall ?a_Disk_spoil ?i_Disk_spoil ?l_Disk_spoil ?c_Disk_spoil ?k_Disk_spoil ?a_Disk_words ?i_Disk_words ?l_Disk_words ?c_Disk_words ?k_Disk_words ?a_Disk_waiting ?i_Disk_waiting ?l_Disk_waiting ?c_Disk_waiting ?k_Disk_waiting ?a_Disk_wholes ?i_Disk_wholes ?l_Disk_wholes ?c_Disk_wholes ?k_Disk_wholes ?a_RunError___init__ ?i_RunError___init__ ?l_RunError___init__ ?c_RunError___init__ ?k_RunError___init__ ?a_Store___init__ ?i_Store___init__ ?l_Store___init__ ?c_Store___init__ ?k_Store___init__ ?a_Store_check ?i_Store_check ?l_Store_check ?c_Store_check ?k_Store_check ?a_Store_keep ?i_Store_keep ?l_Store_keep ?c_Store_keep ?k_Store_keep ?a_Store_found ?i_Store_found ?l_Store_found ?c_Store_found ?k_Store_found ?a_law_pot ?l_law_pot ?c_law_pot ?k_law_pot ?a_law_draw ?l_law_draw ?c_law_draw ?k_law_draw ?a_law_any ?l_law_any ?c_law_any ?k_law_any ?a_law_key ?l_law_key ?c_law_key ?k_law_key ?a_law_thing ?l_law_thing ?c_law_thing ?k_law_thing ?a_law_word ?l_law_word ?c_law_word ?k_law_word ?a_law_no_key ?l_law_no_key ?c_law_no_key ?k_law_no_key ?a_law_no_thing ?l_law_no_thing ?c_law_no_thing ?k_law_no_thing ?a_law_no_reached ?l_law_no_reached ?c_law_no_reached ?k_law_no_reached ?a_law_state ?l_law_state ?c_law_state ?k_law_state ?a_law ?l_law ?c_law ?k_law ?no_Disk_lying ?no_Disk_pending ?no_Disk_spoils ?no_Store_disk ?z_len ?z_int ?z_bool ?z_str ?z_tuple ?z_list ?z_isinstance ?z_all ?z_abs ?z_sum ?z_range ?z_zip ?z_ValueError ?g_LOST ?g_WHOLE ?g_SEAL ?lo_NoKey ?rv_NoKey ?xsa_NoKey ?xbe_NoKey ?xty_NoKey ?xk_NoKey ?xga_NoKey ?xgt_NoKey ?xhd_NoKey ?xcl_NoKey ?xmr_NoKey ?lo_NoThing ?rv_NoThing ?xsa_NoThing ?xbe_NoThing ?xty_NoThing ?xk_NoThing ?xga_NoThing ?xgt_NoThing ?xhd_NoThing ?xcl_NoThing ?xmr_NoThing ?lo_NoReached ?rv_NoReached ?xsa_NoReached ?xbe_NoReached ?xty_NoReached ?xk_NoReached ?xga_NoReached ?xgt_NoReached ?xhd_NoReached ?xcl_NoReached ?xmr_NoReached ?lo_NoPlace ?rv_NoPlace ?xsa_NoPlace ?xbe_NoPlace ?xty_NoPlace ?xk_NoPlace ?xga_NoPlace ?xgt_NoPlace ?xhd_NoPlace ?xcl_NoPlace ?xmr_NoPlace ?xsp ?xtk ?xvV ?lc_law ?lv_law ?lh_law ?lo_law ?lr_law ?ei_NoKey ?ei_NoThing ?ei_NoReached ?ei_NoPlace ?ty_RunError___init__ ?x_em_NoKey ?x_em_NoThing ?x_em_NoReached ?x_em_NoPlace ?x_ki_NoKey_NoKey ?x_ki_NoKey_NoThing ?x_ki_NoKey_NoReached ?x_ki_NoKey_NoPlace ?x_ki_NoThing_NoKey ?x_ki_NoThing_NoThing ?x_ki_NoThing_NoReached ?x_ki_NoThing_NoPlace ?x_ki_NoReached_NoKey ?x_ki_NoReached_NoThing ?x_ki_NoReached_NoReached ?x_ki_NoReached_NoPlace ?x_ki_NoPlace_NoKey ?x_ki_NoPlace_NoThing ?x_ki_NoPlace_NoReached ?x_ki_NoPlace_NoPlace ?x_LE ?x_DE ?x_d_int ?x_d_bool ?x_d_str ?x_d_tuple ?x_d_E ?d_cls ?d_mro
    (case aC_Disk => k_is)
    (case pg_Disk => k_is)
    (case hd_Disk => k_is)
    (case po_Disk => k_is)
    (case sa_Disk => k_is)
    (case mk_Disk => k_is)
    (case kc_Disk => k_is)
    (case aC_Store => k_is)
    (case pg_Store => k_is)
    (case hd_Store => k_is)
    (case po_Store => k_is)
    (case sa_Store => k_is)
    (case mk_Store => k_is)
    (case kc_Store => k_is)
    (case aC_Exchange => k_is)
    (case aC_RunError => k_is)
    (case aC_NoKey => k_is)
    (case aC_NoThing => k_is)
    (case aC_NoReached => k_is)
    (case aC_NoPlace => k_is)
    (case a_is_integer => k_is)
    (case l_is_integer => k_is)
    (case c_is_integer => k_is)
    (case k_is_integer => k_is)
    (case a_is_between => k_is)
    (case l_is_between => k_is)
    (case c_is_between => k_is)
    (case k_is_between => k_is)
    (case a_is_number => k_is)
    (case l_is_number => k_is)
    (case c_is_number => k_is)
    (case k_is_number => k_is)
    (case a_is_tuple => k_is)
    (case l_is_tuple => k_is)
    (case c_is_tuple => k_is)
    (case k_is_tuple => k_is)
    (case a_is_key => k_is)
    (case l_is_key => k_is)
    (case c_is_key => k_is)
    (case k_is_key => k_is)
    (case a_is_kept => k_is)
    (case l_is_kept => k_is)
    (case c_is_kept => k_is)
    (case k_is_kept => k_is)
    (case a_Disk___init__ => k_is)
    (case i_Disk___init__ => k_is)
    (case l_Disk___init__ => k_is)
    (case c_Disk___init__ => k_is)
    (case k_Disk___init__ => k_is)
    (case a_Disk_write => k_is)
    (case i_Disk_write => k_is)
    (case l_Disk_write => k_is)
    (case c_Disk_write => k_is)
    (case k_Disk_write => k_is)
    (case a_Disk_sync => k_is)
    (case i_Disk_sync => k_is)
    (case l_Disk_sync => k_is)
    (case c_Disk_sync => k_is)
    (case k_Disk_sync => k_is)
    (case a_Disk_fall => k_is)
    (case i_Disk_fall => k_is)
    (case l_Disk_fall => k_is)
    (case c_Disk_fall => k_is)
    (case k_Disk_fall => k_is)
    (case a_Disk_spoil => k_is)
    (case i_Disk_spoil => k_is)
    (case l_Disk_spoil => k_is)
    (case c_Disk_spoil => k_is)
    (case k_Disk_spoil => k_is)
    (case a_Disk_words => k_is)
    (case i_Disk_words => k_is)
    (case l_Disk_words => k_is)
    (case c_Disk_words => k_is)
    (case k_Disk_words => k_is)
    (case a_Disk_waiting => k_is)
    (case i_Disk_waiting => k_is)
    (case l_Disk_waiting => k_is)
    (case c_Disk_waiting => k_is)
    (case k_Disk_waiting => k_is)
    (case a_Disk_wholes => k_is)
    (case i_Disk_wholes => k_is)
    (case l_Disk_wholes => k_is)
    (case c_Disk_wholes => k_is)
    (case k_Disk_wholes => k_is)
    (case a_RunError___init__ => k_is)
    (case i_RunError___init__ => k_is)
    (case l_RunError___init__ => k_is)
    (case c_RunError___init__ => k_is)
    (case k_RunError___init__ => k_is)
    (case a_Store___init__ => k_is)
    (case i_Store___init__ => k_is)
    (case l_Store___init__ => k_is)
    (case c_Store___init__ => k_is)
    (case k_Store___init__ => k_is)
    (case a_Store_check => k_is)
    (case i_Store_check => k_is)
    (case l_Store_check => k_is)
    (case c_Store_check => k_is)
    (case k_Store_check => k_is)
    (case a_Store_keep => k_is)
    (case i_Store_keep => k_is)
    (case l_Store_keep => k_is)
    (case c_Store_keep => k_is)
    (case k_Store_keep => k_is)
    (case a_Store_found => k_is)
    (case i_Store_found => k_is)
    (case l_Store_found => k_is)
    (case c_Store_found => k_is)
    (case k_Store_found => k_is)
    (case a_law_pot => k_is)
    (case l_law_pot => k_is)
    (case c_law_pot => k_is)
    (case k_law_pot => k_is)
    (case a_law_draw => k_is)
    (case l_law_draw => k_is)
    (case c_law_draw => k_is)
    (case k_law_draw => k_is)
    (case a_law_any => k_is)
    (case l_law_any => k_is)
    (case c_law_any => k_is)
    (case k_law_any => k_is)
    (case a_law_key => k_is)
    (case l_law_key => k_is)
    (case c_law_key => k_is)
    (case k_law_key => k_is)
    (case a_law_thing => k_is)
    (case l_law_thing => k_is)
    (case c_law_thing => k_is)
    (case k_law_thing => k_is)
    (case a_law_word => k_is)
    (case l_law_word => k_is)
    (case c_law_word => k_is)
    (case k_law_word => k_is)
    (case a_law_no_key => k_is)
    (case l_law_no_key => k_is)
    (case c_law_no_key => k_is)
    (case k_law_no_key => k_is)
    (case a_law_no_thing => k_is)
    (case l_law_no_thing => k_is)
    (case c_law_no_thing => k_is)
    (case k_law_no_thing => k_is)
    (case a_law_no_reached => k_is)
    (case l_law_no_reached => k_is)
    (case c_law_no_reached => k_is)
    (case k_law_no_reached => k_is)
    (case a_law_state => k_is)
    (case l_law_state => k_is)
    (case c_law_state => k_is)
    (case k_law_state => k_is)
    (case a_law => k_is)
    (case l_law => k_is)
    (case c_law => k_is)
    (case k_law => k_is)
    (case no_Disk_lying => k_is)
    (case no_Disk_pending => k_is)
    (case no_Disk_spoils => k_is)
    (case no_Store_disk => k_is)
    (case z_len => k_is)
    (case z_int => k_is)
    (case z_bool => k_is)
    (case z_str => k_is)
    (case z_tuple => k_is)
    (case z_list => k_is)
    (case z_isinstance => k_is)
    (case z_all => k_is)
    (case z_abs => k_is)
    (case z_sum => k_is)
    (case z_range => k_is)
    (case z_zip => k_is)
    (case z_ValueError => k_is)
    (case g_LOST => k_is)
    (case g_WHOLE => k_is)
    (case g_SEAL => k_is)
    (case lo_NoKey => k_is)
    (case rv_NoKey => exact rfl)
    (case xsa_NoKey => k_is)
    (case xbe_NoKey => k_is)
    (case xty_NoKey => k_is)
    (case xk_NoKey => k_is)
    (case xga_NoKey => k_is)
    (case xgt_NoKey => k_is)
    (case xhd_NoKey => k_is)
    (case xcl_NoKey => k_is)
    (case xmr_NoKey => k_is)
    (case lo_NoThing => k_is)
    (case rv_NoThing => exact rfl)
    (case xsa_NoThing => k_is)
    (case xbe_NoThing => k_is)
    (case xty_NoThing => k_is)
    (case xk_NoThing => k_is)
    (case xga_NoThing => k_is)
    (case xgt_NoThing => k_is)
    (case xhd_NoThing => k_is)
    (case xcl_NoThing => k_is)
    (case xmr_NoThing => k_is)
    (case lo_NoReached => k_is)
    (case rv_NoReached => exact rfl)
    (case xsa_NoReached => k_is)
    (case xbe_NoReached => k_is)
    (case xty_NoReached => k_is)
    (case xk_NoReached => k_is)
    (case xga_NoReached => k_is)
    (case xgt_NoReached => k_is)
    (case xhd_NoReached => k_is)
    (case xcl_NoReached => k_is)
    (case xmr_NoReached => k_is)
    (case lo_NoPlace => k_is)
    (case rv_NoPlace => exact rfl)
    (case xsa_NoPlace => k_is)
    (case xbe_NoPlace => k_is)
    (case xty_NoPlace => k_is)
    (case xk_NoPlace => k_is)
    (case xga_NoPlace => k_is)
    (case xgt_NoPlace => k_is)
    (case xhd_NoPlace => k_is)
    (case xcl_NoPlace => k_is)
    (case xmr_NoPlace => k_is)
    (case xsp => k_is)
    (case xtk => k_is)
    (case xvV => k_is)
    (case lc_law => k_is)
    (case lv_law => exact rfl)
    (case lh_law => kernel_rfl)
    (case lo_law => kernel_rfl)
    (case lr_law => exact rfl)
    (case ei_NoKey => k_is)
    (case ei_NoThing => k_is)
    (case ei_NoReached => k_is)
    (case ei_NoPlace => k_is)
    (case ty_RunError___init__ => k_is)
    (case x_em_NoKey => kernel_rfl)
    (case x_em_NoThing => kernel_rfl)
    (case x_em_NoReached => kernel_rfl)
    (case x_em_NoPlace => kernel_rfl)
    (case x_ki_NoKey_NoKey => kernel_rfl)
    (case x_ki_NoKey_NoThing => kernel_rfl)
    (case x_ki_NoKey_NoReached => kernel_rfl)
    (case x_ki_NoKey_NoPlace => kernel_rfl)
    (case x_ki_NoThing_NoKey => kernel_rfl)
    (case x_ki_NoThing_NoThing => kernel_rfl)
    (case x_ki_NoThing_NoReached => kernel_rfl)
    (case x_ki_NoThing_NoPlace => kernel_rfl)
    (case x_ki_NoReached_NoKey => kernel_rfl)
    (case x_ki_NoReached_NoThing => kernel_rfl)
    (case x_ki_NoReached_NoReached => kernel_rfl)
    (case x_ki_NoReached_NoPlace => kernel_rfl)
    (case x_ki_NoPlace_NoKey => kernel_rfl)
    (case x_ki_NoPlace_NoThing => kernel_rfl)
    (case x_ki_NoPlace_NoReached => kernel_rfl)
    (case x_ki_NoPlace_NoPlace => kernel_rfl)
    (case x_LE => kernel_rfl)
    (case x_DE => kernel_rfl)
    (case x_d_int => kernel_rfl)
    (case x_d_bool => kernel_rfl)
    (case x_d_str => kernel_rfl)
    (case x_d_tuple => kernel_rfl)
    (case x_d_E => kernel_rfl)
    (case d_cls => k_is)
    (case d_mro => k_is)


