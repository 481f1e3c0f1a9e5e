import PyProof.Rows.All
import Wide.All
import OpenK.AllK
import Wide.FinOn
import HandS.ForMost
import HandS.Exc
import HandS.ExcOwn
import HandS.WordsExc
import HandS.IsInst
import HandS.Zip
import HandS.Codes
import HandS.Walk
import KE.GoesZip
import KE.GoesMore
import HandS.DictComp
import HandS.DeepEq
import HandS.TupLen
import KE.KDictCopyH
import HandS.ExcInit
import HandS.ExcIs
import HandS.TryMany
import HandS.TryOnly
import HandS.Lambda
import HandS.EndTab
import HandS.EndOwn
import HandS.TupMul
import HandS.Style
import PySem.Challenge.RW_oneplainrun_k42_whole_spoilt_disks_are_s
set_option Elab.async false
set_option linter.all false
set_option maxRecDepth 100000
set_option maxHeartbeats 4000000
/-! P1: bundles of a def, a method, a class; rules with K told; data of tuples; frames -/
namespace Hq
open PySem PySem.Spec PyProof.Rows L2

/-! ### what the module's names hold -/
def GlV (mg : Str → Option Value) (x : Str) (v : V) : Prop := ∃ u, mg x = some u ∧ RelV v u
theorem pe_gl {X : Cx} {x : Str} {v : V} {pos : Pos} (hg : Gl X x) (h : GlV X.mg x v) (hd : (x == ("__debug__" : Str)) = false := by decide) : PE X (.Name x pos) (tC v) := by
  obtain ⟨u, hm, r⟩ := h
  exact pe_glob hg hm r hd
theorem pe_ty (n : String) {X : Cx} {x : Str} {pos : Pos} (hg : Gl X x) (hm : X.mg x = none) (hv : bootBuiltins x = some (.type n)) (hn : x ≠ "__name__" := by decide) (hd : (x == ("__debug__" : Str)) = false := by decide) : PE X (.Name x pos) (tC (.ty n)) :=
  pe_bltn hg hm hv rfl hn hd

/-! ### a def, a method, a class, as callers see them -/
structure Dn (P : Program) (w : World) (K : PySem.W.Frag) (mg : Str → Option Value) (base : Heap) (x : Str) (k : Nat) (ps : List Str) (sp : Sp) : Prop where
  ok : ∃ f fd, FnOk P w K mg base (L2.CX P w) k f fd ps sp ∧ mg x = some (.ref f) ∧ PySem.W.keepIn K (.ref f) = true ∧ Binds K fd ps []
structure Mn (P : Program) (w : World) (K : PySem.W.Frag) (mg : Str → Option Value) (base : Heap) (C : Addr) (m : Str) (k : Nat) (ps : List Str) (sp : Sp) : Prop where
  cl : Cls K C
  ok : ∃ f fd, FnOk P w K mg base (L2.CX P w) k f fd ps sp ∧ Meth K C m f ∧ Binds K fd ps []
structure Cn (P : Program) (w : World) (K : PySem.W.Frag) (mg : Str → Option Value) (base : Heap) (x : Str) (C : Addr) (k : Nat) (ps : List Str) (sp : Sp) : Prop where
  mgC : mg x = some (.ref C)
  ok : ∃ f fd, FnOk P w K mg base (L2.CX P w) k f fd ps sp ∧ Mk K C f ∧ Binds K fd ps []
section
variable {P : Program} {w : World} {K : PySem.W.Frag} {mg : Str → Option Value} {base : Heap} {x : Str} {k j : Nat} {ps : List Str} {sp sp' : Sp} {C : Addr} {m : Str}
theorem Dn.imp (D : Dn P w K mg base x k ps sp) (h : ∀ vs H Q E, sp' vs H Q E → sp vs H Q E) : Dn P w K mg base x k ps sp' := by
  obtain ⟨f, fd, F, a, b, c⟩ := D.ok
  exact ⟨f, fd, F.imp h, a, b, c⟩
theorem Mn.imp (D : Mn P w K mg base C m k ps sp) (h : ∀ vs H Q E, sp' vs H Q E → sp vs H Q E) : Mn P w K mg base C m k ps sp' := by
  obtain ⟨f, fd, F, a, b⟩ := D.ok
  exact ⟨D.cl, f, fd, F.imp h, a, b⟩
theorem Dn.up (D : Dn P w K mg base x j ps sp) (h : j ≤ k) : Dn P w K mg base x k ps sp := by
  obtain ⟨f, fd, F, a, b, c⟩ := D.ok
  exact ⟨f, fd, F.mono h, a, b, c⟩
end
section
variable {X : Cx} {k : Nat} {ps : List Str} {sp : Sp} {C : Addr} {x m : Str} {p pos apos : Pos} {e o : Expr} {es : List Expr} {ta : TE} {t : TA}
theorem pe_d (D : Dn X.prog X.w X.K X.mg X.base x k ps sp) (E : XK) (hr : Room k X.A) (hg : Gl X x) (hx : Passes (L2.CX X.prog X.w) X E) (ha : PA X (e :: es) t) (hdb : (x == ("__debug__" : Str)) = false := by decide)
    (he : starEach (e :: es) X.env = (false, eval e X.env) :: starEach es X.env := by rfl) (hpl : (backTo pos (starEach es X.env)).any (·.1) = false := by rfl) :
    PE X (.Call (.Name x p) (e :: es) [] pos) (tCall sp [] E t) := by
  obtain ⟨f, fd, F, a, b, c⟩ := D.ok
  exact pe_call F hr hg a b c .nil hx ha hdb he hpl
theorem pe_d0 (D : Dn X.prog X.w X.K X.mg X.base x k ps sp) (E : XK) (hr : Room k X.A) (hg : Gl X x) (hx : Passes (L2.CX X.prog X.w) X E) (hdb : (x == ("__debug__" : Str)) = false := by decide) :
    PE X (.Call (.Name x p) [] [] pos) (tCall sp [] E tNil) := by
  obtain ⟨f, fd, F, a, b, c⟩ := D.ok
  exact pe_call0 F hr hg a b c .nil hx hdb
theorem pe_m (D : Mn X.prog X.w X.K X.mg X.base C m k ps sp) (E : XK) (hr : Room k X.A) (he : PE X o ta) (hx : Passes (L2.CX X.prog X.w) X E) (ha : PA X (e :: es) t) (pl : Sem Bool)
    (hst : starEach (e :: es) X.env = (false, eval e X.env) :: starEach es X.env := by rfl) (hpl : (backTo pos (starEach es X.env)).any (·.1) = false := by rfl)
    (ht : eval (.Call (.Attribute o m apos) (e :: es) [] pos) X.env = (do
      let v ← eval o X.env
      standAt apos.atName
      let (g, fs) ← holding [v] (getMethod v m pl)
      callWith pos g fs (backTo pos (starEach (e :: es) X.env)) (backToKw pos (keywordEach [] X.env))) := by rfl) :
    PE X (.Call (.Attribute o m apos) (e :: es) [] pos) (tMeth C m sp [] E ta t) := by
  obtain ⟨f, fd, F, a, b⟩ := D.ok
  exact pe_meth (pl := pl) he D.cl a F hr b .nil hx ha hst hpl ht
theorem pe_m0 (D : Mn X.prog X.w X.K X.mg X.base C m k ps sp) (E : XK) (hr : Room k X.A) (he : PE X o ta) (hx : Passes (L2.CX X.prog X.w) X E) (pl : Sem Bool)
    (ht : eval (.Call (.Attribute o m apos) [] [] pos) X.env = (do
      let v ← eval o X.env
      standAt apos.atName
      let (g, fs) ← holding [v] (getMethod v m pl)
      callWith pos g fs (backTo pos (starEach [] X.env)) (backToKw pos (keywordEach [] X.env))) := by rfl) :
    PE X (.Call (.Attribute o m apos) [] [] pos) (tMeth C m sp [] E ta tNil) := by
  obtain ⟨f, fd, F, a, b⟩ := D.ok
  exact pe_meth0 (pl := pl) he D.cl a F hr b .nil hx ht
theorem pe_c (D : Cn X.prog X.w X.K X.mg X.base x C k ps sp) (E : XK) (hr : Room (k + 1) X.A) (hg : Gl X x) (hx : Passes (L2.CX X.prog X.w) X E) (ha : PA X (e :: es) t) (hdb : (x == ("__debug__" : Str)) = false := by decide)
    (he : starEach (e :: es) X.env = (false, eval e X.env) :: starEach es X.env := by rfl) (hpl : (backTo pos (starEach es X.env)).any (·.1) = false := by rfl) :
    PE X (.Call (.Name x p) (e :: es) [] pos) (tMake C sp [] E t) := by
  obtain ⟨f, fd, F, M, b⟩ := D.ok
  exact pe_make M F hr hg D.mgC b .nil hx ha hdb he hpl
theorem pe_c0 (D : Cn X.prog X.w X.K X.mg X.base x C k ps sp) (E : XK) (hr : Room (k + 1) X.A) (hg : Gl X x) (hx : Passes (L2.CX X.prog X.w) X E) (hdb : (x == ("__debug__" : Str)) = false := by decide) :
    PE X (.Call (.Name x p) [] [] pos) (tMake C sp [] E tNil) := by
  obtain ⟨f, fd, F, M, b⟩ := D.ok
  exact pe_make0 M F hr hg D.mgC b .nil hx hdb
end
theorem dn_mk {P : Program} {w : World} {K : PySem.W.Frag} {mg : Str → Option Value} {base : Heap} {x q : Str} {st : Stmt} {f : Addr} {fd : FuncData} {k : Nat} {ps : List Str} {sp : Sp} (F : Fun K x q st f fd) (hm : mg x = some (.ref f)) (b : Binds K fd ps [])
    (ok : FnOk P w K mg base (L2.CX P w) k f fd ps sp) : Dn P w K mg base x k ps sp := ⟨⟨f, fd, ok, hm, F.kp, b⟩⟩
theorem mn_mk {P : Program} {w : World} {K : PySem.W.Frag} {mg : Str → Option Value} {base : Heap} {C : Addr} {x q : Str} {st : Stmt} {f : Addr} {fd : FuncData} {k : Nat} {ps : List Str} {sp : Sp} (c : Cls K C) (F : Fun K x q st f fd) (m : Meth K C x f) (b : Binds K fd ps [])
    (ok : FnOk P w K mg base (L2.CX P w) k f fd ps sp) : Mn P w K mg base C x k ps sp := ⟨c, f, fd, ok, m, b⟩
/-- what holds of all smaller ones -/
theorem fn_less {P : Program} {w : World} {K : PySem.W.Frag} {mg : Str → Option Value} {base : Heap} {f : Addr} {fd : FuncData} {k n : Nat} {ps : List Str} {sp : Nat → Sp} (h : ∀ m, m < n → FnOk P w K mg base (L2.CX P w) k f fd ps (sp m)) :
    FnOk P w K mg base (L2.CX P w) k f fd ps (fun vs H Q E => ∃ m, m < n ∧ sp m vs H Q E) :=
  ⟨fun vs H Q E ⟨m, hm, q⟩ => (h m hm).len vs H Q E q, fun A outer s H args us vs Q E hr he hb hv ⟨m, hm, q⟩ => (h m hm).run A outer s H args us vs Q E hr he hb hv q⟩
/-- a def that calls itself, by a size -/
theorem fn_rec {P : Program} {w : World} {K : PySem.W.Frag} {mg : Str → Option Value} {base : Heap} {x q : Str} {st : Stmt} {f : Addr} {fd : FuncData} {k : Nat} {ps : List Str} {sp : Nat → Sp} (F : Fun K x q st f fd) (hm : mg x = some (.ref f)) (b : Binds K fd ps [])
    (step : ∀ n, Dn P w K mg base x (k + n) ps (fun vs H Q E => ∃ m, m < n ∧ sp m vs H Q E) → FnOk P w K mg base (L2.CX P w) (k + n + 1) f fd ps (sp n)) : ∀ n, FnOk P w K mg base (L2.CX P w) (k + n + 1) f fd ps (sp n) := by
  intro n
  induction n using Nat.strongRecOn with
  | ind n ih => exact step n (dn_mk F hm b (fn_less fun m hm => (ih m hm).mono (by omega)))
/-- a def's body in which nothing is raised -/
theorem okN {P : Program} {w : World} {K : PySem.W.Frag} {mg : Str → Option Value} {base : Heap} {x qual : Str} {st : Stmt} {f : Addr} {fd : FuncData} {N ps : List Str} {k : Nat} {sp : Sp} (F : Fun K x qual st f fd) (S : FnScope N ps (defScope st))
    (len : ∀ vs H Q E, sp vs H Q E → vs.length = ps.length)
    (hb : ∀ (cdv : Value) (A : Around) (outer : List Env) (s : Shared) (H : Hp) (vs : List V) (Q : VK) (E : XK), Room k (A.deeper (envOfC qual (defScope st) s.heap.objs.size f cdv)) → sp vs H Q E →
      ∃ t σ, L2.start N vs = σ ∧ PSs (cxOf (L2.CX P w) P w K mg base N qual (defScope st) f cdv A outer s H E).nox (defBody st) t ∧ t { nx := fun _ H' => Q .non H', rt := Q } σ H) : FnOk P w K mg base (L2.CX P w) (k + 1) f fd ps sp :=
  F.okX S len fun cdv A outer s H vs Q E hr hs => by
    obtain ⟨t, σ, e, h, q⟩ := hb cdv A outer s H vs Q E hr hs
    cases e
    exact ⟨t, h.nox, q⟩

/-! ### the layer's rules, the written part told by its own letter -/
section
variable {X : Cx} {K : PySem.W.Frag}
theorem kIxL (h : X.K = K := by rfl) : IxR X (rIxL K) := by cases h; exact ix_list
theorem kIxT (h : X.K = K := by rfl) : IxR X (rIxT K) := by cases h; exact ix_tup
theorem kSlL (h : X.K = K := by rfl) : SlR X (rSlL K) := by cases h; exact sl_list
theorem kSlT (h : X.K = K := by rfl) : SlR X (rSlT K) := by cases h; exact sl_tup
theorem kPiL {tg l : Expr} {tl : TE} (hl : PE X l tl) (h : X.K = K := by rfl) : PI X tg l (iList K tl) := by cases h; exact pi_list hl
theorem kPiT {tg l : Expr} {tl : TE} (hl : PE X l tl) (h : X.K = K := by rfl) : PI X tg l (iTup K tl) := by cases h; exact pi_tup hl
theorem kFld {e : Expr} {f : Str} {ta : TE} {pos : Pos} (he : PE X e ta) (hb : attributeBase e f X.env (eval e X.env) = eval e X.env) (h : X.K = K := by rfl) : PE X (.Attribute e f pos) (tFld K ta f) := by
  cases h; exact pe_fld he hb
theorem kSFld {o value : Expr} {f : Str} {ta tv : TE} {pos pos' : Pos} (ha : PE X o ta) (hv : PE X value tv) (hs : swapsWith value (some (.Attribute o f pos')) pos.line X.env = pure false) (h : X.K = K := by rfl) :
    PS X (.Assign [.Attribute o f pos'] value pos) (sFld K ta tv f) := by cases h; exact ps_fld ha hv hs
def rLen (K : PySem.W.Frag) : List V → Hp → VK → Prop := fun xs H Q => ∃ p ys, xs = [.ref p] ∧ (SqL K H p ys ∨ SqT K H p ys) ∧ Q (.int ys.length) H
theorem kLen (h : X.K = K := by rfl) : CallR X (.builtin "len") (rLen K) := by cases h; exact call_len_seq
def rListOf (K : PySem.W.Frag) : List V → Hp → VK → Prop := fun xs H Q => ∃ p ys, xs = [.ref p] ∧ (SqL K H p ys ∨ SqT K H p ys) ∧ ∀ l, H l = none → Q (.ref l) (upd H l (.lst ys))
theorem kListOf (h : X.K = K := by rfl) : CallR X (.type "list") (rListOf K) := by cases h; exact call_list_of
def rTupOf (K : PySem.W.Frag) : List V → Hp → VK → Prop := fun xs H Q => ∃ p ys, xs = [.ref p] ∧ ((SqL K H p ys ∧ ∀ l, H l = none → Q (.ref l) (upd H l (.tup ys))) ∨ (SqT K H p ys ∧ Q (.ref p) H))
theorem kTupOf (h : X.K = K := by rfl) : CallR X (.type "tuple") (rTupOf K) := by cases h; exact call_tuple_of
theorem kSum (hc : X.calm = true := by rfl) (h : X.K = K := by rfl) : CallR X (.builtin "sum") (rSum K) := by cases h; exact cr_sum hc
theorem kAll (hc : X.calm = true := by rfl) (h : X.K = K := by rfl) : CallR X (.builtin "all") (rAll K) := by cases h; exact cr_all hc
theorem kAny (hc : X.calm = true := by rfl) (h : X.K = K := by rfl) : CallR X (.builtin "any") (rAny K) := by cases h; exact cr_any hc
theorem kEqD (hu : X.A.units + 64 < cLine) (h : X.K = K := by rfl) : OpR X (compareOp .Eq) (rEqD K) := by cases h; exact op_eqD hu
theorem kNeD (hu : X.A.units + 64 < cLine) (h : X.K = K := by rfl) : OpR X (compareOp .NotEq) (rNeD K) := by cases h; exact op_neD hu
theorem kIn (h : X.K = K := by rfl) : OpR X (compareOp .In) (rIn K false) := by cases h; exact op_in_seq
theorem kNotIn (h : X.K = K := by rfl) : OpR X (compareOp .NotIn) (rIn K true) := by cases h; exact op_notIn_seq
theorem kTupT {es : List Expr} {k : Nat} {t : TGs} {n : Nat} {pos : Pos} (hp : PGs X es t) (hc : X.calm = true := by rfl) (h : X.K = K := by rfl) (hn : (assignEach es X.env).length = n := by rfl) (hst : (assignEach es X.env).findIdx? (·.1) = none := by rfl) :
    PG X (.Tuple es k pos) (gTup K n t) := by cases h; exact pg_tup hc hp hn hst
theorem kCatT (h : X.K = K := by rfl) : OpR X (binaryOp .Add) (rCatT K) := by cases h; exact op_catT
theorem kIsi (h : X.K = K := by rfl) : CallR X (.builtin "isinstance") (rIsi K) := by cases h; exact call_isi
theorem kIsiT (h : X.K = K := by rfl) : CallR X (.builtin "isinstance") (rIsiT K) := by cases h; exact call_isiT
def tApp (K : PySem.W.Frag) (to te : TE) : TE := tBM K "list" rAppend to (tCons te tNil)
theorem kApp {o e : Expr} {to te : TE} {apos cpos : Pos} (ho : PE X o to) (ha : PE X e te) (hbase : attributeBase o "append" X.env (eval o X.env) = eval o X.env := by rfl)
    (hfew : ((backTo cpos (starEach [e] X.env)).all (fun x => !x.1) && (backToKw cpos (keywordEach [] X.env)).all (fun x => x.1.isSome)
      && decide (([e] : List Expr).length + ([] : List Keyword).length + (if ([] : List Keyword).isEmpty then 0 else 1) < 30)) = true := by rfl)
    (hline : (apos.endLine == cpos.line) = true := by rfl) (hs : starEach [e] X.env = (false, eval e X.env) :: starEach [] X.env := by rfl)
    (h : X.K = K := by rfl) : PE X (.Call (.Attribute o "append" apos) [e] [] cpos) (tApp K to te) := by
  cases h
  exact pe_bm PySem.F.plainAttrs_list PySem.F.slot_list_append PySem.F.type_list_append mt_append ho (pa_cons ha pa_nil hs) hbase hfew hline hs rfl
end

section
variable {X : Cx} {K : PySem.W.Frag}
theorem kBm {T id : String} {o e : Expr} {es : List Expr} {to : TE} {t : TA} {name : Str} {apos cpos : Pos} {r : V → List V → Hp → VK → Prop} (pa : PlainAttrs T) (slot : Slot T name id) (hty : typeOf (.builtin id) = pure (.type "method_descriptor")) (hm : MtR X id r) (ho : PE X o to) (ha : PA X (e :: es) t)
    (hbase : attributeBase o name X.env (eval o X.env) = eval o X.env := by rfl)
    (hfew : ((backTo cpos (starEach (e :: es) X.env)).all (fun x => !x.1) && (backToKw cpos (keywordEach [] X.env)).all (fun x => x.1.isSome)
      && decide ((e :: es : List Expr).length + ([] : List Keyword).length + (if ([] : List Keyword).isEmpty then 0 else 1) < 30)) = true := by rfl)
    (hline : (apos.endLine == cpos.line) = true := by rfl) (hs : starEach (e :: es) X.env = (false, eval e X.env) :: starEach es X.env := by rfl) (hplain : (backTo cpos (starEach es X.env)).any (·.1) = false := by rfl)
    (h : X.K = K := by rfl) : PE X (.Call (.Attribute o name apos) (e :: es) [] cpos) (tBM K T r to t) := by
  cases h
  exact pe_bm pa slot hty hm ho ha hbase hfew hline hs hplain
end
/-! ### data made of tuples: it stands for good -/
mutual
inductive TD (H : Hp) : V → PyData → Prop
  | non : TD H .non .none
  | bl (b : Bool) : TD H (.bl b) (.bool b)
  | int (i : Int) : TD H (.int i) (.int i)
  | str (x : Str) : TD H (.str x) (.str x)
  | tup {a : Addr} {xs : List V} {ds : List PyData} : H a = some (.tup xs) → TDs H xs ds → TD H (.ref a) (.tuple ds)
inductive TDs (H : Hp) : List V → List PyData → Prop
  | nil : TDs H [] []
  | cons {v : V} {vs : List V} {d : PyData} {ds : List PyData} : TD H v d → TDs H vs ds → TDs H (v :: vs) (d :: ds)
end
/-- tuples stay -/
def Tp (H H' : Hp) : Prop := ∀ a xs, H a = some (.tup xs) → H' a = some (.tup xs)
theorem Tp.refl (H : Hp) : Tp H H := fun _ _ h => h
theorem Tp.trans {H H1 H2 : Hp} (a : Tp H H1) (b : Tp H1 H2) : Tp H H2 := fun c o h => b c o (a c o h)
mutual
theorem TD.mono {H H' : Hp} (t : Tp H H') : ∀ (d : PyData) (v : V), TD H v d → TD H' v d
  | .none, _, h => by cases h; exact .non
  | .bool _, _, h => by cases h; exact .bl _
  | .int _, _, h => by cases h; exact .int _
  | .str _, _, h => by cases h; exact .str _
  | .tuple ds, _, h => by
    cases h with
    | tup e q => exact .tup (t _ _ e) (TDs.mono t ds _ q)
  | .list _, _, h => by cases h
  | .dict _, _, h => by cases h
theorem TDs.mono {H H' : Hp} (t : Tp H H') : ∀ (ds : List PyData) (vs : List V), TDs H vs ds → TDs H' vs ds
  | [], _, h => by cases h; exact .nil
  | d :: ds, _, h => by
    cases h with
    | cons h1 h2 => exact .cons (TD.mono t d _ h1) (TDs.mono t ds _ h2)
end
mutual
theorem TD.dp {K : PySem.W.Frag} {H : Hp} : ∀ (d : PyData) (v : V), TD H v d → Dp K H v d
  | .none, _, h => by cases h; exact .non
  | .bool _, _, h => by cases h; exact .bl _
  | .int _, _, h => by cases h; exact .int _
  | .str _, _, h => by cases h; exact .str _
  | .tuple ds, _, h => by
    cases h with
    | tup e q => exact .tup (SqT.of e) (TDs.dp ds _ q)
  | .list _, _, h => by cases h
  | .dict _, _, h => by cases h
theorem TDs.dp {K : PySem.W.Frag} {H : Hp} : ∀ (ds : List PyData) (vs : List V), TDs H vs ds → DpAll K H vs ds
  | [], _, h => by cases h; exact .nil
  | d :: ds, _, h => by
    cases h with
    | cons h1 h2 => exact .cons (TD.dp d _ h1) (TDs.dp ds _ h2)
end
section
variable {H H' : Hp} {vs us : List V} {ds es : List PyData} {v : V} {d : PyData} {i : Nat}
theorem TDs.length (h : TDs H vs ds) : vs.length = ds.length := by
  induction ds generalizing vs with
  | nil => cases h; rfl
  | cons d ds ih =>
    cases h with
    | cons h1 h2 => simp only [List.length_cons, ih h2]
theorem TDs.app (h : TDs H vs ds) (g : TDs H us es) : TDs H (vs ++ us) (ds ++ es) := by
  induction ds generalizing vs with
  | nil => cases h; exact g
  | cons d ds ih =>
    cases h with
    | cons h1 h2 => exact .cons h1 (ih h2)
theorem TDs.snoc (h : TDs H vs ds) (g : TD H v d) : TDs H (vs ++ [v]) (ds ++ [d]) := h.app (.cons g .nil)
theorem TDs.at_ (h : TDs H vs ds) (e : vs[i]? = some v) : ∃ d, ds[i]? = some d ∧ TD H v d := by
  induction ds generalizing vs i with
  | nil => cases h; cases e
  | cons d ds ih =>
    cases h with
    | cons h1 h2 =>
      cases i with
      | zero => cases e; exact ⟨d, rfl, h1⟩
      | succ i =>
        obtain ⟨d, a, b⟩ := ih h2 (by simpa using e)
        exact ⟨d, a, b⟩
theorem TDs.to_ (h : TDs H vs ds) (e : ds[i]? = some d) : ∃ v, vs[i]? = some v ∧ TD H v d := by
  induction ds generalizing vs i with
  | nil => cases e
  | cons d' ds ih =>
    cases h with
    | cons h1 h2 =>
      cases i with
      | zero => cases e; exact ⟨_, rfl, h1⟩
      | succ i =>
        obtain ⟨v, a, b⟩ := ih h2 e
        exact ⟨v, a, b⟩
theorem TDs.take (n : Nat) (h : TDs H vs ds) : TDs H (vs.take n) (ds.take n) := by
  induction ds generalizing vs n with
  | nil => cases h; rw [List.take_nil, List.take_nil]; exact .nil
  | cons d ds ih =>
    cases h with
    | cons h1 h2 =>
      cases n with
      | zero => exact .nil
      | succ n => exact .cons h1 (ih n h2)
theorem TDs.drop (n : Nat) (h : TDs H vs ds) : TDs H (vs.drop n) (ds.drop n) := by
  induction ds generalizing vs n with
  | nil => cases h; rw [List.drop_nil, List.drop_nil]; exact .nil
  | cons d ds ih =>
    cases h with
    | cons h1 h2 =>
      cases n with
      | zero => exact .cons h1 h2
      | succ n => exact ih n h2
end

theorem fresh_ne {H : Hp} {p D : Addr} {o : HO} (h : upd H p o D = none) : D ≠ p := fun z => by
  rw [z, upd_same] at h
  cases h
theorem upd_old {H : Hp} {p b : Addr} {o o' : HO} (hp : H p = none) (hb : H b = some o) : upd H p o' b = some o := by
  rw [upd_ne (ne_of_none hb hp)]
  exact hb
theorem fresh_of {H : Hp} {p D : Addr} {o : HO} (h : upd H p o D = none) : H D = none := by
  rw [upd_ne (fresh_ne h)] at h
  exact h
/-! ### frames -/
/-- all but ms is as it was, tuples are there -/
structure Fr (ms : List Addr) (H H' : Hp) : Prop where
  keep : ∀ b o, b ∉ ms → H b = some o → H' b = some o
  tup : Tp H H'
section
variable {ms ns : List Addr} {H H1 H2 : Hp} {p : Addr} {o o' : HO}
theorem Fr.refl (H : Hp) : Fr ms H H := ⟨fun _ _ _ h => h, Tp.refl H⟩
theorem Fr.trans (a : Fr ms H H1) (b : Fr ms H1 H2) : Fr ms H H2 := ⟨fun c o n h => b.keep c o n (a.keep c o n h), a.tup.trans b.tup⟩
theorem Fr.mono (a : Fr ms H H1) (h : ∀ b, b ∈ ms → b ∈ ns) : Fr ns H H1 := ⟨fun c o n e => a.keep c o (fun z => n (h c z)) e, a.tup⟩
theorem Fr.same (a : Fr [] H H1) : Same H H1 := fun b o e => a.keep b o (List.not_mem_nil) e
theorem Fr.ofSame (s : Same H H1) : Fr ms H H1 := ⟨fun b o _ e => s b o e, fun a xs e => s a _ e⟩
theorem Fr.new (a : Fr ms H H1) (h : H1 p = none) : Fr ms H (upd H1 p o) := by
  refine ⟨fun b u n e => ?_, fun b xs e => ?_⟩
  · have q := a.keep b u n e
    rw [upd_ne (ne_of_none q h)]
    exact q
  · have q := a.tup b xs e
    rw [upd_ne (ne_of_none q h)]
    exact q
theorem Fr.up (h : H p = none) : Fr ms H (upd H p o) := (Fr.refl H).new h
/-- a list, an instance .. is written: it is one of ms, or new -/
theorem Fr.wr (a : Fr ms H H1) (h : H1 p = some o) (m : Mut (some o)) (hp : p ∈ ms ∨ H p = none) : Fr ms H (upd H1 p o') := by
  refine ⟨fun b u n e => ?_, fun b xs e => ?_⟩
  · have ne : b ≠ p := fun z => by
      rcases hp with q | q
      · exact n (z ▸ q)
      · rw [z, q] at e; cases e
    rw [upd_ne ne]
    exact a.keep b u n e
  · have q := a.tup b xs e
    have ne : b ≠ p := fun z => by
      rw [z, h] at q
      cases q
      exact m
    rw [upd_ne ne]
    exact q
theorem Fr.wl {xs : List V} (a : Fr ms H H1) (h : H1 p = some (.lst xs)) (hp : p ∈ ms ∨ H p = none) : Fr ms H (upd H1 p o') := a.wr h trivial hp
theorem Fr.wi {C dx : Addr} {fs : List (Str × V)} (a : Fr ms H H1) (h : H1 p = some (.ins C dx fs)) (hp : p ∈ ms ∨ H p = none) : Fr ms H (upd H1 p o') := a.wr h trivial hp
/-- what was not there ahead may be of ms -/
theorem Fr.cut (a : Fr (ms ++ ns) H H1) (h : ∀ b, b ∈ ns → H b = none) : Fr ms H H1 := by
  refine ⟨fun c o n e => a.keep c o (fun z => ?_) e, a.tup⟩
  rcases List.mem_append.mp z with q | q
  · exact n q
  · rw [h c q] at e
    cases e
theorem Fr.free (a : Fr [] H H1) (h : H1 p = none) : H p = none := a.same.free h
theorem Fr.back (a : Fr ms H H1) (n : p ∉ ms) (h : H1 p = none) : H p = none := by
  cases q : H p with
  | none => rfl
  | some o =>
    rw [a.keep p o n q] at h
    cases h
end
end Hq

/-! P2: readings step by step -/
namespace Hq
open PySem PySem.Spec PyProof.Rows L2
section
variable {σ : L2.St} {H : Hp} {Q : VK} {QT : Bool → Hp → Prop} {QA : List V → Hp → Prop} {D : Ends} {te ta tb tc : TE} {t u : TT} {ts us : TS} {tA tr : TA} {v x y : V} {i : Nat} {n j : Int} {K : PySem.W.Frag} {r r' : R2} {a p C dx : Addr} {fs : List (Str × V)} {f m : Str} {xs ys : List V} {sp : Sp} {E : XK}
theorem st_var (h : σ[i]? = some (some v)) (q : Q v H) : tVar i σ H Q := ⟨v, h, q⟩
theorem st_c (q : Q v H) : tC v σ H Q := q
theorem st_op (q : ta σ H fun x H1 => tb σ H1 fun y H2 => r x y H2 Q) : tOp r ta tb σ H Q := q
theorem st_un {r : V → Hp → VK → Prop} (q : ta σ H fun x H1 => r x H1 Q) : tUn r ta σ H Q := q
theorem st_I {c : Int → Int → Prop} {g : Int → Int → V} (h : c n j) (q : Q (g n j) H) : rI c g (.int n) (.int j) H Q := ⟨n, j, rfl, rfl, h, q⟩
theorem st_I0 {g : Int → Int → V} (q : Q (g n j) H) : rI0 g (.int n) (.int j) H Q := ⟨n, j, rfl, rfl, q⟩
theorem st_U {g : Int → V} (q : Q (g n) H) : rU g (.int n) H Q := ⟨n, rfl, q⟩
theorem st_eq (h : scal x y = true) (q : Q (.bl (decide (x = y))) H) : rEq x y H Q := ⟨h, q⟩
theorem st_ne (h : scal x y = true) (q : Q (.bl (!decide (x = y))) H) : rNe x y H Q := ⟨h, q⟩
theorem st_test (q : te σ H fun x H' => ∃ k, x = .bl k ∧ QT k H') : tTest te σ H QT := q
theorem st_B (q : te σ H fun x H' => ∃ k, x = .bl k ∧ QT k H') : tB te σ H QT := q
theorem st_bl {b : Bool} {R : Bool → Prop} (q : R b) : ∃ k, V.bl b = .bl k ∧ R k := ⟨b, rfl, q⟩
theorem st_isN (q : ta σ H fun x H1 => Q (.bl (decide (x = .non))) H1) : tIsN ta σ H Q := q
theorem st_notN (q : ta σ H fun x H1 => Q (.bl (!decide (x = .non))) H1) : tNotN ta σ H Q := q
theorem st_chain (q : ta σ H fun x H1 => tb σ H1 fun y H2 => r x y H2 fun z H3 => ∃ k, z = .bl k ∧ (if k = true then tc σ H3 fun w' H4 => r' y w' H4 Q else Q (.bl false) H3)) : tChain r r' ta tb tc σ H Q := q
theorem st_and (q : t σ H fun c H1 => if c = true then u σ H1 QT else QT false H1) : tAnd t u σ H QT := q
theorem st_or (q : t σ H fun c H1 => if c = true then QT true H1 else u σ H1 QT) : tOr t u σ H QT := q
theorem st_not (q : t σ H fun c H1 => QT (!c) H1) : tNot t σ H QT := q
theorem st_andV (q : ta σ H fun x H1 => ∃ c, x = .bl c ∧ if c = true then tb σ H1 Q else Q (.bl false) H1) : tAndV ta tb σ H Q := q
theorem st_orV (q : ta σ H fun x H1 => ∃ c, x = .bl c ∧ if c = true then Q (.bl true) H1 else tb σ H1 Q) : tOrV ta tb σ H Q := q
theorem st_notV (q : ta σ H fun x H1 => ∃ c, x = .bl c ∧ Q (.bl (!c)) H1) : tNotV ta σ H Q := q
theorem st_if (q : t σ H fun c H1 => if c = true then ta σ H1 Q else tb σ H1 Q) : tIf t ta tb σ H Q := q
theorem st_CB {r : List V → Hp → VK → Prop} (q : tA σ H fun vs H1 => r vs H1 Q) : tCB r tA σ H Q := q
theorem st_cons (q : te σ H fun x H1 => tr σ H1 fun xs H2 => QA (x :: xs) H2) : tCons te tr σ H QA := q
theorem st_nil (q : QA [] H) : tNil σ H QA := q
theorem st_tup (q : tA σ H fun xs H1 => xs.length ≤ sizeLine ∧ ∀ p, H1 p = none → Q (.ref p) (upd H1 p (.tup xs))) : tTup tA σ H Q := q
theorem st_lst (q : tA σ H fun xs H1 => xs.length ≤ sizeLine ∧ ∀ p, H1 p = none → Q (.ref p) (upd H1 p (.lst xs))) : tLst tA σ H Q := q
theorem st_fld (q : ta σ H fun x H1 => ∃ a C dx fs v, x = .ref a ∧ H1 a = some (.ins C dx fs) ∧ Cls K C ∧ NoAttr K C f ∧ fs.lookup f = some v ∧ Q v H1) : tFld K ta f σ H Q := q
theorem st_call (q : tA σ H fun vs H1 => sp (vs ++ []) H1 Q E) : tCall sp [] E tA σ H Q := q
theorem st_meth (q : ta σ H fun x H1 => ∃ a dx fs, x = .ref a ∧ H1 a = some (.ins C dx fs) ∧ fs.lookup m = none ∧ tA σ H1 fun vs H2 => sp (x :: (vs ++ [])) H2 Q E) : tMeth C m sp [] E ta tA σ H Q := q
theorem st_make (q : tA σ H fun vs H1 => ∀ x dx, H1 x = none → H1 dx = none → dx ≠ x → sp (.ref x :: (vs ++ [])) (upd (upd H1 dx (.own x)) x (.ins C dx [])) (fun v H2 => v = .non ∧ Q (.ref x) H2) E) : tMake C sp [] E tA σ H Q := q
theorem st_sl {r : V → Option Int → Option Int → Hp → VK → Prop} {tl th : TO} (q : te σ H fun x H1 => tl σ H1 fun l H2 => th σ H2 fun u H3 => r x l u H3 Q) : tSl r te tl th σ H Q := q
theorem st_noPart {QO : Option Int → Hp → Prop} (q : QO none H) : tNoPart σ H QO := q
theorem st_part {QO : Option Int → Hp → Prop} (q : te σ H fun x H1 => ∃ i, x = .int i ∧ QO (some i) H1) : tPart te σ H QO := q
theorem st_int {R : Int → Prop} (q : R n) : ∃ i, V.int n = .int i ∧ R i := ⟨n, rfl, q⟩
theorem st_ixL (h : SqL K H p xs) (e : atI xs n = some v) (q : Q v H) : rIxL K (.ref p) (.int n) H Q := ⟨p, xs, n, v, rfl, rfl, h, e, q⟩
theorem st_ixT (h : SqT K H p xs) (e : atI xs n = some v) (q : Q v H) : rIxT K (.ref p) (.int n) H Q := ⟨p, xs, n, v, rfl, rfl, h, e, q⟩
theorem st_bm {T : String} {r : V → List V → Hp → VK → Prop} (q : ta σ H fun x H1 => tyV K T x H1 ∧ tA σ H1 fun xs H2 => r x xs H2 Q) : tBM K T r ta tA σ H Q := q
theorem st_app (q : ta σ H fun x H1 => tyV K "list" x H1 ∧ te σ H1 fun y H2 => rAppend x [y] H2 Q) : tApp K ta te σ H Q := q
theorem ty_lst (h : H p = some (.lst xs)) : tyV K "list" (.ref p) H := .inl ⟨rfl, _, SqL.of h⟩
theorem st_append (h : H p = some (.lst xs)) (l : xs.length < sizeLine) (q : Q .non (upd H p (.lst (xs ++ [v])))) : rAppend (.ref p) [v] H Q := ⟨p, xs, v, rfl, rfl, h, l, q⟩
theorem st_len {n : Nat} (h : SqL K H p xs ∨ SqT K H p xs) (q : Q (.int xs.length) H) : rLen K [.ref p] H Q := ⟨p, xs, rfl, h, q⟩
theorem st_listOf (h : SqL K H p xs ∨ SqT K H p xs) (q : ∀ l, H l = none → Q (.ref l) (upd H l (.lst xs))) : rListOf K [.ref p] H Q := ⟨p, xs, rfl, h, q⟩
theorem st_tupOf (h : SqL K H p xs) (q : ∀ l, H l = none → Q (.ref l) (upd H l (.tup xs))) : rTupOf K [.ref p] H Q := ⟨p, xs, rfl, .inl ⟨h, q⟩⟩
def rIntI : List V → Hp → VK → Prop := fun xs H Q => ∃ i, xs = [.int i] ∧ Q (.int i) H
theorem st_intI (q : Q (.int n) H) : rIntI [.int n] H Q := ⟨n, rfl, q⟩
theorem kInt {X : Cx} : CallR X (.type "int") rIntI := by
  intro pins s σ H xs us Q I r h
  exact call_int1 pins s σ H xs us Q I r (.inl h)
def rAbs : List V → Hp → VK → Prop := fun xs H Q => ∃ i, xs = [.int i] ∧ Q (.int (if i < 0 then -i else i)) H
theorem st_abs (q : Q (.int (if n < 0 then -n else n)) H) : rAbs [.int n] H Q := ⟨n, rfl, q⟩
theorem kAbs {X : Cx} : CallR X (.builtin "abs") rAbs := call_abs
theorem iteNT {A B : Prop} (h : B) : if (!true) = true then A else B := by simpa using h
theorem iteNF {A B : Prop} (h : A) : if (!false) = true then A else B := by simpa using h
theorem iteD {p A B : Prop} [Decidable p] (h1 : p → A) (h2 : ¬ p → B) : if decide p = true then A else B := by
  by_cases h : p
  · rw [if_pos (decide_eq_true h)]
    exact h1 h
  · rw [if_neg (by simpa using h)]
    exact h2 h
theorem iteDN {p A B : Prop} [Decidable p] (h1 : p → A) (h2 : ¬ p → B) : if (!decide p) = true then B else A := by
  by_cases h : p
  · rw [if_neg (by simpa using h)]
    exact h1 h
  · rw [if_pos (by simpa using h)]
    exact h2 h
theorem iteB {b : Bool} {A B : Prop} (h1 : b = true → A) (h2 : b = false → B) : if b = true then A else B := by
  cases b with
  | true => rw [if_pos rfl]; exact h1 rfl
  | false => rw [if_neg Bool.false_ne_true]; exact h2 rfl
theorem at0 {x : V} {xs : List V} : atI (x :: xs) 0 = some x := by
  have h := atI_nat (xs := x :: xs) (j := 0) (v := x) rfl
  exact h
theorem at1 {x y : V} {xs : List V} : atI (x :: y :: xs) 1 = some y := by
  have h := atI_nat (xs := x :: y :: xs) (j := 1) (v := y) rfl
  exact h
theorem at2 {x0 x1 x2 : V} {xs : List V} : atI (x0 :: x1 :: x2 :: xs) 2 = some x2 := by
  have h := atI_nat (xs := x0 :: x1 :: x2 :: xs) (j := 2) (v := x2) rfl
  exact h
theorem at3 {x0 x1 x2 x3 : V} {xs : List V} : atI (x0 :: x1 :: x2 :: x3 :: xs) 3 = some x3 := by
  have h := atI_nat (xs := x0 :: x1 :: x2 :: x3 :: xs) (j := 3) (v := x3) rfl
  exact h
theorem at4 {x0 x1 x2 x3 x4 : V} {xs : List V} : atI (x0 :: x1 :: x2 :: x3 :: x4 :: xs) 4 = some x4 := by
  have h := atI_nat (xs := x0 :: x1 :: x2 :: x3 :: x4 :: xs) (j := 4) (v := x4) rfl
  exact h
theorem at5 {x0 x1 x2 x3 x4 x5 : V} {xs : List V} : atI (x0 :: x1 :: x2 :: x3 :: x4 :: x5 :: xs) 5 = some x5 := by
  have h := atI_nat (xs := x0 :: x1 :: x2 :: x3 :: x4 :: x5 :: xs) (j := 5) (v := x5) rfl
  exact h
theorem at6 {x0 x1 x2 x3 x4 x5 x6 : V} {xs : List V} : atI (x0 :: x1 :: x2 :: x3 :: x4 :: x5 :: x6 :: xs) 6 = some x6 := by
  have h := atI_nat (xs := x0 :: x1 :: x2 :: x3 :: x4 :: x5 :: x6 :: xs) (j := 6) (v := x6) rfl
  exact h
theorem at7 {x0 x1 x2 x3 x4 x5 x6 x7 : V} {xs : List V} : atI (x0 :: x1 :: x2 :: x3 :: x4 :: x5 :: x6 :: x7 :: xs) 7 = some x7 := by
  have h := atI_nat (xs := x0 :: x1 :: x2 :: x3 :: x4 :: x5 :: x6 :: x7 :: xs) (j := 7) (v := x7) rfl
  exact h
theorem at8 {x0 x1 x2 x3 x4 x5 x6 x7 x8 : V} {xs : List V} : atI (x0 :: x1 :: x2 :: x3 :: x4 :: x5 :: x6 :: x7 :: x8 :: xs) 8 = some x8 := by
  have h := atI_nat (xs := x0 :: x1 :: x2 :: x3 :: x4 :: x5 :: x6 :: x7 :: x8 :: xs) (j := 8) (v := x8) rfl
  exact h
theorem ixN_nat {n k : Nat} (h : k < n) : ixN n (k : Int) = some k := by
  unfold ixN
  rw [if_pos (by omega), if_pos (by omega)]
  rfl
theorem ix0 {n : Nat} : ixN (n + 1) 0 = some 0 := ixN_nat (k := 0) (by omega)
theorem seq0 {n : Nat} : PySem.seqIndex? 0 (n + 1) = some 0 := by
  unfold PySem.seqIndex?
  simp
theorem and_left {A B : Prop} (h : A) (q : B) : A ∧ B := ⟨h, q⟩
theorem st_popAt {k : Nat} (h : H p = some (.lst xs)) (hk : PySem.seqIndex? 0 xs.length = some k) (e : xs[k]? = some v) (q : Q v (upd H p (.lst (xs.eraseIdx k)))) : rPopAt (.ref p) [.int 0] H Q :=
  ⟨p, xs, 0, k, v, rfl, rfl, h, by decide, by decide, hk, e, q⟩
theorem at_in {xs : List V} {n : Int} (h0 : 0 ≤ n) (h1 : n < xs.length) : ∃ v, v ∈ xs ∧ atI xs n = some v := by
  obtain ⟨j, e⟩ : ∃ j : Nat, n = (j : Int) := ⟨n.toNat, by omega⟩
  have hj : j < xs.length := by omega
  subst e
  exact ⟨xs[j], List.getElem_mem hj, atI_nat (List.getElem?_eq_getElem hj)⟩
theorem st_popAtN {k : Nat} (hl : xs.length ≤ 1000000) (h : H p = some (.lst xs)) (e : xs[k]? = some v) (q : Q v (upd H p (.lst (xs.eraseIdx k)))) : rPopAt (.ref p) [.int k] H Q := by
  have hk := (List.getElem?_eq_some_iff.mp e).1
  refine ⟨p, xs, k, k, v, rfl, rfl, h, by omega, by omega, ?_, e, q⟩
  unfold PySem.seqIndex?
  have h1 : ¬ ((k : Int) < 0) := by omega
  have h2 : ¬ ((xs.length : Int) ≤ (k : Int)) := by omega
  simp [h1, h2]
  omega
theorem look_cons (f g : Str) (v : V) (fs : List (Str × V)) : List.lookup g ((f, v) :: fs) = if g = f then some v else List.lookup g fs := by
  rw [List.lookup_cons]
  by_cases h : g = f
  · rw [if_pos h, h]; simp
  · rw [if_neg h]
    have : (g == f) = false := by simpa using h
    rw [this]
theorem put_cons (f g : Str) (v w : V) (fs : List (Str × V)) : putF g w ((f, v) :: fs) = if f = g then (f, w) :: fs else (f, v) :: putF g w fs := rfl
theorem put_nil (g : Str) (w : V) : putF g w [] = [(g, w)] := rfl
theorem at_mod {xs : List V} (t : Int) (h : 0 < xs.length) : ∃ j : Nat, j < xs.length ∧ t % (xs.length : Int) = (j : Int) ∧ atI xs (t % (xs.length : Int)) = xs[j]? := by
  have h0 : 0 ≤ t % (xs.length : Int) := Int.emod_nonneg _ (by omega)
  have h1 : t % (xs.length : Int) < xs.length := Int.emod_lt_of_pos _ (by omega)
  obtain ⟨j, e⟩ : ∃ j : Nat, t % (xs.length : Int) = (j : Int) := ⟨(t % (xs.length : Int)).toNat, by omega⟩
  have hj : j < xs.length := by omega
  refine ⟨j, hj, e, ?_⟩
  rw [e, List.getElem?_eq_getElem hj]
  exact atI_nat (List.getElem?_eq_getElem hj)
theorem st_ins {R : Addr → Addr → Addr → List (Str × V) → Prop} (h : H a = some (.ins C dx fs)) (c : Cls K C) (n : NoAttr K C f) (l : fs.length < 1000) (q : R a C dx fs) :
    ∃ a' C' dx' fs', V.ref a = .ref a' ∧ H a' = some (.ins C' dx' fs') ∧ Cls K C' ∧ NoAttr K C' f ∧ fs'.length < 1000 ∧ R a' C' dx' fs' := ⟨a, C, dx, fs, rfl, h, c, n, l, q⟩
theorem st_att {R : V → Prop} (h : H a = some (.ins C dx fs)) (c : Cls K C) (n : NoAttr K C f) (l : fs.lookup f = some v) (q : R v) :
    ∃ a' C' dx' fs' v', V.ref a = .ref a' ∧ H a' = some (.ins C' dx' fs') ∧ Cls K C' ∧ NoAttr K C' f ∧ fs'.lookup f = some v' ∧ R v' := ⟨a, C, dx, fs, v, rfl, h, c, n, l, q⟩
theorem st_mt {R : Addr → Prop} (h : H a = some (.ins C dx fs)) (l : fs.lookup m = none) (q : R a) : ∃ a' dx' fs', V.ref a = .ref a' ∧ H a' = some (.ins C dx' fs') ∧ fs'.lookup m = none ∧ R a' := ⟨a, dx, fs, rfl, h, l, q⟩
theorem st_extend (h : H a = some (.lst xs)) (h2 : H p = some (.lst ys)) (l : xs.length + ys.length ≤ sizeLine) (q : Q .non (upd H a (.lst (xs ++ ys)))) : rExtend (.ref a) [.ref p] H Q := ⟨a, p, xs, ys, rfl, rfl, h, h2, l, q⟩
/-! isinstance against a built-in class -/
theorem st_isi {t n : String} {b : Bool} (h : TyX K H x (.type t)) (e : kitB t n = some b) (q : Q (.bl b) H) : rIsi K [x, .ty n] H Q := ⟨x, .ty n, _, _, b, rfl, .ty n, h, kit_ty e, q⟩
theorem kit_NoneType_bool : kitB "NoneType" "bool" = some false := by decide +kernel
theorem kit_NoneType_int : kitB "NoneType" "int" = some false := by decide +kernel
theorem kit_NoneType_str : kitB "NoneType" "str" = some false := by decide +kernel
theorem kit_NoneType_tuple : kitB "NoneType" "tuple" = some false := by decide +kernel
theorem kit_NoneType_list : kitB "NoneType" "list" = some false := by decide +kernel
theorem kit_NoneType_dict : kitB "NoneType" "dict" = some false := by decide +kernel
theorem kit_bool_bool : kitB "bool" "bool" = some true := by decide +kernel
theorem kit_bool_int : kitB "bool" "int" = some true := by decide +kernel
theorem kit_bool_str : kitB "bool" "str" = some false := by decide +kernel
theorem kit_bool_tuple : kitB "bool" "tuple" = some false := by decide +kernel
theorem kit_bool_list : kitB "bool" "list" = some false := by decide +kernel
theorem kit_bool_dict : kitB "bool" "dict" = some false := by decide +kernel
theorem kit_int_bool : kitB "int" "bool" = some false := by decide +kernel
theorem kit_int_int : kitB "int" "int" = some true := by decide +kernel
theorem kit_int_str : kitB "int" "str" = some false := by decide +kernel
theorem kit_int_tuple : kitB "int" "tuple" = some false := by decide +kernel
theorem kit_int_list : kitB "int" "list" = some false := by decide +kernel
theorem kit_int_dict : kitB "int" "dict" = some false := by decide +kernel
theorem kit_str_bool : kitB "str" "bool" = some false := by decide +kernel
theorem kit_str_int : kitB "str" "int" = some false := by decide +kernel
theorem kit_str_str : kitB "str" "str" = some true := by decide +kernel
theorem kit_str_tuple : kitB "str" "tuple" = some false := by decide +kernel
theorem kit_str_list : kitB "str" "list" = some false := by decide +kernel
theorem kit_str_dict : kitB "str" "dict" = some false := by decide +kernel
theorem kit_tuple_bool : kitB "tuple" "bool" = some false := by decide +kernel
theorem kit_tuple_int : kitB "tuple" "int" = some false := by decide +kernel
theorem kit_tuple_str : kitB "tuple" "str" = some false := by decide +kernel
theorem kit_tuple_tuple : kitB "tuple" "tuple" = some true := by decide +kernel
theorem kit_tuple_list : kitB "tuple" "list" = some false := by decide +kernel
theorem kit_tuple_dict : kitB "tuple" "dict" = some false := by decide +kernel
theorem kit_list_bool : kitB "list" "bool" = some false := by decide +kernel
theorem kit_list_int : kitB "list" "int" = some false := by decide +kernel
theorem kit_list_str : kitB "list" "str" = some false := by decide +kernel
theorem kit_list_tuple : kitB "list" "tuple" = some false := by decide +kernel
theorem kit_list_list : kitB "list" "list" = some true := by decide +kernel
theorem kit_list_dict : kitB "list" "dict" = some false := by decide +kernel
theorem kit_dict_bool : kitB "dict" "bool" = some false := by decide +kernel
theorem kit_dict_int : kitB "dict" "int" = some false := by decide +kernel
theorem kit_dict_str : kitB "dict" "str" = some false := by decide +kernel
theorem kit_dict_tuple : kitB "dict" "tuple" = some false := by decide +kernel
theorem kit_dict_list : kitB "dict" "list" = some false := by decide +kernel
theorem kit_dict_dict : kitB "dict" "dict" = some true := by decide +kernel
/-! statements -/
theorem st_seq (q : ts { D with nx := us D } σ H) : tSeq ts us D σ H := q
theorem st_next (q : D.nx σ H) : tNext D σ H := q
theorem st_drop (q : te σ H fun _ H1 => D.nx σ H1) : tDrop te D σ H := q
theorem st_ret (q : te σ H D.rt) : tRet te D σ H := q
theorem st_retN (q : D.rt .non H) : tRetN D σ H := q
theorem st_ifS {c : TT} (q : c σ H fun b H1 => if b = true then ts D σ H1 else us D σ H1) : tIfS c ts us D σ H := q
theorem st_asg {g : TG} (q : te σ H fun x H1 => g x σ H1 D.nx) : tAsg te g D σ H := q
theorem st_name {QG : L2.St → Hp → Prop} (q : QG (σ.set i (some v)) H) : gName i v σ H QG := q
theorem st_par {j : Nat} (q : tA σ H fun vs H1 => ∃ v w, vs = [v, w] ∧ D.nx ((σ.set i (some v)).set j (some w)) H1) : tPar i j tA D σ H := q
theorem st_gtup {QG : L2.St → Hp → Prop} {k : Nat} {g : TGs} (h : SqT K H a xs) (hl : xs.length = k) (q : g xs σ H QG) : gTup K k g (.ref a) σ H QG := ⟨a, xs, rfl, h, hl, q⟩
theorem st_gcons {QG : L2.St → Hp → Prop} {g : TG} {gs : TGs} (q : g v σ H fun σ' H' => gs xs σ' H' QG) : gCons g gs (v :: xs) σ H QG := ⟨v, xs, rfl, q⟩
theorem st_gnil {QG : L2.St → Hp → Prop} (q : QG σ H) : gNil [] σ H QG := ⟨rfl, q⟩
theorem st_gsub {QG : L2.St → Hp → Prop} {st : TSet} (q : ta σ H fun o H1 => tb σ H1 fun i H2 => st o i v H2 fun H3 => QG σ H3) : gSub ta tb st v σ H QG := q
theorem st_setL {QH : Hp → Prop} {k : Nat} (h : H p = some (.lst xs)) (e : ixN xs.length n = some k) (q : QH (upd H p (.lst (xs.set k v)))) : rSetL (.ref p) (.int n) v H QH := ⟨p, xs, n, k, rfl, rfl, h, e, q⟩
theorem st_sFld {tv : TE} (q : tv σ H fun y H1 => ta σ H1 fun x H2 => ∃ a C dx fs, x = .ref a ∧ H2 a = some (.ins C dx fs) ∧ Cls K C ∧ NoAttr K C f ∧ fs.length < 1000 ∧ D.nx σ (upd H2 a (.ins C dx (putF f y fs)))) : sFld K ta tv f D σ H := q
end
end Hq

/-! P3: zip of two sequences, each a list or a tuple -/
namespace Hq
open PySem PySem.Spec PyProof.Rows L2

/-- tuples: true, lists: false -/
def SqB (b : Bool) (K : PySem.W.Frag) (H : Hp) (a : Addr) (xs : List V) : Prop := match b with
  | true => SqT K H a xs
  | false => SqL K H a xs
def hIter (b : Bool) (h : Heap) (it l : Addr) (i : Nat) : Prop := match b with
  | true => h.IsTupleIter it l i
  | false => h.IsListIter it l i
def hSeq (b : Bool) (h : Heap) (l : Addr) (vs : Array Value) : Prop := match b with
  | true => h.IsTuple l vs
  | false => h.IsList l vs
def itName (b : Bool) : String := match b with
  | true => "tuple_iterator"
  | false => "list_iterator"
abbrev itObj (b : Bool) (l : Addr) : Obj := { cls := .type (itName b), data := .fields #[.ref l, .int 0 0] }
theorem hSeq.push {b : Bool} {h : Heap} {l : Addr} {vs : Array Value} (q : hSeq b h l vs) (o : Obj) : hSeq b (h.push o) l vs := by
  cases b with
  | true => exact Heap.IsTuple.push q o
  | false => exact Heap.IsList.push q o
theorem hSeq.lt {b : Bool} {h : Heap} {l : Addr} {vs : Array Value} (q : hSeq b h l vs) : l < h.objs.size := by
  cases b with
  | true =>
    obtain ⟨o, e, _⟩ := (show h.IsTuple l vs from q)
    exact Heap.lt_size e
  | false =>
    obtain ⟨o, _, e, _⟩ := (show h.IsList l vs from q)
    first | exact Heap.lt_size e | exact Heap.lt_size (by assumption)
theorem hIter.at {b : Bool} {h g : Heap} {it l : Addr} {i : Nat} (q : hIter b h it l i) (k : ∀ o, h.get? it = some o → g.get? it = some o) : hIter b g it l i := by
  cases b with
  | true => exact Heap.IsTupleIter.at q k
  | false => exact Heap.IsListIter.at q k
theorem hIter.obj {b : Bool} {h : Heap} {it l : Addr} {i : Nat} (q : hIter b h it l i) : ∃ o, h.get? it = some o ∧ ∀ v, o.data ≠ .cell v := by
  cases b with
  | true =>
    obtain ⟨o, e, _, d⟩ := (show h.IsTupleIter it l i from q)
    exact ⟨o, e, fun v z => by rw [d] at z; cases z⟩
  | false =>
    obtain ⟨o, e, _, d⟩ := (show h.IsListIter it l i from q)
    exact ⟨o, e, fun v z => by rw [d] at z; cases z⟩
theorem hIter.new (b : Bool) {h : Heap} {it l : Addr} (e : h.get? it = some (itObj b l)) : hIter b h it l 0 := by
  cases b with
  | true => exact ⟨_, e, rfl, rfl⟩
  | false => exact ⟨_, e, rfl, rfl⟩
theorem draws2 (b : Bool) {prog : Program} {w : World} {A : Around} (hh : A.handled = none) (it l : Addr) (ne : l ≠ it) (vs : Array Value) :
    Draws prog w A it [it, l] vs.size (fun i v => vs[i]? = some v) (fun i h => hIter b h it l i ∧ hSeq b h l vs) := by
  cases b with
  | true => exact Draws.tuple hh it l ne vs
  | false => exact Draws.list hh it l ne vs
section
variable {prog : Program} {w : World} {A : Around} {E : Value → Shared → Prop} {s : Shared}
theorem iter2 (b : Bool) {l : Addr} {vs : Array Value} {Q : Value → Shared → Prop} (q : hSeq b s.heap l vs) (h : Q (.ref s.heap.objs.size) { s with heap := s.heap.push (itObj b l) }) :
    wpAny (model prog w) A (pyIter (.ref l)) Q E s := by
  cases b with
  | true => exact wpAny_pyIter_tuple (show s.heap.IsTuple l vs from q) h
  | false => exact wpAny_pyIter_list (show s.heap.IsList l vs from q) h
end
section
variable (b c : Bool)
abbrev zg1 (h : Heap) (l m : Addr) : Heap := h.push (itObj b l)
abbrev zg2 (h : Heap) (l m : Addr) : Heap := (zg1 b h l m).push (itObj c m)
abbrev zg3 (h : Heap) (l m : Addr) : Heap := (zg2 b c h l m).push { cls := .type "tuple", data := .seq #[.ref h.objs.size, .ref (zg1 b h l m).objs.size] }
abbrev zg4 (h : Heap) (l m : Addr) : Heap := (zg3 b c h l m).push { cls := .type "tuple", data := .seq #[.none, .none] }
abbrev zg5 (h : Heap) (l m : Addr) : Heap := (zg4 b c h l m).push { cls := .type "zip", data := .fields #[.none, .bool false, .bool false, .ref (zg2 b c h l m).objs.size, .ref (zg3 b c h l m).objs.size] }
theorem zipNew (l m : Addr) (xs ys : Array Value) :
    Meets (Builtin.«zip.__new__» ⟨[.type "zip", .ref l, .ref m], []⟩) (fun _ R s => hSeq b s.heap l xs ∧ hSeq c s.heap m ys ∧
      R (.ok (.ret (.ref (zg4 b c s.heap l m).objs.size))) { s with heap := zg5 b c s.heap l m }) :=
  .of_wp fun prog w A R s h => by
    obtain ⟨hp, g, d, tk, os⟩ := s
    obtain ⟨q1, q2, h⟩ := h
    have sub := sub_zip
    have q1' : hSeq b (Shared.heap ⟨hp, g, d, tk, os⟩) l xs := q1
    have q2' : hSeq c (Shared.heap ⟨hp.push (itObj b l), g, d, tk, os⟩) m ys := hSeq.push q2 _
    wp_walk using iter2 b q1', iter2 c q2'
    exact ⟨_, rfl, h⟩
variable {prog : Program} {w : World} {A : Around} {E : Value → Shared → Prop} {s : Shared}
theorem zipCall {l m : Addr} {xs ys : Array Value} {Q : Value → Shared → Prop} (q1 : hSeq b s.heap l xs) (q2 : hSeq c s.heap m ys)
    (h : ∀ g, IsZip g (s.heap.objs.size + 4) (s.heap.objs.size + 2) (s.heap.objs.size + 3) .none → IsTupOf2 g (s.heap.objs.size + 2) (.ref s.heap.objs.size) (.ref (s.heap.objs.size + 1)) →
      IsTupOf2 g (s.heap.objs.size + 3) .none .none → hIter b g s.heap.objs.size l 0 → hIter c g (s.heap.objs.size + 1) m 0 →
      (∀ a o, s.heap.get? a = some o → g.get? a = some o) → Q (.ref (s.heap.objs.size + 4)) { s with heap := g }) :
    wpAny (model prog w) A (call (.type "zip") [.ref l, .ref m]) Q E s := by
  refine callType_new F.called_zip (by decide) (F.typeCall_zip_2 _ _) (F.newCall_zip_2 _ _) (fun obj => F.args_object_init_3 obj _ _) F.entry_zip_new (zipNew b c l m xs ys) ⟨q1, q2, ?_⟩
  have n1 : (zg1 b s.heap l m).objs.size = s.heap.objs.size + 1 := Heap.size_push ..
  have n2 : (zg2 b c s.heap l m).objs.size = s.heap.objs.size + 2 := by rw [Heap.size_push, n1]
  have n3 : (zg3 b c s.heap l m).objs.size = s.heap.objs.size + 3 := by rw [Heap.size_push, n2]
  have n4 : (zg4 b c s.heap l m).objs.size = s.heap.objs.size + 4 := by rw [Heap.size_push, n3]
  have up : ∀ a o, s.heap.get? a = some o → (zg5 b c s.heap l m).get? a = some o := fun a o e =>
    Heap.get?_push_of_some _ (Heap.get?_push_of_some _ (Heap.get?_push_of_some _ (Heap.get?_push_of_some _ (Heap.get?_push_of_some _ e))))
  have g5 : (zg5 b c s.heap l m).get? (zg4 b c s.heap l m).objs.size = some _ := Heap.get?_push_size _ rfl
  have g4 : (zg5 b c s.heap l m).get? (zg3 b c s.heap l m).objs.size = some _ := Heap.get?_push_of_some _ (Heap.get?_push_size _ rfl)
  have g3 : (zg5 b c s.heap l m).get? (zg2 b c s.heap l m).objs.size = some _ := Heap.get?_push_of_some _ (Heap.get?_push_of_some _ (Heap.get?_push_size _ rfl))
  have g2 : (zg5 b c s.heap l m).get? (zg1 b s.heap l m).objs.size = some (itObj c m) := Heap.get?_push_of_some _ (Heap.get?_push_of_some _ (Heap.get?_push_of_some _ (Heap.get?_push_size _ (by cases c <;> rfl))))
  have g1 : (zg5 b c s.heap l m).get? s.heap.objs.size = some (itObj b l) :=
    Heap.get?_push_of_some _ (Heap.get?_push_of_some _ (Heap.get?_push_of_some _ (Heap.get?_push_of_some _ (Heap.get?_push_size _ (by cases b <;> rfl)))))
  show _ ∧ _
  rw [n2, n3, n4] at g5
  rw [n1, n2] at g3
  rw [n3] at g4
  rw [n1] at g2
  rw [n4]
  exact ⟨⟨_, g5, rfl⟩, h _ g5 g3 g4 (hIter.new b g1) (hIter.new c g2) up⟩
end
section
variable {X : Cx} {pins : List (Addr × Obj)} {σ : L2.St} {H : Hp} {s : Shared}
theorem Inv_seq (I : Inv X pins σ H s) (b : Bool) {a : Addr} {xs : List V} (h : SqB b X.K H a xs) : ∃ its : List Value, Vals xs its ∧ hSeq b s.heap a its.toArray := by
  cases b with
  | true =>
    obtain ⟨its, r, p, _⟩ := I.tuple h
    exact ⟨its, r, p⟩
  | false =>
    obtain ⟨its, r, p, _⟩ := I.list h
    exact ⟨its, r, p.isList⟩
theorem Inv_seq_inj (I : Inv X pins σ H s) (b : Bool) {a : Addr} {xs ys : List V} (h : SqB b X.K H a xs) (g : SqB b X.K H a ys) : xs = ys := by
  cases b with
  | true => exact I.tuple_inj h g
  | false => exact I.list_inj h g
end
/-- the sequences at a and b as they stand at each turn, the items in new pairs -/
def ItZ (b c : Bool) (K : PySem.W.Frag) (l m : Addr) : It where
  go := fun i H => ∃ xs ys x y, SqB b K H l xs ∧ SqB c K H m ys ∧ xs[i]? = some x ∧ ys[i]? = some y
  yld := fun i H v H' => ∃ T x y, v = .ref T ∧ H T = none ∧ H' = upd H T (.tup [x, y]) ∧ (∀ xs, SqB b K H l xs → xs[i]? = some x) ∧ ∀ ys, SqB c K H m ys → ys[i]? = some y
  stop := fun i H => ∃ xs ys, SqB b K H l xs ∧ SqB c K H m ys ∧ i ≤ xs.length ∧ i ≤ ys.length ∧ (i = xs.length ∨ i = ys.length)
theorem turnZ {P : Program} {w : World} {K : PySem.W.Frag} {elts : List Expr} {kk : Nat} {tpos : Pos} (b c : Bool) {l m z TI TO i1 i2 : Addr} (a1 : TI ≠ z) (a2 : TO ≠ z) (a3 : TI ≠ TO) (a4 : TI ≠ i1) (a5 : TI ≠ i2) (a6 : z ≠ i1) (a7 : z ≠ i2) (a8 : TO ≠ i1) (a9 : TO ≠ i2) (a0 : i1 ≠ i2)
    (lz : l ≠ z) (lt : l ≠ TO) (l1 : l ≠ i1) (l2 : l ≠ i2) (mz : m ≠ z) (mt : m ≠ TO) (m1 : m ≠ i1) (m2 : m ≠ i2) :
    Turn P w K (.Tuple elts kk tpos) (ItZ b c K l m) [z, TI, TO, i1, i2] z (fun i h => IsZip h z TI TO .none ∧ IsTupOf2 h TI (.ref i1) (.ref i2) ∧ (∃ x y, IsTupOf2 h TO x y) ∧ hIter b h i1 l i ∧ hIter c h i2 m i) where
  mem := by simp
  obj := fun i h st d hd => by
    obtain ⟨hz, hI, ⟨x, y, hO⟩, h1, h2⟩ := st
    have hd' : d = z ∨ d = TI ∨ d = TO ∨ d = i1 ∨ d = i2 := by simpa using hd
    rcases hd' with rfl | rfl | rfl | rfl | rfl
    · exact ⟨_, hz, fun v q => nomatch q⟩
    · exact ⟨_, hI, fun v q => nomatch q⟩
    · exact ⟨_, hO, fun v q => nomatch q⟩
    · exact h1.obj
    · exact h2.obj
  keep := fun i h g st k => by
    obtain ⟨hz, hI, ⟨x, y, hO⟩, h1, h2⟩ := st
    exact ⟨k z (by simp) _ hz, k TI (by simp) _ hI, ⟨x, y, k TO (by simp) _ hO⟩, h1.at fun o q => k i1 (by simp) o q, h2.at fun o q => k i2 (by simp) o q⟩
  item := by
    intro X eP ew eK hc i pins s σ H E I hf st hg
    cases eP
    cases ew
    cases eK
    obtain ⟨hz, hI, ⟨x0, y0, hO⟩, h1, h2⟩ := st
    obtain ⟨xs, ys, x, y, qx, qy, hx, hy⟩ := hg
    obtain ⟨its, rv, p⟩ := Inv_seq I b qx
    obtain ⟨jts, rw2, p2⟩ := Inv_seq I c qy
    obtain ⟨u, hu, ru⟩ := rv.get hx
    obtain ⟨v, hv, rv'⟩ := rw2.get hy
    have zl : z < s.heap.objs.size := Heap.lt_size hz
    have hh : X.A.in1.handled = none := I.ok.hd hc
    have S : ZipSep2 z TI TO i1 i2 [i1, l] [i2, m] := ⟨a1, a2, a3, a4, by simp, by simp [a6, lz.symm], by simp [a8, lt.symm], a5, by simp, by simp [a7, mz.symm], by simp [a9, mt.symm], by simp [a0, m1.symm], by simp [a0.symm, l2.symm]⟩
    have b1 : i < its.toArray.size := by
      have := (List.getElem?_eq_some_iff.mp hu).1
      simpa using this
    have b2 : i < jts.toArray.size := by
      have := (List.getElem?_eq_some_iff.mp hv).1
      simpa using this
    refine wpAny_pyNext_zipD2_item S (draws2 b hh i1 l l1 its.toArray) (draws2 c hh i2 m m2 jts.toArray) hz hI hO ⟨h1, p⟩ ⟨h2, p2⟩ b1 b2 fun v1 v2 g tk e1 e2 gz gO s1 s2 gT gs gk => ?_
    have e1' : v1 = u := by
      have := e1.symm.trans (show its.toArray[i]? = some u by simpa using hu)
      simpa using this
    have e2' : v2 = v := by
      have := e2.symm.trans (show jts.toArray[i]? = some v by simpa using hv)
      simpa using this
    subst e1' e2'
    refine ⟨_, rfl, wpAny_letOwnedTupleGo_zip (s := { s with heap := g, toks := tk }) gz fun g2 gz2 sb => ?_⟩
    have gT2 : g2.get? s.heap.objs.size = some { cls := .type "tuple", data := .seq #[v1, v2] } := (sb.2 _ (Nat.ne_of_gt zl)).trans gT
    have new : ObjOk X.prog X.w (upd H s.heap.objs.size (.tup [x, y])) g2 s.heap.objs.size (.tup [x, y]) := ⟨by show 2 ≤ sizeLine; decide, [v1, v2], .cons ru (.cons rv' .nil), ⟨_, gT2, rfl, _, rfl⟩⟩
    have I1 : Inv X pins σ (upd H s.heap.objs.size (.tup [x, y])) { s with heap := g2, toks := tk } :=
      I.turnedNew (t' := tk) (ch := [z, TI, TO, i1, i2]) (fun d o hb q => (sb.2 d (fun q' => hb (by simp [q']))).trans (gk d o (fun q' => hb (by simp [q'])) (fun q' => hb (by simp [q'])) (fun q' => hb (by simp [q'])) (fun q' => hb (by simp [q'])) q)) hf (Nat.le_refl _) new
    refine ⟨.ref s.heap.objs.size, _, I1, rfl, ⟨_, x, y, rfl, I.hok.fresh (Nat.le_refl _), rfl, fun us hl => ?_, fun us hl => ?_⟩, ⟨gz2, ?_, ⟨v1, v2, ?_⟩, ?_, ?_⟩, fun d hd => ?_⟩
    · rw [Inv_seq_inj I b hl qx]; exact hx
    · rw [Inv_seq_inj I c hl qy]; exact hy
    · exact (sb.2 _ a1).trans (gk _ _ a1 a3 a4 a5 hI)
    · exact (sb.2 _ a2).trans gO
    · exact s1.1.at fun o q => (sb.2 _ a6.symm).trans q
    · exact s2.1.at fun o q => (sb.2 _ a7.symm).trans q
    · have lt : d < s.heap.objs.size := by
        have hd' : d = z ∨ d = TI ∨ d = TO ∨ d = i1 ∨ d = i2 := by simpa using hd
        rcases hd' with rfl | rfl | rfl | rfl | rfl
        · exact zl
        · exact Heap.lt_size hI
        · exact Heap.lt_size hO
        · obtain ⟨_, e, _⟩ := h1.obj
          exact Heap.lt_size e
        · obtain ⟨_, e, _⟩ := h2.obj
          exact Heap.lt_size e
      rw [upd_ne (Nat.ne_of_lt lt)]
      exact (hf d hd).1
  done := by
    intro X eP ew eK hc i pins s σ H E I hf st hg
    cases eP
    cases ew
    cases eK
    obtain ⟨hz, hI, ⟨x0, y0, hO⟩, h1, h2⟩ := st
    obtain ⟨xs, ys, qx, qy, le1, le2, hend⟩ := hg
    obtain ⟨its, rv, p⟩ := Inv_seq I b qx
    obtain ⟨jts, rw2, p2⟩ := Inv_seq I c qy
    have n1 := rv.length
    have n2 := rw2.length
    have hh : X.A.in1.handled = none := I.ok.hd hc
    have S : ZipSep2 z TI TO i1 i2 [i1, l] [i2, m] := ⟨a1, a2, a3, a4, by simp, by simp [a6, lz.symm], by simp [a8, lt.symm], a5, by simp, by simp [a7, mz.symm], by simp [a9, mt.symm], by simp [a0, m1.symm], by simp [a0.symm, l2.symm]⟩
    refine wpAny_pyNext_zipD2_end S (draws2 b hh i1 l l1 its.toArray) (draws2 c hh i2 m m2 jts.toArray) hz hI hO ⟨h1, p⟩ ⟨h2, p2⟩ (by simp; omega) (by simp; omega) (by simp; omega) fun g tk gk => ?_
    exact ⟨rfl, I.turnedL (t' := tk) (ch := [z, TI, TO, i1, i2]) (fun d o hb q => gk d o (fun q' => hb (by simp [q'])) (fun q' => hb (by simp [q'])) (fun q' => hb (by simp [q'])) (fun q' => hb (by simp [q'])) q) hf⟩
  self := fun A i s Q E st h => wpAny_pyIter_zip st.1 h
theorem apartN (n l m : Nat) (hl : l < n) (hm : m < n) : n + 2 ≠ n + 4 ∧ n + 3 ≠ n + 4 ∧ n + 2 ≠ n + 3 ∧ n + 2 ≠ n ∧ n + 2 ≠ n + 1 ∧ n + 4 ≠ n ∧ n + 4 ≠ n + 1 ∧ n + 3 ≠ n ∧ n + 3 ≠ n + 1 ∧ n ≠ n + 1 ∧
    l ≠ n + 4 ∧ l ≠ n + 3 ∧ l ≠ n ∧ l ≠ n + 1 ∧ m ≠ n + 4 ∧ m ≠ n + 3 ∧ m ≠ n ∧ m ≠ n + 1 := by omega
theorem geN (n d : Nat) (h : d = n + 4 ∨ d = n + 2 ∨ d = n + 3 ∨ d = n ∨ d = n + 1) : n ≤ d := by omega
def iZ (b c : Bool) (K : PySem.W.Frag) (ta : TA) : TI := fun σ H R => ta σ H fun vs H1 => ∃ l m xs ys, vs = [.ref l, .ref m] ∧ SqB b K H1 l xs ∧ SqB c K H1 m ys ∧ R (ItZ b c K l m) H1
theorem kZip (b c : Bool) {X : Cx} {K : PySem.W.Frag} {e e2 : Expr} {ta : TA} {p pos tpos : Pos} {elts : List Expr} {kk : Nat} (hg : Gl X "zip") (hm : X.mg "zip" = none) (ha : PA X [e, e2] ta) (hK : X.K = K := by rfl)
    (hs : starEach [e, e2] X.env = (false, eval e X.env) :: starEach [e2] X.env := by rfl) (hpl : (backTo pos (starEach [e2] X.env)).any (·.1) = false := by rfl) :
    PI X (.Tuple elts kk tpos) (.Call (.Name "zip" p) [e, e2] [] pos) (iZ b c K ta) := by
  cases hK
  refine ⟨fun pins s σ H R I h => ?_⟩
  refine Call_ (ld_blt I hg hm PyProof.Rows.boot_zip (PyProof.Rows.callWith_type1 (thn (ha.run pos pins s σ H _ I h) ?_) hs hpl))
  rintro us s1 ⟨vs, H1, I1, r1, l, m, xs, ys, rfl, qx, qy, q⟩
  obtain ⟨u1, u2, rfl, e1, e2⟩ := vals2 r1
  cases e1
  cases e2
  obtain ⟨its, rv, p1⟩ := Inv_seq I1 b qx
  obtain ⟨jts, rw2, p2⟩ := Inv_seq I1 c qy
  have ll := p1.lt
  have lm := p2.lt
  refine zipCall b c p1 p2 fun g gz gI gO g1 g2 gk => wpAny_pyIter_zip gz ?_
  have I2 : Inv X pins σ H1 { s1 with heap := g } := I1.kept (t' := s1.toks) gk
  obtain ⟨a1, a2, a3, a4, a5, a6, a7, a8, a9, a0, b1, b2, b3, b4, b5, b6, b7, b8⟩ := apartN s1.heap.objs.size l m ll lm
  refine ⟨s1.heap.objs.size + 4, [s1.heap.objs.size + 4, s1.heap.objs.size + 2, s1.heap.objs.size + 3, s1.heap.objs.size, s1.heap.objs.size + 1], _, _, H1, rfl, I2,
    turnZ b c a1 a2 a3 a4 a5 a6 a7 a8 a9 a0 b1 b2 b3 b4 b5 b6 b7 b8, ⟨gz, gI, ⟨_, _, gO⟩, g1, g2⟩, fun d hd => ?_, q⟩
  have le : s1.heap.objs.size ≤ d := geN _ _ (by simpa using hd)
  exact I1.fpOk le (I1.hok.fresh le)
theorem walkZ {b c : Bool} {K : PySem.W.Frag} {l m : Addr} {xs ys : List V} {n : Nat} (hn : n = min xs.length ys.length) : Walk (ItZ b c K l m) n (fun H => SqB b K H l xs ∧ SqB c K H m ys) (YPair (fun i => xs[i]?) (fun i => ys[i]?)) := by
  cases hn
  refine ⟨fun i H hi q => ?_, fun H q => ⟨xs, ys, q.1, q.2, by omega, by omega, by omega⟩, fun i H v H' hi q y => ?_⟩
  · have h1 : i < xs.length := by omega
    have h2 : i < ys.length := by omega
    exact ⟨xs, ys, xs[i], ys[i], q.1, q.2, by simp [h1], by simp [h2]⟩
  · obtain ⟨T, x, z, h1, h2, h3, h4, h5⟩ := y
    exact ⟨T, x, z, h1, h2, h3, h4 xs q.1, h5 ys q.2⟩
end Hq

/-! P4: what is walked; comprehensions and loops over a walk -/
namespace Hq
open PySem PySem.Spec PyProof.Rows L2
section
variable {σ : L2.St} {H : Hp} {K : PySem.W.Frag} {R : It → Hp → Prop} {tl te : TE} {ta : TA} {tt : TT} {g : TG} {wi : TI} {vs : List Nat} {Q : VK} {D : Ends} {tb : TS} {a l m : Addr} {xs ys : List V} {n i j : Int} {b c : Bool}
theorem st_iL (q : tl σ H fun x H1 => ∃ a, x = .ref a ∧ (∃ xs, SqL K H1 a xs) ∧ R (Itl K a) H1) : iList K tl σ H R := q
theorem st_iT (q : tl σ H fun x H1 => ∃ a, x = .ref a ∧ (∃ xs, SqT K H1 a xs) ∧ R (Itt K a) H1) : iTup K tl σ H R := q
theorem st_refL {R : Addr → Prop} (h : SqL K H a xs) (q : R a) : ∃ a', V.ref a = .ref a' ∧ (∃ xs, SqL K H a' xs) ∧ R a' := ⟨a, rfl, ⟨xs, h⟩, q⟩
theorem st_refT {R : Addr → Prop} (h : SqT K H a xs) (q : R a) : ∃ a', V.ref a = .ref a' ∧ (∃ xs, SqT K H a' xs) ∧ R a' := ⟨a, rfl, ⟨xs, h⟩, q⟩
theorem st_iR1 (q : ta σ H fun vs H1 => ∃ j : Int, vs = [.int j] ∧ -(2 ^ 62) ≤ j ∧ j < 2 ^ 62 ∧ R (Itr 0 j.toNat) H1) : iRng1 ta σ H R := q
theorem st_iR2 (q : ta σ H fun vs H1 => ∃ i j : Int, vs = [.int i, .int j] ∧ (-(2 ^ 62) ≤ i ∧ i < 2 ^ 62 ∧ -(2 ^ 62) ≤ j ∧ j < 2 ^ 62) ∧ R (Itr i (j - i).toNat) H1) : iRng2 ta σ H R := q
theorem st_rng1 {R : Int → Prop} (h : -1000000000 ≤ n ∧ n ≤ 1000000000) (q : R n) : ∃ j : Int, [V.int n] = [.int j] ∧ -(2 ^ 62) ≤ j ∧ j < 2 ^ 62 ∧ R j := ⟨n, rfl, by omega, by omega, q⟩
theorem st_rng2 {R : Int → Int → Prop} (h : (-1000000000 ≤ i ∧ i ≤ 1000000000) ∧ -1000000000 ≤ j ∧ j ≤ 1000000000) (q : R i j) : ∃ i' j' : Int, [V.int i, .int j] = [.int i', .int j'] ∧ (-(2 ^ 62) ≤ i' ∧ i' < 2 ^ 62 ∧ -(2 ^ 62) ≤ j' ∧ j' < 2 ^ 62) ∧ R i' j' :=
  ⟨i, j, rfl, ⟨by omega, by omega, by omega, by omega⟩, q⟩
theorem st_iZ (q : ta σ H fun vs H1 => ∃ l m xs ys, vs = [.ref l, .ref m] ∧ SqB b K H1 l xs ∧ SqB c K H1 m ys ∧ R (ItZ b c K l m) H1) : iZ b c K ta σ H R := q
theorem st_zip {R : Addr → Addr → Prop} (h : SqB b K H l xs) (h2 : SqB c K H m ys) (q : R l m) : ∃ l' m' xs ys, [V.ref l, .ref m] = [.ref l', .ref m'] ∧ SqB b K H l' xs ∧ SqB c K H m' ys ∧ R l' m' := ⟨l, m, xs, ys, rfl, h, h2, q⟩
theorem st_lc (q : wi σ H fun J H1 => ∀ D, H1 D = none → ∃ W : Nat → Nat → Hp → Prop, (∃ m, W 0 m (upd H1 D (.lst []))) ∧ ∀ i m H, W i m H →
  (J.stop i H ∧ Q (.ref D) H) ∨ (J.go i H ∧ ∃ Nx : Hp → Prop, (∀ H', Nx H' → ∃ m', m' < m ∧ W (i + 1) m' H') ∧ ∀ x H', J.yld i H x H' → g x (wipe σ vs) H' fun σ2 H2 => wipe σ2 vs = wipe σ vs ∧ tt σ2 H2 fun b H3 =>
    if b = true then te σ2 H3 fun y H4 => ∃ acc, H4 D = some (.lst acc) ∧ acc.length < sizeLine ∧ Nx (upd H4 D (.lst (acc ++ [y]))) else Nx H3)) : tLc wi g tt te vs σ H Q := q
theorem st_for (q : wi σ H fun J H1 => ∃ W : Nat → Nat → L2.St → Hp → Prop, (∃ m, W 0 m σ H1) ∧ ∀ i m σ H, W i m σ H →
  (J.stop i H ∧ D.nx σ H) ∨ (J.go i H ∧ ∃ N : L2.St → Hp → Prop, (∀ σ' H', N σ' H' → ∃ m', m' < m ∧ W (i + 1) m' σ' H') ∧ ∀ x H', J.yld i H x H' → g x σ H' fun σ2 H2 => tb { D with nx := N, ct := N, bk := D.nx } σ2 H2)) : tFor wi g tb D σ H := q
theorem st_wipe {σ2 : L2.St} {B : Prop} (h : wipe σ2 vs = wipe σ vs) (q : B) : wipe σ2 vs = wipe σ vs ∧ B := ⟨h, q⟩
theorem st_slL {lo hi : Option Int} (h : SqL K H a xs) (q : ∀ p, H p = none → Q (.ref p) (upd H p (.lst (cutV xs lo hi)))) : rSlL K (.ref a) lo hi H Q := ⟨a, xs, rfl, h, q⟩
theorem cut_take (xs : List V) (k : Nat) : cutV xs none (some (k : Int)) = xs.take k := by
  unfold cutV
  rw [HT.sIx_none, HT.sIx_nat, List.drop_zero, Nat.sub_zero]
  by_cases h : k ≤ xs.length
  · rw [Nat.min_eq_left h]
  · rw [Nat.min_eq_right (by omega), List.take_length, List.take_of_length_le (by omega)]
theorem cut_drop (xs : List V) (k : Nat) : cutV xs (some (k : Int)) none = xs.drop k := by
  unfold cutV
  rw [HT.sIx_none, HT.sIx_nat]
  by_cases h : k ≤ xs.length
  · rw [Nat.min_eq_left h, List.take_of_length_le (by simp)]
  · rw [Nat.min_eq_right (by omega), List.drop_length, List.drop_of_length_le (by omega), List.take_nil]
theorem st_cat {zs : List V} (h : H a = some (.lst xs)) (h2 : H l = some (.lst zs)) (hl : xs.length + zs.length ≤ sizeLine) (q : ∀ p, H p = none → Q (.ref p) (upd H p (.lst (xs ++ zs)))) : rCat (.ref a) (.ref l) H Q := ⟨a, l, xs, zs, rfl, rfl, h, h2, hl, q⟩
theorem st_sum {ns : List Int} (h : SqL K H a (ns.map V.int)) (q : Q (.int ns.sum) H) : rSum K [.ref a] H Q := ⟨a, ns, rfl, h, q⟩
theorem st_all {bs : List Bool} (h : SqL K H a (bs.map V.bl)) (q : Q (.bl (bs.all id)) H) : rAll K [.ref a] H Q := ⟨a, bs, rfl, h, q⟩
theorem st_any {bs : List Bool} (h : SqL K H a (bs.map V.bl)) (q : Q (.bl (bs.any id)) H) : rAny K [.ref a] H Q := ⟨a, bs, rfl, h, q⟩
theorem ex_int {ns : List Int} {x : V} (h : x ∈ ns.map V.int) : ∃ n, n ∈ ns ∧ x = .int n := by
  obtain ⟨n, a, b⟩ := List.mem_map.mp h
  exact ⟨n, a, b.symm⟩
theorem line_of {n : Nat} (h : n ≤ 100000) : n ≤ sizeLine := Nat.le_trans h (by decide)
theorem line_lt {n : Nat} (h : n ≤ 100000) : n < sizeLine := Nat.lt_of_le_of_lt h (by decide)
theorem st_size {zs : List V} {B : Prop} (h : zs.length ≤ sizeLine) (q : B) : zs.length ≤ sizeLine ∧ B := ⟨h, q⟩
theorem take_snoc {α : Type} {xs : List α} {i : Nat} {x : α} (h : xs[i]? = some x) : xs.take (i + 1) = xs.take i ++ [x] := by
  rw [List.take_add_one, h]
  rfl
theorem st_two {x y : V} {R : V → V → Prop} (q : R x y) : ∃ v w, [x, y] = [v, w] ∧ R v w := ⟨x, y, rfl, q⟩
theorem st_yes {QT : Bool → Hp → Prop} (q : QT true H) : tYes σ H QT := q
end
section
variable {J : It} {n : Nat} {G : Hp → Prop} {Y : Nat → Hp → V → Hp → Prop} {g : TG} {tt : TT} {te : TE} {vs : List Nat} {σ : L2.St} {H1 : Hp} {D : Addr} {Qd : Hp → Prop}
/-- a comprehension that changes nothing: f tells what becomes of an item -/
theorem lc_pure {xs : List V} (f : V → Option V) (w : Walk J xs.length G (YAt xs)) (hG : ∀ o, G (upd H1 D o)) (hl : xs.length < sizeLine)
    (hs : ∀ x acc, x ∈ xs → acc.length < sizeLine → ∀ Nx : Hp → Prop, Nx (upd H1 D (.lst (acc ++ (f x).toList))) → g x (wipe σ vs) (upd H1 D (.lst acc)) fun σ2 H2 => wipe σ2 vs = wipe σ vs ∧ tt σ2 H2 fun b H3 =>
      if b = true then te σ2 H3 fun y H4 => ∃ acc, H4 D = some (.lst acc) ∧ acc.length < sizeLine ∧ Nx (upd H4 D (.lst (acc ++ [y]))) else Nx H3)
    (hd : Qd (upd H1 D (.lst (xs.filterMap f)))) :
    ∃ W : Nat → Nat → Hp → Prop, (∃ m, W 0 m (upd H1 D (.lst []))) ∧ ∀ i m H, W i m H →
      (J.stop i H ∧ Qd H) ∨ (J.go i H ∧ ∃ Nx : Hp → Prop, (∀ H', Nx H' → ∃ m', m' < m ∧ W (i + 1) m' H') ∧ ∀ x H', J.yld i H x H' → g x (wipe σ vs) H' fun σ2 H2 => wipe σ2 vs = wipe σ vs ∧ tt σ2 H2 fun b H3 =>
        if b = true then te σ2 H3 fun y H4 => ∃ acc, H4 D = some (.lst acc) ∧ acc.length < sizeLine ∧ Nx (upd H4 D (.lst (acc ++ [y]))) else Nx H3) := by
  refine lc_it w (fun i H => H = upd H1 D (.lst ((xs.take i).filterMap f))) (by simp) (fun i H hi e => by rw [e]; exact hG _) (fun i x H H' hi e y => ?_) (fun H e => ?_)
  · obtain ⟨e2, hx⟩ := y
    subst e2
    rw [e]
    have hlen : ((xs.take i).filterMap f).length < sizeLine := by
      have h1 := List.length_filterMap_le f (xs.take i)
      have h2 : (xs.take i).length ≤ xs.length := by rw [List.length_take]; exact Nat.min_le_right _ _
      exact Nat.lt_of_le_of_lt (Nat.le_trans h1 h2) hl
    refine hs x _ (List.mem_of_getElem? hx) hlen _ ?_
    have e3 : xs.take (i + 1) = xs.take i ++ [x] := by
      rw [List.take_add_one, hx]
      rfl
    have e4 : List.filterMap f [x] = (f x).toList := by
      cases hf : f x with
      | none => rw [List.filterMap_cons_none hf]; rfl
      | some z => rw [List.filterMap_cons_some hf]; rfl
    rw [e3, List.filterMap_append, e4]
  · rw [e, List.take_length]
    exact hd
theorem fm_ints (f : Int → Option Int) (F : V → Option V) (h : ∀ n, F (.int n) = (f n).map V.int) : ∀ ns : List Int, (ns.map V.int).filterMap F = (ns.filterMap f).map V.int
  | [] => rfl
  | n :: ns => by
    rw [List.map_cons]
    cases e : f n with
    | none => rw [List.filterMap_cons_none (by rw [h, e]; rfl), List.filterMap_cons_none e, fm_ints f F h ns]
    | some z => rw [List.filterMap_cons_some (b := V.int z) (by rw [h, e]; rfl), List.filterMap_cons_some e, fm_ints f F h ns, List.map_cons]
theorem lc_ints {ns : List Int} (f : Int → Option Int) (w : Walk J (ns.map V.int).length G (YAt (ns.map V.int))) (hG : ∀ o, G (upd H1 D o)) (hl : ns.length < sizeLine)
    (hs : ∀ x acc, x ∈ ns → acc.length < sizeLine → ∀ Nx : Hp → Prop, Nx (upd H1 D (.lst (acc ++ ((f x).map V.int).toList))) → g (.int x) (wipe σ vs) (upd H1 D (.lst acc)) fun σ2 H2 => wipe σ2 vs = wipe σ vs ∧ tt σ2 H2 fun b H3 =>
      if b = true then te σ2 H3 fun y H4 => ∃ acc, H4 D = some (.lst acc) ∧ acc.length < sizeLine ∧ Nx (upd H4 D (.lst (acc ++ [y]))) else Nx H3)
    (hd : Qd (upd H1 D (.lst ((ns.filterMap f).map V.int)))) :
    ∃ W : Nat → Nat → Hp → Prop, (∃ m, W 0 m (upd H1 D (.lst []))) ∧ ∀ i m H, W i m H →
      (J.stop i H ∧ Qd H) ∨ (J.go i H ∧ ∃ Nx : Hp → Prop, (∀ H', Nx H' → ∃ m', m' < m ∧ W (i + 1) m' H') ∧ ∀ x H', J.yld i H x H' → g x (wipe σ vs) H' fun σ2 H2 => wipe σ2 vs = wipe σ vs ∧ tt σ2 H2 fun b H3 =>
        if b = true then te σ2 H3 fun y H4 => ∃ acc, H4 D = some (.lst acc) ∧ acc.length < sizeLine ∧ Nx (upd H4 D (.lst (acc ++ [y]))) else Nx H3) := by
  refine lc_pure (fun x => match x with | .int n => (f n).map V.int | _ => none) w hG (by simpa using hl) (fun x acc hx ha Nx hN => ?_) ?_
  · obtain ⟨n, hn, rfl⟩ := ex_int hx
    exact hs n acc hn ha Nx hN
  · rw [fm_ints f _ (fun n => rfl)]
    exact hd
end
end Hq

/-! P5: dicts with tuple keys: == and !=, the dict comprehension (also of dicts with other keys) -/
namespace Hq
open PySem PySem.Spec PyProof.Rows L2 PyProof.V PySem.W

/-! ### == of two dicts with tuple keys -/
section
variable {prog : Program} {w : World} {K : Type} [DecidableEq K] {knd : HeapKind prog w K} {A : Around} {E : Value → Shared → Prop} {s : Shared}
/-- every key of the one stands in the other, with an equal worth -/
def HitsH (prog : Program) (w : World) (A : Around) (s : Shared) (kb : List (K × Addr × Value)) (ka : List (K × Addr × Value)) : Prop :=
  ∀ x ∈ ka, ∃ p, atKey kb x.1 = some p ∧ SeqAt.EqP prog w A s x.2.2 p.2 true
theorem sameH {nm : String} {a b : Addr} {ka kb : List (K × Addr × Value)} {Q : Bool → Shared → Prop} (hu : knd.room A) (ha : (a == sysModules) = false) (hb : (b == sysModules) = false)
    (da : s.heap.DictOfH knd a ka) (db : s.heap.DictOfH knd b kb) (hl : ka.length = kb.length) (hits : HitsH prog w A s kb ka) (h : Q true s) :
    wpAny (model prog w) A (Builtin.Dict.samePairs nm a b) Q E s := by
  obtain ⟨oa, es, ep, hoa, _, hda, hea, hia, _⟩ := da
  obtain ⟨ob, fs, ep', hob, _, hdb, heb, hib, hnb⟩ := db
  have hsa : es.size = ka.length := size_of_entries hea
  have hsb : fs.size = kb.length := size_of_entries heb
  unfold Builtin.Dict.samePairs Builtin.Dict.showsAll
  rw [if_neg (show ¬ (a == sysModules) = true by rw [ha]; exact Bool.false_ne_true), if_neg (show ¬ (b == sysModules) = true by rw [hb]; exact Bool.false_ne_true)]
  refine wpAny_bind (wpAny_pure (wpAny_bind (wpAny_pure ?_)))
  refine wpAny_bind (wpAny_dictEntries hoa hda ?_)
  dsimp only
  refine wpAny_bind (wpAny_dictEntries hob hdb ?_)
  have hsz : es.size = fs.size := by omega
  rw [if_neg (by rw [hsz]; simp)]
  refine wpAny_bind (wpAny_dictEpoch hoa hda ?_)
  refine wpAny_bind ?_
  rw [Std.Legacy.Range.forIn_eq_forIn_range']
  simp only [Std.Legacy.Range.size, Nat.sub_zero, Nat.add_sub_cancel, Nat.div_one]
  refine wpAny_forIn_list _ (fun rest q s' => s' = s ∧ q = (none, ()) ∧ ∃ i, rest = List.range' i (es.size - i) ∧ i ≤ es.size) _ ?_ ?_ _ _ ⟨rfl, rfl, 0, by simp, Nat.zero_le _⟩
  · rintro x rest q s' ⟨rfl, rfl, i, hr, hi⟩
    have hlt : i < es.size := by
      rcases Nat.lt_or_ge i es.size with h | h
      · exact h
      · rw [Nat.sub_eq_zero_of_le h] at hr; simp at hr
    obtain ⟨rfl, hrest⟩ : x = i ∧ rest = List.range' (i + 1) (es.size - (i + 1)) := by
      have e : es.size - i = (es.size - (i + 1)) + 1 := by omega
      rw [e, List.range'_succ] at hr
      injection hr with h1 h2
      exact ⟨h1, h2⟩
    refine wpAny_bind (wpAny_dictEntries hoa hda ?_)
    have hx : x < ka.length := by omega
    have hat : es[x]? = some (entryOfKey knd ka[x]) := by rw [entry_at hea x, List.getElem?_eq_getElem hx]; rfl
    rw [hat]
    obtain ⟨p, hp, he⟩ := hits ka[x] (List.getElem_mem hx)
    show wpAny _ _ (holding [Value.ref ka[x].2.1, ka[x].2.2] _ >>= _) _ _ _
    refine wpAny_bind (wpAny_holding (wpAny_bind (wpAny_dictFind_heap (k := ka[x].1) hu (hia _ (List.getElem_mem hx)) hob hdb heb hib hnb (fun hno => ?_) (fun j p' hj => ?_))))
    · rw [atKey_none_of_get hno] at hp
      exact nomatch hp
    · rw [atKey_of_get hnb hj] at hp
      cases hp
      refine wpAny_bind (wpAny_dictEntries hob hdb ?_)
      rw [entry_at heb j, hj]
      refine wpAny_holding (he _ _ ?_)
      show wpAny _ _ (if (!true) = true then _ else _) _ _ _
      rw [if_neg (by decide)]
      refine wpAny_bind (wpAny_dictEpoch hoa hda ?_)
      rw [if_neg (by simp)]
      exact wpAny_pure ⟨rfl, rfl, x + 1, hrest, hlt⟩
  · rintro q s' ⟨rfl, rfl, i, hr, hi⟩
    exact wpAny_pure h
theorem eqH {nm : Bool} {a b : Addr} {ka kb : List (K × Addr × Value)} {Q : Value → Shared → Prop} (hu : A.units < cLine) (hr : knd.room A.in1) (ha : (a == sysModules) = false) (hb : (b == sysModules) = false)
    (da : s.heap.DictOfH knd a ka) (db : s.heap.DictOfH knd b kb) (hl : ka.length = kb.length) (hits : HitsH prog w A.in1 s kb ka) (h : Q (.bool nm) s) :
    wpAny (model prog w) A (compareOp (if nm = true then .Eq else .NotEq) (.ref a) (.ref b)) Q E s := by
  cases nm with
  | true =>
    rw [if_pos rfl]
    refine wpAny_richCompare_same_room (op := .Eq) da.typeIs db.typeIs PySem.F.slot_dict_eq (wpAny_call_entry PySem.F.slot_dict_eq da.typeIs PySem.F.entry_dict_eq ?_ (PySem.F.args_dict_eq_2 _ _)) hu
    show wpAny _ _ (Builtin.Dict.dictSlotArgs "__eq__" ⟨[.ref a, .ref b], []⟩ >>= _) _ _ s
    refine wpAny_bind ?_
    unfold Builtin.Dict.dictSlotArgs
    refine wpAny_bind (wpAny_notOrdered_dict da.typeIs ?_)
    show wpAny _ _ (pure (Value.ref a, Value.ref b)) _ _ s
    refine wpAny_pure ?_
    refine wpAny_bind (wpAny_isInstance (T := "dict") db.typeIs PySem.F.sub_dict_dict ?_)
    simp only [Bool.not_true, Bool.false_eq_true, if_false]
    refine wpAny_bind (wpAny_pure (wpAny_bind (wpAny_pure ?_)))
    refine wpAny_bind (sameH hr ha hb da db hl hits ?_)
    exact wpAny_pure ⟨_, rfl, fun x => (nomatch x), h⟩
  | false =>
    rw [if_neg Bool.false_ne_true]
    refine wpAny_richCompare_same_room (op := .NotEq) da.typeIs db.typeIs PySem.F.slot_dict_ne (wpAny_call_entry PySem.F.slot_dict_ne da.typeIs PySem.F.entry_dict_ne ?_ (PySem.F.args_dict_ne_2 _ _)) hu
    show wpAny _ _ (Builtin.Dict.dictSlotArgs "__ne__" ⟨[.ref a, .ref b], []⟩ >>= _) _ _ s
    refine wpAny_bind ?_
    unfold Builtin.Dict.dictSlotArgs
    refine wpAny_bind (wpAny_notOrdered_dict da.typeIs ?_)
    show wpAny _ _ (pure (Value.ref a, Value.ref b)) _ _ s
    refine wpAny_pure ?_
    refine wpAny_bind (wpAny_isInstance (T := "dict") db.typeIs PySem.F.sub_dict_dict ?_)
    simp only [Bool.not_true, Bool.false_eq_true, if_false]
    refine wpAny_bind (wpAny_pure (wpAny_bind (wpAny_pure ?_)))
    refine wpAny_bind (sameH hr ha hb da db hl hits ?_)
    exact wpAny_pure ⟨_, rfl, fun x => (nomatch x), h⟩
end
/-- the two dicts hold the same keys with equal data -/
def SameT (K : PySem.W.Frag) (H : Hp) (x y : V) : Prop := ∃ a b ks ls, x = .ref a ∧ y = .ref b ∧ H a = some (.dT ks) ∧ H b = some (.dT ls) ∧ ks.length = ls.length ∧
  ∀ p ∈ ks, ∃ u d, valV ls p.1 = some u ∧ Dp K H p.2 d ∧ Dp K H u d ∧ SeqAt.shaped d = true
theorem hitsT {X : Cx} {pins : List (Addr × Obj)} {σ : L2.St} {H : Hp} {s : Shared} (I : Inv X pins σ H s) {A : Around} (hu : A.in1.units + 64 < cLine) {ls : List (List Key × V)} {kb : List (List Key × Addr × Value)} (rb : KT H ls kb) {ks : List (List Key × V)} {ka : List (List Key × Addr × Value)}
    (ra : KT H ks ka) : (∀ p ∈ ks, ∃ u d, valV ls p.1 = some u ∧ Dp X.K H p.2 d ∧ Dp X.K H u d ∧ SeqAt.shaped d = true) → HitsH X.prog X.w A.in1 s kb ka := by
  induction ra with
  | nil => exact fun _ x hx => nomatch hx
  | @cons p q ps qs h t ih =>
    intro hp x hx
    rcases List.mem_cons.mp hx with e | hx
    · subst e
      obtain ⟨u, d, e, d1, d2, sh⟩ := hp p List.mem_cons_self
      obtain ⟨h1, _, h3⟩ := h
      obtain ⟨y, hy, ry⟩ := RelO.some_of (v := u) (o := (atKey kb p.1).map (·.2)) (by rw [← e]; exact rb.val p.1)
      obtain ⟨z, hz, ez⟩ := Option.map_eq_some_iff.mp hy
      obtain ⟨as, r1⟩ := Dp.reads I d _ _ d1 h3
      obtain ⟨bs, r2⟩ := Dp.reads I d _ _ d2 ry
      refine ⟨z, by rw [← h1]; exact hz, ?_⟩
      rw [ez]
      have k := PySem.W.keq_at r1 r2 sh sh hu
      rw [SeqAt.eqv_refl _ (SeqAt.canLay_of_shaped sh)] at k
      exact k.eqP
    · exact ih (fun p' hm => hp p' (List.mem_cons_of_mem _ hm)) x hx
section
variable {X : Cx} {K : PySem.W.Frag}
theorem sameT_run {pins : List (Addr × Obj)} {σ : L2.St} {H : Hp} {s : Shared} {x y : V} {v u : Value} {E : Value → Shared → Prop} {Q : Value → Shared → Prop} (nm : Bool) (hu : X.A.units + 66 < cLine) (I : Inv X pins σ H s) (rx : RelV x v) (ry : RelV y u) (h : SameT X.K H x y) (q : Q (.bool nm) s) :
    wpAny (model X.prog X.w) X.A (compareOp (if nm = true then .Eq else .NotEq) v u) Q E s := by
  obtain ⟨a, b, ks, ls, rfl, rfl, ea, eb, hl, hp⟩ := h
  obtain rfl : v = Value.ref a := rx
  obtain rfl : u = Value.ref b := ry
  obtain ⟨_, ya, va, ra, da⟩ := dt_of I.hok ea
  obtain ⟨_, yb, vb, rb, db⟩ := dt_of I.hok eb
  have hu1 : X.A.in1.units = X.A.units + 1 := rfl
  exact eqH (by omega) (tupleKind_room_in1 (by omega)) ya yb da db (by rw [← Paired.length ra, ← Paired.length rb]; exact hl) (hitsT I (by rw [hu1]; omega) rb ra hp) q
def rNeT (K : PySem.W.Frag) : R2 := fun x y H Q => SameT K H x y ∧ Q (.bl false) H
def rEqT (K : PySem.W.Frag) : R2 := fun x y H Q => SameT K H x y ∧ Q (.bl true) H
theorem kNeT (hu : X.A.units + 66 < cLine) (h : X.K = K := by rfl) : OpR X (compareOp .NotEq) (rNeT K) := by
  cases h
  intro pins s σ H x y v u Q I rx ry ⟨h, q⟩
  exact sameT_run false hu I rx ry h ⟨.bl false, H, I, rfl, q⟩
theorem kEqT (hu : X.A.units + 66 < cLine) (h : X.K = K := by rfl) : OpR X (compareOp .Eq) (rEqT K) := by
  cases h
  intro pins s σ H x y v u Q I rx ry ⟨h, q⟩
  exact sameT_run true hu I rx ry h ⟨.bl true, H, I, rfl, q⟩
end
/-! ### the dict comprehension, whatever the keys: after the library's own one -/
/-- d[y] = z by a comprehension -/
theorem d_dictSetG {X : Cx} {pins : List (Addr × Obj)} {σ : L2.St} {H H' : Hp} {s : Shared} {E : Value → Shared → Prop} {D : Addr} {y v : V} {u r : Value} {Q : Unit → Shared → Prop} (hu : X.A.units < cLine) (I : Inv X pins σ H s) (g : DPut H D y v H')
    (ry : RelV y u) (rv : RelV v r) (h : ∀ s', Inv X pins σ H' s' → Q () s') : wpAny (model X.prog X.w) X.A (dictSet D u r) Q E s := by
  rcases g with ⟨kvs, k, e, ey, l, eH⟩ | ⟨kvs, k, b, e, ey, eb, l, eH⟩
  · subst ey eH
    exact d_dictSet I e l ry rv h
  · subst ey eH
    cases (show u = Value.ref b from ry)
    obtain ⟨z, hd, xs, rel, dd⟩ := dt_of I.hok e
    have hz : xs.length ≤ sizeLine := by rw [← Paired.length rel]; exact z
    have hl : (putK kvs k v).length ≤ sizeLine := by have := length_putK kvs k v; omega
    refine wpAny_dictSet_heap (hsz := hz) (show (tupleKind (mixKind X.prog X.w)).room X.A from hu) (key_of I.hok eb) dd fun h' dd' hs => h _ ?_
    obtain ⟨q, es, ep, hq, h2, h3, h4, _, h5⟩ := dd'
    refine d_write I (by rw [e]; exact True.intro) hs ⟨q, hq⟩ ⟨hl, hd, _, (rel.put k eb rv).keeps fun c ys ec => ?_, q, es, ep, hq, h2, h3, h4, h5⟩
    rw [upd_ne (ne_of ec e (fun z => nomatch z))]
    exact ec
section
variable {X : Cx}
/-- {k: v for target in iter if ..}: D the new dict -/
def tDcG (o0 : HO) (wi : TI) (g : TG) (tt : TT) (tk tv : TE) (vs : List Nat) : TE := fun σ H Q => wi σ H fun J H1 => ∀ D, H1 D = none → ∃ W : Nat → Nat → Hp → Prop, (∃ m, W 0 m (upd H1 D o0)) ∧ ∀ i m H, W i m H →
  (J.stop i H ∧ Q (.ref D) H) ∨ (J.go i H ∧ ∃ Nx : Hp → Prop, (∀ H', Nx H' → ∃ m', m' < m ∧ W (i + 1) m' H') ∧ ∀ x H', J.yld i H x H' → g x (wipe σ vs) H' fun σ2 H2 => wipe σ2 vs = wipe σ vs ∧ tt σ2 H2 fun b H3 =>
    if b = true then tk σ2 H3 fun y H4 => tv σ2 H4 fun z H5 => ∃ H6, DPut H5 D y z H6 ∧ Nx H6 else Nx H3)
theorem dcG_core (o0 : HO) (hu : X.A.units < cLine) (ho : o0 = .dK [] ∨ o0 = .dT []) {pins : List (Addr × Obj)} {s : Shared} {σ : L2.St} {H : Hp} {Q : VK} {kx vx tg iter : Expr} {ifs : List Expr} {scope : Scope} {own : List (Str × Nat)} {pos pos' : Pos} {wi : TI} {g : TG} {tt : TT} {tk tv : TE} {use : Option (Value → Sem Unit)} {Qf : Value → Shared → Prop}
    (hc : X.calm = true) (hN : X.N.Nodup) (I : Inv X pins σ H s) (hi : PI X tg iter wi) (ok : BlkOk X.N X.env.scope scope own)
    (hg : ∀ (s : Shared) (H : Hp) (C : Addr) (cl : List (Str × Addr)) (fp : List Addr), PG (X.blk s H scope (compEnvC scope cl C X.env) fp) tg g) (ht : ∀ (s : Shared) (H : Hp) (C : Addr) (cl : List (Str × Addr)) (fp : List Addr), PTs (X.blk s H scope (compEnvC scope cl C X.env) fp) ifs tt)
    (hk : ∀ (s : Shared) (H : Hp) (C : Addr) (cl : List (Str × Addr)) (fp : List Addr), PE (X.blk s H scope (compEnvC scope cl C X.env) fp) kx tk)
    (he : ∀ (s : Shared) (H : Hp) (C : Addr) (cl : List (Str × Addr)) (fp : List Addr), PE (X.blk s H scope (compEnvC scope cl C X.env) fp) vx tv) (hs : ∀ x, foldedSetIterable iter X.env x = pure x)
    (h : tDcG o0 wi g tt tk tv (own.map (·.2)) σ H Q)
    (hRR : ∀ D C s' m H', Inv X pins σ H' s' → Q (.ref D) H' → s'.heap.Ns C m → FpOk X pins H' C → compPost (model X.prog X.w) X.A X.xe use Qf (.ref D) C (.ok .next) s') :
    wpAny (model X.prog X.w) X.A (comprehension (.DictComp kx vx [⟨tg, iter, ifs, 0⟩] scope pos) scope X.env pos' newDict false (eval iter X.env) use) Qf X.xe s := by
  have hfree : ∀ y ∈ scope.names, y.2 = .free → ∃ c, X.env.cells.lookup y.1 = some c := fun y hy e => by
    rcases ok.free y hy e with k | k
    · exact I.ok.has _ (.inl k)
    · exact I.ok.has _ (.inr k)
  refine wpAny_comprehension_free (use := use) rfl hs (closure_ok hfree) ok.kind (fun y hy e => by rw [ok.uniq y hy, e])
    (thn (hi.run pins s σ H _ I h) fun xv s1 hx => thn hx fun itv s2 h2 => ?_)
  obtain ⟨it, fp, tn, J, H2, e, I2, T, st2, f2, q⟩ := h2
  subst e
  refine wpAny_newObj_type (newEnv_comp ?_)
  generalize hD : s2.heap.objs.size = D
  have hDn : H2 D = none := I2.hok.fresh (Nat.le_of_eq hD)
  obtain ⟨W, ⟨m0, w0⟩, turn⟩ := q D hDn
  -- the new list
  generalize hs3 : ({ s2 with heap := s2.heap.push { cls := .type "dict", data := .dict #[] } } : Shared) = s3
  have I3 : Inv X pins σ (upd H2 D o0) s3 := by
    rw [← hs3]
    refine I2.laid (t' := s2.toks) (fun b o e => Heap.get?_push_of_some _ e) (Nat.le_of_eq hD) ?_
    rw [← hD]
    rcases ho with e | e
    · rw [e]; exact dk_empty s2.heap I2.big
    · rw [e]; exact dt_empty s2.heap I2.big
  have h3 : s3.heap = s2.heap.push { cls := .type "dict", data := .dict #[] } := by rw [← hs3]
  have sz : ∀ b ∈ fp, b < s2.heap.objs.size := fun b hb => by
    obtain ⟨o, e, _⟩ := T.obj _ _ st2 b hb
    exact Heap.lt_size e
  have f3 : ∀ b ∈ fp, FpOk X pins (upd H2 D o0) b ∧ b < s3.heap.objs.size := fun b hb => by
    have hlt := sz b hb
    refine ⟨⟨?_, (f2 b hb).2⟩, by rw [h3, Heap.size_push]; exact Nat.lt_succ_of_lt hlt⟩
    rw [upd_ne (by rw [← hD]; exact Nat.ne_of_lt hlt)]
    exact (f2 b hb).1
  have st3 : tn 0 s3.heap := T.keep _ _ _ st2 fun b _ o e => by rw [h3]; exact Heap.get?_push_of_some _ e
  have I4 := block_start I3 ok hN f3
  have pg := hg s3 (upd H2 D o0) s3.heap.objs.size (cellsFrom (s3.heap.objs.size + 1) scope.names (cloFrom X.env.cells scope.names [])) fp
  have pt := ht s3 (upd H2 D o0) s3.heap.objs.size (cellsFrom (s3.heap.objs.size + 1) scope.names (cloFrom X.env.cells scope.names [])) fp
  have pk := hk s3 (upd H2 D o0) s3.heap.objs.size (cellsFrom (s3.heap.objs.size + 1) scope.names (cloFrom X.env.cells scope.names [])) fp
  have pe := he s3 (upd H2 D o0) s3.heap.objs.size (cellsFrom (s3.heap.objs.size + 1) scope.names (cloFrom X.env.cells scope.names [])) fp
  show codeAny _ _ (.compStart (.DictComp kx vx [⟨tg, iter, ifs, 0⟩] scope pos) 0 (.ref it) (.ref D) (compEnvC scope (cellsFrom (s3.heap.objs.size + 1) scope.names (cloFrom X.env.cells scope.names [])) s3.heap.objs.size X.env)) (compPost (model X.prog X.w) X.A X.xe use Qf (.ref D) s3.heap.objs.size) { s3 with heap := pushCells (s3.heap.push { cls := .type "dict", data := .dict #[] }) scope.names }
  have nfp : ∀ b ∈ fp, (upd H2 D o0) b = none := fun b hb => (f3 b hb).1.1
  generalize hce : compEnvC scope (cellsFrom (s3.heap.objs.size + 1) scope.names (cloFrom X.env.cells scope.names [])) s3.heap.objs.size X.env = ce at I4 pg pt pk pe ⊢
  have cL : ce.locals = s3.heap.objs.size := by subst hce; rfl
  generalize hH3 : upd H2 D o0 = H3 at I3 I4 pg pt pk pe w0 nfp f3
  generalize hs4 : ({ s3 with heap := pushCells (s3.heap.push { cls := .type "dict", data := .dict #[] }) scope.names } : Shared) = s4 at I4 ⊢
  have st4 : tn 0 s4.heap := T.keep _ _ _ st3 fun b _ o e => by rw [← hs4]; exact pushCells_keeps _ _ _ _ (Heap.get?_push_of_some _ e)
  have stat : ∀ {σ' : L2.St} {H' : Hp} {s' : Shared}, Inv (X.blk s3 H3 scope ce fp) [] σ' H' s' → (∀ b ∈ fp, H' b = none) → ∀ b ∈ fp, FpOk (X.blk s3 H3 scope ce fp) [] H' b := fun {σ' H' s'} I' hn b hb =>
    ⟨hn b hb, (I'.ok.exf b hb).1, I'.ok.exfs b hb, .inl hb, fun x c e => (I'.ok.exf b hb).2 x c e, fun p hp => absurd (show p ∈ ([] : List (Addr × Obj)) ++ [] from hp) (by simp)⟩
  have loop : codeAny (model X.prog X.w) X.A (.compLoop (.DictComp kx vx [⟨tg, iter, ifs, 0⟩] scope pos) 0 (.ref it) (.ref D) ce) (compPost (model X.prog X.w) X.A X.xe use Qf (.ref D) s3.heap.objs.size) s4 := by
    refine compLoop_anyD (fun n s' => ∃ i H', Inv (X.blk s3 H3 scope ce fp) [] (wipe σ (own.map (·.2))) H' s' ∧ tn i s'.heap ∧ (∀ b ∈ fp, H' b = none) ∧ W i n H') ?_ m0 ⟨0, H3, I4, st4, nfp, w0⟩
    rintro n s5 ⟨i, H5, I5, st5, n5, w5⟩
    rcases turn i n H5 w5 with ⟨stop, qq⟩ | ⟨go, Nx, hNx, step⟩
    · have td := T.done (X.blk s3 H3 scope ce fp) rfl rfl rfl hc i [] s5 _ H5 (fun _ _ => False) I5 (stat I5 n5) st5 stop
      refine thnF td fun r s6 ⟨hr, I6⟩ => ?_
      subst hr
      -- back in the def's context
      have I7 : Inv X pins σ H5 s6 := I3.call' (ch := fp) I6.os I6.base I6.hok I6.bare fun b hb => ⟨(f3 b hb).1.2.2.2.1, (f3 b hb).1.2.1, (f3 b hb).1.2.2.2.2.1, (f3 b hb).1.2.2.2.2.2⟩
      have nC : H5 s3.heap.objs.size = none := by
        have z : H5 ce.locals = none := I6.free
        rw [cL] at z
        exact z
      obtain ⟨m, hn, _⟩ := I6.loc
      have hn : s6.heap.Ns ce.locals m := hn
      rw [cL] at hn
      exact hRR D s3.heap.objs.size s6 m H5 I7 qq hn (I3.fpOk (Nat.le_refl _) nC)
    · have ti := T.item (X.blk s3 H3 scope ce fp) rfl rfl rfl hc i [] s5 _ H5 (fun _ _ => False) I5 (stat I5 n5) st5 go
      refine thnF ti fun r s6 ⟨u, hr, h6⟩ => ?_
      subst hr
      refine thnF h6 fun _ s7 ⟨x, H7, I7, r7, y7, st7, n7⟩ => ?_
      have I7' := I7.pinned (stat I7 n7) (T.obj _ _ st7)
      refine thnF (pg.run _ s7 _ H7 x u _ I7' r7 (step x H7 y7)) fun _ s8 ⟨σ8, H8, I8, hw8, q8⟩ => ?_
      refine thnF (pt.run _ s8 σ8 H8 _ I8 q8) fun b s9 ⟨H9, I9, q9⟩ => ?_
      -- the turn's end
      have fin : ∀ {s' : Shared} {H' : Hp}, Inv (X.blk s3 H3 scope ce fp) ([] ++ pinsAt fp s7.heap) σ8 H' s' → Nx H' → ∃ m, m < n ∧ ∃ i H', Inv (X.blk s3 H3 scope ce fp) [] (wipe σ (own.map (·.2))) H' s' ∧ tn i s'.heap ∧ (∀ b ∈ fp, H' b = none) ∧ W i m H' := fun {s' H'} I' nx => by
        obtain ⟨m', hm, w'⟩ := hNx H' nx
        have pin' : ∀ b ∈ fp, ∀ o, s7.heap.get? b = some o → s'.heap.get? b = some o ∧ H' b = none := fun b hb o e =>
          let z := I'.pin (b, o) (List.mem_append_right _ (List.mem_append_right _ (mem_pinsAt hb e)))
          ⟨z.1, z.2.1⟩
        have hl : (wipe σ (own.map (·.2))).length = σ8.length := by rw [← hw8, wipe_length]
        refine ⟨m', hm, i + 1, H', (I'.unpinned (pins := [])).weak hl (fun j v e => ?_), T.keep _ _ _ st7 fun b hb o e => (pin' b hb o e).1, fun b hb => ?_, w'⟩
        · rw [← hw8] at e
          exact (wipe_some e).1
        · obtain ⟨o, e, _⟩ := T.obj _ _ st7 b hb
          exact (pin' b hb o e).2
      cases b with
      | false =>
        simp only [Bool.false_eq_true, if_false] at q9 ⊢
        exact fin I9 q9
      | true =>
        simp only [if_true] at q9 ⊢
        refine thnF (pk.run _ s9 σ8 H9 _ I9 q9) fun z s10 ⟨yk, H10, I10, r10, q10⟩ => ?_
        refine thnF (pe.run _ s10 σ8 H10 _ I10 q10) fun z2 s11 ⟨yv, H11, I11, r11, H12, hP, nx⟩ => ?_
        exact d_dictSetG (X := X.blk s3 H3 scope ce fp) hu I11 hP r10 r11 fun s12 I12 => fin I12 nx
  exact codeAny_compStart_dict loop (T.self X.A 0 _ _ _ st4 loop)
/-- as a value -/
theorem pe_dcG (o0 : HO) (hu : X.A.units < cLine) (ho : o0 = .dK [] ∨ o0 = .dT []) {kx vx tg iter : Expr} {ifs : List Expr} {scope : Scope} {own : List (Str × Nat)} {pos : Pos} {wi : TI} {g : TG} {tt : TT} {tk tv : TE} (hc : X.calm = true) (hN : X.N.Nodup) (hi : PI X tg iter wi) (ok : BlkOk X.N X.env.scope scope own)
    (hg : ∀ (s : Shared) (H : Hp) (C : Addr) (cl : List (Str × Addr)) (fp : List Addr), PG (X.blk s H scope (compEnvC scope cl C X.env) fp) tg g) (ht : ∀ (s : Shared) (H : Hp) (C : Addr) (cl : List (Str × Addr)) (fp : List Addr), PTs (X.blk s H scope (compEnvC scope cl C X.env) fp) ifs tt)
    (hk : ∀ (s : Shared) (H : Hp) (C : Addr) (cl : List (Str × Addr)) (fp : List Addr), PE (X.blk s H scope (compEnvC scope cl C X.env) fp) kx tk)
    (he : ∀ (s : Shared) (H : Hp) (C : Addr) (cl : List (Str × Addr)) (fp : List Addr), PE (X.blk s H scope (compEnvC scope cl C X.env) fp) vx tv) (hs : ∀ x, foldedSetIterable iter X.env x = pure x := by intro _; rfl) :
    PE X (.DictComp kx vx [⟨tg, iter, ifs, 0⟩] scope pos) (tDcG o0 wi g tt tk tv (own.map (·.2))) := by
  refine ⟨fun pins s σ H Q I h => ?_⟩
  rw [arm_eval_DictComp]
  refine dcG_core o0 hu ho hc hN I hi ok hg ht hk he hs h fun D C s' m H' I' q hn f => ⟨m, hn, fun h'' sb => ?_⟩
  obtain ⟨f0, f1, f2, f3, f4, f5⟩ := f
  exact ⟨.ref D, H', I'.turned (t' := s'.toks) (fun b o hb e => (sb.2 b hb).trans e) f0 f1 f3 f4 f5, rfl, q⟩
end
end Hq

/-! P6: readings of dicts step by step; dicts as data -/
namespace Hq
open PySem PySem.Spec PyProof.Rows L2
theorem u1_of {k : Nat} {A : Around} (r : Room k A) : A.units + 1 < cLine := by have := r.un; omega
theorem u66_of {k : Nat} {A : Around} (r : Room k A) : A.units + 66 < cLine := by have := r.un; omega
theorem u0_of {k : Nat} {A : Around} (r : Room k A) : A.units < cLine := r.units0
theorem iteNN {a b : Prop} (h : b) : if (!decide (V.non = V.non)) = true then a else b := by rw [if_neg (by simp)]; exact h
theorem iteYN {a b : Prop} (h : a) : if decide (V.non = V.non) = true then a else b := by rw [if_pos (by simp)]; exact h
/-! ### a[i], a list or a tuple -/
def rIxB (K : PySem.W.Frag) : R2 := fun x y H Q => rIxL K x y H Q ∨ rIxT K x y H Q
theorem kIxB {X : Cx} {K : PySem.W.Frag} (h : X.K = K := by rfl) : IxR X (rIxB K) := by
  cases h
  intro value slice pins s σ H x y v u Q I rx ry h
  rcases h with h | h
  · exact ix_list value slice pins s σ H x y v u Q I rx ry h
  · exact ix_tup value slice pins s σ H x y v u Q I rx ry h
theorem st_ixB {K : PySem.W.Frag} {H : Hp} {p : Addr} {xs : List V} {n : Int} {v : V} {Q : VK} (h : SqL K H p xs ∨ SqT K H p xs) (e : atI xs n = some v) (q : Q v H) : rIxB K (.ref p) (.int n) H Q := by
  rcases h with h | h
  · exact .inl ⟨p, xs, n, v, rfl, rfl, h, e, q⟩
  · exact .inr ⟨p, xs, n, v, rfl, rfl, h, e, q⟩
/-! ### the dict comprehension -/
section
variable {wi : TI} {g : TG} {tt : TT} {tk tv : TE} {vs : List Nat} {σ : L2.St} {H : Hp} {Q : VK} {o0 : HO}
theorem st_dc (q : wi σ H fun J H1 => ∀ D, H1 D = none → ∃ W : Nat → Nat → Hp → Prop, (∃ m, W 0 m (upd H1 D o0)) ∧ ∀ i m H, W i m H →
  (J.stop i H ∧ Q (.ref D) H) ∨ (J.go i H ∧ ∃ Nx : Hp → Prop, (∀ H', Nx H' → ∃ m', m' < m ∧ W (i + 1) m' H') ∧ ∀ x H', J.yld i H x H' → g x (wipe σ vs) H' fun σ2 H2 => wipe σ2 vs = wipe σ vs ∧ tt σ2 H2 fun b H3 =>
    if b = true then tk σ2 H3 fun y H4 => tv σ2 H4 fun z H5 => ∃ H6, DPut H5 D y z H6 ∧ Nx H6 else Nx H3)) : tDcG o0 wi g tt tk tv vs σ H Q := q
theorem dc_it {J : It} {n : Nat} {G : Hp → Prop} {Y : Nat → Hp → V → Hp → Prop} (w : Walk J n G Y) {H1 : Hp} {D : Addr} {Qd : Hp → Prop} (Pv : Nat → Hp → Prop) (h0 : Pv 0 (upd H1 D o0)) (hG : ∀ i H, i ≤ n → Pv i H → G H)
    (hs : ∀ i x H H', i < n → Pv i H → Y i H x H' → g x (wipe σ vs) H' fun σ2 H2 => wipe σ2 vs = wipe σ vs ∧ tt σ2 H2 fun b H3 =>
      if b = true then tk σ2 H3 fun y H4 => tv σ2 H4 fun z H5 => ∃ H6, DPut H5 D y z H6 ∧ Pv (i + 1) H6 else Pv (i + 1) H3) (hd : ∀ H, Pv n H → Qd H) :
    ∃ W : Nat → Nat → Hp → Prop, (∃ m, W 0 m (upd H1 D o0)) ∧ ∀ i m H, W i m H →
      (J.stop i H ∧ Qd H) ∨ (J.go i H ∧ ∃ Nx : Hp → Prop, (∀ H', Nx H' → ∃ m', m' < m ∧ W (i + 1) m' H') ∧ ∀ x H', J.yld i H x H' → g x (wipe σ vs) H' fun σ2 H2 => wipe σ2 vs = wipe σ vs ∧ tt σ2 H2 fun b H3 =>
        if b = true then tk σ2 H3 fun y H4 => tv σ2 H4 fun z H5 => ∃ H6, DPut H5 D y z H6 ∧ Nx H6 else Nx H3) := by
  refine ⟨fun i m H => m = n - i ∧ i ≤ n ∧ Pv i H, ⟨n, by simp, Nat.zero_le _, h0⟩, ?_⟩
  rintro i m H ⟨rfl, hi, p⟩
  have q := hG i H hi p
  by_cases hlt : i < n
  · exact .inr ⟨w.goes i H hlt q, Pv (i + 1), fun H' p' => ⟨n - (i + 1), by omega, rfl, hlt, p'⟩, fun x H' y => hs i x H H' hlt p (w.yields i H x H' hlt q y)⟩
  · have e : i = n := by omega
    subst e
    exact .inl ⟨w.stops H q, hd H p⟩
end
/-! ### d[k], k in d, d[k] = v -/
section
variable {td ty tv : TE} {σ : L2.St} {H : Hp} {Q : VK} {D : Ends} {a b : Addr} {kvs : List (List Key × V)} {k : List Key} {v : V} {R : Hp → Prop}
theorem st_dgetS (q : td σ H fun x H1 => ty σ H1 fun y H2 => ∃ a v, x = .ref a ∧ DGet H2 a y (some v) ∧ Q v H2) : tDGet td ty σ H Q := q
theorem st_dinS (q : ty σ H fun y H1 => td σ H1 fun x H2 => ∃ a o, x = .ref a ∧ DGet H2 a y o ∧ Q (.bl o.isSome) H2) : tDIn ty td σ H Q := q
theorem st_dninS (q : ty σ H fun y H1 => td σ H1 fun x H2 => ∃ a o, x = .ref a ∧ DGet H2 a y o ∧ Q (.bl (!o.isSome)) H2) : tDNotIn ty td σ H Q := q
theorem st_dputS (q : tv σ H fun v H1 => td σ H1 fun x H2 => ty σ H2 fun y H3 => ∃ a H4, x = .ref a ∧ DPut H3 a y v H4 ∧ D.nx σ H4) : sDPut td ty tv D σ H := q
theorem st_newT (q : ∀ p, H p = none → Q (.ref p) (upd H p (.dT []))) : tDNewT σ H Q := q
theorem st_newK (q : ∀ p, H p = none → Q (.ref p) (upd H p (.dK []))) : tDNewK σ H Q := q
theorem st_getT (e : H a = some (.dT kvs)) (eb : H b = some (.tup (k.map kV))) (l : valV kvs k = some v) (q : Q v H) : ∃ a' v', V.ref a = .ref a' ∧ DGet H a' (.ref b) (some v') ∧ Q v' H := ⟨a, v, rfl, l ▸ DGet.t e eb, q⟩
theorem st_inT (e : H a = some (.dT kvs)) (eb : H b = some (.tup (k.map kV))) (q : Q (.bl (valV kvs k).isSome) H) : ∃ a' o, V.ref a = .ref a' ∧ DGet H a' (.ref b) o ∧ Q (.bl o.isSome) H := ⟨a, _, rfl, DGet.t e eb, q⟩
theorem st_ninT (e : H a = some (.dT kvs)) (eb : H b = some (.tup (k.map kV))) (q : Q (.bl (!(valV kvs k).isSome)) H) : ∃ a' o, V.ref a = .ref a' ∧ DGet H a' (.ref b) o ∧ Q (.bl (!o.isSome)) H := ⟨a, _, rfl, DGet.t e eb, q⟩
theorem st_putT (e : H a = some (.dT kvs)) (eb : H b = some (.tup (k.map kV))) (l : kvs.length < sizeLine) (q : R (upd H a (.dT (putK kvs k v)))) : ∃ a' H4, V.ref a = .ref a' ∧ DPut H a' (.ref b) v H4 ∧ R H4 := ⟨a, _, rfl, DPut.t e eb l, q⟩
theorem st_cputT (e : H a = some (.dT kvs)) (eb : H b = some (.tup (k.map kV))) (l : kvs.length < sizeLine) (q : R (upd H a (.dT (putK kvs k v)))) : ∃ H4, DPut H a (.ref b) v H4 ∧ R H4 := ⟨_, DPut.t e eb l, q⟩
end
/-! ### a dict as data -/
abbrev Dd := List (List Key × PyData)
def lookD (ms : Dd) (k : List Key) : Option PyData := (ms.find? fun m => decide (m.1 = k)).map (·.2)
def putD (ms : Dd) (k : List Key) (d : PyData) : Dd :=
  if (ms.any fun m => decide (m.1 = k)) = true then ms.map (fun m => if m.1 = k then (m.1, d) else m) else ms ++ [(k, d)]
def KD (H : Hp) : List (List Key × V) → Dd → Prop := Paired fun p m => p.1 = m.1 ∧ TD H p.2 m.2
theorem KD.mono {H H' : Hp} {kvs : List (List Key × V)} {ms : Dd} (r : KD H kvs ms) (t : Tp H H') : KD H' kvs ms := Paired.mapP r fun _ _ h => ⟨h.1, TD.mono t _ _ h.2⟩
theorem KD.length {H : Hp} {kvs : List (List Key × V)} {ms : Dd} (r : KD H kvs ms) : kvs.length = ms.length := Paired.length r
theorem KD.any {H : Hp} {kvs : List (List Key × V)} {ms : Dd} (r : KD H kvs ms) (k : List Key) : (kvs.any fun kv => decide (kv.1 = k)) = (ms.any fun m => decide (m.1 = k)) := by
  unfold KD at r
  induction r with
  | nil => rfl
  | cons h t ih => rw [List.any_cons, List.any_cons, ih, h.1]
theorem KD.put {H : Hp} {kvs : List (List Key × V)} {ms : Dd} (r : KD H kvs ms) (k : List Key) {v : V} {d : PyData} (t : TD H v d) : KD H (putK kvs k v) (putD ms k d) := by
  unfold putK putD
  rw [r.any k]
  by_cases q : (ms.any fun m => decide (m.1 = k)) = true
  · rw [if_pos q, if_pos q]
    clear q
    unfold KD at r ⊢
    induction r with
    | nil => exact .nil
    | @cons p m ps qs h t' ih =>
      rw [List.map_cons, List.map_cons]
      refine .cons ?_ ih
      by_cases e : p.1 = k
      · rw [if_pos e, if_pos (h.1.symm.trans e)]; exact ⟨h.1, t⟩
      · rw [if_neg e, if_neg (fun z => e (h.1.trans z))]; exact h
  · rw [if_neg q, if_neg q]
    exact Paired.snoc r ⟨rfl, t⟩
theorem KD.look {H : Hp} {kvs : List (List Key × V)} {ms : Dd} (r : KD H kvs ms) (k : List Key) : (lookD ms k = none ∧ valV kvs k = none) ∨ ∃ v d, lookD ms k = some d ∧ valV kvs k = some v ∧ TD H v d := by
  unfold KD at r
  induction r with
  | nil => exact .inl ⟨rfl, rfl⟩
  | @cons p m ps qs h t ih =>
    obtain ⟨h1, h2⟩ := h
    by_cases e : p.1 = k
    · refine .inr ⟨p.2, m.2, ?_, valV_pos e, h2⟩
      simp [lookD, List.find?_cons, h1.symm.trans e]
    · have e' : ¬ m.1 = k := fun z => e (h1.trans z)
      have b : lookD (m :: qs) k = lookD qs k := by simp [lookD, List.find?_cons, e']
      rw [valV_neg e, b]
      exact ih
theorem lookD_mem {ms : Dd} {k : List Key} {d : PyData} (h : lookD ms k = some d) : (k, d) ∈ ms := by
  unfold lookD at h
  obtain ⟨m, hm, rfl⟩ := Option.map_eq_some_iff.mp h
  have e := List.find?_some hm
  have e : m.1 = k := of_decide_eq_true e
  rw [← e]
  exact List.mem_of_find?_eq_some hm
theorem lookD_of {ms : Dd} (nd : (ms.map (·.1)).Nodup) {m : List Key × PyData} (hm : m ∈ ms) : lookD ms m.1 = some m.2 := by
  induction ms with
  | nil => exact nomatch hm
  | cons x ms ih =>
    rw [List.map_cons, List.nodup_cons] at nd
    unfold lookD
    rw [List.find?_cons]
    rcases List.mem_cons.mp hm with e | hm
    · subst e; simp
    · have n : ¬ x.1 = m.1 := fun e => nd.1 (by rw [e]; exact List.mem_map.mpr ⟨m, hm, rfl⟩)
      simp only [n, decide_false]
      exact ih nd.2 hm
theorem keys_put {ms : Dd} {k : List Key} {d : PyData} (nd : (ms.map (·.1)).Nodup) : ((putD ms k d).map (·.1)).Nodup := by
  unfold putD
  by_cases q : (ms.any fun m => decide (m.1 = k)) = true
  · rw [if_pos q, List.map_map]
    have : (fun m : List Key × PyData => (if m.1 = k then (m.1, d) else m).1) = fun m => m.1 := by
      funext m
      by_cases e : m.1 = k
      · rw [if_pos e]
      · rw [if_neg e]
    show (ms.map (fun m => (if m.1 = k then (m.1, d) else m).1)).Nodup
    rw [this]
    exact nd
  · rw [if_neg q, List.map_append, List.nodup_append]
    refine ⟨nd, by simp, ?_⟩
    intro x hx y hy e
    simp only [List.map_cons, List.map_nil, List.mem_singleton] at hy
    obtain ⟨m, hm, rfl⟩ := List.mem_map.mp hx
    exact q (List.any_eq_true.mpr ⟨m, hm, by simp [e, hy]⟩)
theorem all_put {F : PyData → Prop} {ms : Dd} {k : List Key} {d : PyData} (h : ∀ m ∈ ms, F m.2) (hd : F d) : ∀ m ∈ putD ms k d, F m.2 := by
  unfold putD
  by_cases q : (ms.any fun m => decide (m.1 = k)) = true
  · rw [if_pos q]
    intro m hm
    obtain ⟨x, hx, rfl⟩ := List.mem_map.mp hm
    by_cases e : x.1 = k
    · rw [if_pos e]; exact hd
    · rw [if_neg e]; exact h x hx
  · rw [if_neg q]
    intro m hm
    rcases List.mem_append.mp hm with hm | hm
    · exact h m hm
    · rw [List.mem_singleton.mp hm]; exact hd
theorem len_put {ms : Dd} {k : List Key} {d : PyData} : (putD ms k d).length ≤ ms.length + 1 := by
  unfold putD
  by_cases q : (ms.any fun m => decide (m.1 = k)) = true
  · rw [if_pos q, List.length_map]; omega
  · rw [if_neg q, List.length_append]; simp
/-- a dict with tuple keys at a -/
structure TabAt (H : Hp) (a : Addr) (ms : Dd) : Prop where
  ok : ∃ kvs, H a = some (.dT kvs) ∧ KD H kvs ms
structure GoodD (ms : Dd) : Prop where
  nd : (ms.map (·.1)).Nodup
  sh : ∀ m ∈ ms, SeqAt.shaped m.2 = true
theorem GoodD.put {ms : Dd} {k : List Key} {d : PyData} (g : GoodD ms) (h : SeqAt.shaped d = true) : GoodD (putD ms k d) := ⟨keys_put g.nd, all_put (F := fun d => SeqAt.shaped d = true) g.sh h⟩
theorem GoodD.nil : GoodD [] := ⟨List.nodup_nil, fun _ h => nomatch h⟩
theorem sameT_of {K : PySem.W.Frag} {H : Hp} {a b : Addr} {ms ls : Dd} (ta : TabAt H a ms) (tb : TabAt H b ls) (hl : ms.length = ls.length) (h : ∀ m ∈ ms, lookD ls m.1 = some m.2 ∧ SeqAt.shaped m.2 = true) : SameT K H (.ref a) (.ref b) := by
  obtain ⟨kvs, ha, ra⟩ := ta.ok
  obtain ⟨lvs, hb, rb⟩ := tb.ok
  refine ⟨a, b, kvs, lvs, rfl, rfl, ha, hb, by rw [ra.length, rb.length]; exact hl, ?_⟩
  clear ha hb hl ta tb
  unfold KD at ra
  induction ra with
  | nil => exact fun _ hp => nomatch hp
  | @cons p m ps qs hp t ih =>
    intro x hx
    rcases List.mem_cons.mp hx with e | hx
    · subst e
      obtain ⟨l, s⟩ := h m (by simp)
      rcases KD.look (show KD H lvs ls from rb) m.1 with ⟨n, _⟩ | ⟨v, d, e1, e2, e3⟩
      · rw [n] at l; exact nomatch l
      · rw [e1] at l
        cases l
        exact ⟨v, m.2, by rw [hp.1]; exact e2, TD.dp _ _ hp.2, TD.dp _ _ e3, s⟩
    · exact ih (fun m hm => h m (List.mem_cons_of_mem _ hm)) x hx
theorem sameT_eq {K : PySem.W.Frag} {H : Hp} {a b : Addr} {ms : Dd} (ta : TabAt H a ms) (tb : TabAt H b ms) (g : GoodD ms) : SameT K H (.ref a) (.ref b) :=
  sameT_of ta tb rfl fun m hm => ⟨lookD_of g.nd hm, g.sh m hm⟩
theorem TabAt.keep {H H' : Hp} {a : Addr} {ms : Dd} {fs : List Addr} (t : TabAt H a ms) (f : Fr fs H H') (h : a ∉ fs) : TabAt H' a ms := by
  obtain ⟨kvs, e, r⟩ := t.ok
  exact ⟨kvs, f.keep _ _ h e, r.mono f.tup⟩
/-! ### keys as data -/
def keyOf : PyData → Key
  | .int i => .inl i
  | .str x => .inr x
  | _ => .inl 0
def keysOf : PyData → List Key
  | .tuple ds => ds.map keyOf
  | _ => []
end Hq

/-! P7: own exceptions that are made without arguments and keep no field -/
namespace Hq
open PySem PySem.Spec PyProof.Rows L2
section
variable {X : Cx}
/-- the end of C(): the exception is let go; it has no dict -/
theorem none_end0 {pins : List (Addr × Obj)} {σ : L2.St} {H1 H2 : Hp} {hp hp2 h2 : Heap} {g1 g2 : Array GenState} {d1 d2 : Drawn} {t1 t2 : Nat} {os1 os2 : OsState} {a C : Addr} (I1 : Inv X pins σ H1 ⟨hp, g1, d1, t1, os1⟩)
    (ha : hp.objs.size ≤ a) (k : ∀ b o, hp.get? b = some o → hp2.get? b = some o) (un : Un (frs X.stack) [] (upd H1 a (exo a C none)) H2 hp2 h2) (hok : HOk X.prog X.w H2 h2) (ho : os2 = os1) (hb : AllBare g2)
    (ea : H2 a = some (exo a C none)) :
    ∃ (t0 : Addr) (G : Heap), Inv X pins σ (del H2 a) ⟨G, g2, d2, t2, os2⟩ ∧ (∀ b o, G.get? b = some o → h2.get? b = some o) ∧ G.get? a = none ∧
      h2.get? a = some ({ cls := .ref C, dict := none, data := .fields #[.ref t0, .none, .none, .none, .bool false, .none] } : Obj) := by
  obtain ⟨t0, hoe⟩ := exo_at hok ea
  have hn : H1 a = none := I1.hok.fresh ha
  obtain ⟨G, g1', g2'⟩ := restrict h2 fun b => decide (b ≠ a)
  have gk : ∀ b, b ≠ a → G.get? b = h2.get? b := fun b hb => g1' b (decide_eq_true hb)
  have ge : G.get? a = none := g2' a (by simp)
  have nha : ∀ {b : Addr} {o : Obj}, hp.get? b = some o → b ≠ a := fun {b o} z => Nat.ne_of_lt (Nat.lt_of_lt_of_le (Heap.lt_size z) ha)
  have up : ∀ {b : Addr}, b ≠ a → H1 b = none → upd H1 a (exo a C none) b = none := fun {b} hb n => by rw [upd_ne hb]; exact n
  have U : Un (frs X.stack) [] H1 (del H2 a) hp G := {
    keep := fun b o z n hf hx => by
      rw [gk b (nha z)]
      exact un.keep b o (k b o z) (up (nha z) n) hf hx
    slot := fun b o z n hf hx => by
      rw [gk b (nha z)]
      exact un.slot b o (k b o z) (up (nha z) n) hf hx
    free := fun b o z n hx => by
      rw [del_ne (nha z)]
      exact un.free b o (k b o z) (up (nha z) n) hx
    there := fun b o z hx => by
      rw [gk b (nha z)]
      exact un.there b o (k b o z) hx
    tups := fun b xs z => by
      rw [del_ne (ne_of_none z hn)]
      exact un.tups b xs (by rw [upd_ne (ne_of_none z hn)]; exact z)
    frzs := fun b o v z => by
      rw [del_ne (ne_of_none z hn)]
      exact un.frzs b o v (by rw [upd_ne (ne_of_none z hn)]; exact z)
    tbls := fun b ps z => by
      rw [del_ne (ne_of_none z hn)]
      exact un.tbls b ps (by rw [upd_ne (ne_of_none z hn)]; exact z) }
  have hok3 : HOk X.prog X.w (del H2 a) G := fun b o z => by
    have hba : b ≠ a := fun e => by
      rw [e, del_same] at z
      cases z
    rw [del_ne hba] at z
    have noa : ∀ {c : Addr}, H2 c = some (.own b) → c ≠ a := fun {c} hc => at_ne ea hc exo_own
    exact (hok b o z).stay (fun c v hc y => by
        have hca : c ≠ a := by
          rcases hc with hc | hc
          · rw [hc]
            exact hba
          · exact noa hc
        rw [gk c hca]
        exact y)
      (fun c hc => by rw [del_ne (noa hc)]; exact hc) (fun c xs hc => by rw [del_ne (at_ne ea hc exo_tup)]; exact hc)
  have J : Inv X pins σ (del H2 a) ⟨G, g2, d2, t2, os2⟩ := I1.call' (ch := []) ho U hok3 hb (fun b z => absurd z (by simp))
  refine ⟨t0, G, J, fun b o z => ?_, ge, hoe⟩
  by_cases hba : b = a
  · rw [hba, ge] at z
    cases z
  · exact (gk b hba).symm.trans z
theorem none_end {pins : List (Addr × Obj)} {σ : L2.St} {H1 H2 : Hp} {Q : XK} {hp hp2 h2 : Heap} {g1 g2 : Array GenState} {d1 d2 : Drawn} {t1 t2 : Nat} {os1 os2 : OsState} {a C : Addr} (T : Raises X (.ref C)) (I1 : Inv X pins σ H1 ⟨hp, g1, d1, t1, os1⟩)
    (ha : hp.objs.size ≤ a) (k : ∀ b o, hp.get? b = some o → hp2.get? b = some o) (un : Un (frs X.stack) [] (upd H1 a (exo a C none)) H2 hp2 h2) (hok : HOk X.prog X.w H2 h2) (ho : os2 = os1) (hb : AllBare g2)
    (ea : H2 a = some (exo a C none)) (q : Q (.ref C) none (del H2 a)) : MkP X pins σ Q (.ref a) ⟨h2, g2, d2, t2, os2⟩ := by
  obtain ⟨t0, G, J, kG, ge, hoe⟩ := none_end0 (d2 := d2) (t2 := t2) I1 ha k un hok ho hb ea
  exact ⟨a, _, _, ⟨G, g2, d2, t2, os2⟩, _, .ref C, none, rfl, J, kG, ge, hoe, ⟨rfl, rfl⟩, rfl, rfl, del_same, rfl, hb, T, q⟩
/-- what an __init__ that stores nothing promises -/
def spErr0 (K : PySem.W.Frag) : Sp := fun vs H Q _ => ∃ (a C : Addr), vs = [.ref a] ∧ OexC K C ∧ H a = some (exo a C none) ∧ Q .non H
/-- an error class that is made without arguments -/
structure En (P : Program) (w : World) (K : PySem.W.Frag) (mg : Str → Option Value) (base : Heap) (x : Str) (C : Addr) (k : Nat) : Prop where
  mgC : mg x = some (.ref C)
  oex : OexC K C
  ok : ∃ f fd, FnOk P w K mg base (L2.CX P w) k f fd ["self"] (spErr0 K) ∧ PySem.W.findIn K (.ref C) "__init__" = some (some (.ref f)) ∧ PySem.W.typeIn K (.ref f) = some (.type "function") ∧ Binds K fd ["self"] []
theorem del_upd {H : Hp} {a : Addr} {o : HO} (h : H a = none) : del (upd H a o) a = H := by
  funext b
  by_cases e : b = a
  · rw [e, del_same, h]
  · rw [del_ne e, upd_ne e]
theorem pmk_err0 {x : Str} {C : Addr} {k : Nat} {p pos : Pos} (D : En X.prog X.w X.K X.mg X.base x C k) (hr : Room (k + 1) X.A) (hx : Passes (L2.CX X.prog X.w) X (fun _ _ _ => False)) (hg : Gl X x) (hdb : (x == ("__debug__" : Str)) = false := by decide) :
    PMk X (.Call (.Name x p) [] [] pos) (fun σ H Q => Q (.ref C) none H) := by
  intro pins s σ H Q I h
  obtain ⟨fI, fd, F1, iC, tI, hb⟩ := D.ok
  have T := D.oex
  obtain ⟨nm, q, N, bs, bm, sn, sub, ab, col, dd, k0, k1, k2, k3, k5, hC, hbm⟩ := T.cls
  refine wpAny_Call_Name_kw (ld_glob I hg D.mgC ?_ hdb)
  refine PySem.W.callWith_K0 I.kIn T.kC ?_
  obtain ⟨hp, g, dr, tk, os⟩ := s
  have hsz : hp.objs.size ≤ hp.objs.size + 1 := Nat.le_succ _
  have hn : H (hp.objs.size + 1) = none := I.hok.fresh hsz
  have kk : ∀ b o, hp.get? b = some o → ((hp.push (PySem.W.kdv_tup [])).push (PySem.HandSPX.excO C hp.objs.size)).get? b = some o := fun b o e => Heap.get?_push_of_some _ (Heap.get?_push_of_some _ e)
  have hget : ((hp.push (PySem.W.kdv_tup [])).push (PySem.HandSPX.excO C hp.objs.size)).get? (hp.objs.size + 1) = some (PySem.HandSPX.excO C hp.objs.size) := by heap_get
  have I2 : Inv X pins σ (upd H (hp.objs.size + 1) (exo (hp.objs.size + 1) C none)) ⟨(hp.push (PySem.W.kdv_tup [])).push (PySem.HandSPX.excO C hp.objs.size), g, dr, tk, os⟩ :=
    I.laid (t' := tk) (a := hp.objs.size + 1) (o := exo (hp.objs.size + 1) C none) (h' := (hp.push (PySem.W.kdv_tup [])).push (PySem.HandSPX.excO C hp.objs.size)) kk hsz (exo_ok hget)
  have hq : spErr0 X.K [.ref (hp.objs.size + 1)] (upd H (hp.objs.size + 1) (exo (hp.objs.size + 1) C none)) (fun v H2 => v = .non ∧ H2 (hp.objs.size + 1) = some (exo (hp.objs.size + 1) C none) ∧ Q (.ref C) none (del H2 (hp.objs.size + 1))) (fun _ _ _ => False) :=
    ⟨_, C, rfl, T, upd_same, rfl, upd_same, by rw [del_upd hn]; exact h⟩
  refine wpAny_call (PySem.HandSPX.call_own F.excBase_ValueError (fun Y => PySem.HandSPX.refsVE_contains Y bm hbm) (I.kIn _ _ hC) (PySem.W.looks_findIn I.kIn iC) (fun self => PySem.W.bind_fn I.kIn self tI) (Nat.zero_le _)
    (codeAny_mono (F1.run _ X.stack _ _ ⟨[Value.ref (hp.objs.size + 1)], []⟩ [Value.ref (hp.objs.size + 1)] [V.ref (hp.objs.size + 1)] _ (fun _ _ _ => False) (hr.make C [] []) (I2.env0.make C [] []) (hb _ [Value.ref (hp.objs.size + 1)] I2.kIn rfl) (.cons rfl .nil) hq) fun r s' hq' => ?_))
  cases r with
  | error er => exact hx pins σ _ _ er s' I2 hq'
  | ok fl =>
    cases fl with
    | ret u =>
      obtain ⟨v, H2, os2, bare2, un2, hok2, rv, ev, ea, q2⟩ := hq'
      subst ev
      obtain ⟨h2, g2, d2, t2, os'⟩ := s'
      exact ⟨rv, none_end (raises_own T.exC T.tyC) I hsz kk un2 hok2 os2 bare2 ea q2⟩
    | next => exact False.elim hq'
    | brk => exact False.elim hq'
    | cont => exact False.elim hq'
end
/-- a def's body out of which errors may go -/
theorem okE {P : Program} {w : World} {K : PySem.W.Frag} {mg : Str → Option Value} {base : Heap} {x qual : Str} {st : Stmt} {f : Addr} {fd : FuncData} {N ps : List Str} {k : Nat} {sp : Sp} (F : Fun K x qual st f fd) (S : FnScope N ps (defScope st))
    (len : ∀ vs H Q E, sp vs H Q E → vs.length = ps.length)
    (hb : ∀ (cdv : Value) (A : Around) (outer : List Env) (s : Shared) (H : Hp) (vs : List V) (Q : VK) (E : XK), Room k (A.deeper (envOfC qual (defScope st) s.heap.objs.size f cdv)) → sp vs H Q E →
      ∃ t σ, L2.start N vs = σ ∧ PSs (cxOf (L2.CX P w) P w K mg base N qual (defScope st) f cdv A outer s H E) (defBody st) t ∧ t { nx := fun _ H' => Q .non H', rt := Q } σ H) : FnOk P w K mg base (L2.CX P w) (k + 1) f fd ps sp :=
  F.okX S len fun cdv A outer s H vs Q E hr hs => by
    obtain ⟨t, σ, e, h, q⟩ := hb cdv A outer s H vs Q E hr hs
    cases e
    exact ⟨t, h, q⟩
theorem passE {P : Program} {w : World} {K : PySem.W.Frag} {mg : Str → Option Value} {base : Heap} {N : List Str} {qual : Str} {sc : Scope} {f : Addr} {cdv : Value} {A : Around} {outer : List Env} {s : Shared} {H : Hp} {E : XK} :
    Passes (L2.CX P w) (cxOf (L2.CX P w) P w K mg base N qual sc f cdv A outer s H E) E :=
  passes_call (X := cxOf (L2.CX P w) P w K mg base N qual sc f cdv A outer s H E) (W := fun cls d _ H => E cls d H) (takes_of rfl rfl rfl rfl) fun _ _ _ _ h => h
theorem takesE {P : Program} {w : World} {K : PySem.W.Frag} {mg : Str → Option Value} {base : Heap} {N : List Str} {qual : Str} {sc : Scope} {f : Addr} {cdv : Value} {A : Around} {outer : List Env} {s : Shared} {H : Hp} {E : XK} :
    Takes (cxOf (L2.CX P w) P w K mg base N qual sc f cdv A outer s H E) (fun cls d _ H => E cls d H) := takes_of rfl rfl rfl rfl
/-- raise C(), out of the def -/
theorem ps_err0 {P : Program} {w : World} {K : PySem.W.Frag} {mg : Str → Option Value} {base : Heap} {N : List Str} {qual : Str} {sc : Scope} {f : Addr} {cdv : Value} {A : Around} {outer : List Env} {s : Shared} {H : Hp} {E : XK} {x : Str} {C : Addr} {k : Nat} {p pos pos' : Pos}
    (D : En P w K mg base x C k) (hr : Room (k + 1) (cxOf (L2.CX P w) P w K mg base N qual sc f cdv A outer s H E).A) (hg : Gl (cxOf (L2.CX P w) P w K mg base N qual sc f cdv A outer s H E) x) (hdb : (x == ("__debug__" : Str)) = false := by decide) :
    PS (cxOf (L2.CX P w) P w K mg base N qual sc f cdv A outer s H E) (.Raise (some (.Call (.Name x p) [] [] pos)) none pos') (fun _ _ H' => E (.ref C) none H') :=
  L2.ps_raise (X := cxOf (L2.CX P w) P w K mg base N qual sc f cdv A outer s H E) rfl takesE (pmk_err0 D hr passL hg hdb)
end Hq

/-! P8: (x,) * n for any n, three names set at once -/
namespace Hq
open PySem PySem.Spec PyProof.Rows L2
open AutoSeq1 (wpAny_loadPart')
theorem tup_mul1 (l : Addr) (items : Array Value) (n : Nat) (dd : Option Addr) (sl : Array (Option Value)) (u : Tok) (c : items.isEmpty = false) :
    Meets (Builtin.«tuple.__mul__» ⟨[.ref l, .int 1 u], []⟩) (fun _ R s => s.heap.get? l = some { cls := .type "tuple", dict := dd, data := .seq items n, slots := sl } ∧
      R (.ok (.ret (Value.ref l))) s) :=
  .of_wp fun prog w A R s h => by
    obtain ⟨hp, g, d, tk, os⟩ := s
    obtain ⟨hl, h⟩ := h
    have f1 := AutoSeq1.idx_int
    wp_walk using wpAny_loadPart' hl
    exact ⟨_, rfl, h⟩
theorem tup_mul0 (l : Addr) (items : Array Value) (n : Nat) (dd : Option Addr) (sl : Array (Option Value)) (u : Tok) (c : items.isEmpty = false) :
    Meets (Builtin.«tuple.__mul__» ⟨[.ref l, .int 0 u], []⟩) (fun _ R s => s.heap.get? l = some { cls := .type "tuple", dict := dd, data := .seq items n, slots := sl } ∧
      R (.ok (.ret (Value.ref s.heap.objs.size))) { s with heap := s.heap.push { cls := Value.type "tuple", data := Data.seq #[] }, toks := s.toks }) :=
  .of_wp fun prog w A R s h => by
    obtain ⟨hp, g, d, tk, os⟩ := s
    obtain ⟨hl, h⟩ := h
    have f1 := AutoSeq1.idx_int
    wp_walk using wpAny_loadPart' hl
    repeat (first
      | (refine wpAny_ite_false (decide_eq_false (by rw [c]; decide)) ?_; wp_walk using wpAny_loadPart' hl))
    exact ⟨_, rfl, h⟩
/-- a tuple that is not empty, so many times -/
def rRepN (K : PySem.W.Frag) : R2 := fun x y H Q => ∃ (l : Addr) (k : Nat) (xs : List V), x = .ref l ∧ y = .int k ∧ SqT K H l xs ∧ xs ≠ [] ∧ k ≤ 1000 ∧ xs.length ≤ 1000 ∧ (k = 1 → Q (.ref l) H) ∧ (k ≠ 1 → ∀ p, H p = none → Q (.ref p) (upd H p (.tup (List.replicate k xs).flatten)))
section
variable {X : Cx} {K : PySem.W.Frag}
theorem op_repN : OpR X (binaryOp .Mult) (rRepN X.K) := by
  intro pins s σ H x y v u Q I rx ry h
  obtain ⟨l, k, xs, rfl, rfl, hT, hne, h2, hz, q1, q⟩ := h
  rcases Nat.lt_trichotomy k 1 with hk | hk | hk
  · obtain rfl : k = 0 := by omega
    cases rx
    obtain ⟨t, rfl⟩ := ry
    obtain ⟨its, r, ⟨⟨cls, dd, data, sl⟩, ho, hc, n, hd⟩, hs⟩ := I.tuple hT
    simp only at hc hd
    subst hc hd
    have hle : its.length = xs.length := r.length.symm
    have hi : its.toArray.isEmpty = false := by
      cases its with
      | nil => exact absurd (List.eq_nil_of_length_eq_zero hle.symm) hne
      | cons a b => rfl
    refine wpAny_binaryOp_repeat_ref (T := "tuple") (U := "int") (by decide) ⟨_, ho, rfl⟩ (fun s' => typeIs_int s' 0 t) noFill_tuple_mul F.fills_int_mul F.slot_int_rmul repeat_tuple F.slot_int_index.lookup
      (call_meets F.slot_int_rmul (typeIs_int s 0 t) F.entry_int_rmul (F.args_int_rmul_2 _ _) (int_rmul_tuple 0 t l its.toArray n dd sl)
        ⟨ho, rfl, ⟨_, ho, rfl⟩, call_meets F.slot_tuple_mul ⟨_, ho, rfl⟩ F.entry_tuple_mul (F.args_tuple_mul_2 _ _) (tup_mul0 l its.toArray n dd sl t hi) ⟨ho, ?_⟩⟩)
    refine ⟨.ref s.heap.objs.size, _, I.laid (t' := s.toks) (o := .tup (List.replicate 0 xs).flatten) (fun b ob q => Heap.get?_push_of_some _ q) (Nat.le_refl _) ?_, rfl, q (by decide) _ (I.hok.fresh (Nat.le_refl _))⟩
    exact ⟨Nat.zero_le _, [], .nil, IsTup.new _ _⟩
  · subst hk
    cases rx
    obtain ⟨t, rfl⟩ := ry
    obtain ⟨its, r, ⟨⟨cls, dd, data, sl⟩, ho, hc, n, hd⟩, hs⟩ := I.tuple hT
    simp only at hc hd
    subst hc hd
    have hle : its.length = xs.length := r.length.symm
    have hi : its.toArray.isEmpty = false := by
      cases its with
      | nil => exact absurd (List.eq_nil_of_length_eq_zero hle.symm) hne
      | cons a b => rfl
    refine wpAny_binaryOp_repeat_ref (T := "tuple") (U := "int") (by decide) ⟨_, ho, rfl⟩ (fun s' => typeIs_int s' 1 t) noFill_tuple_mul F.fills_int_mul F.slot_int_rmul repeat_tuple F.slot_int_index.lookup
      (call_meets F.slot_int_rmul (typeIs_int s 1 t) F.entry_int_rmul (F.args_int_rmul_2 _ _) (int_rmul_tuple 1 t l its.toArray n dd sl)
        ⟨ho, rfl, ⟨_, ho, rfl⟩, call_meets F.slot_tuple_mul ⟨_, ho, rfl⟩ F.entry_tuple_mul (F.args_tuple_mul_2 _ _) (tup_mul1 l its.toArray n dd sl t hi) ⟨ho, ?_⟩⟩)
    exact ⟨.ref l, _, I, rfl, q1 rfl⟩
  · exact op_repT pins s σ H _ _ v u Q I rx ry ⟨l, k, xs, rfl, rfl, hT, hne, by omega, by omega, hz, q (by omega)⟩
theorem kRepN (h : X.K = K := by rfl) : OpR X (binaryOp .Mult) (rRepN K) := by cases h; exact op_repN
end
theorem st_par3 {tA : TA} {i j l : Nat} {D : Ends} {σ : L2.St} {H : Hp} (q : tA σ H fun vs H1 => ∃ u v w, vs = [u, v, w] ∧ D.nx (((σ.set i (some u)).set j (some v)).set l (some w)) H1) : tPar3 i j l tA D σ H := q
/-! ### enumerate(a list) -/
theorem kEnum {X : Cx} {K : PySem.W.Frag} {e : Expr} {ta : TA} {p pos tpos : Pos} {elts : List Expr} {kk : Nat} (hg : Gl X "enumerate") (hm : X.mg "enumerate" = none) (ha : PA X [e] ta) (hs : starEach [e] X.env = [(false, eval e X.env)] := by rfl) (h : X.K = K := by rfl) :
    PI X (.Tuple elts kk tpos) (.Call (.Name "enumerate" p) [e] [] pos) (iEnum K ta) := by
  cases h
  exact pi_enum hg hm ha hs
theorem st_iE {K : PySem.W.Frag} {ta : TA} {σ : L2.St} {H : Hp} {R : It → Hp → Prop} (q : ta σ H fun vs H1 => ∃ a xs, vs = [.ref a] ∧ SqL K H1 a xs ∧ R (Ite K a) H1) : iEnum K ta σ H R := q
end Hq

/-! P9: the end of a law whose defs hold lambdas: their tables are empty at the start -/
namespace Hq
open PySem PySem.Spec PyProof.Rows L2 LamX
/-- each def at the top has an empty table -/
def OwnTabs (q : Program) (K : PySem.W.Frag) (mg : Str → Option Value) (h : Heap) : Prop := ∀ (x : Str) (f : Addr), ((recsOf q).any fun e => e.name == x) = true → mg x = some (.ref f) → OwnTab K f h
theorem walk_ofOwns {l : PySem.W.OpenLaw} {n k : Nat} {q : Program} {loose : List Str} {XP : (Str → Option Value) → Heap → Prop} {YP : World → Heap → Prop} {d : DefRec} {K : Params → PySem.W.Frag} {CX : World → CXT} {x : Str}
    (hn : l.most = some n) (hn2 : n ≤ sizeLine) (hdf : d.params.defaults = []) (hr : Room k callerA) (hY : ∀ (w : World) (h : Heap), YP w h → (K w.params).In h)
    (F : ∀ (w : World) (mg : Str → Option Value) (fa : Addr) (h : Heap), YP w h → (K w.params).In h → h.Ns mainGlobals mg → mg d.name = some (.ref fa) → OwnTabs q (K w.params) mg h → LawAtS l w (K w.params) (CX w) k n x mg fa h)
    (hCX : ∀ (w : World) (H : Hp) (s : Shared) (e : Value) (s' : Shared), CX w [] H s (fun _ _ _ => False) e s' → False) :
    PySem.W.WalkO q loose XP YP l.row.toRowW d [] (fun f vs => PySem.call f vs) := by
  refine Att.attach_callB hn hdf fun w s₀ s₁ mg mb fa o pm cd doc a vs ns G Y ho hd hcd hmg hobj hints hlen hbits hg => ?_
  have KX := hY w _ Y
  have own : OwnTabs q (K w.params) mg s₁.heap := fun y f hrec hmy c P o1 fd1 e dd vs1 sl k1 k2 k3 k4 k5 => by
    obtain ⟨dL, hm, hn1⟩ := List.any_eq_true.mp hrec
    have hn2 : dL.name = y := beq_iff_eq.mp hn1
    obtain ⟨a', o', fd', c', P', h1, h2, h3, h4, h5, h6⟩ := G.T.tab dL hm
    rw [hn2, hmy] at h1
    cases h1
    have g1 := KX _ _ k1
    rw [g1] at h2
    cases h2
    rw [k2] at h3
    cases h3
    rw [k3] at h4
    cases h4
    obtain ⟨⟨oc, vc, e1, _, e3, e4⟩, hP⟩ := h6
    have g2 := KX _ _ k4
    rw [g2] at e1
    cases e1
    cases e3
    rw [k5] at e4
    cases e4
    exact hP
  obtain ⟨fd, cs, sp, hT, nT, C, hb, hsp, hF⟩ := F w mg fa _ Y KX G.T.g hmg own
  exact law_callTs KX G.T.g G.T.b G.T.builtins G.T.nolimit hg hT nT C G.T.bmain hobj hints (Nat.le_trans hlen hn2) hr hF hb (fun H hH hS => hsp H a ns hlen hbits hH hS) fun H e s' => hCX w H s₁ e s'
section
variable {P1 P2 : Addr} {x y : Str}
theorem tb_m1 : (P1, x) ∈ [(P1, x), (P2, y)] := List.mem_cons_self
theorem tb_m2 : (P2, y) ∈ [(P1, x), (P2, y)] := List.mem_cons_of_mem _ List.mem_cons_self
theorem tb_u1 (ne : P1 ≠ P2) : ∀ p ∈ [(P1, x), (P2, y)], p.1 = P1 → p.2 = x := fun p hp e => by
  rcases List.mem_cons.mp hp with rfl | hp
  · rfl
  · rw [List.mem_singleton.mp hp] at e
    exact absurd e.symm ne
theorem tb_u2 (ne : P1 ≠ P2) : ∀ p ∈ [(P1, x), (P2, y)], p.1 = P2 → p.2 = y := fun p hp e => by
  rcases List.mem_cons.mp hp with rfl | hp
  · exact absurd e ne
  · rw [List.mem_singleton.mp hp]
theorem tb_1 : (P1, x) ∈ [(P1, x)] := List.mem_cons_self
theorem tb_u (p : Addr × Str) (hp : p ∈ [(P1, x)]) (_ : p.1 = P1) : p.2 = x := by rw [List.mem_singleton.mp hp]
end
section
variable {P1 P2 c1 c2 : Addr}
theorem tc_m1 : (c1, P1) ∈ [(c1, P1), (c2, P2)] := List.mem_cons_self
theorem tc_m2 : (c2, P2) ∈ [(c1, P1), (c2, P2)] := List.mem_cons_of_mem _ List.mem_cons_self
theorem tc_1 : (c1, P1) ∈ [(c1, P1)] := List.mem_cons_self
end
end Hq

namespace K42
open PySem PySem.Spec PyProof.Rows L2 Hq
local macro_rules | `(tactic| walk_at "st1") => `(tactic| first
  | with_reducible refine st_seq ?_ | with_reducible refine st_ret ?_ | with_reducible refine st_ifS ?_ | with_reducible refine st_asg ?_ | with_reducible refine st_drop ?_
  | ((with_reducible refine' st_var ?hv ?_); (case hv => rfl)) | with_reducible refine st_c ?_ | with_reducible refine st_op ?_ | with_reducible refine st_un ?_
  | with_reducible refine st_I0 ?_ | with_reducible refine st_U ?_ | ((with_reducible refine' st_I ?hc ?_); (case hc => walk_at "side"))
  | ((with_reducible refine' st_eq ?hs ?_); (case hs => rfl)) | ((with_reducible refine' st_ne ?hs ?_); (case hs => rfl))
  | with_reducible refine st_test ?_ | with_reducible refine st_B ?_ | with_reducible refine st_bl ?_ | with_reducible refine st_isN ?_ | with_reducible refine st_notN ?_
  | with_reducible refine st_chain ?_ | with_reducible refine st_and ?_ | with_reducible refine st_or ?_ | with_reducible refine st_not ?_
  | with_reducible refine st_andV ?_ | with_reducible refine st_orV ?_ | with_reducible refine st_notV ?_ | with_reducible refine st_if ?_
  | with_reducible refine st_CB ?_ | with_reducible refine st_cons ?_ | with_reducible refine st_nil ?_ | with_reducible refine st_fld ?_
  | ((with_reducible refine st_tup ?_)) | ((with_reducible refine st_lst ?_))
  | with_reducible refine st_call ?_ | with_reducible refine st_meth ?_ | with_reducible refine st_make ?_
  | with_reducible refine st_sl ?_ | with_reducible refine st_noPart ?_ | with_reducible refine st_part ?_ | with_reducible refine st_int ?_
  | ((with_reducible refine' st_ixL ?hq ?he ?_); (case hq => walk_at "sqL"); (case he => walk_at "at"))
  | ((with_reducible refine' st_ixT ?hq ?he ?_); (case hq => walk_at "sqT"); (case he => walk_at "at"))
  | with_reducible refine st_bm ?_ | with_reducible refine st_app ?_
  | ((with_reducible refine' st_append ?hq ?hl ?_); (case hq => walk_at "hp"); (case hl => walk_at "line"))
  | ((with_reducible refine' st_len (n := 0) ?hq ?_); (case hq => first | exact Or.inl (by walk_at "sqL") | exact Or.inr (by walk_at "sqT")))
  | ((with_reducible refine' st_listOf ?hq ?_); (case hq => first | exact Or.inl (by walk_at "sqL") | exact Or.inr (by walk_at "sqT")))
  | ((with_reducible refine st_name ?_); (try dsimp only [List.set_cons_zero, List.set_cons_succ])) | with_reducible refine st_par ?_
  | with_reducible refine st_gcons ?_ | with_reducible refine st_gnil ?_ | with_reducible refine st_gsub ?_ | with_reducible refine st_sFld ?_
  | ((with_reducible refine' st_gtup ?hq ?hl ?_); (case hq => walk_at "sqT"); (case hl => rfl))
  | ((with_reducible refine' st_setL ?hq ?hl ?_); (case hq => walk_at "hp"); (case hl => first | rfl | exact ix0 | exact ixN_nat (by assumption)); (try simp only [Int.reduceToNat, List.set_cons_zero, List.set_cons_succ]))
  | with_reducible refine st_intI ?_ | with_reducible refine st_abs ?_
  | ((with_reducible refine' st_popAt ?hq ?hk ?hy ?_); (case hq => walk_at "hp"); (case hk => exact seq0); (case hy => rfl))
  | ((with_reducible refine' and_left ?ht ?_); (case ht => walk_at "ty"))
  | with_reducible refine st_lc ?_ | with_reducible refine st_for ?_ | with_reducible refine st_iL ?_ | with_reducible refine st_iT ?_ | with_reducible refine st_iR1 ?_ | with_reducible refine st_iR2 ?_ | with_reducible refine st_iZ ?_
  | ((with_reducible refine' st_refL ?hq ?_); (case hq => walk_at "sqL")) | ((with_reducible refine' st_refT ?hq ?_); (case hq => walk_at "sqT"))
  | ((with_reducible refine' st_rng1 ?hq ?_); (case hq => walk_at "side")) | ((with_reducible refine' st_rng2 ?hq ?_); (case hq => walk_at "side"))
  | ((with_reducible refine' st_zip ?hq ?hr ?_); (case hq => walk_at "sqb"); (case hr => walk_at "sqb"))
  | ((with_reducible refine' st_size ?hw ?_); (case hw => walk_at "line"))
  | ((with_reducible refine' st_sum ?hq ?_); (case hq => walk_at "sqL"))
  | with_reducible refine st_two ?_ | with_reducible refine st_yes ?_ | ((with_reducible refine' st_wipe ?hw ?_); (case hw => rfl))
  | ((with_reducible refine' st_slL ?hq ?_); (case hq => walk_at "sqL"))
  | ((with_reducible refine' st_cat ?hq ?hr ?hl ?_); (case hq => walk_at "hp"); (case hr => walk_at "hp"); (case hl => walk_at "line"))
  | ((with_reducible refine' st_isi ?hk ?he ?_); (case hk => walk_at "kd"); (case he => walk_at "kit"))
  | ((with_reducible refine' st_ins ?hq ?hc ?hn ?hl ?_); (case hq => walk_at "hp"); (case hc => with_reducible assumption); (case hn => with_reducible assumption); (case hl => walk_at "flen"); walk_at "puts")
  | ((with_reducible refine' st_att ?hq ?hc ?hn ?hl ?_); (case hq => walk_at "hp"); (case hc => with_reducible assumption); (case hn => with_reducible assumption); (case hl => walk_at "lk"))
  | ((with_reducible refine' st_mt ?hq ?hl ?_); (case hq => walk_at "hp"); (case hl => walk_at "lk"))
  | ((with_reducible refine' st_extend ?hq ?hr ?hl ?_); (case hq => walk_at "hp"); (case hr => walk_at "hp"); (case hl => walk_at "line"))
  | with_reducible refine st_next ?_ | with_reducible refine st_retN ?_ | (with_reducible refine iteNT ?_) | (with_reducible refine iteNF ?_) | (with_reducible refine iteT ?_) | (with_reducible refine iteF ?_))
local macro_rules | `(tactic| walk_at "side") => `(tactic| first | omega | decide | assumption | exact ⟨by omega, by omega⟩ | exact Or.inr ⟨by omega, by omega⟩ | exact Or.inl ⟨by omega, by omega⟩ | (simp only [List.length_map, List.length_cons, List.length_nil, List.length_append] at *; omega))
local macro_rules | `(tactic| walk_at "hp") => `(tactic| first | assumption | exact upd_same | refine upd_old (by assumption) (by walk_at "hp") | (rw [upd_ne (by first | assumption | exact Ne.symm (by assumption))]; walk_at "hp"))
local macro_rules | `(tactic| walk_at "sqL") => `(tactic| first | assumption | exact SqL.of (by walk_at "hp"))
local macro_rules | `(tactic| walk_at "sqT") => `(tactic| first | assumption | exact SqT.of (by walk_at "hp"))
local macro_rules | `(tactic| walk_at "sqb") => `(tactic| (unfold SqB; first | ((with_reducible change SqL _ _ _ _); walk_at "sqL") | ((with_reducible change SqT _ _ _ _); walk_at "sqT")))
local macro_rules | `(tactic| walk_at "line") => `(tactic| first | assumption | decide | (apply line_of; walk_at "side") | (apply line_lt; walk_at "side"))
local macro_rules | `(tactic| walk_at "ty") => `(tactic| ((with_reducible refine' ty_lst ?hq); (case hq => walk_at "hp")))
local macro_rules | `(tactic| walk_at "at") => `(tactic| with_reducible first | assumption | exact at0 | exact at1 | exact at2 | exact at3 | exact at4 | exact at5 | exact at6 | exact at7 | exact at8)
local macro_rules | `(tactic| walk_at "st") => `(tactic| (repeat walk_at "st1"))
local macro_rules | `(tactic| walk_at "lk") => `(tactic| first | with_reducible assumption | rfl)
local macro_rules | `(tactic| walk_at "kd") => `(tactic| first | exact .base (.int _) | exact .base .non | exact .base (.bl _) | exact .base (.str _) | exact .base (.tup (by walk_at "hp")) | exact .base (.lst (by walk_at "hp")) | exact .base (.dK (by walk_at "hp")) | exact .base (.dT (by walk_at "hp")))
local macro_rules | `(tactic| walk_at "kit") => `(tactic| with_reducible first
  | exact kit_NoneType_bool
  | exact kit_NoneType_int
  | exact kit_NoneType_str
  | exact kit_NoneType_tuple
  | exact kit_NoneType_list
  | exact kit_NoneType_dict
  | exact kit_bool_bool
  | exact kit_bool_int
  | exact kit_bool_str
  | exact kit_bool_tuple
  | exact kit_bool_list
  | exact kit_bool_dict
  | exact kit_int_bool
  | exact kit_int_int
  | exact kit_int_str
  | exact kit_int_tuple
  | exact kit_int_list
  | exact kit_int_dict
  | exact kit_str_bool
  | exact kit_str_int
  | exact kit_str_str
  | exact kit_str_tuple
  | exact kit_str_list
  | exact kit_str_dict
  | exact kit_tuple_bool
  | exact kit_tuple_int
  | exact kit_tuple_str
  | exact kit_tuple_tuple
  | exact kit_tuple_list
  | exact kit_tuple_dict
  | exact kit_list_bool
  | exact kit_list_int
  | exact kit_list_str
  | exact kit_list_tuple
  | exact kit_list_list
  | exact kit_list_dict
  | exact kit_dict_bool
  | exact kit_dict_int
  | exact kit_dict_str
  | exact kit_dict_tuple
  | exact kit_dict_list
  | exact kit_dict_dict)
local macro_rules | `(tactic| walk_at "flen") => `(tactic| decide)
local macro_rules | `(tactic| walk_at "puts") => `(tactic| skip)

def top (i : Nat) : Stmt := PySem.Challenge.pw_oneplainrun_k42_whole_spoilt_disks_are_s.main.body.getD i (.Pass ⟨0, 0, 0, 0⟩)
/-- where the classes stand -/
structure Ads where
  Disk : Addr
  Store : Addr
  Exchange : Addr
  RunError : Addr
  Spoilt : Addr
structure Txt (K : PySem.W.Frag) (mg : Str → Option Value) (Z : Ads) : Prop where
  g_Exchange : GlV mg "Exchange" (.ref Z.Exchange)
  g_LOST : GlV mg "LOST" (.int 0)
  g_WHOLE : GlV mg "WHOLE" (.int 2)
  g_SEAL : GlV mg "SEAL" (.str "seal")
  cl : Cls K Z.Disk
  aL : NoAttr K Z.Disk "lying"
  aP : NoAttr K Z.Disk "pending"
  aS : NoAttr K Z.Disk "spoils"
  clS : Cls K Z.Store
  aD : NoAttr K Z.Store "disk"
  n_len : mg "len" = none
  n_int : mg "int" = none
  n_bool : mg "bool" = none
  n_str : mg "str" = none
  n_tuple : mg "tuple" = none
  n_list : mg "list" = none
  n_isinstance : mg "isinstance" = none
  n_all : mg "all" = none
  n_abs : mg "abs" = none
  n_sum : mg "sum" = none
  n_range : mg "range" = none
  n_zip : mg "zip" = none
  n_enumerate : mg "enumerate" = none
  n_ValueError : mg "ValueError" = none
  vV : PySem.W.findCls K (.type "ValueError") (.type "type") "__init__" = some (.val (.builtin "ValueError.__init__"))
  g_RunError : GlV mg "RunError" (.ref Z.RunError)
  g_Spoilt : GlV mg "Spoilt" (.ref Z.Spoilt)
section
variable {Z : Ads} {P : Program} {w : World} {K : PySem.W.Frag} {mg : Str → Option Value} {base : Heap}
/-! ### kinds of values -/
def spIsInteger (K : PySem.W.Frag) : Sp := fun vs H Q _ => ∃ (i : Int), vs = [.int i] ∧ Q (.bl true) H
abbrev s_is_integer : Stmt := top 5
theorem sc_is_integer : FnScope ["thing"] ["thing"] (defScope s_is_integer) := ⟨rfl, rfl, rfl, by decide +kernel, rfl, by decide +kernel, by decide +kernel⟩
theorem ok_is_integer {f : Addr} {fd : FuncData} (F : Fun K "is_integer" "is_integer" s_is_integer f fd) (T : Txt K mg Z) : FnOk P w K mg base (L2.CX P w) 1 f fd ["thing"] (spIsInteger K) := by
  refine okN F sc_is_integer (fun vs H Q E h => ?_) (fun cdv A outer s H vs Q E hr h => ?_)
  · obtain ⟨i, rfl, _⟩ := h
    rfl
  · obtain ⟨i, rfl, k⟩ := h
    refine ⟨_, [some _], rfl, (pss_one (ps_ret (pe_and (pe_callB (kIsi (K := K)) (by rfl) T.n_isinstance (by decide +kernel) (pa_cons (pv 0) (pa_cons (pe_ty "int" (by rfl) T.n_int (by decide +kernel)) pa_nil))) (pe_one (pe_not (pe_callB (kIsi (K := K)) (by rfl) T.n_isinstance (by decide +kernel) (pa_cons (pv 0) (pa_cons (pe_ty "bool" (by rfl) T.n_bool (by decide +kernel)) pa_nil)))))))), ?_⟩
    walk_at "st"
    exact k
/-- what the law draws from: its own list at p, the great ones at g, the small ones at s -/
structure Pot (H : Hp) (p g s : Addr) : Prop where
  ok : ∃ (gs ss : List Int) (t c : Int), H p = some (.lst [.ref g, .ref s, .int t, .int c]) ∧ H g = some (.lst (gs.map V.int)) ∧ H s = some (.lst (ss.map V.int)) ∧ 0 < ss.length
  pg : p ≠ g
  ps : p ≠ s
  gs : g ≠ s
theorem Pot.keep {H H' : Hp} {p g s : Addr} {ms : List Addr} (h : Pot H p g s) (f : Fr ms H H') (hp : p ∉ ms := by simp) (hg : g ∉ ms := by simp) (hs : s ∉ ms := by simp) : Pot H' p g s := by
  obtain ⟨⟨gs, ss, t, c, h1, h2, h3, h4⟩, a, b, d⟩ := h
  exact ⟨⟨gs, ss, t, c, f.keep _ _ hp h1, f.keep _ _ hg h2, f.keep _ _ hs h3, h4⟩, a, b, d⟩
theorem Pot.ne {H : Hp} {p g s D : Addr} (h : Pot H p g s) (hn : H D = none) : D ≠ p ∧ D ≠ g ∧ D ≠ s := by
  obtain ⟨⟨gs, ss, t, c, h1, h2, h3, h4⟩, _, _, _⟩ := h
  exact ⟨(ne_of_none h1 hn).symm, (ne_of_none h2 hn).symm, (ne_of_none h3 hn).symm⟩
theorem Pot.up {H : Hp} {p g s D : Addr} {o : HO} (h : Pot H p g s) (hn : H D = none) : Pot (upd H D o) p g s := h.keep (ms := []) (Fr.up hn)
theorem Pot.wr {H : Hp} {p g s D : Addr} {o : HO} {xs : List V} (h : Pot H p g s) (hD : H D = some (.lst xs)) (n : D ≠ p ∧ D ≠ g ∧ D ≠ s) : Pot (upd H D o) p g s :=
  h.keep (ms := [D]) ((Fr.refl H).wl hD (.inl (by simp))) (by simpa using n.1.symm) (by simpa using n.2.1.symm) (by simpa using n.2.2.symm)
def spDraw : Sp := fun vs H Q _ => ∃ (p g s : Addr) (many : Int), vs = [.ref p, .int many] ∧ Pot H p g s ∧ 0 < many ∧ many < 1000000 ∧ ∀ H' n, 0 ≤ n → n < many → Pot H' p g s → Fr [p, g] H H' → Q (.int n) H'
abbrev s_law_draw : Stmt := top 74
theorem sc_law_draw : FnScope ["pot", "many", "turn", "number", "place", "seed"] ["pot", "many"] (defScope s_law_draw) := ⟨rfl, rfl, rfl, by decide +kernel, rfl, by decide +kernel, by decide +kernel⟩
theorem cut1 (x : V) (xs : List V) : (x :: xs).eraseIdx 0 = xs := rfl
theorem ok_law_draw {f : Addr} {fd : FuncData} (F : Fun K "_law_draw" "_law_draw" s_law_draw f fd) (T : Txt K mg Z) : FnOk P w K mg base (L2.CX P w) 1 f fd ["pot", "many"] spDraw := by
  refine okN F sc_law_draw (fun vs H Q E h => ?_) (fun cdv A outer s0 H vs Q E hr h => ?_)
  · obtain ⟨p, g, s, many, rfl, _⟩ := h
    rfl
  · obtain ⟨p, g, s, many, rfl, ⟨⟨gs, ss, t, c, hp, hg, hs, hss⟩, pg, ps, gs'⟩, m0, m1, k⟩ := h
    refine ⟨_, [some _, some _, none, none, none, none], rfl, (pss_cons (ps_set (i := 2) sc_law_draw.nd rfl (by first | exact Or.inl rfl | exact Or.inr rfl) (pe_ix (kIxL (K := K)) (pv 0) pe_int (fun _ _ => rfl)))
      (pss_cons (ps_asg (pe_op op_add (pv 2) pe_int) (pg_sub (pv 0) pe_int set_list))
      (pss_cons (ps_if (pt_cmpR op_gt (pe_callB (kLen (K := K)) (by rfl) T.n_len (by decide +kernel) (pa_cons (pe_ix (kIxL (K := K)) (pv 0) pe_int (fun _ _ => rfl)) pa_nil)) pe_int (by first | exact nomark _ | rfl)) (pss_cons (ps_set (i := 3) sc_law_draw.nd rfl (by first | exact Or.inl rfl | exact Or.inr rfl) (pe_ix (kIxL (K := K)) (pe_ix (kIxL (K := K)) (pv 0) pe_int (fun _ _ => rfl)) pe_int (fun _ _ => rfl)))
      (pss_cons (ps_asg (pe_op op_fdiv (pv 3) (pv 1)) (pg_sub (pe_ix (kIxL (K := K)) (pv 0) pe_int (fun _ _ => rfl)) pe_int set_list))
      (pss_cons (ps_if (pt_cmpR op_lt (pv 3) (pv 1) (by first | exact nomark _ | rfl)) (pss_one (ps_expr (kBm (K := K) PySem.F.plainAttrs_list PySem.F.slot_list_pop PySem.F.type_list_pop mt_popAt (pe_ix (kIxL (K := K)) (pv 0) pe_int (fun _ _ => rfl)) (pa_cons pe_int pa_nil)))) pss_nil)
      (pss_one (ps_ret (pe_op op_mod (pe_callTy kInt (by rfl) T.n_int (by decide +kernel) (pa_cons (pv 3) pa_nil)) (pv 1))))))) pss_nil)
      (pss_cons (ps_set (i := 4) sc_law_draw.nd rfl (by first | exact Or.inl rfl | exact Or.inr rfl) (pe_op op_mod (pe_callTy kInt (by rfl) T.n_int (by decide +kernel) (pa_cons (pv 2) pa_nil)) (pe_callB (kLen (K := K)) (by rfl) T.n_len (by decide +kernel) (pa_cons (pe_ix (kIxL (K := K)) (pv 0) pe_int (fun _ _ => rfl)) pa_nil))))
      (pss_cons (ps_set (i := 5) sc_law_draw.nd rfl (by first | exact Or.inl rfl | exact Or.inr rfl) (pe_op op_add (pe_op op_add (pe_op op_mul (pe_ix (kIxL (K := K)) (pe_ix (kIxL (K := K)) (pv 0) pe_int (fun _ _ => rfl)) (pv 4) (fun _ _ => rfl)) pe_int) (pe_op op_mul pe_int (pv 2))) (pe_op op_mul (pe_ix (kIxL (K := K)) (pv 0) pe_int (fun _ _ => rfl)) pe_int)))
      (pss_cons (ps_set (i := 3) sc_law_draw.nd rfl (by first | exact Or.inl rfl | exact Or.inr rfl) (pe_op op_mod (pe_callTy kInt (by rfl) T.n_int (by decide +kernel) (pa_cons (pe_op op_add (pe_op op_mul (pv 5) pe_int) pe_int) pa_nil)) pe_int))
      (pss_cons (ps_set (i := 3) sc_law_draw.nd rfl (by first | exact Or.inl rfl | exact Or.inr rfl) (pe_op op_mod (pe_callTy kInt (by rfl) T.n_int (by decide +kernel) (pa_cons (pe_op op_mul (pv 3) (pe_op op_add (pe_op op_fdiv (pv 3) pe_int) pe_int)) pa_nil)) pe_int))
      (pss_cons (ps_set (i := 3) sc_law_draw.nd rfl (by first | exact Or.inl rfl | exact Or.inr rfl) (pe_op op_mod (pe_callTy kInt (by rfl) T.n_int (by decide +kernel) (pa_cons (pe_op op_add (pe_op op_mul (pv 3) (pe_op op_add (pe_op op_fdiv (pv 3) pe_int) pe_int)) (pv 2)) pa_nil)) pe_int))
      (pss_one (ps_ret (pe_op op_mod (pe_callTy kInt (by rfl) T.n_int (by decide +kernel) (pa_cons (pe_op op_fdiv (pv 3) pe_int) pa_nil)) (pv 1)))))))))))), ?_⟩
    walk_at "st"
    have f1 : Fr [p, g] H (upd H p (.lst [.ref g, .ref s, .int (t + 1), .int c])) := (Fr.refl H).wl hp (.inl (by simp))
    refine iteD (fun h0 => ?_) (fun h0 => ?_)
    · obtain ⟨n0, gs, rfl⟩ : ∃ n r, gs = n :: r := by
        cases gs with
        | nil => exact absurd h0 (by simp)
        | cons n r => exact ⟨n, r, rfl⟩
      rw [List.map_cons] at hg
      walk_at "st"
      have hm : ∀ n : Int, 0 ≤ n % many ∧ n % many < many := fun n => ⟨Int.emod_nonneg _ (by omega), Int.emod_lt_of_pos _ m0⟩
      refine iteD (fun h1 => ?_) (fun h1 => ?_)
      · walk_at "st"
        refine k _ _ (hm _).1 (hm _).2 ⟨⟨gs, ss, t + 1, c, ?_, ?_, ?_, hss⟩, pg, ps, gs'⟩ ?_
        · walk_at "hp"
        · walk_at "hp"
        · walk_at "hp"
        · exact (f1.wl (p := g) (by walk_at "hp") (.inl (by simp))).wl (p := g) (by walk_at "hp") (.inl (by simp))
      · walk_at "st"
        refine k _ _ (hm _).1 (hm _).2 ⟨⟨n0 / many :: gs, ss, t + 1, c, ?_, ?_, ?_, hss⟩, pg, ps, gs'⟩ ?_
        · walk_at "hp"
        · walk_at "hp"
        · walk_at "hp"
        · exact f1.wl (p := g) (by walk_at "hp") (.inl (by simp))
    · have hm : ∀ n : Int, 0 ≤ n % many ∧ n % many < many := fun n => ⟨Int.emod_nonneg _ (by omega), Int.emod_lt_of_pos _ m0⟩
      obtain ⟨j, hj, ej, hat⟩ := at_mod (xs := ss.map V.int) t (by simpa using hss)
      have hat : atI (ss.map V.int) (t % ((ss.map V.int).length : Int)) = some (.int (ss.getD j 0)) := by
        rw [hat]
        rw [List.length_map] at hj
        simp [hj]
      walk_at "st"
      exact k _ _ (hm _).1 (hm _).2 ⟨⟨gs, ss, t + 1, c, upd_same, (by walk_at "hp"), (by walk_at "hp"), hss⟩, pg, ps, gs'⟩ f1
def spPot (K : PySem.W.Frag) : Sp := fun vs H Q _ => ∃ (a : Addr) (ns : List Int), vs = [.ref a] ∧ SqL K H a (ns.map V.int) ∧ ns.length ≤ 63 ∧ ∀ H' p g s, Pot H' p g s → Fr [] H H' → H p = none → H g = none → H s = none → Q (.ref p) H'
abbrev s_law_pot : Stmt := top 73
theorem sc_law_pot : FnScope ["script", "cells", "greats", "smalls", "item"] ["script"] (defScope s_law_pot) := ⟨rfl, rfl, rfl, by decide +kernel, rfl, by decide +kernel, by decide +kernel⟩
theorem ok_law_pot {f : Addr} {fd : FuncData} (F : Fun K "_law_pot" "_law_pot" s_law_pot f fd) (T : Txt K mg Z) : FnOk P w K mg base (L2.CX P w) 1 f fd ["script"] (spPot K) := by
  refine okN F sc_law_pot (fun vs H Q E h => ?_) (fun cdv A outer s0 H vs Q E hr h => ?_)
  · obtain ⟨a, ns, rfl, _⟩ := h
    rfl
  · obtain ⟨a, ns, rfl, hS, hlen, k⟩ := h
    refine ⟨_, [some _, none, none, none, none], rfl, (pss_cons (ps_setLc (i := 1) (own := [("item", 4)]) (g := (gName 4)) (tt := tYes) rfl sc_law_pot.nd rfl rfl (sw_true rfl rfl rfl (by decide +kernel)) (kPiL (K := K) (pe_slice (kSlL (K := K)) (pv 0) po_none (po_some pe_int))) (blkOk_by (N := ["script", "cells", "greats", "smalls", "item"]) (sc := defScope s_law_pot) (by decide +kernel)) (fun _ _ _ _ _ => (pg_name (i := 4) sc_law_pot.nd rfl (by first | exact Or.inl rfl | exact Or.inr rfl))) (fun _ _ _ _ _ => pts_nil) (fun _ _ _ _ _ => (pe_callTy kInt (by rfl) T.n_int (by decide +kernel) (pa_cons (pv 4) pa_nil))))
      (pss_cons (ps_setLc (i := 2) (own := [("item", 4)]) (g := (gName 4)) (tt := _) rfl sc_law_pot.nd rfl rfl (sw_true rfl rfl rfl (by decide +kernel)) (kPiL (K := K) (pv 1)) (blkOk_by (N := ["script", "cells", "greats", "smalls", "item"]) (sc := defScope s_law_pot) (by decide +kernel)) (fun _ _ _ _ _ => (pg_name (i := 4) sc_law_pot.nd rfl (by first | exact Or.inl rfl | exact Or.inr rfl))) (fun _ _ _ _ _ => (pts_one (pt_cmpR op_ge (pe_callB kAbs (by rfl) T.n_abs (by decide +kernel) (pa_cons (pv 4) pa_nil)) (pe_op op_pow pe_int pe_int) (by first | exact nomark _ | rfl)))) (fun _ _ _ _ _ => (pe_callB kAbs (by rfl) T.n_abs (by decide +kernel) (pa_cons (pv 4) pa_nil))))
      (pss_cons (ps_set (i := 3) sc_law_pot.nd rfl (by first | exact Or.inl rfl | exact Or.inr rfl) (pe_op op_cat (pe_lc (own := [("item", 4)]) (g := (gName 4)) (tt := _) rfl sc_law_pot.nd (kPiL (K := K) (pv 1)) (blkOk_by (N := ["script", "cells", "greats", "smalls", "item"]) (sc := defScope s_law_pot) (by decide +kernel)) (fun _ _ _ _ _ => (pg_name (i := 4) sc_law_pot.nd rfl (by first | exact Or.inl rfl | exact Or.inr rfl))) (fun _ _ _ _ _ => (pts_one (pt_cmpR op_lt (pe_callB kAbs (by rfl) T.n_abs (by decide +kernel) (pa_cons (pv 4) pa_nil)) (pe_op op_pow pe_int pe_int) (by first | exact nomark _ | rfl)))) (fun _ _ _ _ _ => (pe_op op_mod (pe_callTy kInt (by rfl) T.n_int (by decide +kernel) (pa_cons (pv 4) pa_nil)) pe_int))) (pe_lst (pa_cons (pe_op op_add (pe_callB (kLen (K := K)) (by rfl) T.n_len (by decide +kernel) (pa_cons (pv 1) pa_nil)) pe_int) pa_nil))))
      (pss_one (ps_ret (pe_lst (pa_cons (pv 2) (pa_cons (pv 3) (pa_cons pe_int (pa_cons (pe_op op_mod (pe_callTy kInt (by rfl) T.n_int (by decide +kernel) (pa_cons (pe_callB (kSum (K := K)) (by rfl) T.n_sum (by decide +kernel) (pa_cons (pv 3) pa_nil)) pa_nil)) pe_int) pa_nil)))))))))), ?_⟩
    walk_at "st"
    intro p1 hp1
    walk_at "st"
    intro D1 hD1
    have ecut : cutV (ns.map V.int) none (some 63) = ns.map V.int := by
      have e := cut_take (ns.map V.int) 63
      rw [List.take_of_length_le (by simpa using hlen)] at e
      exact e
    rw [ecut] at hD1 ⊢
    refine lc_ints some (walk_list (xs := ns.map V.int)) (fun o => SqL.of (by walk_at "hp")) (line_lt (by omega)) (fun n acc hn hacc Nx hN => ?_) ?_
    · walk_at "st"
      exact ⟨acc, upd_same, hacc, by rw [upd_upd]; exact hN⟩
    rw [List.filterMap_some]
    walk_at "st"
    intro D2 hD2
    refine lc_ints (fun n => if (10 : Int) ^ (18 : Int).toNat ≤ (if n < 0 then -n else n) then some (if n < 0 then -n else n) else none) (walk_list (xs := ns.map V.int)) (fun o => SqL.of (by walk_at "hp")) (line_lt (by omega)) (fun n acc hn hacc Nx hN => ?_) ?_
    · walk_at "st"
      refine iteD (fun h => ?_) (fun h => ?_)
      · walk_at "st"
        rw [if_pos h] at hN
        exact ⟨acc, upd_same, hacc, by rw [upd_upd]; exact hN⟩
      · rw [if_neg h] at hN
        simpa using hN
    generalize List.filterMap _ ns = gs
    walk_at "st"
    intro D3 hD3
    refine lc_ints (fun n => if (if n < 0 then -n else n) < (10 : Int) ^ (18 : Int).toNat then some (n % 1000000007) else none) (walk_list (xs := ns.map V.int)) (fun o => SqL.of (by walk_at "hp")) (line_lt (by omega)) (fun n acc hn hacc Nx hN => ?_) ?_
    · walk_at "st"
      refine iteD (fun h => ?_) (fun h => ?_)
      · walk_at "st"
        rw [if_pos h] at hN
        exact ⟨acc, upd_same, hacc, by rw [upd_upd]; exact hN⟩
      · rw [if_neg h] at hN
        simpa using hN
    have hl3 := List.length_filterMap_le (fun n : Int => if (if n < 0 then -n else n) < (10 : Int) ^ (18 : Int).toNat then some (n % 1000000007) else none) ns
    generalize List.filterMap _ ns = ss at hl3 ⊢
    walk_at "st"
    intro p4 hp4
    walk_at "st"
    intro p5 hp5
    have ess : ss.map V.int ++ [V.int (((ns.map V.int).length : Int) + 1)] = (ss ++ [((ns.map V.int).length : Int) + 1]).map V.int := by rw [List.map_append]; rfl
    rw [ess]
    generalize ess2 : ss ++ [((ns.map V.int).length : Int) + 1] = ss2
    walk_at "st"
    intro p6 hp6
    walk_at "st"
    have F1 : Fr [] H _ := (Fr.refl H).new (o := .lst (ns.map V.int)) hp1
    have F2 := F1.new (o := .lst (ns.map V.int)) hD1
    have F3 := F2.new (o := .lst (gs.map V.int)) hD2
    have F4 := F3.new (o := .lst (ss.map V.int)) hD3
    have F5 := F4.new (o := .lst [V.int (((ns.map V.int).length : Int) + 1)]) hp4
    have F6 := F5.new (o := .lst (ss2.map V.int)) hp5
    have F7 := F6.new (o := .lst [V.ref D2, V.ref p5, V.int 0, V.int (ss2.sum % 999983)]) hp6
    refine k _ p6 D2 p5 ⟨⟨gs, ss2, 0, _, upd_same, (by walk_at "hp"), (by walk_at "hp"), ?_⟩, ?_, ?_, ?_⟩ F7 (F6.free hp6) (F2.free hD2) (F5.free hp5)
    · rw [← ess2]
      simp
    · exact (ne_of_none (b := p6) (show _ = some (HO.lst (gs.map V.int)) by walk_at "hp") hp6).symm
    · exact (ne_of_none (b := p6) (show _ = some (HO.lst (ss2.map V.int)) by walk_at "hp") hp6).symm
    · exact ne_of_none (b := p5) (show _ = some (HO.lst (gs.map V.int)) by walk_at "hp") hp5
end

end K42

namespace K42
open PySem PySem.Spec PyProof.Rows L2 Hq
local macro_rules | `(tactic| walk_at "st1") => `(tactic| first
  | with_reducible refine st_seq ?_ | with_reducible refine st_ret ?_ | with_reducible refine st_ifS ?_ | with_reducible refine st_asg ?_ | with_reducible refine st_drop ?_
  | ((with_reducible refine' st_var ?hv ?_); (case hv => rfl)) | with_reducible refine st_c ?_ | with_reducible refine st_op ?_ | with_reducible refine st_un ?_
  | with_reducible refine st_I0 ?_ | with_reducible refine st_U ?_ | ((with_reducible refine' st_I ?hc ?_); (case hc => walk_at "side"))
  | ((with_reducible refine' st_eq ?hs ?_); (case hs => rfl)) | ((with_reducible refine' st_ne ?hs ?_); (case hs => rfl))
  | with_reducible refine st_test ?_ | with_reducible refine st_B ?_ | with_reducible refine st_bl ?_ | with_reducible refine st_isN ?_ | with_reducible refine st_notN ?_
  | with_reducible refine st_chain ?_ | with_reducible refine st_and ?_ | with_reducible refine st_or ?_ | with_reducible refine st_not ?_
  | with_reducible refine st_andV ?_ | with_reducible refine st_orV ?_ | with_reducible refine st_notV ?_ | with_reducible refine st_if ?_
  | with_reducible refine st_CB ?_ | with_reducible refine st_cons ?_ | with_reducible refine st_nil ?_ | with_reducible refine st_fld ?_
  | ((with_reducible refine st_tup ?_)) | ((with_reducible refine st_lst ?_))
  | with_reducible refine st_call ?_ | with_reducible refine st_meth ?_ | with_reducible refine st_make ?_
  | with_reducible refine st_sl ?_ | with_reducible refine st_noPart ?_ | with_reducible refine st_part ?_ | with_reducible refine st_int ?_
  | ((with_reducible refine' st_ixL ?hq ?he ?_); (case hq => walk_at "sqL"); (case he => walk_at "at"))
  | ((with_reducible refine' st_ixT ?hq ?he ?_); (case hq => walk_at "sqT"); (case he => walk_at "at"))
  | with_reducible refine st_bm ?_ | with_reducible refine st_app ?_
  | ((with_reducible refine' st_append ?hq ?hl ?_); (case hq => walk_at "hp"); (case hl => walk_at "line"))
  | ((with_reducible refine' st_len (n := 0) ?hq ?_); (case hq => first | exact Or.inl (by walk_at "sqL") | exact Or.inr (by walk_at "sqT")))
  | ((with_reducible refine' st_listOf ?hq ?_); (case hq => first | exact Or.inl (by walk_at "sqL") | exact Or.inr (by walk_at "sqT")))
  | ((with_reducible refine st_name ?_); (try dsimp only [List.set_cons_zero, List.set_cons_succ])) | with_reducible refine st_par ?_
  | with_reducible refine st_gcons ?_ | with_reducible refine st_gnil ?_ | with_reducible refine st_gsub ?_ | with_reducible refine st_sFld ?_
  | ((with_reducible refine' st_gtup ?hq ?hl ?_); (case hq => walk_at "sqT"); (case hl => rfl))
  | ((with_reducible refine' st_setL ?hq ?hl ?_); (case hq => walk_at "hp"); (case hl => first | rfl | exact ix0 | exact ixN_nat (by assumption)); (try simp only [Int.reduceToNat, List.set_cons_zero, List.set_cons_succ]))
  | with_reducible refine st_intI ?_ | with_reducible refine st_abs ?_
  | ((with_reducible refine' st_popAt ?hq ?hk ?hy ?_); (case hq => walk_at "hp"); (case hk => exact seq0); (case hy => rfl))
  | ((with_reducible refine' and_left ?ht ?_); (case ht => walk_at "ty"))
  | with_reducible refine st_lc ?_ | with_reducible refine st_for ?_ | with_reducible refine st_iL ?_ | with_reducible refine st_iT ?_ | with_reducible refine st_iR1 ?_ | with_reducible refine st_iR2 ?_ | with_reducible refine st_iZ ?_
  | ((with_reducible refine' st_refL ?hq ?_); (case hq => walk_at "sqL")) | ((with_reducible refine' st_refT ?hq ?_); (case hq => walk_at "sqT"))
  | ((with_reducible refine' st_rng1 ?hq ?_); (case hq => walk_at "side")) | ((with_reducible refine' st_rng2 ?hq ?_); (case hq => walk_at "side"))
  | ((with_reducible refine' st_zip ?hq ?hr ?_); (case hq => walk_at "sqb"); (case hr => walk_at "sqb"))
  | ((with_reducible refine' st_size ?hw ?_); (case hw => walk_at "line"))
  | ((with_reducible refine' st_sum ?hq ?_); (case hq => walk_at "sqL"))
  | with_reducible refine st_two ?_ | with_reducible refine st_yes ?_ | ((with_reducible refine' st_wipe ?hw ?_); (case hw => rfl))
  | ((with_reducible refine' st_slL ?hq ?_); (case hq => walk_at "sqL"))
  | ((with_reducible refine' st_cat ?hq ?hr ?hl ?_); (case hq => walk_at "hp"); (case hr => walk_at "hp"); (case hl => walk_at "line"))
  | ((with_reducible refine' st_isi ?hk ?he ?_); (case hk => walk_at "kd"); (case he => walk_at "kit"))
  | ((with_reducible refine' st_ins ?hq ?hc ?hn ?hl ?_); (case hq => walk_at "hp"); (case hc => with_reducible assumption); (case hn => with_reducible assumption); (case hl => walk_at "flen"); walk_at "puts")
  | ((with_reducible refine' st_att ?hq ?hc ?hn ?hl ?_); (case hq => walk_at "hp"); (case hc => with_reducible assumption); (case hn => with_reducible assumption); (case hl => walk_at "lk"))
  | ((with_reducible refine' st_mt ?hq ?hl ?_); (case hq => walk_at "hp"); (case hl => walk_at "lk"))
  | ((with_reducible refine' st_extend ?hq ?hr ?hl ?_); (case hq => walk_at "hp"); (case hr => walk_at "hp"); (case hl => walk_at "line"))
  | with_reducible refine st_next ?_ | with_reducible refine st_retN ?_ | (with_reducible refine iteNT ?_) | (with_reducible refine iteNF ?_) | (with_reducible refine iteT ?_) | (with_reducible refine iteF ?_))
local macro_rules | `(tactic| walk_at "side") => `(tactic| first | omega | decide | assumption | exact ⟨by omega, by omega⟩ | exact Or.inr ⟨by omega, by omega⟩ | exact Or.inl ⟨by omega, by omega⟩ | (simp only [List.length_map, List.length_cons, List.length_nil, List.length_append] at *; omega))
local macro_rules | `(tactic| walk_at "hp") => `(tactic| first | assumption | exact upd_same | refine upd_old (by assumption) (by walk_at "hp") | (rw [upd_ne (by first | assumption | exact Ne.symm (by assumption))]; walk_at "hp"))
local macro_rules | `(tactic| walk_at "sqL") => `(tactic| first | assumption | exact SqL.of (by walk_at "hp"))
local macro_rules | `(tactic| walk_at "sqT") => `(tactic| first | assumption | exact SqT.of (by walk_at "hp"))
local macro_rules | `(tactic| walk_at "sqb") => `(tactic| (unfold SqB; first | ((with_reducible change SqL _ _ _ _); walk_at "sqL") | ((with_reducible change SqT _ _ _ _); walk_at "sqT")))
local macro_rules | `(tactic| walk_at "line") => `(tactic| first | assumption | decide | (apply line_of; walk_at "side") | (apply line_lt; walk_at "side"))
local macro_rules | `(tactic| walk_at "ty") => `(tactic| ((with_reducible refine' ty_lst ?hq); (case hq => walk_at "hp")))
local macro_rules | `(tactic| walk_at "at") => `(tactic| with_reducible first | assumption | exact at0 | exact at1 | exact at2 | exact at3 | exact at4 | exact at5 | exact at6 | exact at7 | exact at8)
local macro_rules | `(tactic| walk_at "st") => `(tactic| (repeat walk_at "st1"))
local macro_rules | `(tactic| walk_at "lk") => `(tactic| first | with_reducible assumption | rfl)
local macro_rules | `(tactic| walk_at "kd") => `(tactic| first | exact .base (.int _) | exact .base .non | exact .base (.bl _) | exact .base (.str _) | exact .base (.tup (by walk_at "hp")) | exact .base (.lst (by walk_at "hp")) | exact .base (.dK (by walk_at "hp")) | exact .base (.dT (by walk_at "hp")))
local macro_rules | `(tactic| walk_at "kit") => `(tactic| with_reducible first
  | exact kit_NoneType_bool
  | exact kit_NoneType_int
  | exact kit_NoneType_str
  | exact kit_NoneType_tuple
  | exact kit_NoneType_list
  | exact kit_NoneType_dict
  | exact kit_bool_bool
  | exact kit_bool_int
  | exact kit_bool_str
  | exact kit_bool_tuple
  | exact kit_bool_list
  | exact kit_bool_dict
  | exact kit_int_bool
  | exact kit_int_int
  | exact kit_int_str
  | exact kit_int_tuple
  | exact kit_int_list
  | exact kit_int_dict
  | exact kit_str_bool
  | exact kit_str_int
  | exact kit_str_str
  | exact kit_str_tuple
  | exact kit_str_list
  | exact kit_str_dict
  | exact kit_tuple_bool
  | exact kit_tuple_int
  | exact kit_tuple_str
  | exact kit_tuple_tuple
  | exact kit_tuple_list
  | exact kit_tuple_dict
  | exact kit_list_bool
  | exact kit_list_int
  | exact kit_list_str
  | exact kit_list_tuple
  | exact kit_list_list
  | exact kit_list_dict
  | exact kit_dict_bool
  | exact kit_dict_int
  | exact kit_dict_str
  | exact kit_dict_tuple
  | exact kit_dict_list
  | exact kit_dict_dict)
local macro_rules | `(tactic| walk_at "flen") => `(tactic| decide)
local macro_rules | `(tactic| walk_at "puts") => `(tactic| skip)

local macro_rules | `(tactic| walk_at "st1") => `(tactic| first
  | with_reducible refine st_dc ?_ | with_reducible refine st_dgetS ?_ | with_reducible refine st_dinS ?_ | with_reducible refine st_dninS ?_ | with_reducible refine st_dputS ?_ | with_reducible refine st_newT ?_ | with_reducible refine iteNN ?_ | with_reducible refine iteYN ?_
  | ((with_reducible refine' st_getT ?hq ?hk ?hv ?_); (case hq => walk_at "hp"); (case hk => walk_at "key"); (case hv => with_reducible assumption))
  | ((with_reducible refine' st_inT ?hq ?hk ?_); (case hq => walk_at "hp"); (case hk => walk_at "key"))
  | ((with_reducible refine' st_ninT ?hq ?hk ?_); (case hq => walk_at "hp"); (case hk => walk_at "key"))
  | ((with_reducible refine' st_putT ?hq ?hk ?hl ?_); (case hq => walk_at "hp"); (case hk => walk_at "key"); (case hl => walk_at "line"))
  | ((with_reducible refine' st_cputT ?hq ?hk ?hl ?_); (case hq => walk_at "hp"); (case hk => walk_at "key"); (case hl => walk_at "line"))
  | ((with_reducible refine' st_ixB ?hq ?he ?_); (case hq => first | assumption | exact Or.inl (by walk_at "sqL") | exact Or.inr (by walk_at "sqT")); (case he => walk_at "at")))
local macro_rules | `(tactic| walk_at "key") => `(tactic| with_reducible assumption)

section
variable {Z : Ads} {P : Program} {w : World} {K : PySem.W.Frag} {mg : Str → Option Value} {base : Heap}
def spAny : Sp := fun vs H Q _ => ∃ (p g s q : Addr) (xs : List V), vs = [.ref p, .ref q] ∧ Pot H p g s ∧ (H q = some (.tup xs) ∨ (H q = some (.lst xs) ∧ q ≠ p ∧ q ≠ g)) ∧ 0 < xs.length ∧ xs.length < 1000 ∧ ∀ H' x, x ∈ xs → Pot H' p g s → Fr [p, g] H H' → Q x H'
abbrev s_law_any : Stmt := top 75
theorem sc_law_any : FnScope ["pot", "items"] ["pot", "items"] (defScope s_law_any) := ⟨rfl, rfl, rfl, by decide +kernel, rfl, by decide +kernel, by decide +kernel⟩
theorem ok_law_any {f : Addr} {fd : FuncData} (F : Fun K "_law_any" "_law_any" s_law_any f fd) (T : Txt K mg Z) (D_law_draw : Dn P w K mg base "_law_draw" 1 ["pot", "many"] spDraw) : FnOk P w K mg base (L2.CX P w) 2 f fd ["pot", "items"] spAny := by
  refine okN F sc_law_any (fun vs H Q E h => ?_) (fun cdv A outer s0 H vs Q E hr h => ?_)
  · obtain ⟨p, g, s, q, xs, rfl, _⟩ := h
    rfl
  · obtain ⟨p, g, s, q, xs, rfl, hP, hq, h0, h1, k⟩ := h
    refine ⟨_, [some _, some _], rfl, (pss_one (ps_ret (pe_ix (kIxB (K := K)) (pv 1) (pe_d D_law_draw E0 (hr.mono (by first | decide | omega)) (by rfl) passL (pa_cons (pv 0) (pa_cons (pe_callB (kLen (K := K)) (by rfl) T.n_len (by decide +kernel) (pa_cons (pv 1) pa_nil)) pa_nil))) (fun _ _ => rfl)))), ?_⟩
    have hB : SqL K H q xs ∨ SqT K H q xs := by
      rcases hq with e | ⟨e, _, _⟩
      · exact .inr (SqT.of e)
      · exact .inl (SqL.of e)
    walk_at "st"
    refine st_len (n := 0) hB ?_
    walk_at "st"
    refine ⟨p, g, s, _, rfl, hP, by omega, by omega, fun H1 n n0 n1 hP1 fr => ?_⟩
    have hB1 : SqL K H1 q xs ∨ SqT K H1 q xs := by
      rcases hq with e | ⟨e, n1, n2⟩
      · exact .inr (SqT.of (fr.tup _ _ e))
      · exact .inl (SqL.of (fr.keep _ _ (by simpa using ⟨n1, n2⟩) e))
    obtain ⟨v, hv, hat⟩ := at_in n0 n1
    walk_at "st"
    exact k _ _ hv hP1 fr
/-! ### data -/
mutual
def wid : PyData → Bool
  | .tuple xs => decide (xs.length ≤ 1000) && widAll xs
  | _ => true
def widAll : List PyData → Bool
  | [] => true
  | x :: xs => wid x && widAll xs
end
structure Nice (n : Nat) (d : PyData) : Prop where
  lay : d.canLay0 = true
  dep : d.depth ≤ n
  wide : wid d = true
def KPart (d : PyData) : Prop := (∃ x, d = .str x ∧ PySem.PyData.strOk x = true) ∨ ∃ n, 0 ≤ n ∧ d = .int n
def UPart (d : PyData) : Prop := KPart d ∧ d ≠ .str "seal"
def UKey (d : PyData) : Prop := ∃ ds, d = .tuple ds ∧ 0 < ds.length ∧ ds.length ≤ 3 ∧ ∀ e ∈ ds, UPart e
def KeyD (d : PyData) : Prop := ∃ ds, d = .tuple ds ∧ 0 < ds.length ∧ ds.length ≤ 3 ∧ ∀ e ∈ ds, KPart e
def keyVals : List V := [.str "a", .str "item", .str "x y", .str "", .int 0, .int 1, .int 2, .int (10 ^ (12 : Int).toNat)]
theorem UKey.key {d : PyData} (h : UKey d) : KeyD d := by
  obtain ⟨ds, a, b, c, k⟩ := h
  exact ⟨ds, a, b, c, fun e he => (k e he).1⟩
theorem str_ne {x : Str} (h : ¬ x = "seal") : PyData.str x ≠ .str "seal" := fun e => h (by injection e)
theorem keyVal_td (H : Hp) {v : V} (h : v ∈ keyVals) : ∃ d, TD H v d ∧ UPart d := by
  simp only [keyVals, List.mem_cons, List.not_mem_nil, or_false] at h
  rcases h with rfl | rfl | rfl | rfl | rfl | rfl | rfl | rfl
  · exact ⟨_, .str _, .inl ⟨_, rfl, by decide +kernel⟩, str_ne (by decide +kernel)⟩
  · exact ⟨_, .str _, .inl ⟨_, rfl, by decide +kernel⟩, str_ne (by decide +kernel)⟩
  · exact ⟨_, .str _, .inl ⟨_, rfl, by decide +kernel⟩, str_ne (by decide +kernel)⟩
  · exact ⟨_, .str _, .inl ⟨_, rfl, by decide +kernel⟩, str_ne (by decide +kernel)⟩
  · exact ⟨_, .int _, .inr ⟨_, by decide, rfl⟩, fun z => nomatch z⟩
  · exact ⟨_, .int _, .inr ⟨_, by decide, rfl⟩, fun z => nomatch z⟩
  · exact ⟨_, .int _, .inr ⟨_, by decide, rfl⟩, fun z => nomatch z⟩
  · exact ⟨_, .int _, .inr ⟨_, by decide, rfl⟩, fun z => nomatch z⟩
theorem keyVals_td (H : Hp) : ∀ xs : List V, (∀ x ∈ xs, x ∈ keyVals) → ∃ ds, TDs H xs ds ∧ ∀ e ∈ ds, UPart e
  | [], _ => ⟨[], .nil, fun _ h => nomatch h⟩
  | x :: xs, h => by
    obtain ⟨d, a, b⟩ := keyVal_td H (h x (by simp))
    obtain ⟨ds, a2, b2⟩ := keyVals_td H xs fun y hy => h y (by simp [hy])
    refine ⟨d :: ds, .cons a a2, fun e he => ?_⟩
    rcases List.mem_cons.mp he with rfl | he
    · exact b
    · exact b2 e he
def spKey : Sp := fun vs H Q _ => ∃ (p g s : Addr), vs = [.ref p] ∧ Pot H p g s ∧ ∀ H' v d, TD H' v d → UKey d → Pot H' p g s → Fr [p, g] H H' → Q v H'
abbrev s_law_key : Stmt := top 77
theorem sc_law_key : FnScope ["pot", "parts", "turn"] ["pot"] (defScope s_law_key) := ⟨rfl, rfl, rfl, by decide +kernel, rfl, by decide +kernel, by decide +kernel⟩
theorem ok_law_key {f : Addr} {fd : FuncData} (F : Fun K "_law_key" "_law_key" s_law_key f fd) (T : Txt K mg Z) (D_law_draw : Dn P w K mg base "_law_draw" 1 ["pot", "many"] spDraw) (D_law_any : Dn P w K mg base "_law_any" 2 ["pot", "items"] spAny) : FnOk P w K mg base (L2.CX P w) 3 f fd ["pot"] spKey := by
  refine okN F sc_law_key (fun vs H Q E h => ?_) (fun cdv A outer s0 H vs Q E hr h => ?_)
  · obtain ⟨p, g, s, rfl, _⟩ := h
    rfl
  · obtain ⟨p, g, s, rfl, hP, k⟩ := h
    refine ⟨_, [some _, none, none], rfl, (pss_cons (ps_setLc (i := 1) (own := [("turn", 2)]) (g := (gName 2)) (tt := tYes) rfl sc_law_key.nd rfl rfl (sw_true rfl rfl rfl (by decide +kernel)) (pi_range1 (by rfl) T.n_range (pa_cons (pe_op op_add pe_int (pe_d D_law_draw E0 (hr.mono (by first | decide | omega)) (by rfl) passL (pa_cons (pv 0) (pa_cons pe_int pa_nil)))) pa_nil)) (blkOk_by (N := ["pot", "parts", "turn"]) (sc := defScope s_law_key) (by decide +kernel)) (fun _ _ _ _ _ => (pg_name (i := 2) sc_law_key.nd rfl (by first | exact Or.inl rfl | exact Or.inr rfl))) (fun _ _ _ _ _ => pts_nil) (fun _ _ _ _ _ => (pe_d D_law_any E0 (hr.mono (by first | decide | omega)) (by rfl) passL (pa_cons (pv 0) (pa_cons (pe_tup (pa_cons pe_str (pa_cons pe_str (pa_cons pe_str (pa_cons pe_str (pa_cons pe_int (pa_cons pe_int (pa_cons pe_int (pa_cons (pe_op op_pow pe_int pe_int) pa_nil))))))))) pa_nil)))))
      (pss_one (ps_ret (pe_callTy (kTupOf (K := K)) (by rfl) T.n_tuple (by decide +kernel) (pa_cons (pv 1) pa_nil))))), ?_⟩
    walk_at "st"
    refine ⟨p, g, s, _, rfl, hP, by omega, by omega, fun H1 n n0 n1 hP1 fr => ?_⟩
    walk_at "st"
    intro D hD
    have nD := hP1.ne hD
    have D0 : H D = none := fr.back (by simpa using ⟨nD.1, nD.2.1⟩) hD
    refine lc_it walk_range (fun i H' => ∃ acc, H' D = some (.lst acc) ∧ Fr [p, g] H H' ∧ Pot H' p g s ∧ acc.length = i ∧ ∀ x ∈ acc, x ∈ keyVals) ⟨[], upd_same, fr.new hD, hP1.up hD, rfl, fun _ h => nomatch h⟩ (fun _ _ _ _ => trivial) ?_ ?_
    · rintro i x H2 H3 hi ⟨acc, h1, h2, h3, h4, h5⟩ ⟨rfl, rfl⟩
      walk_at "st"
      intro q hq
      walk_at "st"
      refine ⟨p, g, s, q, keyVals, rfl, h3.up hq, .inl upd_same, by decide, by decide, fun H4 x hx hP4 f4 => ?_⟩
      have e4 : H4 D = some (.lst acc) := f4.keep D _ (by simpa using ⟨nD.1, nD.2.1⟩) (upd_old hq h1)
      refine ⟨acc, e4, line_lt (by omega), acc ++ [x], upd_same, ((h2.new hq).trans f4).wl e4 (.inr D0), hP4.wr e4 nD, by simp [h4], fun y hy => ?_⟩
      rcases List.mem_append.mp hy with hy | hy
      · exact h5 y hy
      · rw [List.mem_singleton.mp hy]; exact hx
    · rintro H2 ⟨acc, h1, h2, h3, h4, h5⟩
      walk_at "st"
      refine st_tupOf (SqL.of h1) fun q hq => ?_
      walk_at "st"
      obtain ⟨ds, a, b⟩ := keyVals_td (upd H2 q (.tup acc)) acc h5
      refine k _ _ _ (.tup upd_same a) ⟨ds, rfl, ?_, ?_, b⟩ (h3.up hq) (h2.new hq)
      · rw [← a.length]; omega
      · rw [← a.length]; omega
theorem nice_all {n : Nat} : ∀ ds : List PyData, (∀ d ∈ ds, Nice n d) → PyData.canLayAll0 ds = true ∧ PyData.depthAll ds ≤ n ∧ widAll ds = true
  | [], _ => ⟨rfl, Nat.zero_le _, rfl⟩
  | d :: ds, h => by
    obtain ⟨a, b, c⟩ := h d (by simp)
    obtain ⟨a2, b2, c2⟩ := nice_all ds fun e he => h e (by simp [he])
    simp only [PyData.canLayAll0, PyData.depthAll, widAll, a, a2, c, c2, Bool.and_self, true_and, and_true]
    omega
theorem nice_tup {n : Nat} {ds : List PyData} (h : ∀ d ∈ ds, Nice n d) (hl : ds.length ≤ 1000) : Nice (n + 1) (.tuple ds) := by
  obtain ⟨a, b, c⟩ := nice_all ds h
  refine ⟨?_, ?_, ?_⟩
  · simpa only [PyData.canLay0] using a
  · simp only [PyData.depth]
    omega
  · simp only [wid, c, decide_eq_true hl, Bool.and_self]
theorem nice_mem {n : Nat} : ∀ {ds : List PyData} {d : PyData}, PyData.canLayAll0 ds = true → PyData.depthAll ds ≤ n → widAll ds = true → d ∈ ds → Nice n d
  | e :: ds, d, h1, h2, h3, hm => by
    simp only [PyData.canLayAll0, Bool.and_eq_true] at h1
    simp only [PyData.depthAll] at h2
    simp only [widAll, Bool.and_eq_true] at h3
    rcases List.mem_cons.mp hm with rfl | hm
    · exact ⟨h1.1, by omega, h3.1⟩
    · exact nice_mem h1.2 (by omega) h3.2 hm
theorem Nice.mono {n m : Nat} {d : PyData} (h : Nice n d) (l : n ≤ m) : Nice m d := ⟨h.1, Nat.le_trans h.2 l, h.3⟩
theorem Nice.sub {n : Nat} {ds : List PyData} {d : PyData} (h : Nice n (.tuple ds)) (hm : d ∈ ds) : 0 < n ∧ Nice (n - 1) d ∧ ds.length ≤ 1000 := by
  obtain ⟨h1, h2, h3⟩ := h
  simp only [PyData.canLay0] at h1
  simp only [PyData.depth] at h2
  simp only [wid, Bool.and_eq_true, decide_eq_true_eq] at h3
  exact ⟨by omega, nice_mem h1 (by omega) h3.2 hm, h3.1⟩
theorem Nice.len {n : Nat} {ds : List PyData} (h : Nice n (.tuple ds)) : ds.length ≤ 1000 := by
  have h3 := h.3
  simp only [wid, Bool.and_eq_true, decide_eq_true_eq] at h3
  exact h3.1
def thingVals : List V := [.int 0, .int (-7), .str "word", .non, .bl true, .int (10 ^ (20 : Int).toNat)]
def otherVals : List V := [.str "", .str "two\nlines", .bl false]
theorem thing_td (H : Hp) {v : V} (h : v ∈ thingVals ++ otherVals) : ∃ d, TD H v d ∧ Nice 0 d := by
  simp only [thingVals, otherVals, List.cons_append, List.nil_append, List.mem_cons, List.not_mem_nil, or_false] at h
  rcases h with rfl | rfl | rfl | rfl | rfl | rfl | rfl | rfl | rfl
  · exact ⟨_, .int _, rfl, Nat.zero_le _, rfl⟩
  · exact ⟨_, .int _, rfl, Nat.zero_le _, rfl⟩
  · exact ⟨_, .str _, by decide +kernel, Nat.zero_le _, rfl⟩
  · exact ⟨_, .non, rfl, Nat.zero_le _, rfl⟩
  · exact ⟨_, .bl _, rfl, Nat.zero_le _, rfl⟩
  · exact ⟨_, .int _, rfl, Nat.zero_le _, rfl⟩
  · exact ⟨_, .str _, by decide +kernel, Nat.zero_le _, rfl⟩
  · exact ⟨_, .str _, by decide +kernel, Nat.zero_le _, rfl⟩
  · exact ⟨_, .bl _, rfl, Nat.zero_le _, rfl⟩
def spThing (n : Nat) : Sp := fun vs H Q _ => ∃ (p g s : Addr), vs = [.ref p, .int n] ∧ Pot H p g s ∧ ∀ H' v d, TD H' v d → Nice n d → Pot H' p g s → Fr [p, g] H H' → Q v H'
abbrev s_law_thing : Stmt := top 78
theorem sc_law_thing : FnScope ["pot", "deep", "kind", "turn"] ["pot", "deep"] (defScope s_law_thing) := ⟨rfl, rfl, rfl, by decide +kernel, rfl, by decide +kernel, by decide +kernel⟩
theorem step_law_thing {f : Addr} {fd : FuncData} (F : Fun K "_law_thing" "_law_thing" s_law_thing f fd) (T : Txt K mg Z) (D_law_draw : Dn P w K mg base "_law_draw" 1 ["pot", "many"] spDraw) (D_law_any : Dn P w K mg base "_law_any" 2 ["pot", "items"] spAny)
    (n : Nat) (D_law_thing : Dn P w K mg base "_law_thing" (2 + n) ["pot", "deep"] (fun vs H Q E => ∃ m, m < n ∧ spThing m vs H Q E)) : FnOk P w K mg base (L2.CX P w) (2 + n + 1) f fd ["pot", "deep"] (spThing n) := by
  refine okN F sc_law_thing (fun vs H Q E h => ?_) (fun cdv A outer s0 H vs Q E hr h => ?_)
  · obtain ⟨p, g, s, rfl, _⟩ := h
    rfl
  · obtain ⟨p, g, s, rfl, hP, k⟩ := h
    refine ⟨_, [some _, some _, none, none], rfl, (pss_cons (ps_set (i := 2) sc_law_thing.nd rfl (by first | exact Or.inl rfl | exact Or.inr rfl) (pe_d D_law_draw E0 (hr.mono (by first | decide | omega)) (by rfl) passL (pa_cons (pv 0) (pa_cons pe_int pa_nil))))
      (pss_cons (ps_if (PW.pt (pw_and (pt_cmpR op_gt (pv 2) pe_int (by first | exact nomark _ | rfl)) (pw_and1 (pt_cmpR op_gt (pv 1) pe_int (by first | exact nomark _ | rfl))))) (pss_one (ps_ret (pe_callTy (kTupOf (K := K)) (by rfl) T.n_tuple (by decide +kernel) (pa_cons (pe_lc (own := [("turn", 3)]) (g := (gName 3)) (tt := tYes) rfl sc_law_thing.nd (pi_range1 (by rfl) T.n_range (pa_cons (pe_d D_law_draw E0 (hr.mono (by first | decide | omega)) (by rfl) passL (pa_cons (pv 0) (pa_cons pe_int pa_nil))) pa_nil)) (blkOk_by (N := ["pot", "deep", "kind", "turn"]) (sc := defScope s_law_thing) (by decide +kernel)) (fun _ _ _ _ _ => (pg_name (i := 3) sc_law_thing.nd rfl (by first | exact Or.inl rfl | exact Or.inr rfl))) (fun _ _ _ _ _ => pts_nil) (fun _ _ _ _ _ => (pe_d D_law_thing E0 (hr.mono (by first | decide | omega)) (by rfl) passL (pa_cons (pv 0) (pa_cons (pe_op op_sub (pv 1) pe_int) pa_nil))))) pa_nil)))) pss_nil)
      (pss_one (ps_ret (pe_ifExp (pt_cmpR op_lt (pv 2) pe_int (by first | exact nomark _ | rfl)) (pe_ix (kIxT (K := K)) (pe_tup (pa_cons pe_int (pa_cons (pe_un un_neg pe_int) (pa_cons pe_str (pa_cons pe_non (pa_cons pe_bl (pa_cons (pe_op op_pow pe_int pe_int) pa_nil))))))) (pv 2) (fun _ _ => rfl)) (pe_d D_law_any E0 (hr.mono (by first | decide | omega)) (by rfl) passL (pa_cons (pv 0) (pa_cons (pe_tup (pa_cons pe_str (pa_cons pe_str (pa_cons pe_bl pa_nil)))) pa_nil)))))))), ?_⟩
    walk_at "st"
    refine ⟨p, g, s, _, rfl, hP, by omega, by omega, fun H1 kind k0 k1 hP1 f1 => ?_⟩
    walk_at "st"
    refine iteD (fun h5 => ?_) (fun h5 => ?_)
    · walk_at "st"
      refine iteD (fun hd => ?_) (fun hd => ?_)
      · walk_at "st"
        refine ⟨p, g, s, _, rfl, hP1, by omega, by omega, fun H2 many m0 m1 hP2 f2 => ?_⟩
        walk_at "st"
        intro D hD
        have f12 := f1.trans f2
        have nD := hP2.ne hD
        have D0 : H D = none := f12.back (by simpa using ⟨nD.1, nD.2.1⟩) hD
        obtain ⟨m, rfl⟩ : ∃ m, n = m + 1 := ⟨n - 1, by omega⟩
        refine lc_it walk_range (fun i H' => ∃ acc ds, H' D = some (.lst acc) ∧ Fr [p, g] H H' ∧ Pot H' p g s ∧ acc.length = i ∧ TDs H' acc ds ∧ ∀ d ∈ ds, Nice m d) ⟨[], [], upd_same, f12.new hD, hP2.up hD, rfl, .nil, fun _ h => nomatch h⟩ (fun _ _ _ _ => trivial) ?_ ?_
        · rintro i x H3 H4 hi ⟨acc, ds, h1, h2, h3, h4, hT, hN⟩ ⟨rfl, rfl⟩
          walk_at "st"
          refine ⟨m, Nat.lt_succ_self m, p, g, s, ?_, h3, fun H5 v d hv hd2 hP5 f5 => ?_⟩
          · have e : (((m + 1 : Nat) : Int) - 1) = (m : Int) := by omega
            rw [e]
            rfl
          have e5 : H5 D = some (.lst acc) := f5.keep D _ (by simpa using ⟨nD.1, nD.2.1⟩) h1
          have f6 : Fr [D] H5 (upd H5 D (.lst (acc ++ [v]))) := (Fr.refl H5).wl e5 (.inl (by simp))
          refine ⟨acc, e5, line_lt (by omega), acc ++ [v], ds ++ [d], upd_same, (h2.trans f5).wl e5 (.inr D0), hP5.wr e5 nD, by simp [h4], ?_, fun y hy => ?_⟩
          · exact TDs.mono f6.tup _ _ (TDs.snoc (TDs.mono f5.tup _ _ hT) hv)
          · rcases List.mem_append.mp hy with hy | hy
            · exact hN y hy
            · rw [List.mem_singleton.mp hy]; exact hd2
        · rintro H3 ⟨acc, ds, h1, h2, h3, h4, hT, hN⟩
          walk_at "st"
          refine st_tupOf (SqL.of h1) fun q hq => ?_
          exact k _ _ _ (.tup upd_same (TDs.mono (Fr.up (ms := []) hq).tup _ _ hT)) (nice_tup hN (by rw [← hT.length]; omega)) (h3.up hq) (h2.new hq)
      · walk_at "st"
        refine iteD (fun h6 => ?_) (fun h6 => ?_)
        · walk_at "st"
          intro q hq
          obtain ⟨v, hv, hat⟩ := at_in (xs := [V.int 0, V.int (-7), V.str "word", V.non, V.bl true, V.int (10 ^ (20 : Int).toNat)]) k0 (by show kind < 6; exact h6)
          walk_at "st"
          obtain ⟨d, a, b⟩ := thing_td _ (List.mem_append_left _ hv)
          exact k _ v d a (b.mono (Nat.zero_le _)) (hP1.up hq) (f1.new hq)
        · walk_at "st"
          intro q hq
          walk_at "st"
          refine ⟨p, g, s, q, otherVals, rfl, hP1.up hq, .inl upd_same, by decide, by decide, fun H2 v hv hP2 f2 => ?_⟩
          obtain ⟨d, a, b⟩ := thing_td H2 (List.mem_append_right _ hv)
          exact k _ v d a (b.mono (Nat.zero_le _)) hP2 ((f1.new hq).trans f2)
    · walk_at "st"
      refine iteD (fun h6 => ?_) (fun h6 => ?_)
      · walk_at "st"
        intro q hq
        obtain ⟨v, hv, hat⟩ := at_in (xs := [V.int 0, V.int (-7), V.str "word", V.non, V.bl true, V.int (10 ^ (20 : Int).toNat)]) k0 (by show kind < 6; exact h6)
        walk_at "st"
        obtain ⟨d, a, b⟩ := thing_td _ (List.mem_append_left _ hv)
        exact k _ v d a (b.mono (Nat.zero_le _)) (hP1.up hq) (f1.new hq)
      · walk_at "st"
        intro q hq
        walk_at "st"
        refine ⟨p, g, s, q, otherVals, rfl, hP1.up hq, .inl upd_same, by decide, by decide, fun H2 v hv hP2 f2 => ?_⟩
        obtain ⟨d, a, b⟩ := thing_td H2 (List.mem_append_right _ hv)
        exact k _ v d a (b.mono (Nat.zero_le _)) hP2 ((f1.new hq).trans f2)
end

end K42

namespace K42
open PySem PySem.Spec PyProof.Rows L2 Hq
local macro_rules | `(tactic| walk_at "st1") => `(tactic| first
  | with_reducible refine st_seq ?_ | with_reducible refine st_ret ?_ | with_reducible refine st_ifS ?_ | with_reducible refine st_asg ?_ | with_reducible refine st_drop ?_
  | ((with_reducible refine' st_var ?hv ?_); (case hv => rfl)) | with_reducible refine st_c ?_ | with_reducible refine st_op ?_ | with_reducible refine st_un ?_
  | with_reducible refine st_I0 ?_ | with_reducible refine st_U ?_ | ((with_reducible refine' st_I ?hc ?_); (case hc => walk_at "side"))
  | ((with_reducible refine' st_eq ?hs ?_); (case hs => rfl)) | ((with_reducible refine' st_ne ?hs ?_); (case hs => rfl))
  | with_reducible refine st_test ?_ | with_reducible refine st_B ?_ | with_reducible refine st_bl ?_ | with_reducible refine st_isN ?_ | with_reducible refine st_notN ?_
  | with_reducible refine st_chain ?_ | with_reducible refine st_and ?_ | with_reducible refine st_or ?_ | with_reducible refine st_not ?_
  | with_reducible refine st_andV ?_ | with_reducible refine st_orV ?_ | with_reducible refine st_notV ?_ | with_reducible refine st_if ?_
  | with_reducible refine st_CB ?_ | with_reducible refine st_cons ?_ | with_reducible refine st_nil ?_ | with_reducible refine st_fld ?_
  | ((with_reducible refine st_tup ?_)) | ((with_reducible refine st_lst ?_))
  | with_reducible refine st_call ?_ | with_reducible refine st_meth ?_ | with_reducible refine st_make ?_
  | with_reducible refine st_sl ?_ | with_reducible refine st_noPart ?_ | with_reducible refine st_part ?_ | with_reducible refine st_int ?_
  | ((with_reducible refine' st_ixL ?hq ?he ?_); (case hq => walk_at "sqL"); (case he => walk_at "at"))
  | ((with_reducible refine' st_ixT ?hq ?he ?_); (case hq => walk_at "sqT"); (case he => walk_at "at"))
  | with_reducible refine st_bm ?_ | with_reducible refine st_app ?_
  | ((with_reducible refine' st_append ?hq ?hl ?_); (case hq => walk_at "hp"); (case hl => walk_at "line"))
  | ((with_reducible refine' st_len (n := 0) ?hq ?_); (case hq => first | exact Or.inl (by walk_at "sqL") | exact Or.inr (by walk_at "sqT")))
  | ((with_reducible refine' st_listOf ?hq ?_); (case hq => first | exact Or.inl (by walk_at "sqL") | exact Or.inr (by walk_at "sqT")))
  | ((with_reducible refine st_name ?_); (try dsimp only [List.set_cons_zero, List.set_cons_succ])) | with_reducible refine st_par ?_
  | with_reducible refine st_gcons ?_ | with_reducible refine st_gnil ?_ | with_reducible refine st_gsub ?_ | with_reducible refine st_sFld ?_
  | ((with_reducible refine' st_gtup ?hq ?hl ?_); (case hq => walk_at "sqT"); (case hl => rfl))
  | ((with_reducible refine' st_setL ?hq ?hl ?_); (case hq => walk_at "hp"); (case hl => first | rfl | exact ix0 | exact ixN_nat (by assumption)); (try simp only [Int.reduceToNat, List.set_cons_zero, List.set_cons_succ]))
  | with_reducible refine st_intI ?_ | with_reducible refine st_abs ?_
  | ((with_reducible refine' st_popAt ?hq ?hk ?hy ?_); (case hq => walk_at "hp"); (case hk => exact seq0); (case hy => rfl))
  | ((with_reducible refine' and_left ?ht ?_); (case ht => walk_at "ty"))
  | with_reducible refine st_lc ?_ | with_reducible refine st_for ?_ | with_reducible refine st_iL ?_ | with_reducible refine st_iT ?_ | with_reducible refine st_iR1 ?_ | with_reducible refine st_iR2 ?_ | with_reducible refine st_iZ ?_
  | ((with_reducible refine' st_refL ?hq ?_); (case hq => walk_at "sqL")) | ((with_reducible refine' st_refT ?hq ?_); (case hq => walk_at "sqT"))
  | ((with_reducible refine' st_rng1 ?hq ?_); (case hq => walk_at "side")) | ((with_reducible refine' st_rng2 ?hq ?_); (case hq => walk_at "side"))
  | ((with_reducible refine' st_zip ?hq ?hr ?_); (case hq => walk_at "sqb"); (case hr => walk_at "sqb"))
  | ((with_reducible refine' st_size ?hw ?_); (case hw => walk_at "line"))
  | ((with_reducible refine' st_sum ?hq ?_); (case hq => walk_at "sqL"))
  | with_reducible refine st_two ?_ | with_reducible refine st_yes ?_ | ((with_reducible refine' st_wipe ?hw ?_); (case hw => rfl))
  | ((with_reducible refine' st_slL ?hq ?_); (case hq => walk_at "sqL"))
  | ((with_reducible refine' st_cat ?hq ?hr ?hl ?_); (case hq => walk_at "hp"); (case hr => walk_at "hp"); (case hl => walk_at "line"))
  | ((with_reducible refine' st_isi ?hk ?he ?_); (case hk => walk_at "kd"); (case he => walk_at "kit"))
  | ((with_reducible refine' st_ins ?hq ?hc ?hn ?hl ?_); (case hq => walk_at "hp"); (case hc => with_reducible assumption); (case hn => with_reducible assumption); (case hl => walk_at "flen"); walk_at "puts")
  | ((with_reducible refine' st_att ?hq ?hc ?hn ?hl ?_); (case hq => walk_at "hp"); (case hc => with_reducible assumption); (case hn => with_reducible assumption); (case hl => walk_at "lk"))
  | ((with_reducible refine' st_mt ?hq ?hl ?_); (case hq => walk_at "hp"); (case hl => walk_at "lk"))
  | ((with_reducible refine' st_extend ?hq ?hr ?hl ?_); (case hq => walk_at "hp"); (case hr => walk_at "hp"); (case hl => walk_at "line"))
  | with_reducible refine st_next ?_ | with_reducible refine st_retN ?_ | (with_reducible refine iteNT ?_) | (with_reducible refine iteNF ?_) | (with_reducible refine iteT ?_) | (with_reducible refine iteF ?_))
local macro_rules | `(tactic| walk_at "side") => `(tactic| first | omega | decide | assumption | exact ⟨by omega, by omega⟩ | exact Or.inr ⟨by omega, by omega⟩ | exact Or.inl ⟨by omega, by omega⟩ | (simp only [List.length_map, List.length_cons, List.length_nil, List.length_append] at *; omega))
local macro_rules | `(tactic| walk_at "hp") => `(tactic| first | assumption | exact upd_same | refine upd_old (by assumption) (by walk_at "hp") | (rw [upd_ne (by first | assumption | exact Ne.symm (by assumption))]; walk_at "hp"))
local macro_rules | `(tactic| walk_at "sqL") => `(tactic| first | assumption | exact SqL.of (by walk_at "hp"))
local macro_rules | `(tactic| walk_at "sqT") => `(tactic| first | assumption | exact SqT.of (by walk_at "hp"))
local macro_rules | `(tactic| walk_at "sqb") => `(tactic| (unfold SqB; first | ((with_reducible change SqL _ _ _ _); walk_at "sqL") | ((with_reducible change SqT _ _ _ _); walk_at "sqT")))
local macro_rules | `(tactic| walk_at "line") => `(tactic| first | assumption | decide | (apply line_of; walk_at "side") | (apply line_lt; walk_at "side"))
local macro_rules | `(tactic| walk_at "ty") => `(tactic| ((with_reducible refine' ty_lst ?hq); (case hq => walk_at "hp")))
local macro_rules | `(tactic| walk_at "at") => `(tactic| with_reducible first | assumption | exact at0 | exact at1 | exact at2 | exact at3 | exact at4 | exact at5 | exact at6 | exact at7 | exact at8)
local macro_rules | `(tactic| walk_at "st") => `(tactic| (repeat walk_at "st1"))
local macro_rules | `(tactic| walk_at "lk") => `(tactic| first | with_reducible assumption | rfl)
local macro_rules | `(tactic| walk_at "kd") => `(tactic| first | exact .base (.int _) | exact .base .non | exact .base (.bl _) | exact .base (.str _) | exact .base (.tup (by walk_at "hp")) | exact .base (.lst (by walk_at "hp")) | exact .base (.dK (by walk_at "hp")) | exact .base (.dT (by walk_at "hp")))
local macro_rules | `(tactic| walk_at "kit") => `(tactic| with_reducible first
  | exact kit_NoneType_bool
  | exact kit_NoneType_int
  | exact kit_NoneType_str
  | exact kit_NoneType_tuple
  | exact kit_NoneType_list
  | exact kit_NoneType_dict
  | exact kit_bool_bool
  | exact kit_bool_int
  | exact kit_bool_str
  | exact kit_bool_tuple
  | exact kit_bool_list
  | exact kit_bool_dict
  | exact kit_int_bool
  | exact kit_int_int
  | exact kit_int_str
  | exact kit_int_tuple
  | exact kit_int_list
  | exact kit_int_dict
  | exact kit_str_bool
  | exact kit_str_int
  | exact kit_str_str
  | exact kit_str_tuple
  | exact kit_str_list
  | exact kit_str_dict
  | exact kit_tuple_bool
  | exact kit_tuple_int
  | exact kit_tuple_str
  | exact kit_tuple_tuple
  | exact kit_tuple_list
  | exact kit_tuple_dict
  | exact kit_list_bool
  | exact kit_list_int
  | exact kit_list_str
  | exact kit_list_tuple
  | exact kit_list_list
  | exact kit_list_dict
  | exact kit_dict_bool
  | exact kit_dict_int
  | exact kit_dict_str
  | exact kit_dict_tuple
  | exact kit_dict_list
  | exact kit_dict_dict)
local macro_rules | `(tactic| walk_at "flen") => `(tactic| decide)
local macro_rules | `(tactic| walk_at "puts") => `(tactic| skip)

local macro_rules | `(tactic| walk_at "st1") => `(tactic| first
  | with_reducible refine st_dc ?_ | with_reducible refine st_dgetS ?_ | with_reducible refine st_dinS ?_ | with_reducible refine st_dninS ?_ | with_reducible refine st_dputS ?_ | with_reducible refine st_newT ?_ | with_reducible refine iteNN ?_ | with_reducible refine iteYN ?_
  | ((with_reducible refine' st_getT ?hq ?hk ?hv ?_); (case hq => walk_at "hp"); (case hk => walk_at "key"); (case hv => with_reducible assumption))
  | ((with_reducible refine' st_inT ?hq ?hk ?_); (case hq => walk_at "hp"); (case hk => walk_at "key"))
  | ((with_reducible refine' st_ninT ?hq ?hk ?_); (case hq => walk_at "hp"); (case hk => walk_at "key"))
  | ((with_reducible refine' st_putT ?hq ?hk ?hl ?_); (case hq => walk_at "hp"); (case hk => walk_at "key"); (case hl => walk_at "line"))
  | ((with_reducible refine' st_cputT ?hq ?hk ?hl ?_); (case hq => walk_at "hp"); (case hk => walk_at "key"); (case hl => walk_at "line"))
  | ((with_reducible refine' st_ixB ?hq ?he ?_); (case hq => first | assumption | exact Or.inl (by walk_at "sqL") | exact Or.inr (by walk_at "sqT")); (case he => walk_at "at")))
local macro_rules | `(tactic| walk_at "key") => `(tactic| with_reducible assumption)

section
variable {Z : Ads} {P : Program} {w : World} {K : PySem.W.Frag} {mg : Str → Option Value} {base : Heap}
/-! ### the program's small judges -/
def spTuple : Sp := fun vs H Q _ => ∃ (a : Addr) (xs : List V) (l m : Int), vs = [.ref a, .int l, .int m] ∧ H a = some (.tup xs) ∧ xs.length ≤ 100000 ∧ Q (.bl (decide (l ≤ (xs.length : Int)) && decide ((xs.length : Int) ≤ m))) H
abbrev s_is_tuple : Stmt := top 10
theorem sc_is_tuple : FnScope ["thing", "least", "most"] ["thing", "least", "most"] (defScope s_is_tuple) := ⟨rfl, rfl, rfl, by decide +kernel, rfl, by decide +kernel, by decide +kernel⟩
theorem ok_is_tuple {f : Addr} {fd : FuncData} (F : Fun K "is_tuple" "is_tuple" s_is_tuple f fd) (T : Txt K mg Z) : FnOk P w K mg base (L2.CX P w) 1 f fd ["thing", "least", "most"] spTuple := by
  refine okN F sc_is_tuple (fun vs H Q E h => ?_) (fun cdv A outer s0 H vs Q E hr h => ?_)
  · obtain ⟨a, xs, l, m, rfl, _⟩ := h
    rfl
  · obtain ⟨a, xs, l, m, rfl, ha, hl, k⟩ := h
    refine ⟨_, [some _, some _, some _], rfl, (pss_one (ps_ret (pe_and (pe_callB (kIsi (K := K)) (by rfl) T.n_isinstance (by decide +kernel) (pa_cons (pv 0) (pa_cons (pe_ty "tuple" (by rfl) T.n_tuple (by decide +kernel)) pa_nil))) (pe_one (pe_chain op_le op_le (pv 1) (pe_callB (kLen (K := K)) (by rfl) T.n_len (by decide +kernel) (pa_cons (pv 0) pa_nil)) (pv 2)))))), ?_⟩
    walk_at "st"
    refine iteD (fun h => ?_) (fun h => ?_)
    · walk_at "st"
      rw [decide_eq_true h, Bool.true_and] at k
      exact k
    · rw [decide_eq_false h, Bool.false_and] at k
      exact k
def spBetween : Sp := fun vs H Q _ => ∃ (i l m : Int), vs = [.int i, .int l, .int m] ∧ Q (.bl (decide (l ≤ i) && decide (i ≤ m))) H
abbrev s_is_between : Stmt := top 6
theorem sc_is_between : FnScope ["thing", "least", "most"] ["thing", "least", "most"] (defScope s_is_between) := ⟨rfl, rfl, rfl, by decide +kernel, rfl, by decide +kernel, by decide +kernel⟩
theorem ok_is_between {f : Addr} {fd : FuncData} (F : Fun K "is_between" "is_between" s_is_between f fd) (T : Txt K mg Z) (D_is_integer : Dn P w K mg base "is_integer" 1 ["thing"] (spIsInteger K)) : FnOk P w K mg base (L2.CX P w) 2 f fd ["thing", "least", "most"] spBetween := by
  refine okN F sc_is_between (fun vs H Q E h => ?_) (fun cdv A outer s0 H vs Q E hr h => ?_)
  · obtain ⟨i, l, m, rfl, _⟩ := h
    rfl
  · obtain ⟨i, l, m, rfl, k⟩ := h
    refine ⟨_, [some _, some _, some _], rfl, (pss_one (ps_ret (pe_and (pe_d D_is_integer E0 (hr.mono (by first | decide | omega)) (by rfl) passL (pa_cons (pv 0) pa_nil)) (pe_one (pe_chain op_le op_le (pv 1) (pv 0) (pv 2)))))), ?_⟩
    walk_at "st"
    refine ⟨i, rfl, ?_⟩
    walk_at "st"
    refine iteD (fun h => ?_) (fun h => ?_)
    · walk_at "st"
      rw [decide_eq_true h, Bool.true_and] at k
      exact k
    · rw [decide_eq_false h, Bool.false_and] at k
      exact k
def spNumber : Sp := fun vs H Q _ => ∃ (i : Int), vs = [.int i] ∧ Q (.bl (decide (0 ≤ i))) H
abbrev s_is_number : Stmt := top 7
theorem sc_is_number : FnScope ["thing"] ["thing"] (defScope s_is_number) := ⟨rfl, rfl, rfl, by decide +kernel, rfl, by decide +kernel, by decide +kernel⟩
theorem ok_is_number {f : Addr} {fd : FuncData} (F : Fun K "is_number" "is_number" s_is_number f fd) (T : Txt K mg Z) (D_is_integer : Dn P w K mg base "is_integer" 1 ["thing"] (spIsInteger K)) : FnOk P w K mg base (L2.CX P w) 2 f fd ["thing"] spNumber := by
  refine okN F sc_is_number (fun vs H Q E h => ?_) (fun cdv A outer s0 H vs Q E hr h => ?_)
  · obtain ⟨i, rfl, _⟩ := h
    rfl
  · obtain ⟨i, rfl, k⟩ := h
    refine ⟨_, [some _], rfl, (pss_one (ps_ret (pe_and (pe_d D_is_integer E0 (hr.mono (by first | decide | omega)) (by rfl) passL (pa_cons (pv 0) pa_nil)) (pe_one (pe_cmpR op_ge (pv 0) pe_int (by first | exact nomark _ | rfl)))))), ?_⟩
    walk_at "st"
    refine ⟨i, rfl, ?_⟩
    walk_at "st"
    exact k
def spIsKey : Sp := fun vs H Q _ => ∃ (v : V) (d : PyData), vs = [v] ∧ TD H v d ∧ KeyD d ∧ ∀ H', Fr [] H H' → Q (.bl true) H'
abbrev s_is_key : Stmt := top 66
theorem sc_is_key : FnScope ["thing", "part"] ["thing"] (defScope s_is_key) := ⟨rfl, rfl, rfl, by decide +kernel, rfl, by decide +kernel, by decide +kernel⟩
theorem ok_is_key {f : Addr} {fd : FuncData} (F : Fun K "is_key" "is_key" s_is_key f fd) (T : Txt K mg Z) (D_is_number : Dn P w K mg base "is_number" 2 ["thing"] spNumber) : FnOk P w K mg base (L2.CX P w) 3 f fd ["thing"] spIsKey := by
  refine okN F sc_is_key (fun vs H Q E h => ?_) (fun cdv A outer s0 H vs Q E hr h => ?_)
  · obtain ⟨v, d, rfl, _⟩ := h
    rfl
  · obtain ⟨v, d, rfl, hv, ⟨ds, rfl, h0, h3, hk⟩, k⟩ := h
    cases hv with
    | @tup a xs _ ha hT =>
    have hl := hT.length
    refine ⟨_, [some _, none], rfl, (pss_cons (ps_if (PW.pt (pw_or (pt_not (pt_val (pe_callB (kIsi (K := K)) (by rfl) T.n_isinstance (by decide +kernel) (pa_cons (pv 0) (pa_cons (pe_ty "tuple" (by rfl) T.n_tuple (by decide +kernel)) pa_nil))))) (pw_or1 (pt_cmpR op_eq (pe_callB (kLen (K := K)) (by rfl) T.n_len (by decide +kernel) (pa_cons (pv 0) pa_nil)) pe_int (by first | exact nomark _ | rfl))))) (pss_one (ps_ret pe_bl)) pss_nil)
      (pss_one (ps_ret (pe_callB (kAll (K := K)) (by rfl) T.n_all (by decide +kernel) (pa_cons (pe_lc (own := [("part", 1)]) (g := (gName 1)) (tt := tYes) rfl sc_is_key.nd (kPiT (K := K) (pv 0)) (blkOk_by (N := ["thing", "part"]) (sc := defScope s_is_key) (by decide +kernel)) (fun _ _ _ _ _ => (pg_name (i := 1) sc_is_key.nd rfl (by first | exact Or.inl rfl | exact Or.inr rfl))) (fun _ _ _ _ _ => pts_nil) (fun _ _ _ _ _ => (pe_or (pe_callB (kIsi (K := K)) (by rfl) T.n_isinstance (by decide +kernel) (pa_cons (pv 1) (pa_cons (pe_ty "str" (by rfl) T.n_str (by decide +kernel)) pa_nil))) (pe_one (pe_d D_is_number E0 (hr.mono (by first | decide | omega)) (by rfl) passL (pa_cons (pv 1) pa_nil)))))) pa_nil))))), ?_⟩
    walk_at "st"
    have hx : (xs.length : Int) ≠ 0 := by omega
    refine iteD (fun h => absurd h (by simpa using hx)) (fun h => ?_)
    walk_at "st"
    intro D hD
    refine lc_it (walk_tup (xs := xs)) (fun i H' => Fr [] H H' ∧ H' D = some (.lst ((List.replicate i true).map V.bl))) ⟨Fr.up hD, upd_same⟩ (fun i H' _ h => SqT.of (h.1.tup _ _ ha)) ?_ ?_
    · rintro i x H1 H2 hi ⟨f1, e1⟩ ⟨rfl, hx⟩
      obtain ⟨d, hd, td⟩ := TDs.at_ (TDs.mono f1.tup _ _ hT) hx
      have fin : ∀ H3, H3 = H2 → ∃ acc, H3 D = some (.lst acc) ∧ acc.length < sizeLine ∧ Fr [] H (upd H3 D (.lst (acc ++ [V.bl true]))) ∧ (upd H3 D (.lst (acc ++ [V.bl true]))) D = some (.lst ((List.replicate (i + 1) true).map V.bl)) := fun H3 e => by
        rw [e]
        refine ⟨_, e1, line_lt (by simp; omega), f1.wl e1 (.inr hD), ?_⟩
        rw [upd_same, List.replicate_succ', List.map_append]
        rfl
      rcases hk d (List.mem_of_getElem? hd) with ⟨z, rfl, _⟩ | ⟨n, hn, rfl⟩
      · cases td
        walk_at "st"
        exact fin _ rfl
      · cases td
        walk_at "st"
        refine ⟨n, rfl, ?_⟩
        rw [decide_eq_true hn]
        exact fin _ rfl
    · rintro H1 ⟨f1, e1⟩
      walk_at "st"
      refine st_all (SqL.of e1) ?_
      rw [show (List.replicate xs.length true).all id = true by simp]
      exact k _ f1
def spKept (n : Nat) : Sp := fun vs H Q _ => ∃ (v : V) (d : PyData), vs = [v] ∧ TD H v d ∧ Nice n d ∧ ∀ H', Fr [] H H' → Q (.bl true) H'
theorem isi3 {H : Hp} {x : V} {tp CE : Addr} {Q : VK} {t : String} (h : H tp = some (.tup [.ty "int", .ty "str", .ref CE])) (hk : TyX K H x (.type t)) (ht : t = "int" ∨ t = "bool" ∨ t = "str") (q : Q (.bl true) H) : rIsiT K [x, .ref tp] H Q := by
  refine ⟨x, tp, _, .type t, [.type "int", .type "str", .ref CE], true, rfl, h, .cons (.ty _) (.cons (.ty _) (.cons (.own _) .nil)), hk, ?_, q⟩
  rcases ht with rfl | rfl | rfl
  · exact kitAny_cons (b := true) (kit_ty kit_int_int) (fun h => nomatch h) fun _ => rfl
  · exact kitAny_cons (b := true) (kit_ty kit_bool_int) (fun h => nomatch h) fun _ => rfl
  · exact kitAny_cons (b := false) (kit_ty kit_str_int) (fun _ => kitAny_cons (b := true) (kit_ty kit_str_str) (fun h => nomatch h) fun _ => rfl) (fun h => nomatch h)
abbrev s_is_kept : Stmt := top 67
theorem sc_is_kept : FnScope ["thing", "part"] ["thing"] (defScope s_is_kept) := ⟨rfl, rfl, rfl, by decide +kernel, rfl, by decide +kernel, by decide +kernel⟩
theorem step_is_kept {f : Addr} {fd : FuncData} (F : Fun K "is_kept" "is_kept" s_is_kept f fd) (T : Txt K mg Z) (n : Nat)
    (D_is_kept : Dn P w K mg base "is_kept" (0 + n) ["thing"] (fun vs H Q E => ∃ m, m < n ∧ spKept m vs H Q E)) : FnOk P w K mg base (L2.CX P w) (0 + n + 1) f fd ["thing"] (spKept n) := by
  refine okN F sc_is_kept (fun vs H Q E h => ?_) (fun cdv A outer s0 H vs Q E hr h => ?_)
  · obtain ⟨v, d, rfl, _⟩ := h
    rfl
  · obtain ⟨v, d, rfl, hv, hN, k⟩ := h
    refine ⟨_, [some _, none], rfl, (pss_cons (ps_if (pt_val (pe_callB (kIsi (K := K)) (by rfl) T.n_isinstance (by decide +kernel) (pa_cons (pv 0) (pa_cons (pe_ty "tuple" (by rfl) T.n_tuple (by decide +kernel)) pa_nil)))) (pss_one (ps_ret (pe_callB (kAll (K := K)) (by rfl) T.n_all (by decide +kernel) (pa_cons (pe_lc (own := [("part", 1)]) (g := (gName 1)) (tt := tYes) rfl sc_is_kept.nd (kPiT (K := K) (pv 0)) (blkOk_by (N := ["thing", "part"]) (sc := defScope s_is_kept) (by decide +kernel)) (fun _ _ _ _ _ => (pg_name (i := 1) sc_is_kept.nd rfl (by first | exact Or.inl rfl | exact Or.inr rfl))) (fun _ _ _ _ _ => pts_nil) (fun _ _ _ _ _ => (pe_d D_is_kept E0 (hr.mono (by first | decide | omega)) (by rfl) passL (pa_cons (pv 1) pa_nil)))) pa_nil)))) pss_nil)
      (pss_one (ps_ret (pe_or (pe_cmp (pc_isN (pv 0))) (pe_one (pe_callB (kIsiT (K := K)) (by rfl) T.n_isinstance (by decide +kernel) (pa_cons (pv 0) (pa_cons (pe_tup (pa_cons (pe_ty "int" (by rfl) T.n_int (by decide +kernel)) (pa_cons (pe_ty "str" (by rfl) T.n_str (by decide +kernel)) (pa_cons (pe_gl (by rfl) T.g_Exchange) pa_nil)))) pa_nil)))))))), ?_⟩
    cases hv with
    | non =>
      walk_at "st"
      exact k _ (Fr.refl H)
    | bl b =>
      walk_at "st"
      rw [if_neg (by simp)]
      walk_at "st"
      intro t ht
      walk_at "st"
      exact isi3 upd_same (t := "bool") (by walk_at "kd") (by simp) (k _ (Fr.up ht))
    | int i =>
      walk_at "st"
      rw [if_neg (by simp)]
      walk_at "st"
      intro t ht
      walk_at "st"
      exact isi3 upd_same (t := "int") (by walk_at "kd") (by simp) (k _ (Fr.up ht))
    | str x =>
      walk_at "st"
      rw [if_neg (by simp)]
      walk_at "st"
      intro t ht
      walk_at "st"
      exact isi3 upd_same (t := "str") (by walk_at "kd") (by simp) (k _ (Fr.up ht))
    | @tup a xs ds ha hT =>
      walk_at "st"
      intro D hD
      have hsz := hN.len
      have hl := hT.length
      refine lc_it (walk_tup (xs := xs)) (fun i H' => Fr [] H H' ∧ H' D = some (.lst ((List.replicate i true).map V.bl))) ⟨Fr.up hD, upd_same⟩ (fun i H' _ h => SqT.of (h.1.tup _ _ ha)) ?_ ?_
      · rintro i x H1 H2 hi ⟨f1, e1⟩ ⟨rfl, hx⟩
        obtain ⟨d, hd, td⟩ := TDs.at_ (TDs.mono f1.tup _ _ hT) hx
        walk_at "st"
        obtain ⟨n0, hNd, _⟩ := hN.sub (List.mem_of_getElem? hd)
        refine ⟨n - 1, by omega, x, d, rfl, td, hNd, fun H3 f3 => ?_⟩
        have e3 := f3.keep _ _ List.not_mem_nil e1
        refine ⟨_, e3, ?_, (f1.trans f3).wl e3 (.inr hD), ?_⟩
        · rw [List.length_map, List.length_replicate]
          exact line_lt (by omega)
        · rw [upd_same, List.replicate_succ', List.map_append]
          rfl
      · rintro H1 ⟨f1, e1⟩
        walk_at "st"
        refine st_all (SqL.of e1) ?_
        rw [show (List.replicate xs.length true).all id = true by simp]
        exact k _ f1
end

end K42

namespace K42
open PySem PySem.Spec PyProof.Rows L2 Hq
local macro_rules | `(tactic| walk_at "st1") => `(tactic| first
  | with_reducible refine st_seq ?_ | with_reducible refine st_ret ?_ | with_reducible refine st_ifS ?_ | with_reducible refine st_asg ?_ | with_reducible refine st_drop ?_
  | ((with_reducible refine' st_var ?hv ?_); (case hv => rfl)) | with_reducible refine st_c ?_ | with_reducible refine st_op ?_ | with_reducible refine st_un ?_
  | with_reducible refine st_I0 ?_ | with_reducible refine st_U ?_ | ((with_reducible refine' st_I ?hc ?_); (case hc => walk_at "side"))
  | ((with_reducible refine' st_eq ?hs ?_); (case hs => rfl)) | ((with_reducible refine' st_ne ?hs ?_); (case hs => rfl))
  | with_reducible refine st_test ?_ | with_reducible refine st_B ?_ | with_reducible refine st_bl ?_ | with_reducible refine st_isN ?_ | with_reducible refine st_notN ?_
  | with_reducible refine st_chain ?_ | with_reducible refine st_and ?_ | with_reducible refine st_or ?_ | with_reducible refine st_not ?_
  | with_reducible refine st_andV ?_ | with_reducible refine st_orV ?_ | with_reducible refine st_notV ?_ | with_reducible refine st_if ?_
  | with_reducible refine st_CB ?_ | with_reducible refine st_cons ?_ | with_reducible refine st_nil ?_ | with_reducible refine st_fld ?_
  | ((with_reducible refine st_tup ?_)) | ((with_reducible refine st_lst ?_))
  | with_reducible refine st_call ?_ | with_reducible refine st_meth ?_ | with_reducible refine st_make ?_
  | with_reducible refine st_sl ?_ | with_reducible refine st_noPart ?_ | with_reducible refine st_part ?_ | with_reducible refine st_int ?_
  | ((with_reducible refine' st_ixL ?hq ?he ?_); (case hq => walk_at "sqL"); (case he => walk_at "at"))
  | ((with_reducible refine' st_ixT ?hq ?he ?_); (case hq => walk_at "sqT"); (case he => walk_at "at"))
  | with_reducible refine st_bm ?_ | with_reducible refine st_app ?_
  | ((with_reducible refine' st_append ?hq ?hl ?_); (case hq => walk_at "hp"); (case hl => walk_at "line"))
  | ((with_reducible refine' st_len (n := 0) ?hq ?_); (case hq => first | exact Or.inl (by walk_at "sqL") | exact Or.inr (by walk_at "sqT")))
  | ((with_reducible refine' st_listOf ?hq ?_); (case hq => first | exact Or.inl (by walk_at "sqL") | exact Or.inr (by walk_at "sqT")))
  | ((with_reducible refine st_name ?_); (try dsimp only [List.set_cons_zero, List.set_cons_succ])) | with_reducible refine st_par ?_
  | with_reducible refine st_gcons ?_ | with_reducible refine st_gnil ?_ | with_reducible refine st_gsub ?_ | with_reducible refine st_sFld ?_
  | ((with_reducible refine' st_gtup ?hq ?hl ?_); (case hq => walk_at "sqT"); (case hl => rfl))
  | ((with_reducible refine' st_setL ?hq ?hl ?_); (case hq => walk_at "hp"); (case hl => first | rfl | exact ix0 | exact ixN_nat (by assumption)); (try simp only [Int.reduceToNat, List.set_cons_zero, List.set_cons_succ]))
  | with_reducible refine st_intI ?_ | with_reducible refine st_abs ?_
  | ((with_reducible refine' st_popAt ?hq ?hk ?hy ?_); (case hq => walk_at "hp"); (case hk => exact seq0); (case hy => rfl))
  | ((with_reducible refine' and_left ?ht ?_); (case ht => walk_at "ty"))
  | with_reducible refine st_lc ?_ | with_reducible refine st_for ?_ | with_reducible refine st_iL ?_ | with_reducible refine st_iT ?_ | with_reducible refine st_iR1 ?_ | with_reducible refine st_iR2 ?_ | with_reducible refine st_iZ ?_
  | ((with_reducible refine' st_refL ?hq ?_); (case hq => walk_at "sqL")) | ((with_reducible refine' st_refT ?hq ?_); (case hq => walk_at "sqT"))
  | ((with_reducible refine' st_rng1 ?hq ?_); (case hq => walk_at "side")) | ((with_reducible refine' st_rng2 ?hq ?_); (case hq => walk_at "side"))
  | ((with_reducible refine' st_zip ?hq ?hr ?_); (case hq => walk_at "sqb"); (case hr => walk_at "sqb"))
  | ((with_reducible refine' st_size ?hw ?_); (case hw => walk_at "line"))
  | ((with_reducible refine' st_sum ?hq ?_); (case hq => walk_at "sqL"))
  | with_reducible refine st_two ?_ | with_reducible refine st_yes ?_ | ((with_reducible refine' st_wipe ?hw ?_); (case hw => rfl))
  | ((with_reducible refine' st_slL ?hq ?_); (case hq => walk_at "sqL"))
  | ((with_reducible refine' st_cat ?hq ?hr ?hl ?_); (case hq => walk_at "hp"); (case hr => walk_at "hp"); (case hl => walk_at "line"))
  | ((with_reducible refine' st_isi ?hk ?he ?_); (case hk => walk_at "kd"); (case he => walk_at "kit"))
  | ((with_reducible refine' st_ins ?hq ?hc ?hn ?hl ?_); (case hq => walk_at "hp"); (case hc => with_reducible assumption); (case hn => with_reducible assumption); (case hl => walk_at "flen"); walk_at "puts")
  | ((with_reducible refine' st_att ?hq ?hc ?hn ?hl ?_); (case hq => walk_at "hp"); (case hc => with_reducible assumption); (case hn => with_reducible assumption); (case hl => walk_at "lk"))
  | ((with_reducible refine' st_mt ?hq ?hl ?_); (case hq => walk_at "hp"); (case hl => walk_at "lk"))
  | ((with_reducible refine' st_extend ?hq ?hr ?hl ?_); (case hq => walk_at "hp"); (case hr => walk_at "hp"); (case hl => walk_at "line"))
  | with_reducible refine st_next ?_ | with_reducible refine st_retN ?_ | (with_reducible refine iteNT ?_) | (with_reducible refine iteNF ?_) | (with_reducible refine iteT ?_) | (with_reducible refine iteF ?_))
local macro_rules | `(tactic| walk_at "side") => `(tactic| first | omega | decide | assumption | exact ⟨by omega, by omega⟩ | exact Or.inr ⟨by omega, by omega⟩ | exact Or.inl ⟨by omega, by omega⟩ | (simp only [List.length_map, List.length_cons, List.length_nil, List.length_append] at *; omega))
local macro_rules | `(tactic| walk_at "hp") => `(tactic| first | assumption | exact upd_same | refine upd_old (by assumption) (by walk_at "hp") | (rw [upd_ne (by first | assumption | exact Ne.symm (by assumption))]; walk_at "hp"))
local macro_rules | `(tactic| walk_at "sqL") => `(tactic| first | assumption | exact SqL.of (by walk_at "hp"))
local macro_rules | `(tactic| walk_at "sqT") => `(tactic| first | assumption | exact SqT.of (by walk_at "hp"))
local macro_rules | `(tactic| walk_at "sqb") => `(tactic| (unfold SqB; first | ((with_reducible change SqL _ _ _ _); walk_at "sqL") | ((with_reducible change SqT _ _ _ _); walk_at "sqT")))
local macro_rules | `(tactic| walk_at "line") => `(tactic| first | assumption | decide | (apply line_of; walk_at "side") | (apply line_lt; walk_at "side"))
local macro_rules | `(tactic| walk_at "ty") => `(tactic| ((with_reducible refine' ty_lst ?hq); (case hq => walk_at "hp")))
local macro_rules | `(tactic| walk_at "at") => `(tactic| with_reducible first | assumption | exact at0 | exact at1 | exact at2 | exact at3 | exact at4 | exact at5 | exact at6 | exact at7 | exact at8)
local macro_rules | `(tactic| walk_at "st") => `(tactic| (repeat walk_at "st1"))
local macro_rules | `(tactic| walk_at "lk") => `(tactic| first | with_reducible assumption | rfl)
local macro_rules | `(tactic| walk_at "kd") => `(tactic| first | exact .base (.int _) | exact .base .non | exact .base (.bl _) | exact .base (.str _) | exact .base (.tup (by walk_at "hp")) | exact .base (.lst (by walk_at "hp")) | exact .base (.dK (by walk_at "hp")) | exact .base (.dT (by walk_at "hp")))
local macro_rules | `(tactic| walk_at "kit") => `(tactic| with_reducible first
  | exact kit_NoneType_bool
  | exact kit_NoneType_int
  | exact kit_NoneType_str
  | exact kit_NoneType_tuple
  | exact kit_NoneType_list
  | exact kit_NoneType_dict
  | exact kit_bool_bool
  | exact kit_bool_int
  | exact kit_bool_str
  | exact kit_bool_tuple
  | exact kit_bool_list
  | exact kit_bool_dict
  | exact kit_int_bool
  | exact kit_int_int
  | exact kit_int_str
  | exact kit_int_tuple
  | exact kit_int_list
  | exact kit_int_dict
  | exact kit_str_bool
  | exact kit_str_int
  | exact kit_str_str
  | exact kit_str_tuple
  | exact kit_str_list
  | exact kit_str_dict
  | exact kit_tuple_bool
  | exact kit_tuple_int
  | exact kit_tuple_str
  | exact kit_tuple_tuple
  | exact kit_tuple_list
  | exact kit_tuple_dict
  | exact kit_list_bool
  | exact kit_list_int
  | exact kit_list_str
  | exact kit_list_tuple
  | exact kit_list_list
  | exact kit_list_dict
  | exact kit_dict_bool
  | exact kit_dict_int
  | exact kit_dict_str
  | exact kit_dict_tuple
  | exact kit_dict_list
  | exact kit_dict_dict)
local macro_rules | `(tactic| walk_at "flen") => `(tactic| decide)
local macro_rules | `(tactic| walk_at "puts") => `(tactic| skip)

theorem Disk_ne_lying_pending : ¬ (("lying" : Str) = "pending") := by decide +kernel
theorem Disk_ne_lying_spoils : ¬ (("lying" : Str) = "spoils") := by decide +kernel
theorem Disk_ne_pending_lying : ¬ (("pending" : Str) = "lying") := by decide +kernel
theorem Disk_ne_pending_spoils : ¬ (("pending" : Str) = "spoils") := by decide +kernel
theorem Disk_ne_spoils_lying : ¬ (("spoils" : Str) = "lying") := by decide +kernel
theorem Disk_ne_spoils_pending : ¬ (("spoils" : Str) = "pending") := by decide +kernel
def DiskF0 : List (Str × V) := []
def DiskF1 (v0 : V) : List (Str × V) := [("lying", v0)]
def DiskF2 (v0 v1 : V) : List (Str × V) := [("lying", v0), ("pending", v1)]
def DiskF (v0 v1 v2 : V) : List (Str × V) := [("lying", v0), ("pending", v1), ("spoils", v2)]
theorem DiskF0_len : (DiskF0 ).length < 1000 := by unfold DiskF0; show 0 < 1000; decide
theorem DiskF0_put {v0 : V} : putF "lying" v0 (DiskF0 ) = DiskF1 v0 := by unfold DiskF0 DiskF1; rw [put_nil]
theorem DiskF1_len {v0 : V} : (DiskF1 v0).length < 1000 := by unfold DiskF1; show 1 < 1000; decide
theorem DiskF1_put {v0 v1 : V} : putF "pending" v1 (DiskF1 v0) = DiskF2 v0 v1 := by unfold DiskF1 DiskF2; rw [put_cons, if_neg Disk_ne_lying_pending, put_nil]
theorem DiskF2_len {v0 v1 : V} : (DiskF2 v0 v1).length < 1000 := by unfold DiskF2; show 2 < 1000; decide
theorem DiskF2_put {v0 v1 v2 : V} : putF "spoils" v2 (DiskF2 v0 v1) = DiskF v0 v1 v2 := by unfold DiskF2 DiskF; rw [put_cons, if_neg Disk_ne_lying_spoils, put_cons, if_neg Disk_ne_pending_spoils, put_nil]
theorem DiskF_len {v0 v1 v2 : V} : (DiskF v0 v1 v2).length < 1000 := by unfold DiskF; show 3 < 1000; decide
theorem DiskF_get_lying {v0 v1 v2 : V} : List.lookup ("lying" : Str) (DiskF v0 v1 v2) = some v0 := by unfold DiskF; rw [look_cons, if_pos rfl]
theorem DiskF_put_lying {v0 v1 v2 w : V} : putF "lying" w (DiskF v0 v1 v2) = DiskF w v1 v2 := by unfold DiskF; rw [put_cons, if_pos rfl]
theorem DiskF_get_pending {v0 v1 v2 : V} : List.lookup ("pending" : Str) (DiskF v0 v1 v2) = some v1 := by unfold DiskF; rw [look_cons, if_neg Disk_ne_pending_lying, look_cons, if_pos rfl]
theorem DiskF_put_pending {v0 v1 v2 w : V} : putF "pending" w (DiskF v0 v1 v2) = DiskF v0 w v2 := by unfold DiskF; rw [put_cons, if_neg Disk_ne_lying_pending, put_cons, if_pos rfl]
theorem DiskF_get_spoils {v0 v1 v2 : V} : List.lookup ("spoils" : Str) (DiskF v0 v1 v2) = some v2 := by unfold DiskF; rw [look_cons, if_neg Disk_ne_spoils_lying, look_cons, if_neg Disk_ne_spoils_pending, look_cons, if_pos rfl]
theorem DiskF_put_spoils {v0 v1 v2 w : V} : putF "spoils" w (DiskF v0 v1 v2) = DiskF v0 v1 w := by unfold DiskF; rw [put_cons, if_neg Disk_ne_lying_spoils, put_cons, if_neg Disk_ne_pending_spoils, put_cons, if_pos rfl]
theorem DiskF_no {v0 v1 v2 : V} {m : Str} (h0 : ¬ m = "lying") (h1 : ¬ m = "pending") (h2 : ¬ m = "spoils") : List.lookup m (DiskF v0 v1 v2) = none := by unfold DiskF; rw [look_cons, if_neg h0, look_cons, if_neg h1, look_cons, if_neg h2]; rfl
local macro_rules | `(tactic| walk_at "lk") => `(tactic| with_reducible first | assumption | exact DiskF_get_lying | exact DiskF_get_pending | exact DiskF_get_spoils | exact DiskF_no (by decide +kernel) (by decide +kernel) (by decide +kernel))
local macro_rules | `(tactic| walk_at "puts") => `(tactic| try simp only [DiskF_put_lying, DiskF_put_pending, DiskF_put_spoils, DiskF0_put, DiskF1_put, DiskF2_put])
local macro_rules | `(tactic| walk_at "flen") => `(tactic| first | with_reducible assumption | with_reducible (first | exact DiskF_len | exact DiskF0_len | exact DiskF1_len | exact DiskF2_len) | decide)
section
variable {Z : Ads} {P : Program} {w : World} {K : PySem.W.Frag} {mg : Str → Option Value} {base : Heap}
/-! ### a disk -/
/-- a disk's list at l, what waits at q -/
structure DiskAt (C : Addr) (n : Int) (H : Hp) (d l q : Addr) (ls ps : List PyData) : Prop where
  ok : ∃ dx, H d = some (.ins C dx (DiskF (.ref l) (.ref q) (.int n)))
  lie : ∃ xs, H l = some (.lst xs) ∧ TDs H xs ls
  pen : ∃ xs, H q = some (.lst xs) ∧ TDs H xs ps
  lq : l ≠ q
def spInit (C : Addr) : Sp := fun vs H Q _ => ∃ (d dx : Addr), vs = [.ref d] ∧ H d = some (.ins C dx DiskF0) ∧ ∀ H' l q, H l = none → H q = none → DiskAt C 0 H' d l q [] [] → Fr [d] H H' → Q .non H'
abbrev s_Disk___init__ : Stmt := inClass (top 68) 0
theorem sc_Disk___init__ : FnScope ["self"] ["self"] (defScope s_Disk___init__) := ⟨rfl, rfl, rfl, by decide +kernel, rfl, by decide +kernel, by decide +kernel⟩
theorem ok_Disk_init {f : Addr} {fd : FuncData} (F : Fun K "__init__" "Disk.__init__" s_Disk___init__ f fd) (T : Txt K mg Z) : FnOk P w K mg base (L2.CX P w) 1 f fd ["self"] (spInit Z.Disk) := by
  have cl := T.cl
  have aL := T.aL
  have aP := T.aP
  have aS := T.aS
  refine okN F sc_Disk___init__ (fun vs H Q E h => ?_) (fun cdv A outer s0 H vs Q E hr h => ?_)
  · obtain ⟨d, dx, rfl, _⟩ := h
    rfl
  · obtain ⟨d, dx, rfl, hd, k⟩ := h
    refine ⟨_, [some _], rfl, (pss_cons (kSFld (K := K) (pv 0) (pe_lst pa_nil) rfl)
      (pss_cons (kSFld (K := K) (pv 0) (pe_lst pa_nil) rfl)
      (pss_one (kSFld (K := K) (pv 0) pe_int rfl)))), ?_⟩
    walk_at "st"
    intro l hl
    have dl : d ≠ l := ne_of_none hd hl
    walk_at "st"
    intro q hq
    have nd : q ≠ d := fresh_ne hq
    have hq2 := fresh_of (fresh_of hq)
    have nl : q ≠ l := fresh_ne (fresh_of hq)
    walk_at "st"
    refine k _ l q hl hq2 ⟨⟨dx, upd_same⟩, ⟨[], (by walk_at "hp"), .nil⟩, ⟨[], (by walk_at "hp"), .nil⟩, nl.symm⟩ ?_
    exact (((((Fr.refl H).new hl).wi (by walk_at "hp") (.inl (by simp))).new hq).wi (by walk_at "hp") (.inl (by simp))).wi upd_same (.inl (by simp))
/-- a key and a thing wait -/
def spWrite (C : Addr) : Sp := fun vs H Q _ => ∃ (n : Int) (d l q : Addr) (ls ps : List PyData) (k v : V) (kd vd : PyData), vs = [.ref d, k, v] ∧ DiskAt C n H d l q ls ps ∧ ps.length ≤ 1000 ∧ TD H k kd ∧ KeyD kd ∧ TD H v vd ∧ Nice 10 vd ∧
  ∀ H', DiskAt C n H' d l q ls (ps ++ [.tuple [kd, vd]]) → Fr [q] H H' → Q .non H'
abbrev s_Disk_write : Stmt := inClass (top 68) 1
theorem sc_Disk_write : FnScope ["self", "key", "thing"] ["self", "key", "thing"] (defScope s_Disk_write) := ⟨rfl, rfl, rfl, by decide +kernel, rfl, by decide +kernel, by decide +kernel⟩
theorem ok_Disk_write {f : Addr} {fd : FuncData} (F : Fun K "write" "Disk.write" s_Disk_write f fd) (T : Txt K mg Z) (D_is_key : Dn P w K mg base "is_key" 3 ["thing"] spIsKey) (D_is_kept : Dn P w K mg base "is_kept" 11 ["thing"] (spKept 10)) :
    FnOk P w K mg base (L2.CX P w) 12 f fd ["self", "key", "thing"] (spWrite Z.Disk) := by
  have cl := T.cl
  have aL := T.aL
  have aP := T.aP
  have aS := T.aS
  refine okN F sc_Disk_write (fun vs H Q E h => ?_) (fun cdv A outer s0 H vs Q E hr h => ?_)
  · obtain ⟨n, d, l, q, ls, ps, k, v, kd, vd, rfl, _⟩ := h
    rfl
  · obtain ⟨n, d, l, q, ls, ps, kk, v, kd, vd, rfl, ⟨⟨dx, hd⟩, ⟨xs, hl, tl⟩, ⟨ys, hq, tq⟩, lq⟩, hps, tk, hk, tv, hv, k⟩ := h
    refine ⟨_, [some _, some _, some _], rfl, (pss_cons (ps_if (pt_not (pt_val (pe_d D_is_key E0 (hr.mono (by first | decide | omega)) (by rfl) passL (pa_cons (pv 1) pa_nil)))) (pss_one ps_never) pss_nil)
      (pss_cons (ps_if (pt_not (pt_val (pe_d D_is_kept E0 (hr.mono (by first | decide | omega)) (by rfl) passL (pa_cons (pv 2) pa_nil)))) (pss_one ps_never) pss_nil)
      (pss_one (ps_expr (kApp (K := K) (kFld (K := K) (pv 0) rfl) (pe_tup (pa_cons (pv 1) (pa_cons (pv 2) pa_nil)))))))), ?_⟩
    walk_at "st"
    refine ⟨kk, kd, rfl, tk, hk, fun H1 f1 => ?_⟩
    walk_at "st"
    refine ⟨v, vd, rfl, TD.mono f1.tup _ _ tv, hv, fun H2 f2 => ?_⟩
    have f12 := f1.trans f2
    have hd2 := f12.same _ _ hd
    have hl2 := f12.same _ _ hl
    have hq2 := f12.same _ _ hq
    have hny := tq.length
    walk_at "st"
    intro t ht
    walk_at "st"
    have g1 : Fr [q] H _ := (f12.mono (ns := [q]) (by simp)).new (o := .tup [kk, v]) ht
    have g2 := g1.wl (p := q) (o' := .lst (ys ++ [.ref t])) (by walk_at "hp") (.inl (by simp))
    have dq : d ≠ q := ne_of hd hq (by intro z; cases z)
    refine k _ ⟨⟨dx, by walk_at "hp"⟩, ⟨xs, by walk_at "hp", TDs.mono g2.tup _ _ tl⟩, ⟨ys ++ [.ref t], upd_same, TDs.snoc (TDs.mono g2.tup _ _ tq) (.tup ?_ (.cons (TD.mono g2.tup _ _ tk) (.cons (TD.mono g2.tup _ _ tv) .nil)))⟩, lq⟩ g2
    rw [upd_ne]
    · exact upd_same
    · exact ne_of (H := upd H2 t (.tup [kk, v])) upd_same (by walk_at "hp" : upd H2 t (.tup [kk, v]) q = some (.lst ys)) (by intro z; cases z)
def trip : PyData → PyData
  | .tuple [k, v] => .tuple [k, v, .bool true]
  | d => d
def IsPr (d : PyData) : Prop := ∃ k v, d = .tuple [k, v] ∧ KeyD k ∧ Nice 10 v
def spSync (C : Addr) : Sp := fun vs H Q _ => ∃ (n : Int) (d l q : Addr) (ls ps : List PyData), vs = [.ref d] ∧ DiskAt C n H d l q ls ps ∧ ps.length ≤ 1000 ∧ ls.length ≤ 1000 ∧ (∀ e ∈ ps, IsPr e) ∧
  ∀ H' q', H q' = none → DiskAt C n H' d l q' (ls ++ ps.map trip) [] → Fr [d, l] H H' → Q .non H'
abbrev s_Disk_sync : Stmt := inClass (top 68) 2
theorem sc_Disk_sync : FnScope ["self", "key", "thing"] ["self"] (defScope s_Disk_sync) := ⟨rfl, rfl, rfl, by decide +kernel, rfl, by decide +kernel, by decide +kernel⟩
theorem ok_Disk_sync {f : Addr} {fd : FuncData} (F : Fun K "sync" "Disk.sync" s_Disk_sync f fd) (T : Txt K mg Z) : FnOk P w K mg base (L2.CX P w) 1 f fd ["self"] (spSync Z.Disk) := by
  have cl := T.cl
  have aL := T.aL
  have aP := T.aP
  have aS := T.aS
  refine okN F sc_Disk_sync (fun vs H Q E h => ?_) (fun cdv A outer s0 H vs Q E hr h => ?_)
  · obtain ⟨n, d, l, q, ls, ps, rfl, _⟩ := h
    rfl
  · obtain ⟨n, d, l, q, ls, ps, rfl, ⟨⟨dx, hd⟩, ⟨xs, hl, tl⟩, ⟨ys, hq, tq⟩, lq⟩, hps, hls, hpr, k⟩ := h
    have hny := tq.length
    have hnx := tl.length
    refine ⟨_, [some _, none, none], rfl, (pss_cons (ps_expr (kBm (K := K) PySem.F.plainAttrs_list PySem.F.slot_list_extend PySem.F.type_list_extend mt_extend (kFld (K := K) (pv 0) rfl) (pa_cons (pe_lc (own := [("key", 1), ("thing", 2)]) (g := (gTup K 2 (gCons (gName 1) (gCons (gName 2) gNil)))) (tt := tYes) rfl sc_Disk_sync.nd (kPiL (K := K) (kFld (K := K) (pv 0) rfl)) (blkOk_by (N := ["self", "key", "thing"]) (sc := defScope s_Disk_sync) (by decide +kernel)) (fun _ _ _ _ _ => (kTupT (K := K) (n := 2) (pgs_cons (pg_name (i := 1) sc_Disk_sync.nd rfl (by first | exact Or.inl rfl | exact Or.inr rfl)) (pgs_cons (pg_name (i := 2) sc_Disk_sync.nd rfl (by first | exact Or.inl rfl | exact Or.inr rfl)) pgs_nil)))) (fun _ _ _ _ _ => pts_nil) (fun _ _ _ _ _ => (pe_tup (pa_cons (pv 1) (pa_cons (pv 2) (pa_cons pe_bl pa_nil)))))) pa_nil)))
      (pss_one (kSFld (K := K) (pv 0) (pe_lst pa_nil) rfl))), ?_⟩
    walk_at "st"
    intro D hD
    refine lc_it (walk_list (xs := ys)) (fun i H' => Fr [] H H' ∧ ∃ acc, H' D = some (.lst acc) ∧ acc.length = i ∧ TDs H' acc ((ps.take i).map trip)) ⟨Fr.up hD, [], upd_same, rfl, .nil⟩ (fun i H' _ h => SqL.of (h.1.same _ _ hq)) ?_ ?_
    · rintro i x H1 H2 hi ⟨f1, acc, e1, ea, ta⟩ ⟨rfl, hx⟩
      obtain ⟨e, he, te⟩ := TDs.at_ (TDs.mono f1.tup _ _ tq) hx
      obtain ⟨kd, vd, rfl, _, _⟩ := hpr e (List.mem_of_getElem? he)
      cases te with
      | @tup a zs _ ha hT =>
      cases hT with
      | @cons z1 _ _ _ t1 hT =>
      cases hT with
      | @cons z2 _ _ _ t2 hT =>
      cases hT
      walk_at "st"
      intro t ht
      have e2 := upd_old (o' := HO.tup [z1, z2, V.bl true]) ht e1
      have f2 := f1.new (o := .tup [z1, z2, V.bl true]) ht
      have f3 := f2.wl (o' := .lst (acc ++ [.ref t])) e2 (.inr hD)
      have gT : Tp H2 (upd (upd H2 t (.tup [z1, z2, V.bl true])) D (.lst (acc ++ [.ref t]))) := ((Fr.up (ms := [D]) ht).wl e2 (.inl (by simp))).tup
      refine ⟨acc, e2, line_lt (by omega), f3, acc ++ [.ref t], upd_same, by simp [ea], ?_⟩
      rw [take_snoc he, List.map_append]
      refine TDs.snoc (TDs.mono gT _ _ ta) (.tup ?_ (.cons (TD.mono gT _ _ t1) (.cons (TD.mono gT _ _ t2) (.cons (.bl _) .nil))))
      rw [upd_ne (ne_of (H := upd H2 t (.tup [z1, z2, V.bl true])) upd_same e2 (by intro z; cases z))]
      exact upd_same
    · rintro H1 ⟨f1, acc, e1, ea, ta⟩
      have hd1 := f1.same _ _ hd
      have hl1 := f1.same _ _ hl
      have dl : d ≠ l := ne_of hd hl (by intro z; cases z)
      have Dd : D ≠ d := (ne_of_none hd hD).symm
      have Dl : D ≠ l := (ne_of_none hl hD).symm
      walk_at "st"
      intro q' hq'
      walk_at "st"
      have n1 : q' ≠ l := fresh_ne hq'
      have h1q := fresh_of hq'
      have n2 : q' ≠ d := (ne_of_none hd1 h1q).symm
      have g1 : Fr [d, l] H _ := ((((f1.mono (ns := [d, l]) (by simp)).wl (o' := .lst (xs ++ acc)) hl1 (.inl (by simp))).new (o := .lst []) hq').wi (o' := .ins Z.Disk dx (DiskF (.ref l) (.ref q') (.int n))) (by walk_at "hp") (.inl (by simp)))
      have g2 : Tp H1 _ := (((Fr.refl (ms := [d, l]) H1).wl (o' := .lst (xs ++ acc)) hl1 (.inl (by simp))).new (o := .lst []) hq').wi (o' := .ins Z.Disk dx (DiskF (.ref l) (.ref q') (.int n))) (by walk_at "hp") (.inl (by simp)) |>.tup
      refine k _ q' (f1.free h1q) ⟨⟨dx, upd_same⟩, ⟨xs ++ acc, ?_, ?_⟩, ⟨[], ?_, .nil⟩, n1.symm⟩ g1
      · walk_at "hp"
      · refine TDs.app (TDs.mono g1.tup _ _ tl) ?_
        rw [List.take_of_length_le (by omega)] at ta
        exact TDs.mono g2 _ _ ta
      · walk_at "hp"
end

end K42

namespace K42
open PySem PySem.Spec PyProof.Rows L2 Hq
local macro_rules | `(tactic| walk_at "st1") => `(tactic| first
  | with_reducible refine st_seq ?_ | with_reducible refine st_ret ?_ | with_reducible refine st_ifS ?_ | with_reducible refine st_asg ?_ | with_reducible refine st_drop ?_
  | ((with_reducible refine' st_var ?hv ?_); (case hv => rfl)) | with_reducible refine st_c ?_ | with_reducible refine st_op ?_ | with_reducible refine st_un ?_
  | with_reducible refine st_I0 ?_ | with_reducible refine st_U ?_ | ((with_reducible refine' st_I ?hc ?_); (case hc => walk_at "side"))
  | ((with_reducible refine' st_eq ?hs ?_); (case hs => rfl)) | ((with_reducible refine' st_ne ?hs ?_); (case hs => rfl))
  | with_reducible refine st_test ?_ | with_reducible refine st_B ?_ | with_reducible refine st_bl ?_ | with_reducible refine st_isN ?_ | with_reducible refine st_notN ?_
  | with_reducible refine st_chain ?_ | with_reducible refine st_and ?_ | with_reducible refine st_or ?_ | with_reducible refine st_not ?_
  | with_reducible refine st_andV ?_ | with_reducible refine st_orV ?_ | with_reducible refine st_notV ?_ | with_reducible refine st_if ?_
  | with_reducible refine st_CB ?_ | with_reducible refine st_cons ?_ | with_reducible refine st_nil ?_ | with_reducible refine st_fld ?_
  | ((with_reducible refine st_tup ?_)) | ((with_reducible refine st_lst ?_))
  | with_reducible refine st_call ?_ | with_reducible refine st_meth ?_ | with_reducible refine st_make ?_
  | with_reducible refine st_sl ?_ | with_reducible refine st_noPart ?_ | with_reducible refine st_part ?_ | with_reducible refine st_int ?_
  | ((with_reducible refine' st_ixL ?hq ?he ?_); (case hq => walk_at "sqL"); (case he => walk_at "at"))
  | ((with_reducible refine' st_ixT ?hq ?he ?_); (case hq => walk_at "sqT"); (case he => walk_at "at"))
  | with_reducible refine st_bm ?_ | with_reducible refine st_app ?_
  | ((with_reducible refine' st_append ?hq ?hl ?_); (case hq => walk_at "hp"); (case hl => walk_at "line"))
  | ((with_reducible refine' st_len (n := 0) ?hq ?_); (case hq => first | exact Or.inl (by walk_at "sqL") | exact Or.inr (by walk_at "sqT")))
  | ((with_reducible refine' st_listOf ?hq ?_); (case hq => first | exact Or.inl (by walk_at "sqL") | exact Or.inr (by walk_at "sqT")))
  | ((with_reducible refine st_name ?_); (try dsimp only [List.set_cons_zero, List.set_cons_succ])) | with_reducible refine st_par ?_
  | with_reducible refine st_gcons ?_ | with_reducible refine st_gnil ?_ | with_reducible refine st_gsub ?_ | with_reducible refine st_sFld ?_
  | ((with_reducible refine' st_gtup ?hq ?hl ?_); (case hq => walk_at "sqT"); (case hl => rfl))
  | ((with_reducible refine' st_setL ?hq ?hl ?_); (case hq => walk_at "hp"); (case hl => first | rfl | exact ix0 | exact ixN_nat (by assumption)); (try simp only [Int.reduceToNat, List.set_cons_zero, List.set_cons_succ]))
  | with_reducible refine st_intI ?_ | with_reducible refine st_abs ?_
  | ((with_reducible refine' st_popAt ?hq ?hk ?hy ?_); (case hq => walk_at "hp"); (case hk => exact seq0); (case hy => rfl))
  | ((with_reducible refine' and_left ?ht ?_); (case ht => walk_at "ty"))
  | with_reducible refine st_lc ?_ | with_reducible refine st_for ?_ | with_reducible refine st_iL ?_ | with_reducible refine st_iT ?_ | with_reducible refine st_iR1 ?_ | with_reducible refine st_iR2 ?_ | with_reducible refine st_iZ ?_
  | ((with_reducible refine' st_refL ?hq ?_); (case hq => walk_at "sqL")) | ((with_reducible refine' st_refT ?hq ?_); (case hq => walk_at "sqT"))
  | ((with_reducible refine' st_rng1 ?hq ?_); (case hq => walk_at "side")) | ((with_reducible refine' st_rng2 ?hq ?_); (case hq => walk_at "side"))
  | ((with_reducible refine' st_zip ?hq ?hr ?_); (case hq => walk_at "sqb"); (case hr => walk_at "sqb"))
  | ((with_reducible refine' st_size ?hw ?_); (case hw => walk_at "line"))
  | ((with_reducible refine' st_sum ?hq ?_); (case hq => walk_at "sqL"))
  | with_reducible refine st_two ?_ | with_reducible refine st_yes ?_ | ((with_reducible refine' st_wipe ?hw ?_); (case hw => rfl))
  | ((with_reducible refine' st_slL ?hq ?_); (case hq => walk_at "sqL"))
  | ((with_reducible refine' st_cat ?hq ?hr ?hl ?_); (case hq => walk_at "hp"); (case hr => walk_at "hp"); (case hl => walk_at "line"))
  | ((with_reducible refine' st_isi ?hk ?he ?_); (case hk => walk_at "kd"); (case he => walk_at "kit"))
  | ((with_reducible refine' st_ins ?hq ?hc ?hn ?hl ?_); (case hq => walk_at "hp"); (case hc => with_reducible assumption); (case hn => with_reducible assumption); (case hl => walk_at "flen"); walk_at "puts")
  | ((with_reducible refine' st_att ?hq ?hc ?hn ?hl ?_); (case hq => walk_at "hp"); (case hc => with_reducible assumption); (case hn => with_reducible assumption); (case hl => walk_at "lk"))
  | ((with_reducible refine' st_mt ?hq ?hl ?_); (case hq => walk_at "hp"); (case hl => walk_at "lk"))
  | ((with_reducible refine' st_extend ?hq ?hr ?hl ?_); (case hq => walk_at "hp"); (case hr => walk_at "hp"); (case hl => walk_at "line"))
  | with_reducible refine st_next ?_ | with_reducible refine st_retN ?_ | (with_reducible refine iteNT ?_) | (with_reducible refine iteNF ?_) | (with_reducible refine iteT ?_) | (with_reducible refine iteF ?_))
local macro_rules | `(tactic| walk_at "side") => `(tactic| first | omega | decide | assumption | exact ⟨by omega, by omega⟩ | exact Or.inr ⟨by omega, by omega⟩ | exact Or.inl ⟨by omega, by omega⟩ | (simp only [List.length_map, List.length_cons, List.length_nil, List.length_append] at *; omega))
local macro_rules | `(tactic| walk_at "hp") => `(tactic| first | assumption | exact upd_same | refine upd_old (by assumption) (by walk_at "hp") | (rw [upd_ne (by first | assumption | exact Ne.symm (by assumption))]; walk_at "hp"))
local macro_rules | `(tactic| walk_at "sqL") => `(tactic| first | assumption | exact SqL.of (by walk_at "hp"))
local macro_rules | `(tactic| walk_at "sqT") => `(tactic| first | assumption | exact SqT.of (by walk_at "hp"))
local macro_rules | `(tactic| walk_at "sqb") => `(tactic| (unfold SqB; first | ((with_reducible change SqL _ _ _ _); walk_at "sqL") | ((with_reducible change SqT _ _ _ _); walk_at "sqT")))
local macro_rules | `(tactic| walk_at "line") => `(tactic| first | assumption | decide | (apply line_of; walk_at "side") | (apply line_lt; walk_at "side"))
local macro_rules | `(tactic| walk_at "ty") => `(tactic| ((with_reducible refine' ty_lst ?hq); (case hq => walk_at "hp")))
local macro_rules | `(tactic| walk_at "at") => `(tactic| with_reducible first | assumption | exact at0 | exact at1 | exact at2 | exact at3 | exact at4 | exact at5 | exact at6 | exact at7 | exact at8)
local macro_rules | `(tactic| walk_at "st") => `(tactic| (repeat walk_at "st1"))
local macro_rules | `(tactic| walk_at "lk") => `(tactic| first | with_reducible assumption | rfl)
local macro_rules | `(tactic| walk_at "kd") => `(tactic| first | exact .base (.int _) | exact .base .non | exact .base (.bl _) | exact .base (.str _) | exact .base (.tup (by walk_at "hp")) | exact .base (.lst (by walk_at "hp")) | exact .base (.dK (by walk_at "hp")) | exact .base (.dT (by walk_at "hp")))
local macro_rules | `(tactic| walk_at "kit") => `(tactic| with_reducible first
  | exact kit_NoneType_bool
  | exact kit_NoneType_int
  | exact kit_NoneType_str
  | exact kit_NoneType_tuple
  | exact kit_NoneType_list
  | exact kit_NoneType_dict
  | exact kit_bool_bool
  | exact kit_bool_int
  | exact kit_bool_str
  | exact kit_bool_tuple
  | exact kit_bool_list
  | exact kit_bool_dict
  | exact kit_int_bool
  | exact kit_int_int
  | exact kit_int_str
  | exact kit_int_tuple
  | exact kit_int_list
  | exact kit_int_dict
  | exact kit_str_bool
  | exact kit_str_int
  | exact kit_str_str
  | exact kit_str_tuple
  | exact kit_str_list
  | exact kit_str_dict
  | exact kit_tuple_bool
  | exact kit_tuple_int
  | exact kit_tuple_str
  | exact kit_tuple_tuple
  | exact kit_tuple_list
  | exact kit_tuple_dict
  | exact kit_list_bool
  | exact kit_list_int
  | exact kit_list_str
  | exact kit_list_tuple
  | exact kit_list_list
  | exact kit_list_dict
  | exact kit_dict_bool
  | exact kit_dict_int
  | exact kit_dict_str
  | exact kit_dict_tuple
  | exact kit_dict_list
  | exact kit_dict_dict)
local macro_rules | `(tactic| walk_at "flen") => `(tactic| decide)
local macro_rules | `(tactic| walk_at "puts") => `(tactic| skip)

local macro_rules | `(tactic| walk_at "st1") => `(tactic| first
  | with_reducible refine st_dc ?_ | with_reducible refine st_dgetS ?_ | with_reducible refine st_dinS ?_ | with_reducible refine st_dninS ?_ | with_reducible refine st_dputS ?_ | with_reducible refine st_newT ?_ | with_reducible refine iteNN ?_ | with_reducible refine iteYN ?_
  | ((with_reducible refine' st_getT ?hq ?hk ?hv ?_); (case hq => walk_at "hp"); (case hk => walk_at "key"); (case hv => with_reducible assumption))
  | ((with_reducible refine' st_inT ?hq ?hk ?_); (case hq => walk_at "hp"); (case hk => walk_at "key"))
  | ((with_reducible refine' st_ninT ?hq ?hk ?_); (case hq => walk_at "hp"); (case hk => walk_at "key"))
  | ((with_reducible refine' st_putT ?hq ?hk ?hl ?_); (case hq => walk_at "hp"); (case hk => walk_at "key"); (case hl => walk_at "line"))
  | ((with_reducible refine' st_cputT ?hq ?hk ?hl ?_); (case hq => walk_at "hp"); (case hk => walk_at "key"); (case hl => walk_at "line"))
  | ((with_reducible refine' st_ixB ?hq ?he ?_); (case hq => first | assumption | exact Or.inl (by walk_at "sqL") | exact Or.inr (by walk_at "sqT")); (case he => walk_at "at")))
local macro_rules | `(tactic| walk_at "key") => `(tactic| with_reducible assumption)

def StoreF0 : List (Str × V) := []
def StoreF (v0 : V) : List (Str × V) := [("disk", v0)]
theorem StoreF0_len : (StoreF0 ).length < 1000 := by unfold StoreF0; show 0 < 1000; decide
theorem StoreF0_put {v0 : V} : putF "disk" v0 (StoreF0 ) = StoreF v0 := by unfold StoreF0 StoreF; rw [put_nil]
theorem StoreF_len {v0 : V} : (StoreF v0).length < 1000 := by unfold StoreF; show 1 < 1000; decide
theorem StoreF_get_disk {v0 : V} : List.lookup ("disk" : Str) (StoreF v0) = some v0 := by unfold StoreF; rw [look_cons, if_pos rfl]
theorem StoreF_put_disk {v0 w : V} : putF "disk" w (StoreF v0) = StoreF w := by unfold StoreF; rw [put_cons, if_pos rfl]
theorem StoreF_no {v0 : V} {m : Str} (h0 : ¬ m = "disk") : List.lookup m (StoreF v0) = none := by unfold StoreF; rw [look_cons, if_neg h0]; rfl
local macro_rules | `(tactic| walk_at "lk") => `(tactic| with_reducible first | assumption | exact DiskF_get_lying | exact DiskF_get_pending | exact DiskF_get_spoils | exact StoreF_get_disk | exact DiskF_no (by decide +kernel) (by decide +kernel) (by decide +kernel) | exact StoreF_no (by decide +kernel))
local macro_rules | `(tactic| walk_at "puts") => `(tactic| try simp only [DiskF_put_lying, DiskF_put_pending, DiskF_put_spoils, StoreF_put_disk, DiskF0_put, DiskF1_put, DiskF2_put, StoreF0_put])
local macro_rules | `(tactic| walk_at "flen") => `(tactic| first | with_reducible assumption | with_reducible (first | exact DiskF_len | exact StoreF_len | exact DiskF0_len | exact DiskF1_len | exact DiskF2_len | exact StoreF0_len) | decide)
section
variable {Z : Ads} {P : Program} {w : World} {K : PySem.W.Frag} {mg : Str → Option Value} {base : Heap}
def fell (p : PyData) (h : Int) : List PyData := match p with
  | .tuple [k, v] => if h = 0 then [] else if h = 2 then [.tuple [k, v, .bool true]] else [.tuple [k, .none, .bool false]]
  | _ => []
def fallen (ps : List PyData) (hs : List Int) : List PyData := (ps.zip hs).flatMap fun x => fell x.1 x.2
theorem fallen_cons (p : PyData) (ps : List PyData) (h : Int) (hs : List Int) : fallen (p :: ps) (h :: hs) = fell p h ++ fallen ps hs := by simp [fallen]
theorem fallen_snoc : ∀ {i : Nat} {ps : List PyData} {hs : List Int} {p : PyData} {h : Int}, ps[i]? = some p → hs[i]? = some h → fallen (ps.take (i + 1)) (hs.take (i + 1)) = fallen (ps.take i) (hs.take i) ++ fell p h
  | _, [], _, _, _, hp, _ => by simp at hp
  | _, _, [], _, _, _, hh => by simp at hh
  | 0, p' :: ps, h' :: hs, p, h, hp, hh => by
    simp only [List.getElem?_cons_zero, Option.some.injEq] at hp hh
    subst hp hh
    simp [fallen]
  | i + 1, p' :: ps, h' :: hs, p, h, hp, hh => by
    simp only [List.getElem?_cons_succ] at hp hh
    rw [List.take_succ_cons, List.take_succ_cons, fallen_cons, fallen_snoc hp hh, List.take_succ_cons, List.take_succ_cons, fallen_cons, List.append_assoc]
theorem fallen_len {ps : List PyData} {hs : List Int} : (fallen ps hs).length ≤ ps.length := by
  unfold fallen
  induction ps generalizing hs with
  | nil => simp
  | cons p ps ih =>
    cases hs with
    | nil => simp
    | cons h hs =>
      simp only [List.zip_cons_cons, List.flatMap_cons, List.length_append, List.length_cons]
      have := ih (hs := hs)
      have : (fell p h).length ≤ 1 := by
        unfold fell
        split
        · split
          · simp
          · split <;> simp
        · simp
      omega
def spFall (C : Addr) : Sp := fun vs H Q _ => ∃ (n : Int) (d l q r : Addr) (ls ps : List PyData) (hs : List Int), vs = [.ref d, .ref r] ∧ DiskAt C n H d l q ls ps ∧ H r = some (.tup (hs.map V.int)) ∧ hs.length = ps.length ∧ (∀ h ∈ hs, 0 ≤ h ∧ h ≤ 2) ∧ ps.length ≤ 1000 ∧ ls.length ≤ 1000 ∧ (∀ e ∈ ps, IsPr e) ∧
  ∀ H' q', H q' = none → DiskAt C n H' d l q' (ls ++ fallen ps hs) [] → Fr [d, l] H H' → Q .non H'
abbrev s_Disk_fall : Stmt := inClass (top 68) 3
theorem sc_Disk_fall : FnScope ["self", "reached", "one", "word"] ["self", "reached"] (defScope s_Disk_fall) := ⟨rfl, rfl, rfl, by decide +kernel, rfl, by decide +kernel, by decide +kernel⟩
theorem ok_Disk_fall {f : Addr} {fd : FuncData} (F : Fun K "fall" "Disk.fall" s_Disk_fall f fd) (T : Txt K mg Z) (D_is_tuple : Dn P w K mg base "is_tuple" 1 ["thing", "least", "most"] spTuple) (D_is_between : Dn P w K mg base "is_between" 2 ["thing", "least", "most"] spBetween) :
    FnOk P w K mg base (L2.CX P w) 3 f fd ["self", "reached"] (spFall Z.Disk) := by
  have cl := T.cl
  have aL := T.aL
  have aP := T.aP
  have aS := T.aS
  refine okN F sc_Disk_fall (fun vs H Q E h => ?_) (fun cdv A outer s0 H vs Q E hr h => ?_)
  · obtain ⟨n, d, l, q, r, ls, ps, hs, rfl, _⟩ := h
    rfl
  · obtain ⟨n, d, l, q, r, ls, ps, hs, rfl, ⟨⟨dx, hd⟩, ⟨xs, hl, tl⟩, ⟨ys, hq, tq⟩, lq⟩, hR, hlen, hbd, hps, hls, hpr, k⟩ := h
    have hny := tq.length
    have hnx := tl.length
    refine ⟨_, [some _, some _, none, none], rfl, (pss_cons (ps_if (pt_not (pt_val (pe_d D_is_tuple E0 (hr.mono (by first | decide | omega)) (by rfl) passL (pa_cons (pv 1) (pa_cons (pe_callB (kLen (K := K)) (by rfl) T.n_len (by decide +kernel) (pa_cons (kFld (K := K) (pv 0) rfl) pa_nil)) (pa_cons (pe_callB (kLen (K := K)) (by rfl) T.n_len (by decide +kernel) (pa_cons (kFld (K := K) (pv 0) rfl) pa_nil)) pa_nil)))))) (pss_one ps_never) pss_nil)
      (pss_cons (ps_if (pt_not (pt_val (pe_callB (kAll (K := K)) (by rfl) T.n_all (by decide +kernel) (pa_cons (pe_lc (own := [("one", 2)]) (g := (gName 2)) (tt := tYes) rfl sc_Disk_fall.nd (kPiT (K := K) (pv 1)) (blkOk_by (N := ["self", "reached", "one", "word"]) (sc := defScope s_Disk_fall) (by decide +kernel)) (fun _ _ _ _ _ => (pg_name (i := 2) sc_Disk_fall.nd rfl (by first | exact Or.inl rfl | exact Or.inr rfl))) (fun _ _ _ _ _ => pts_nil) (fun _ _ _ _ _ => (pe_d D_is_between E0 (hr.mono (by first | decide | omega)) (by rfl) passL (pa_cons (pv 2) (pa_cons (pe_gl (by rfl) T.g_LOST) (pa_cons (pe_gl (by rfl) T.g_WHOLE) pa_nil)))))) pa_nil)))) (pss_one ps_never) pss_nil)
      (pss_cons (ps_for PassesOwn.never rfl (kZip true false (K := K) (by rfl) T.n_zip (pa_cons (pv 1) (pa_cons (kFld (K := K) (pv 0) rfl) pa_nil))) (kTupT (K := K) (n := 2) (pgs_cons (pg_name (i := 2) sc_Disk_fall.nd rfl (by first | exact Or.inl rfl | exact Or.inr rfl)) (pgs_cons (pg_name (i := 3) sc_Disk_fall.nd rfl (by first | exact Or.inl rfl | exact Or.inr rfl)) pgs_nil)))
      (pss_one (ps_if (pt_cmpR op_ne (pv 2) (pe_gl (by rfl) T.g_LOST) (by first | exact nomark _ | rfl)) (pss_one (ps_expr (kApp (K := K) (kFld (K := K) (pv 0) rfl) (pe_tup (pa_cons (pe_ix (kIxT (K := K)) (pv 3) pe_int (fun _ _ => rfl)) (pa_cons (pe_ifExp (pt_cmpR op_eq (pv 2) (pe_gl (by rfl) T.g_WHOLE) (by first | exact nomark _ | rfl)) (pe_ix (kIxT (K := K)) (pv 3) pe_int (fun _ _ => rfl)) pe_non) (pa_cons (pe_cmpR op_eq (pv 2) (pe_gl (by rfl) T.g_WHOLE) (by first | exact nomark _ | rfl)) pa_nil))))))) pss_nil)))
      (pss_one (kSFld (K := K) (pv 0) (pe_lst pa_nil) rfl))))), ?_⟩
    walk_at "st"
    refine ⟨r, _, _, _, rfl, hR, by rw [List.length_map]; omega, ?_⟩
    have e1 : (decide (((ys.length : Nat) : Int) ≤ (((hs.map V.int).length : Nat) : Int)) && decide ((((hs.map V.int).length : Nat) : Int) ≤ ((ys.length : Nat) : Int))) = true := by
      rw [List.length_map, hlen, hny]; simp
    rw [e1]
    walk_at "st"
    intro D hD
    refine lc_it (walk_tup (xs := hs.map V.int)) (fun i H' => Fr [] H H' ∧ H' D = some (.lst ((List.replicate i true).map V.bl))) ⟨Fr.up hD, upd_same⟩ (fun i H' _ h => SqT.of (h.1.tup _ _ hR)) ?_ ?_
    · rintro i x H1 H2 hi ⟨f1, e1⟩ ⟨rfl, hx⟩
      rw [List.getElem?_map] at hx
      obtain ⟨h, hh, rfl⟩ := Option.map_eq_some_iff.mp hx
      obtain ⟨b0, b2⟩ := hbd h (List.mem_of_getElem? hh)
      rw [List.length_map] at hi
      walk_at "st"
      refine ⟨h, 0, 2, rfl, ?_⟩
      rw [decide_eq_true b0, decide_eq_true b2]
      refine ⟨_, e1, line_lt (by simp; omega), f1.wl e1 (.inr hD), ?_⟩
      rw [upd_same, List.replicate_succ', List.map_append]
      rfl
    · rintro H1 ⟨f1, e1⟩
      walk_at "st"
      refine st_all (SqL.of e1) ?_
      rw [show (List.replicate (hs.map V.int).length true).all id = true by simp]
      have hd1 := f1.same _ _ hd
      have hl1 := f1.same _ _ hl
      have hq1 := f1.same _ _ hq
      have hR1 := f1.same _ _ hR
      walk_at "st"
      refine for_it (walkZ (b := true) (c := false) (xs := hs.map V.int) (ys := ys) (n := ps.length) (by rw [List.length_map]; omega))
        (fun i σ H' => ∃ acc o1 o2, σ = [some (.ref d), some (.ref r), o1, o2] ∧ Fr [l] H H' ∧ H' l = some (.lst (xs ++ acc)) ∧ acc.length ≤ i ∧ TDs H' acc (fallen (ps.take i) (hs.take i)))
        ⟨[], none, none, rfl, f1.mono (by simp), by rw [List.append_nil]; exact hl1, Nat.le_refl _, .nil⟩ (fun i σ H' _ ⟨acc, o1, o2, _, g, _⟩ => ⟨SqT.of (g.tup _ _ hR), SqL.of (g.keep _ _ (by simpa using lq.symm) hq)⟩) ?_ ?_
      · rintro i x σ H2 H3 hi ⟨acc, o1, o2, rfl, g, e2, ea, ta⟩ ⟨t, v1, v2, rfl, ht, rfl, hx, hy⟩
        have hx : (hs.map V.int)[i]? = some v1 := hx
        have hy : ys[i]? = some v2 := hy
        rw [List.getElem?_map] at hx
        obtain ⟨h, hh, rfl⟩ := Option.map_eq_some_iff.mp hx
        have g1 := g.new (o := .tup [V.int h, v2]) ht
        obtain ⟨e, he, te⟩ := TDs.at_ (TDs.mono g1.tup _ _ tq) hy
        obtain ⟨kd, vd, rfl, _, _⟩ := hpr e (List.mem_of_getElem? he)
        cases te with
        | @tup a zs _ ha hT =>
        cases hT with
        | @cons z1 _ _ _ t1 hT =>
        cases hT with
        | @cons z2 _ _ _ t2 hT =>
        cases hT
        have e3 := upd_old (o' := HO.tup [V.int h, .ref a]) ht e2
        have hd3 := g1.keep _ _ (by simpa using (ne_of hd hl (by intro z; cases z) : d ≠ l)) hd
        have hT0 : Tp H2 (upd H2 t (.tup [V.int h, .ref a])) := (Fr.up (ms := []) ht).tup
        have fin : ∀ (H4 : Hp) (u : Addr) (z : List V) (zd : List PyData), upd H2 t (.tup [V.int h, .ref a]) u = none → H4 = upd (upd (upd H2 t (.tup [V.int h, .ref a])) u (.tup z)) l (.lst ((xs ++ acc) ++ [.ref u])) → TDs (upd H2 t (.tup [V.int h, .ref a])) z zd → fell (.tuple [kd, vd]) h = [.tuple zd] →
            ∃ acc' o1' o2', [some (V.ref d), some (V.ref r), some (V.int h), some (V.ref a)] = [some (.ref d), some (.ref r), o1', o2'] ∧ Fr [l] H H4 ∧ H4 l = some (.lst (xs ++ acc')) ∧ acc'.length ≤ i + 1 ∧ TDs H4 acc' (fallen (ps.take (i + 1)) (hs.take (i + 1))) := by
          intro H4 u z zd hu eH tz ef
          have e5 := upd_old (o' := HO.tup z) hu e3
          have gT : Tp (upd H2 t (.tup [V.int h, .ref a])) H4 := by
            rw [eH]
            exact ((Fr.up (ms := [l]) hu).wl e5 (.inl (by simp))).tup
          refine ⟨acc ++ [.ref u], _, _, rfl, ?_, ?_, by simp; omega, ?_⟩
          · rw [eH]
            exact (g1.new hu).wl e5 (.inl (by simp))
          · rw [eH, upd_same, List.append_assoc]
          · rw [fallen_snoc he hh, ef]
            refine TDs.snoc (TDs.mono (hT0.trans gT) _ _ ta) (.tup ?_ (TDs.mono gT _ _ tz))
            rw [eH, upd_ne (ne_of (H := upd (upd H2 t (.tup [V.int h, .ref a])) u (.tup z)) upd_same e5 (by intro z; cases z))]
            exact upd_same
        have hlim : (xs ++ acc).length ≤ 100000 := by rw [List.length_append]; omega
        walk_at "st"
        refine iteDN (fun h0 => ?_) (fun h0 => ?_)
        · cases h0
          refine ⟨acc, _, _, rfl, g1, e3, by omega, ?_⟩
          rw [fallen_snoc he hh]
          simp only [fell, if_pos, List.append_nil]
          exact TDs.mono hT0 _ _ ta
        · have n0 : h ≠ 0 := fun z => h0 (by rw [z])
          walk_at "st"
          refine iteD (fun h2 => ?_) (fun h2 => ?_)
          · have h2' : h = 2 := V.int.inj h2
            walk_at "st"
            rw [decide_eq_true h2]
            walk_at "st"
            intro u hu
            walk_at "st"
            exact fin _ u _ _ hu rfl (.cons t1 (.cons t2 (.cons (.bl true) .nil))) (by simp only [fell, if_neg n0, if_pos h2'])
          · have h2' : ¬ h = 2 := fun z => h2 (by rw [z])
            walk_at "st"
            rw [decide_eq_false h2]
            walk_at "st"
            intro u hu
            walk_at "st"
            exact fin _ u _ _ hu rfl (.cons t1 (.cons .non (.cons (.bl false) .nil))) (by simp only [fell, if_neg n0, if_neg h2'])
      · rintro σ H2 ⟨acc, o1, o2, rfl, g, e2, ea, ta⟩
        have dl : d ≠ l := ne_of hd hl (by intro z; cases z)
        have hd2 := g.keep _ _ (by simpa using dl) hd
        walk_at "st"
        intro q' hq'
        walk_at "st"
        have n1 : q' ≠ l := (ne_of_none e2 hq').symm
        have n2 : q' ≠ d := (ne_of_none hd2 hq').symm
        have gd := (g.mono (ns := [d, l]) (by simp)).new (o := .lst []) hq'
        have g1 := gd.wi (o' := .ins Z.Disk dx (DiskF (.ref l) (.ref q') (.int n))) (upd_old hq' hd2) (.inl (by simp))
        have g2 : Tp H2 _ := ((Fr.up (ms := [d, l]) (o := .lst []) hq').wi (o' := .ins Z.Disk dx (DiskF (.ref l) (.ref q') (.int n))) (upd_old hq' hd2) (.inl (by simp))).tup
        have t2 : hs.take ps.length = hs := List.take_of_length_le (by omega)
        rw [List.take_length, t2] at ta
        exact k _ q' (g.back (by simpa using n1) hq') ⟨⟨dx, upd_same⟩, ⟨xs ++ acc, by walk_at "hp", TDs.app (TDs.mono g1.tup _ _ tl) (TDs.mono g2 _ _ ta)⟩, ⟨[], by walk_at "hp", .nil⟩, n1.symm⟩ g1
def spWaiting (C : Addr) : Sp := fun vs H Q _ => ∃ (n : Int) (d l q : Addr) (ls ps : List PyData), vs = [.ref d] ∧ DiskAt C n H d l q ls ps ∧ Q (.int ps.length) H
abbrev s_Disk_waiting : Stmt := inClass (top 68) 5
theorem sc_Disk_waiting : FnScope ["self"] ["self"] (defScope s_Disk_waiting) := ⟨rfl, rfl, rfl, by decide +kernel, rfl, by decide +kernel, by decide +kernel⟩
theorem ok_Disk_waiting {f : Addr} {fd : FuncData} (F : Fun K "waiting" "Disk.waiting" s_Disk_waiting f fd) (T : Txt K mg Z) : FnOk P w K mg base (L2.CX P w) 1 f fd ["self"] (spWaiting Z.Disk) := by
  have cl := T.cl
  have aP := T.aP
  refine okN F sc_Disk_waiting (fun vs H Q E h => ?_) (fun cdv A outer s0 H vs Q E hr h => ?_)
  · obtain ⟨n, d, l, q, ls, ps, rfl, _⟩ := h
    rfl
  · obtain ⟨n, d, l, q, ls, ps, rfl, ⟨⟨dx, hd⟩, _, ⟨ys, hq, tq⟩, _⟩, k⟩ := h
    refine ⟨_, [some _], rfl, (pss_one (ps_ret (pe_callB (kLen (K := K)) (by rfl) T.n_len (by decide +kernel) (pa_cons (kFld (K := K) (pv 0) rfl) pa_nil)))), ?_⟩
    walk_at "st"
    rw [tq.length]
    exact k
end

section
variable {Z : Ads} {P : Program} {w : World} {K : PySem.W.Frag} {mg : Str → Option Value} {base : Heap}
def spWords (C : Addr) : Sp := fun vs H Q _ => ∃ (n : Int) (d l q : Addr) (ls ps : List PyData), vs = [.ref d] ∧ DiskAt C n H d l q ls ps ∧ ∀ H' p xs, H p = none → H' p = some (.lst xs) → TDs H' xs ls → Fr [] H H' → Q (.ref p) H'
abbrev s_Disk_words : Stmt := inClass (top 68) 4
theorem sc_Disk_words : FnScope ["self"] ["self"] (defScope s_Disk_words) := ⟨rfl, rfl, rfl, by decide +kernel, rfl, by decide +kernel, by decide +kernel⟩
theorem ok_Disk_words {f : Addr} {fd : FuncData} (F : Fun K "words" "Disk.words" s_Disk_words f fd) (T : Txt K mg Z) : FnOk P w K mg base (L2.CX P w) 1 f fd ["self"] (spWords Z.Disk) := by
  have cl := T.cl
  have aL := T.aL
  refine okN F sc_Disk_words (fun vs H Q E h => ?_) (fun cdv A outer s0 H vs Q E hr h => ?_)
  · obtain ⟨n, d, l, q, ls, ps, rfl, _⟩ := h
    rfl
  · obtain ⟨n, d, l, q, ls, ps, rfl, ⟨⟨dx, hd⟩, ⟨xs, hl, tl⟩, _, _⟩, k⟩ := h
    refine ⟨_, [some _], rfl, (pss_one (ps_ret (pe_callTy (kListOf (K := K)) (by rfl) T.n_list (by decide +kernel) (pa_cons (kFld (K := K) (pv 0) rfl) pa_nil)))), ?_⟩
    walk_at "st"
    intro p hp
    exact k _ p xs hp upd_same (TDs.mono (Fr.up (ms := []) hp).tup _ _ tl) (Fr.up hp)
end

section
variable {Z : Ads} {P : Program} {w : World} {K : PySem.W.Frag} {mg : Str → Option Value} {base : Heap}
def spSpoil (C : Addr) : Sp := fun vs H Q _ => ∃ (n : Int) (d l q : Addr) (ls ps : List PyData) (i : Nat), vs = [.ref d, .int i] ∧ DiskAt C n H d l q ls ps ∧ i < ls.length ∧ ls.length ≤ 1000 ∧ ∀ H', DiskAt C (n + 1) H' d l q (ls.eraseIdx i) ps → Fr [d, l] H H' → Q .non H'
abbrev s_Disk_spoil : Stmt := inClass (top 68) 6
theorem sc_Disk_spoil : FnScope ["self", "at"] ["self", "at"] (defScope s_Disk_spoil) := ⟨rfl, rfl, rfl, by decide +kernel, rfl, by decide +kernel, by decide +kernel⟩
theorem TDs_erase {H : Hp} {vs : List V} {ds : List PyData} (i : Nat) (h : TDs H vs ds) : TDs H (vs.eraseIdx i) (ds.eraseIdx i) := by
  rw [List.eraseIdx_eq_take_drop_succ, List.eraseIdx_eq_take_drop_succ]
  exact (h.take i).app (h.drop (i + 1))
theorem ok_Disk_spoil {f : Addr} {fd : FuncData} (F : Fun K "spoil" "Disk.spoil" s_Disk_spoil f fd) (T : Txt K mg Z) (D_is_between : Dn P w K mg base "is_between" 2 ["thing", "least", "most"] spBetween) : FnOk P w K mg base (L2.CX P w) 3 f fd ["self", "at"] (spSpoil Z.Disk) := by
  have cl := T.cl
  have aL := T.aL
  have aP := T.aP
  have aS := T.aS
  refine okN F sc_Disk_spoil (fun vs H Q E h => ?_) (fun cdv A outer s0 H vs Q E hr h => ?_)
  · obtain ⟨n, d, l, q, ls, ps, i, rfl, _⟩ := h
    rfl
  · obtain ⟨n, d, l, q, ls, ps, i, rfl, ⟨⟨dx, hd⟩, ⟨xs, hl, tl⟩, ⟨ys, hq, tq⟩, lq⟩, hi, hls, k⟩ := h
    have hnx := tl.length
    have dl : d ≠ l := ne_of hd hl (by intro z; cases z)
    have dq : d ≠ q := ne_of hd hq (by intro z; cases z)
    refine ⟨_, [some _, some _], rfl, (pss_cons (ps_if (pt_not (pt_val (pe_d D_is_between E0 (hr.mono (by first | decide | omega)) (by rfl) passL (pa_cons (pv 1) (pa_cons pe_int (pa_cons (pe_op op_sub (pe_callB (kLen (K := K)) (by rfl) T.n_len (by decide +kernel) (pa_cons (kFld (K := K) (pv 0) rfl) pa_nil)) pe_int) pa_nil)))))) (pss_one ps_never) pss_nil)
      (pss_cons (ps_expr (kBm (K := K) PySem.F.plainAttrs_list PySem.F.slot_list_pop PySem.F.type_list_pop mt_popAt (kFld (K := K) (pv 0) rfl) (pa_cons (pv 1) pa_nil)))
      (pss_one (kSFld (K := K) (pv 0) (pe_op op_add (kFld (K := K) (pv 0) rfl) pe_int) rfl)))), ?_⟩
    walk_at "st"
    refine ⟨i, 0, _, rfl, ?_⟩
    rw [decide_eq_true (by omega), decide_eq_true (by omega), Bool.and_self]
    walk_at "st"
    refine st_popAtN (k := i) (by omega) hl (List.getElem?_eq_getElem (by omega)) ?_
    walk_at "st"
    have g1 : Fr [d, l] H _ := ((Fr.refl H).wl (o' := .lst (xs.eraseIdx i)) hl (.inl (by simp))).wi (o' := .ins Z.Disk dx (DiskF (.ref l) (.ref q) (.int (n + 1)))) (by walk_at "hp") (.inl (by simp))
    exact k _ ⟨⟨dx, upd_same⟩, ⟨_, by walk_at "hp", TDs.mono g1.tup _ _ (TDs_erase i tl)⟩, ⟨ys, by walk_at "hp", TDs.mono g1.tup _ _ tq⟩, lq⟩ g1
end

section
variable {Z : Ads} {P : Program} {w : World} {K : PySem.W.Frag} {mg : Str → Option Value} {base : Heap}
/-! ### what is whole on a disk -/
def whole : PyData → List PyData
  | .tuple [k, v, .bool true] => [.tuple [k, v]]
  | _ => []
def wholes (ls ps : List PyData) : List PyData := ls.flatMap whole ++ ps
def IsTr (d : PyData) : Prop := ∃ k v b, d = .tuple [k, v, .bool b] ∧ KeyD k ∧ Nice 10 v
theorem whole_pr {e z : PyData} (h : IsTr e) (hz : z ∈ whole e) : IsPr z := by
  obtain ⟨k, v, b, rfl, hk, hv⟩ := h
  cases b with
  | false => exact nomatch hz
  | true =>
    rw [List.mem_singleton.mp hz]
    exact ⟨k, v, rfl, hk, hv⟩
theorem wholes_pr {ls ps : List PyData} (hl : ∀ e ∈ ls, IsTr e) (hp : ∀ e ∈ ps, IsPr e) : ∀ e ∈ wholes ls ps, IsPr e := by
  intro e he
  rcases List.mem_append.mp he with he | he
  · obtain ⟨x, hx, hm⟩ := List.mem_flatMap.mp he
    exact whole_pr (hl x hx) hm
  · exact hp e he
theorem whole_len (e : PyData) : (whole e).length ≤ 1 := by
  unfold whole
  split <;> simp
theorem wholes_len (ls ps : List PyData) : (wholes ls ps).length ≤ ls.length + ps.length := by
  unfold wholes
  rw [List.length_append]
  have : (ls.flatMap whole).length ≤ ls.length := by
    induction ls with
    | nil => simp
    | cons x ls ih =>
      rw [List.flatMap_cons, List.length_append, List.length_cons]
      have := whole_len x
      omega
  omega
theorem flat_snoc {ls : List PyData} {i : Nat} {e : PyData} (h : ls[i]? = some e) : (ls.take (i + 1)).flatMap whole = (ls.take i).flatMap whole ++ whole e := by
  rw [take_snoc h, List.flatMap_append]
  simp
def spWholes (C : Addr) : Sp := fun vs H Q _ => ∃ (n : Int) (d l q : Addr) (ls ps : List PyData), vs = [.ref d] ∧ DiskAt C n H d l q ls ps ∧ ls.length + ps.length ≤ 5000 ∧ (∀ e ∈ ls, IsTr e) ∧
  ∀ H' p xs, H p = none → H' p = some (.lst xs) → TDs H' xs (wholes ls ps) → Fr [] H H' → Q (.ref p) H'
abbrev s_Disk_wholes : Stmt := inClass (top 68) 8
theorem sc_Disk_wholes : FnScope ["self", "key", "thing", "is_whole"] ["self"] (defScope s_Disk_wholes) := ⟨rfl, rfl, rfl, by decide +kernel, rfl, by decide +kernel, by decide +kernel⟩
theorem ok_Disk_wholes {f : Addr} {fd : FuncData} (F : Fun K "wholes" "Disk.wholes" s_Disk_wholes f fd) (T : Txt K mg Z) : FnOk P w K mg base (L2.CX P w) 1 f fd ["self"] (spWholes Z.Disk) := by
  have cl := T.cl
  have aL := T.aL
  have aP := T.aP
  refine okN F sc_Disk_wholes (fun vs H Q E h => ?_) (fun cdv A outer s0 H vs Q E hr h => ?_)
  · obtain ⟨n, d, l, q, ls, ps, rfl, _⟩ := h
    rfl
  · obtain ⟨n, d, l, q, ls, ps, rfl, ⟨⟨dx, hd⟩, ⟨xs, hl, tl⟩, ⟨ys, hq, tq⟩, lq⟩, hsz, htr, k⟩ := h
    have hnx := tl.length
    have hny := tq.length
    refine ⟨_, [some _, none, none, none], rfl, (pss_one (ps_ret (pe_op op_cat (pe_lc (own := [("key", 1), ("thing", 2), ("is_whole", 3)]) (g := (gTup K 3 (gCons (gName 1) (gCons (gName 2) (gCons (gName 3) gNil))))) (tt := _) rfl sc_Disk_wholes.nd (kPiL (K := K) (kFld (K := K) (pv 0) rfl)) (blkOk_by (N := ["self", "key", "thing", "is_whole"]) (sc := defScope s_Disk_wholes) (by decide +kernel)) (fun _ _ _ _ _ => (kTupT (K := K) (n := 3) (pgs_cons (pg_name (i := 1) sc_Disk_wholes.nd rfl (by first | exact Or.inl rfl | exact Or.inr rfl)) (pgs_cons (pg_name (i := 2) sc_Disk_wholes.nd rfl (by first | exact Or.inl rfl | exact Or.inr rfl)) (pgs_cons (pg_name (i := 3) sc_Disk_wholes.nd rfl (by first | exact Or.inl rfl | exact Or.inr rfl)) pgs_nil))))) (fun _ _ _ _ _ => (pts_one (pt_val (pv 3)))) (fun _ _ _ _ _ => (pe_tup (pa_cons (pv 1) (pa_cons (pv 2) pa_nil))))) (kFld (K := K) (pv 0) rfl)))), ?_⟩
    walk_at "st"
    intro D hD
    refine lc_it (walk_list (xs := xs)) (fun i H' => Fr [] H H' ∧ ∃ acc, H' D = some (.lst acc) ∧ acc.length ≤ i ∧ TDs H' acc ((ls.take i).flatMap whole)) ⟨Fr.up hD, [], upd_same, Nat.le_refl _, .nil⟩ (fun i H' _ h => SqL.of (h.1.same _ _ hl)) ?_ ?_
    · rintro i x H1 H2 hi ⟨f1, acc, e1, ea, ta⟩ ⟨rfl, hx⟩
      obtain ⟨e, he, te⟩ := TDs.at_ (TDs.mono f1.tup _ _ tl) hx
      obtain ⟨kd, vd, b, rfl, _, _⟩ := htr e (List.mem_of_getElem? he)
      cases te with
      | @tup a zs _ ha hT =>
      cases hT with
      | @cons z1 _ _ _ t1 hT =>
      cases hT with
      | @cons z2 _ _ _ t2 hT =>
      cases hT with
      | @cons z3 _ _ _ t3 hT =>
      cases hT
      cases t3
      walk_at "st"
      cases b with
      | true =>
        walk_at "st"
        intro t ht
        have e2 := upd_old (o' := HO.tup [z1, z2]) ht e1
        have f2 := f1.new (o := .tup [z1, z2]) ht
        have f3 := f2.wl (o' := .lst (acc ++ [.ref t])) e2 (.inr hD)
        have gT : Tp H2 (upd (upd H2 t (.tup [z1, z2])) D (.lst (acc ++ [.ref t]))) := ((Fr.up (ms := [D]) ht).wl e2 (.inl (by simp))).tup
        refine ⟨acc, e2, line_lt (by omega), f3, acc ++ [.ref t], upd_same, by rw [List.length_append]; simp; omega, ?_⟩
        rw [flat_snoc he]
        refine TDs.snoc (TDs.mono gT _ _ ta) (.tup ?_ (.cons (TD.mono gT _ _ t1) (.cons (TD.mono gT _ _ t2) .nil)))
        rw [upd_ne (ne_of (H := upd H2 t (.tup [z1, z2])) upd_same e2 (by intro z; cases z))]
        exact upd_same
      | false =>
        walk_at "st"
        refine ⟨f1, acc, e1, by omega, ?_⟩
        rw [flat_snoc he]
        show TDs _ _ (_ ++ [])
        rw [List.append_nil]
        exact ta
    · rintro H1 ⟨f1, acc, e1, ea, ta⟩
      have hd1 := f1.same _ _ hd
      have hq1 := f1.same _ _ hq
      walk_at "st"
      intro p hp
      rw [List.take_of_length_le (by omega)] at ta
      have f2 := f1.new (o := .lst (acc ++ ys)) hp
      exact k _ p _ (f1.free hp) upd_same (TDs.app (TDs.mono (Fr.up (ms := []) hp).tup _ _ ta) (TDs.mono f2.tup _ _ tq)) f2
/-! ### a store -/
structure StoreAt (C : Addr) (H : Hp) (s d : Addr) : Prop where
  ok : ∃ dx, H s = some (.ins C dx (StoreF (.ref d)))
def spSInit (C : Addr) : Sp := fun vs H Q _ => ∃ (s dx d : Addr), vs = [.ref s, .ref d] ∧ H s = some (.ins C dx StoreF0) ∧ ∀ H', StoreAt C H' s d → Fr [s] H H' → Q .non H'
abbrev s_Store___init__ : Stmt := inClass (top 71) 0
theorem sc_Store___init__ : FnScope ["self", "disk"] ["self", "disk"] (defScope s_Store___init__) := ⟨rfl, rfl, rfl, by decide +kernel, rfl, by decide +kernel, by decide +kernel⟩
theorem ok_Store_init {f : Addr} {fd : FuncData} (F : Fun K "__init__" "Store.__init__" s_Store___init__ f fd) (T : Txt K mg Z) : FnOk P w K mg base (L2.CX P w) 1 f fd ["self", "disk"] (spSInit Z.Store) := by
  have clS := T.clS
  have aD := T.aD
  refine okN F sc_Store___init__ (fun vs H Q E h => ?_) (fun cdv A outer s0 H vs Q E hr h => ?_)
  · obtain ⟨s, dx, d, rfl, _⟩ := h
    rfl
  · obtain ⟨s, dx, d, rfl, hs, k⟩ := h
    refine ⟨_, [some _, some _], rfl, (pss_one (kSFld (K := K) (pv 0) (pv 1) rfl)), ?_⟩
    walk_at "st"
    exact k _ ⟨dx, upd_same⟩ ((Fr.refl H).wi hs (.inl (by simp)))
/-! ### keys as values -/
def isSeal : PyData → Bool
  | .tuple (.str x :: _) => decide (x = "seal")
  | _ => false
theorem kparts_v {H : Hp} : ∀ (ds : List PyData) (vs : List V), TDs H vs ds → (∀ e ∈ ds, KPart e) → vs = (ds.map keyOf).map kV
  | [], _, h, _ => by cases h; rfl
  | d :: ds, _, h, k => by
    cases h with
    | cons a b =>
      rw [List.map_cons, List.map_cons, ← kparts_v ds _ b fun e he => k e (List.mem_cons_of_mem _ he)]
      rcases k d (by simp) with ⟨x, rfl, _⟩ | ⟨i, _, rfl⟩
      · cases a; rfl
      · cases a; rfl
theorem key_td {H : Hp} {v : V} {d : PyData} (t : TD H v d) (hk : KeyD d) : ∃ (b : Addr) (z : V) (zs : List V), v = .ref b ∧ H b = some (.tup (z :: zs)) ∧ (keysOf d).map kV = z :: zs ∧
    ((∃ x, z = .str x ∧ isSeal d = decide (x = "seal")) ∨ ∃ i, z = .int i ∧ isSeal d = false) := by
  obtain ⟨ds, rfl, h0, h3, hk⟩ := hk
  cases t with
  | @tup a xs _ ha hT =>
    have e := kparts_v ds xs hT hk
    cases ds with
    | nil => exact absurd h0 (by simp)
    | cons d ds =>
      cases hT with
      | @cons z zs _ _ t1 t2 =>
        refine ⟨a, z, zs, rfl, ha, e.symm, ?_⟩
        rcases hk d (by simp) with ⟨x, rfl, _⟩ | ⟨i, _, rfl⟩
        · cases t1
          exact .inl ⟨x, rfl, rfl⟩
        · cases t1
          exact .inr ⟨i, rfl, rfl⟩
theorem UKey.seal {d : PyData} (h : UKey d) : isSeal d = false := by
  obtain ⟨ds, rfl, h0, h3, hk⟩ := h
  cases ds with
  | nil => exact absurd h0 (by simp)
  | cons d ds =>
    obtain ⟨a, b⟩ := hk d (by simp)
    rcases a with ⟨x, rfl, _⟩ | ⟨i, _, rfl⟩
    · show decide (x = "seal") = false
      exact decide_eq_false fun e => b (by rw [e])
    · rfl
theorem DiskAt.keep {C : Addr} {n : Int} {H H' : Hp} {d l q : Addr} {ls ps : List PyData} {ms : List Addr} (D : DiskAt C n H d l q ls ps) (f : Fr ms H H') (nd : d ∉ ms) (nl : l ∉ ms) (nq : q ∉ ms) : DiskAt C n H' d l q ls ps := by
  obtain ⟨⟨dx, hd⟩, ⟨xs, hl, tl⟩, ⟨ys, hq, tq⟩, lq⟩ := D
  exact ⟨⟨dx, f.keep _ _ nd hd⟩, ⟨xs, f.keep _ _ nl hl, TDs.mono f.tup _ _ tl⟩, ⟨ys, f.keep _ _ nq hq, TDs.mono f.tup _ _ tq⟩, lq⟩
theorem StoreAt.keep {C : Addr} {H H' : Hp} {s d : Addr} {ms : List Addr} (S : StoreAt C H s d) (f : Fr ms H H') (n : s ∉ ms) : StoreAt C H' s d := by
  obtain ⟨dx, h⟩ := S
  exact ⟨dx, f.keep _ _ n h⟩
def sealD (j : Int) : PyData := .tuple [.tuple [.str "seal"], .int j]
theorem sealKey : KeyD (.tuple [.str "seal"]) := ⟨_, rfl, by decide, by decide, fun e he => by rw [List.mem_singleton.mp he]; exact .inl ⟨_, rfl, by decide +kernel⟩⟩
theorem nice_int (n : Nat) (j : Int) : Nice n (.int j) := ⟨rfl, Nat.zero_le _, rfl⟩
theorem sealPr (j : Int) : IsPr (sealD j) := ⟨_, _, rfl, sealKey, nice_int 10 j⟩
/-! ### what is found -/
def putE (m : Dd) : PyData → Dd
  | .tuple [k, v] => if isSeal k = true then m else putD m (keysOf k) v
  | _ => m
def tab (es : List PyData) : Dd := es.foldl putE []
theorem tab_snoc {es : List PyData} {i : Nat} {e : PyData} (h : es[i]? = some e) : tab (es.take (i + 1)) = putE (tab (es.take i)) e := by
  unfold tab
  rw [take_snoc h, List.foldl_append]
  rfl
theorem putE_len (m : Dd) (e : PyData) : (putE m e).length ≤ m.length + 1 := by
  unfold putE
  split
  · split
    · omega
    · exact len_put
  · omega
end

section
variable {Z : Ads} {P : Program} {w : World} {K : PySem.W.Frag} {mg : Str → Option Value} {base : Heap}
/-! ### errors -/
theorem st_vei {K : PySem.W.Frag} {ta : TA} {σ : L2.St} {H : Hp} {Q : VK} (q : ta σ H fun vs H1 => ∃ (a C : Addr) (ws : List V), vs = .ref a :: ws ∧ ws.length ≤ 1000 ∧ OexC K C ∧ H1 a = some (exo a C none) ∧ Q .non H1) : tVeI K ta σ H Q := q
abbrev s_RunError___init__ : Stmt := inClass (top 16) 0
theorem sc_RunError___init__ : FnScope ["self"] ["self"] (defScope s_RunError___init__) := ⟨rfl, rfl, rfl, by decide +kernel, rfl, by decide +kernel, by decide +kernel⟩
theorem ok_RunError_init {f : Addr} {fd : FuncData} (F : Fun K "__init__" "RunError.__init__" s_RunError___init__ f fd) (T : Txt K mg Z) : FnOk P w K mg base (L2.CX P w) 1 f fd ["self"] (spErr0 K) := by
  refine okN F sc_RunError___init__ (fun vs H Q E h => ?_) (fun cdv A outer s0 H vs Q E hr h => ?_)
  · obtain ⟨a, C, rfl, _⟩ := h
    rfl
  · obtain ⟨a, C, rfl, hC, ha, k⟩ := h
    refine ⟨_, [some _], rfl, (pss_one (ps_expr (pe_veinit (by rfl) T.n_ValueError T.vV (pa_cons (pv 0) pa_nil)))), ?_⟩
    walk_at "st"
    refine st_vei ?_
    walk_at "st"
    exact ⟨a, C, [], rfl, by decide, hC, ha, k⟩
end

end K42

namespace K42
open PySem PySem.Spec PyProof.Rows L2 Hq
local macro_rules | `(tactic| walk_at "st1") => `(tactic| first
  | with_reducible refine st_seq ?_ | with_reducible refine st_ret ?_ | with_reducible refine st_ifS ?_ | with_reducible refine st_asg ?_ | with_reducible refine st_drop ?_
  | ((with_reducible refine' st_var ?hv ?_); (case hv => rfl)) | with_reducible refine st_c ?_ | with_reducible refine st_op ?_ | with_reducible refine st_un ?_
  | with_reducible refine st_I0 ?_ | with_reducible refine st_U ?_ | ((with_reducible refine' st_I ?hc ?_); (case hc => walk_at "side"))
  | ((with_reducible refine' st_eq ?hs ?_); (case hs => rfl)) | ((with_reducible refine' st_ne ?hs ?_); (case hs => rfl))
  | with_reducible refine st_test ?_ | with_reducible refine st_B ?_ | with_reducible refine st_bl ?_ | with_reducible refine st_isN ?_ | with_reducible refine st_notN ?_
  | with_reducible refine st_chain ?_ | with_reducible refine st_and ?_ | with_reducible refine st_or ?_ | with_reducible refine st_not ?_
  | with_reducible refine st_andV ?_ | with_reducible refine st_orV ?_ | with_reducible refine st_notV ?_ | with_reducible refine st_if ?_
  | with_reducible refine st_CB ?_ | with_reducible refine st_cons ?_ | with_reducible refine st_nil ?_ | with_reducible refine st_fld ?_
  | ((with_reducible refine st_tup ?_)) | ((with_reducible refine st_lst ?_))
  | with_reducible refine st_call ?_ | with_reducible refine st_meth ?_ | with_reducible refine st_make ?_
  | with_reducible refine st_sl ?_ | with_reducible refine st_noPart ?_ | with_reducible refine st_part ?_ | with_reducible refine st_int ?_
  | ((with_reducible refine' st_ixL ?hq ?he ?_); (case hq => walk_at "sqL"); (case he => walk_at "at"))
  | ((with_reducible refine' st_ixT ?hq ?he ?_); (case hq => walk_at "sqT"); (case he => walk_at "at"))
  | with_reducible refine st_bm ?_ | with_reducible refine st_app ?_
  | ((with_reducible refine' st_append ?hq ?hl ?_); (case hq => walk_at "hp"); (case hl => walk_at "line"))
  | ((with_reducible refine' st_len (n := 0) ?hq ?_); (case hq => first | exact Or.inl (by walk_at "sqL") | exact Or.inr (by walk_at "sqT")))
  | ((with_reducible refine' st_listOf ?hq ?_); (case hq => first | exact Or.inl (by walk_at "sqL") | exact Or.inr (by walk_at "sqT")))
  | ((with_reducible refine st_name ?_); (try dsimp only [List.set_cons_zero, List.set_cons_succ])) | with_reducible refine st_par ?_
  | with_reducible refine st_gcons ?_ | with_reducible refine st_gnil ?_ | with_reducible refine st_gsub ?_ | with_reducible refine st_sFld ?_
  | ((with_reducible refine' st_gtup ?hq ?hl ?_); (case hq => walk_at "sqT"); (case hl => rfl))
  | ((with_reducible refine' st_setL ?hq ?hl ?_); (case hq => walk_at "hp"); (case hl => first | rfl | exact ix0 | exact ixN_nat (by assumption)); (try simp only [Int.reduceToNat, List.set_cons_zero, List.set_cons_succ]))
  | with_reducible refine st_intI ?_ | with_reducible refine st_abs ?_
  | ((with_reducible refine' st_popAt ?hq ?hk ?hy ?_); (case hq => walk_at "hp"); (case hk => exact seq0); (case hy => rfl))
  | ((with_reducible refine' and_left ?ht ?_); (case ht => walk_at "ty"))
  | with_reducible refine st_lc ?_ | with_reducible refine st_for ?_ | with_reducible refine st_iL ?_ | with_reducible refine st_iT ?_ | with_reducible refine st_iR1 ?_ | with_reducible refine st_iR2 ?_ | with_reducible refine st_iZ ?_
  | ((with_reducible refine' st_refL ?hq ?_); (case hq => walk_at "sqL")) | ((with_reducible refine' st_refT ?hq ?_); (case hq => walk_at "sqT"))
  | ((with_reducible refine' st_rng1 ?hq ?_); (case hq => walk_at "side")) | ((with_reducible refine' st_rng2 ?hq ?_); (case hq => walk_at "side"))
  | ((with_reducible refine' st_zip ?hq ?hr ?_); (case hq => walk_at "sqb"); (case hr => walk_at "sqb"))
  | ((with_reducible refine' st_size ?hw ?_); (case hw => walk_at "line"))
  | ((with_reducible refine' st_sum ?hq ?_); (case hq => walk_at "sqL"))
  | with_reducible refine st_two ?_ | with_reducible refine st_yes ?_ | ((with_reducible refine' st_wipe ?hw ?_); (case hw => rfl))
  | ((with_reducible refine' st_slL ?hq ?_); (case hq => walk_at "sqL"))
  | ((with_reducible refine' st_cat ?hq ?hr ?hl ?_); (case hq => walk_at "hp"); (case hr => walk_at "hp"); (case hl => walk_at "line"))
  | ((with_reducible refine' st_isi ?hk ?he ?_); (case hk => walk_at "kd"); (case he => walk_at "kit"))
  | ((with_reducible refine' st_ins ?hq ?hc ?hn ?hl ?_); (case hq => walk_at "hp"); (case hc => with_reducible assumption); (case hn => with_reducible assumption); (case hl => walk_at "flen"); walk_at "puts")
  | ((with_reducible refine' st_att ?hq ?hc ?hn ?hl ?_); (case hq => walk_at "hp"); (case hc => with_reducible assumption); (case hn => with_reducible assumption); (case hl => walk_at "lk"))
  | ((with_reducible refine' st_mt ?hq ?hl ?_); (case hq => walk_at "hp"); (case hl => walk_at "lk"))
  | ((with_reducible refine' st_extend ?hq ?hr ?hl ?_); (case hq => walk_at "hp"); (case hr => walk_at "hp"); (case hl => walk_at "line"))
  | with_reducible refine st_next ?_ | with_reducible refine st_retN ?_ | (with_reducible refine iteNT ?_) | (with_reducible refine iteNF ?_) | (with_reducible refine iteT ?_) | (with_reducible refine iteF ?_))
local macro_rules | `(tactic| walk_at "side") => `(tactic| first | omega | decide | assumption | exact ⟨by omega, by omega⟩ | exact Or.inr ⟨by omega, by omega⟩ | exact Or.inl ⟨by omega, by omega⟩ | (simp only [List.length_map, List.length_cons, List.length_nil, List.length_append] at *; omega))
local macro_rules | `(tactic| walk_at "hp") => `(tactic| first | assumption | exact upd_same | refine upd_old (by assumption) (by walk_at "hp") | (rw [upd_ne (by first | assumption | exact Ne.symm (by assumption))]; walk_at "hp"))
local macro_rules | `(tactic| walk_at "sqL") => `(tactic| first | assumption | exact SqL.of (by walk_at "hp"))
local macro_rules | `(tactic| walk_at "sqT") => `(tactic| first | assumption | exact SqT.of (by walk_at "hp"))
local macro_rules | `(tactic| walk_at "sqb") => `(tactic| (unfold SqB; first | ((with_reducible change SqL _ _ _ _); walk_at "sqL") | ((with_reducible change SqT _ _ _ _); walk_at "sqT")))
local macro_rules | `(tactic| walk_at "line") => `(tactic| first | assumption | decide | (apply line_of; walk_at "side") | (apply line_lt; walk_at "side"))
local macro_rules | `(tactic| walk_at "ty") => `(tactic| ((with_reducible refine' ty_lst ?hq); (case hq => walk_at "hp")))
local macro_rules | `(tactic| walk_at "at") => `(tactic| with_reducible first | assumption | exact at0 | exact at1 | exact at2 | exact at3 | exact at4 | exact at5 | exact at6 | exact at7 | exact at8)
local macro_rules | `(tactic| walk_at "st") => `(tactic| (repeat walk_at "st1"))
local macro_rules | `(tactic| walk_at "lk") => `(tactic| first | with_reducible assumption | rfl)
local macro_rules | `(tactic| walk_at "kd") => `(tactic| first | exact .base (.int _) | exact .base .non | exact .base (.bl _) | exact .base (.str _) | exact .base (.tup (by walk_at "hp")) | exact .base (.lst (by walk_at "hp")) | exact .base (.dK (by walk_at "hp")) | exact .base (.dT (by walk_at "hp")))
local macro_rules | `(tactic| walk_at "kit") => `(tactic| with_reducible first
  | exact kit_NoneType_bool
  | exact kit_NoneType_int
  | exact kit_NoneType_str
  | exact kit_NoneType_tuple
  | exact kit_NoneType_list
  | exact kit_NoneType_dict
  | exact kit_bool_bool
  | exact kit_bool_int
  | exact kit_bool_str
  | exact kit_bool_tuple
  | exact kit_bool_list
  | exact kit_bool_dict
  | exact kit_int_bool
  | exact kit_int_int
  | exact kit_int_str
  | exact kit_int_tuple
  | exact kit_int_list
  | exact kit_int_dict
  | exact kit_str_bool
  | exact kit_str_int
  | exact kit_str_str
  | exact kit_str_tuple
  | exact kit_str_list
  | exact kit_str_dict
  | exact kit_tuple_bool
  | exact kit_tuple_int
  | exact kit_tuple_str
  | exact kit_tuple_tuple
  | exact kit_tuple_list
  | exact kit_tuple_dict
  | exact kit_list_bool
  | exact kit_list_int
  | exact kit_list_str
  | exact kit_list_tuple
  | exact kit_list_list
  | exact kit_list_dict
  | exact kit_dict_bool
  | exact kit_dict_int
  | exact kit_dict_str
  | exact kit_dict_tuple
  | exact kit_dict_list
  | exact kit_dict_dict)
local macro_rules | `(tactic| walk_at "flen") => `(tactic| decide)
local macro_rules | `(tactic| walk_at "puts") => `(tactic| skip)

local macro_rules | `(tactic| walk_at "st1") => `(tactic| first
  | with_reducible refine st_dc ?_ | with_reducible refine st_dgetS ?_ | with_reducible refine st_dinS ?_ | with_reducible refine st_dninS ?_ | with_reducible refine st_dputS ?_ | with_reducible refine st_newT ?_ | with_reducible refine iteNN ?_ | with_reducible refine iteYN ?_
  | ((with_reducible refine' st_getT ?hq ?hk ?hv ?_); (case hq => walk_at "hp"); (case hk => walk_at "key"); (case hv => with_reducible assumption))
  | ((with_reducible refine' st_inT ?hq ?hk ?_); (case hq => walk_at "hp"); (case hk => walk_at "key"))
  | ((with_reducible refine' st_ninT ?hq ?hk ?_); (case hq => walk_at "hp"); (case hk => walk_at "key"))
  | ((with_reducible refine' st_putT ?hq ?hk ?hl ?_); (case hq => walk_at "hp"); (case hk => walk_at "key"); (case hl => walk_at "line"))
  | ((with_reducible refine' st_cputT ?hq ?hk ?hl ?_); (case hq => walk_at "hp"); (case hk => walk_at "key"); (case hl => walk_at "line"))
  | ((with_reducible refine' st_ixB ?hq ?he ?_); (case hq => first | assumption | exact Or.inl (by walk_at "sqL") | exact Or.inr (by walk_at "sqT")); (case he => walk_at "at")))
local macro_rules | `(tactic| walk_at "key") => `(tactic| with_reducible assumption)

local macro_rules | `(tactic| walk_at "lk") => `(tactic| with_reducible first | assumption | exact DiskF_get_lying | exact DiskF_get_pending | exact DiskF_get_spoils | exact StoreF_get_disk | exact DiskF_no (by decide +kernel) (by decide +kernel) (by decide +kernel) | exact StoreF_no (by decide +kernel))
local macro_rules | `(tactic| walk_at "puts") => `(tactic| try simp only [DiskF_put_lying, DiskF_put_pending, DiskF_put_spoils, StoreF_put_disk, DiskF0_put, DiskF1_put, DiskF2_put, StoreF0_put])
local macro_rules | `(tactic| walk_at "flen") => `(tactic| first | with_reducible assumption | with_reducible (first | exact DiskF_len | exact StoreF_len | exact DiskF0_len | exact DiskF1_len | exact DiskF2_len | exact StoreF0_len) | decide)
section
variable {Z : Ads} {P : Program} {w : World} {K : PySem.W.Frag} {mg : Str → Option Value} {base : Heap}
/-! ### a store whose disk may be spoilt -/
def keyE : PyData → PyData
  | .tuple (k :: _) => k
  | d => d
def valE : PyData → PyData
  | .tuple [_, v] => v
  | d => d
def sKey : PyData := .tuple [.str "seal"]
def isS (W : List PyData) (i : Nat) : Bool := PyData.eqv (keyE (W.getD i .none)) sKey
def sealsOf (W : List PyData) : List Nat := (List.range W.length).filter (isS W)
/-- the last seal tells another number than its own -/
def bad (W : List PyData) : Bool := match (sealsOf W).getLast? with
  | none => false
  | some i => !PyData.eqv (valE (W.getD i .none)) (.int i)
def badN (n : Int) (W : List PyData) : Bool := decide (n ≠ 0) && bad W
theorem key_shaped {k : PyData} (h : KeyD k) : SeqAt.shaped k = true := by
  obtain ⟨ds, rfl, h0, h3, hk⟩ := h
  have all : ∀ ds : List PyData, (∀ e ∈ ds, KPart e) → PyData.canLayAll0 ds = true ∧ PyData.depthAll ds = 0 := by
    intro ds
    induction ds with
    | nil => intro _; exact ⟨rfl, rfl⟩
    | cons d ds ih =>
      intro h
      obtain ⟨a2, b2⟩ := ih fun e he => h e (List.mem_cons_of_mem _ he)
      have ab : d.canLay0 = true ∧ d.depth = 0 := by
        rcases h d (by simp) with ⟨x, rfl, hx⟩ | ⟨n, _, rfl⟩
        · exact ⟨hx, rfl⟩
        · exact ⟨rfl, rfl⟩
      simp only [PyData.canLayAll0, PyData.depthAll, ab.1, ab.2, a2, b2, Bool.and_self, true_and]
      omega
  obtain ⟨a, b⟩ := all ds hk
  unfold SeqAt.shaped
  have c1 : PyData.canLay0 (.tuple ds) = true := by simpa only [PyData.canLay0] using a
  have c2 : PyData.depth (.tuple ds) ≤ 64 := by simp only [PyData.depth, b]; omega
  rw [c1, decide_eq_true c2]
  rfl
theorem val_shaped {v : PyData} (h : Nice 10 v) : SeqAt.shaped v = true := by
  unfold SeqAt.shaped
  rw [h.lay, decide_eq_true (show v.depth ≤ 64 from Nat.le_trans h.dep (by decide))]
  rfl
theorem at_last {xs : List V} {x : V} (h : xs.getLast? = some x) : atI xs (-1) = some x := by
  have hne : 0 < xs.length := by
    cases xs with
    | nil => exact nomatch h
    | cons _ _ => simp
  have e : ixN xs.length (-1) = some (xs.length - 1) := by
    unfold ixN
    rw [if_neg (by omega), if_pos (by omega)]
    congr 1
    omega
  unfold atI
  rw [e]
  show xs[xs.length - 1]? = some x
  rw [← h, List.getLast?_eq_getElem?]
def spCheckE (C D CS : Addr) : Sp := fun vs H Q E => ∃ (s d l q : Addr) (n : Int) (ls ps : List PyData), vs = [.ref s] ∧ StoreAt C H s d ∧ DiskAt D n H d l q ls ps ∧ ls.length + ps.length ≤ 5000 ∧ (∀ e ∈ ls, IsTr e) ∧ (∀ e ∈ ps, IsPr e) ∧
  (badN n (wholes ls ps) = true → ∀ H', Fr [] H H' → E (.ref CS) none H') ∧ (badN n (wholes ls ps) = false → ∀ H', Fr [] H H' → Q .non H')
abbrev s_Store_check : Stmt := inClass (top 71) 1
theorem sc_Store_check : FnScope ["self", "words", "seals", "at"] ["self"] (defScope s_Store_check) := ⟨rfl, rfl, rfl, by decide +kernel, rfl, by decide +kernel, by decide +kernel⟩
theorem ok_Store_check {f : Addr} {fd : FuncData} (F : Fun K "check" "Store.check" s_Store_check f fd) (T : Txt K mg Z) (En_Spoilt : En P w K mg base "Spoilt" Z.Spoilt 1) (M_Disk_wholes : Mn P w K mg base Z.Disk "wholes" 1 ["self"] (spWholes Z.Disk)) :
    FnOk P w K mg base (L2.CX P w) 3 f fd ["self"] (spCheckE Z.Store Z.Disk Z.Spoilt) := by
  have cl := T.cl
  have aS := T.aS
  have clS := T.clS
  have aD := T.aD
  refine okE F sc_Store_check (fun vs H Q E h => ?_) (fun cdv A outer s0 H vs Q E hr h => ?_)
  · obtain ⟨s, d, l, q, n, ls, ps, rfl, _⟩ := h
    rfl
  · obtain ⟨s, d, l, q, n, ls, ps, rfl, ⟨dx, hs⟩, D, hsz, htr, hpr, kb, kg⟩ := h
    obtain ⟨dx2, hd⟩ := D.ok
    have hu64 := hr.units
    refine ⟨_, [some _, none, none, none], rfl, (pss_cons (ps_if (pt_cmpR op_eq (kFld (K := K) (kFld (K := K) (pv 0) rfl) rfl) pe_int (by first | exact nomark _ | rfl)) (pss_one ps_retN) pss_nil)
      (pss_cons (ps_set (i := 1) sc_Store_check.nd rfl (by first | exact Or.inl rfl | exact Or.inr rfl) (pe_m0 M_Disk_wholes E0 (hr.mono (by first | decide | omega)) (kFld (K := K) (pv 0) rfl) passL _))
      (pss_cons (ps_setLc (i := 2) (own := [("at", 3)]) (g := (gName 3)) (tt := _) rfl sc_Store_check.nd rfl rfl (sw_true rfl rfl rfl (by decide +kernel)) (pi_range1 (by rfl) T.n_range (pa_cons (pe_callB (kLen (K := K)) (by rfl) T.n_len (by decide +kernel) (pa_cons (pv 1) pa_nil)) pa_nil)) (blkOk_by (N := ["self", "words", "seals", "at"]) (sc := defScope s_Store_check) (by decide +kernel)) (fun _ _ _ _ _ => (pg_name (i := 3) sc_Store_check.nd rfl (by first | exact Or.inl rfl | exact Or.inr rfl))) (fun _ _ _ _ _ => (pts_one (pt_cmpR (kEqD hu64 (K := K)) (pe_ix (kIxT (K := K)) (pe_ix (kIxL (K := K)) (pv 1) (pv 3) (fun _ _ => rfl)) pe_int (fun _ _ => rfl)) (pe_tup (pa_cons (pe_gl (by rfl) T.g_SEAL) pa_nil)) (by first | exact nomark _ | rfl)))) (fun _ _ _ _ _ => (pv 3)))
      (pss_one (ps_if (PW.pt (pw_and (pt_cmpR op_gt (pe_callB (kLen (K := K)) (by rfl) T.n_len (by decide +kernel) (pa_cons (pv 2) pa_nil)) pe_int (by first | exact nomark _ | rfl)) (pw_and1 (pt_cmpR (kNeD hu64 (K := K)) (pe_ix (kIxT (K := K)) (pe_ix (kIxL (K := K)) (pv 1) (pe_ix (kIxL (K := K)) (pv 2) (pe_un un_neg pe_int) (fun _ _ => rfl)) (fun _ _ => rfl)) pe_int (fun _ _ => rfl)) (pe_ix (kIxL (K := K)) (pv 2) (pe_un un_neg pe_int) (fun _ _ => rfl)) (by first | exact nomark _ | rfl))))) (pss_one (ps_err0 En_Spoilt (hr.mono (by first | decide | omega)) (by rfl))) pss_nil))))), ?_⟩
    clear hu64
    walk_at "st"
    refine iteD (fun h => ?_) (fun h => ?_)
    · have h' : n = 0 := V.int.inj h
      walk_at "st"
      exact kg (by unfold badN; rw [decide_eq_false (fun z => z h')]; rfl) _ (Fr.refl H)
    · have h' : n ≠ 0 := fun z => h (by rw [z])
      walk_at "st"
      refine ⟨n, d, l, q, ls, ps, rfl, D, hsz, htr, fun H1 p xs hp0 hp tp f1 => ?_⟩
      have hpw := wholes_pr htr hpr
      have hwl := wholes_len ls ps
      generalize wholes ls ps = W at tp hpw hwl kb kg
      have hlen := tp.length
      walk_at "st"
      intro D hD
      refine lc_it walk_range (fun i H' => Fr [] H1 H' ∧ H' D = some (.lst (((List.range i).filter (isS W)).map fun (j : Nat) => V.int j))) ⟨Fr.up hD, upd_same⟩ (fun _ _ _ _ => trivial) ?_ ?_
      · rintro i x H2 H3 hi ⟨f2, e2⟩ ⟨rfl, rfl⟩
        have hiW : i < W.length := by omega
        have hix : xs[i]? = some xs[i] := List.getElem?_eq_getElem (by omega)
        obtain ⟨e, he, te⟩ := TDs.at_ (TDs.mono f2.tup _ _ tp) hix
        obtain ⟨kd, vd, rfl, hkd, hvd⟩ := hpw e (List.mem_of_getElem? he)
        generalize xs[i] = xi at te hix
        cases te with
        | @tup a zs _ ha hT =>
        cases hT with
        | @cons z1 _ _ _ t1 hT =>
        cases hT with
        | @cons z2 _ _ _ t2 hT =>
        cases hT
        have hat : atI xs (0 + (i : Int)) = some (.ref a) := by rw [Int.zero_add]; exact atI_nat hix
        have hp3 := f2.same _ _ hp
        walk_at "st"
        intro t ht
        walk_at "st"
        have f3 : Fr [] H3 (upd H3 t (.tup [.str "seal"])) := Fr.up ht
        refine ⟨kd, sKey, TD.dp _ _ (TD.mono f3.tup _ _ t1), TD.dp _ _ (.tup upd_same (.cons (.str _) .nil)), key_shaped hkd, key_shaped sealKey, ?_⟩
        have eS : isS W i = PyData.eqv kd sKey := by
          unfold isS
          rw [List.getD_eq_getElem?_getD, he]
          rfl
        have eR : (List.range (i + 1)).filter (isS W) = (List.range i).filter (isS W) ++ if isS W i = true then [i] else [] := by
          rw [List.range_succ, List.filter_append]
          congr 1
          by_cases z : isS W i = true
          · rw [List.filter_cons_of_pos z, if_pos z]; rfl
          · rw [List.filter_cons_of_neg z, if_neg z]; rfl
        rw [← eS]
        have e3 := f3.same _ _ e2
        by_cases z : isS W i = true
        · rw [z]
          walk_at "st"
          have hfl := List.length_filter_le (isS W) (List.range i)
          rw [List.length_range] at hfl
          refine ⟨_, e3, line_lt (by rw [List.length_map]; omega), ((f2.trans f3).wl e3 (.inr hD)), ?_⟩
          rw [upd_same, eR, if_pos z, List.map_append, Int.zero_add]
          rfl
        · rw [(by simpa using z : isS W i = false)]
          walk_at "st"
          refine ⟨f2.trans f3, ?_⟩
          rw [eR, if_neg z, List.append_nil]
          exact e3
      · rintro H2 ⟨f2, e2⟩
        have e2 : H2 D = some (.lst ((sealsOf W).map fun (j : Nat) => V.int j)) := by
          unfold sealsOf
          rw [← hlen]
          exact e2
        have hp2 := f2.same _ _ hp
        have tp2 := TDs.mono f2.tup _ _ tp
        have f12 := f1.trans f2
        have hsl : (sealsOf W).length ≤ W.length := by
          have := List.length_filter_le (isS W) (List.range W.length)
          rw [List.length_range] at this
          exact this
        walk_at "st"
        refine iteD (fun h0 => ?_) (fun h0 => ?_)
        · rw [List.length_map] at h0
          have hne : sealsOf W ≠ [] := fun z => by rw [z] at h0; exact absurd h0 (by simp)
          have hgl : (sealsOf W).getLast? = some ((sealsOf W).getLast hne) := List.getLast?_eq_getLast hne
          generalize (sealsOf W).getLast hne = j at hgl
          have hj : j ∈ sealsOf W := List.mem_of_getLast? hgl
          have hjW : j < W.length := by
            have := (List.mem_filter.mp hj).1
            exact List.mem_range.mp this
          have hat1 : atI ((sealsOf W).map fun (j : Nat) => V.int j) (-1) = some (.int j) := at_last (by rw [List.getLast?_map, hgl]; rfl)
          have hjx : xs[j]? = some xs[j] := List.getElem?_eq_getElem (by omega)
          obtain ⟨e, he, te⟩ := TDs.at_ tp2 hjx
          obtain ⟨kd, vd, rfl, hkd, hvd⟩ := hpw e (List.mem_of_getElem? he)
          generalize xs[j] = xj at te hjx
          cases te with
          | @tup a zs _ ha hT =>
          cases hT with
          | @cons z1 _ _ _ t1 hT =>
          cases hT with
          | @cons z2 _ _ _ t2 hT =>
          cases hT
          have hat2 : atI xs (j : Int) = some (.ref a) := atI_nat hjx
          walk_at "st"
          refine ⟨vd, .int j, TD.dp _ _ t2, .int _, val_shaped hvd, rfl, ?_⟩
          have eB : bad W = !PyData.eqv vd (.int j) := by
            unfold bad
            rw [hgl]
            show (!PyData.eqv (valE (W.getD j .none)) (.int j)) = _
            rw [List.getD_eq_getElem?_getD, he]
            rfl
          have eN : badN n W = !PyData.eqv vd (.int j) := by
            unfold badN
            rw [decide_eq_true h', eB]
            rfl
          rw [← eN]
          cases hb : badN n W with
          | true =>
            walk_at "st"
            exact kb hb _ f12
          | false =>
            walk_at "st"
            exact kg hb _ f12
        · rw [List.length_map] at h0
          have hnil : sealsOf W = [] := List.length_eq_zero_iff.mp (by omega)
          walk_at "st"
          refine kg ?_ _ f12
          unfold badN bad
          rw [hnil]
          simp
end

end K42

namespace K42
open PySem PySem.Spec PyProof.Rows L2 Hq
local macro_rules | `(tactic| walk_at "st1") => `(tactic| first
  | with_reducible refine st_seq ?_ | with_reducible refine st_ret ?_ | with_reducible refine st_ifS ?_ | with_reducible refine st_asg ?_ | with_reducible refine st_drop ?_
  | ((with_reducible refine' st_var ?hv ?_); (case hv => rfl)) | with_reducible refine st_c ?_ | with_reducible refine st_op ?_ | with_reducible refine st_un ?_
  | with_reducible refine st_I0 ?_ | with_reducible refine st_U ?_ | ((with_reducible refine' st_I ?hc ?_); (case hc => walk_at "side"))
  | ((with_reducible refine' st_eq ?hs ?_); (case hs => rfl)) | ((with_reducible refine' st_ne ?hs ?_); (case hs => rfl))
  | with_reducible refine st_test ?_ | with_reducible refine st_B ?_ | with_reducible refine st_bl ?_ | with_reducible refine st_isN ?_ | with_reducible refine st_notN ?_
  | with_reducible refine st_chain ?_ | with_reducible refine st_and ?_ | with_reducible refine st_or ?_ | with_reducible refine st_not ?_
  | with_reducible refine st_andV ?_ | with_reducible refine st_orV ?_ | with_reducible refine st_notV ?_ | with_reducible refine st_if ?_
  | with_reducible refine st_CB ?_ | with_reducible refine st_cons ?_ | with_reducible refine st_nil ?_ | with_reducible refine st_fld ?_
  | ((with_reducible refine st_tup ?_)) | ((with_reducible refine st_lst ?_))
  | with_reducible refine st_call ?_ | with_reducible refine st_meth ?_ | with_reducible refine st_make ?_
  | with_reducible refine st_sl ?_ | with_reducible refine st_noPart ?_ | with_reducible refine st_part ?_ | with_reducible refine st_int ?_
  | ((with_reducible refine' st_ixL ?hq ?he ?_); (case hq => walk_at "sqL"); (case he => walk_at "at"))
  | ((with_reducible refine' st_ixT ?hq ?he ?_); (case hq => walk_at "sqT"); (case he => walk_at "at"))
  | with_reducible refine st_bm ?_ | with_reducible refine st_app ?_
  | ((with_reducible refine' st_append ?hq ?hl ?_); (case hq => walk_at "hp"); (case hl => walk_at "line"))
  | ((with_reducible refine' st_len (n := 0) ?hq ?_); (case hq => first | exact Or.inl (by walk_at "sqL") | exact Or.inr (by walk_at "sqT")))
  | ((with_reducible refine' st_listOf ?hq ?_); (case hq => first | exact Or.inl (by walk_at "sqL") | exact Or.inr (by walk_at "sqT")))
  | ((with_reducible refine st_name ?_); (try dsimp only [List.set_cons_zero, List.set_cons_succ])) | with_reducible refine st_par ?_
  | with_reducible refine st_gcons ?_ | with_reducible refine st_gnil ?_ | with_reducible refine st_gsub ?_ | with_reducible refine st_sFld ?_
  | ((with_reducible refine' st_gtup ?hq ?hl ?_); (case hq => walk_at "sqT"); (case hl => rfl))
  | ((with_reducible refine' st_setL ?hq ?hl ?_); (case hq => walk_at "hp"); (case hl => first | rfl | exact ix0 | exact ixN_nat (by assumption)); (try simp only [Int.reduceToNat, List.set_cons_zero, List.set_cons_succ]))
  | with_reducible refine st_intI ?_ | with_reducible refine st_abs ?_
  | ((with_reducible refine' st_popAt ?hq ?hk ?hy ?_); (case hq => walk_at "hp"); (case hk => exact seq0); (case hy => rfl))
  | ((with_reducible refine' and_left ?ht ?_); (case ht => walk_at "ty"))
  | with_reducible refine st_lc ?_ | with_reducible refine st_for ?_ | with_reducible refine st_iL ?_ | with_reducible refine st_iT ?_ | with_reducible refine st_iR1 ?_ | with_reducible refine st_iR2 ?_ | with_reducible refine st_iZ ?_
  | ((with_reducible refine' st_refL ?hq ?_); (case hq => walk_at "sqL")) | ((with_reducible refine' st_refT ?hq ?_); (case hq => walk_at "sqT"))
  | ((with_reducible refine' st_rng1 ?hq ?_); (case hq => walk_at "side")) | ((with_reducible refine' st_rng2 ?hq ?_); (case hq => walk_at "side"))
  | ((with_reducible refine' st_zip ?hq ?hr ?_); (case hq => walk_at "sqb"); (case hr => walk_at "sqb"))
  | ((with_reducible refine' st_size ?hw ?_); (case hw => walk_at "line"))
  | ((with_reducible refine' st_sum ?hq ?_); (case hq => walk_at "sqL"))
  | with_reducible refine st_two ?_ | with_reducible refine st_yes ?_ | ((with_reducible refine' st_wipe ?hw ?_); (case hw => rfl))
  | ((with_reducible refine' st_slL ?hq ?_); (case hq => walk_at "sqL"))
  | ((with_reducible refine' st_cat ?hq ?hr ?hl ?_); (case hq => walk_at "hp"); (case hr => walk_at "hp"); (case hl => walk_at "line"))
  | ((with_reducible refine' st_isi ?hk ?he ?_); (case hk => walk_at "kd"); (case he => walk_at "kit"))
  | ((with_reducible refine' st_ins ?hq ?hc ?hn ?hl ?_); (case hq => walk_at "hp"); (case hc => with_reducible assumption); (case hn => with_reducible assumption); (case hl => walk_at "flen"); walk_at "puts")
  | ((with_reducible refine' st_att ?hq ?hc ?hn ?hl ?_); (case hq => walk_at "hp"); (case hc => with_reducible assumption); (case hn => with_reducible assumption); (case hl => walk_at "lk"))
  | ((with_reducible refine' st_mt ?hq ?hl ?_); (case hq => walk_at "hp"); (case hl => walk_at "lk"))
  | ((with_reducible refine' st_extend ?hq ?hr ?hl ?_); (case hq => walk_at "hp"); (case hr => walk_at "hp"); (case hl => walk_at "line"))
  | with_reducible refine st_next ?_ | with_reducible refine st_retN ?_ | (with_reducible refine iteNT ?_) | (with_reducible refine iteNF ?_) | (with_reducible refine iteT ?_) | (with_reducible refine iteF ?_))
local macro_rules | `(tactic| walk_at "side") => `(tactic| first | omega | decide | assumption | exact ⟨by omega, by omega⟩ | exact Or.inr ⟨by omega, by omega⟩ | exact Or.inl ⟨by omega, by omega⟩ | (simp only [List.length_map, List.length_cons, List.length_nil, List.length_append] at *; omega))
local macro_rules | `(tactic| walk_at "hp") => `(tactic| first | assumption | exact upd_same | refine upd_old (by assumption) (by walk_at "hp") | (rw [upd_ne (by first | assumption | exact Ne.symm (by assumption))]; walk_at "hp"))
local macro_rules | `(tactic| walk_at "sqL") => `(tactic| first | assumption | exact SqL.of (by walk_at "hp"))
local macro_rules | `(tactic| walk_at "sqT") => `(tactic| first | assumption | exact SqT.of (by walk_at "hp"))
local macro_rules | `(tactic| walk_at "sqb") => `(tactic| (unfold SqB; first | ((with_reducible change SqL _ _ _ _); walk_at "sqL") | ((with_reducible change SqT _ _ _ _); walk_at "sqT")))
local macro_rules | `(tactic| walk_at "line") => `(tactic| first | assumption | decide | (apply line_of; walk_at "side") | (apply line_lt; walk_at "side"))
local macro_rules | `(tactic| walk_at "ty") => `(tactic| ((with_reducible refine' ty_lst ?hq); (case hq => walk_at "hp")))
local macro_rules | `(tactic| walk_at "at") => `(tactic| with_reducible first | assumption | exact at0 | exact at1 | exact at2 | exact at3 | exact at4 | exact at5 | exact at6 | exact at7 | exact at8)
local macro_rules | `(tactic| walk_at "st") => `(tactic| (repeat walk_at "st1"))
local macro_rules | `(tactic| walk_at "lk") => `(tactic| first | with_reducible assumption | rfl)
local macro_rules | `(tactic| walk_at "kd") => `(tactic| first | exact .base (.int _) | exact .base .non | exact .base (.bl _) | exact .base (.str _) | exact .base (.tup (by walk_at "hp")) | exact .base (.lst (by walk_at "hp")) | exact .base (.dK (by walk_at "hp")) | exact .base (.dT (by walk_at "hp")))
local macro_rules | `(tactic| walk_at "kit") => `(tactic| with_reducible first
  | exact kit_NoneType_bool
  | exact kit_NoneType_int
  | exact kit_NoneType_str
  | exact kit_NoneType_tuple
  | exact kit_NoneType_list
  | exact kit_NoneType_dict
  | exact kit_bool_bool
  | exact kit_bool_int
  | exact kit_bool_str
  | exact kit_bool_tuple
  | exact kit_bool_list
  | exact kit_bool_dict
  | exact kit_int_bool
  | exact kit_int_int
  | exact kit_int_str
  | exact kit_int_tuple
  | exact kit_int_list
  | exact kit_int_dict
  | exact kit_str_bool
  | exact kit_str_int
  | exact kit_str_str
  | exact kit_str_tuple
  | exact kit_str_list
  | exact kit_str_dict
  | exact kit_tuple_bool
  | exact kit_tuple_int
  | exact kit_tuple_str
  | exact kit_tuple_tuple
  | exact kit_tuple_list
  | exact kit_tuple_dict
  | exact kit_list_bool
  | exact kit_list_int
  | exact kit_list_str
  | exact kit_list_tuple
  | exact kit_list_list
  | exact kit_list_dict
  | exact kit_dict_bool
  | exact kit_dict_int
  | exact kit_dict_str
  | exact kit_dict_tuple
  | exact kit_dict_list
  | exact kit_dict_dict)
local macro_rules | `(tactic| walk_at "flen") => `(tactic| decide)
local macro_rules | `(tactic| walk_at "puts") => `(tactic| skip)

local macro_rules | `(tactic| walk_at "st1") => `(tactic| first
  | with_reducible refine st_dc ?_ | with_reducible refine st_dgetS ?_ | with_reducible refine st_dinS ?_ | with_reducible refine st_dninS ?_ | with_reducible refine st_dputS ?_ | with_reducible refine st_newT ?_ | with_reducible refine iteNN ?_ | with_reducible refine iteYN ?_
  | ((with_reducible refine' st_getT ?hq ?hk ?hv ?_); (case hq => walk_at "hp"); (case hk => walk_at "key"); (case hv => with_reducible assumption))
  | ((with_reducible refine' st_inT ?hq ?hk ?_); (case hq => walk_at "hp"); (case hk => walk_at "key"))
  | ((with_reducible refine' st_ninT ?hq ?hk ?_); (case hq => walk_at "hp"); (case hk => walk_at "key"))
  | ((with_reducible refine' st_putT ?hq ?hk ?hl ?_); (case hq => walk_at "hp"); (case hk => walk_at "key"); (case hl => walk_at "line"))
  | ((with_reducible refine' st_cputT ?hq ?hk ?hl ?_); (case hq => walk_at "hp"); (case hk => walk_at "key"); (case hl => walk_at "line"))
  | ((with_reducible refine' st_ixB ?hq ?he ?_); (case hq => first | assumption | exact Or.inl (by walk_at "sqL") | exact Or.inr (by walk_at "sqT")); (case he => walk_at "at")))
local macro_rules | `(tactic| walk_at "key") => `(tactic| with_reducible assumption)

local macro_rules | `(tactic| walk_at "lk") => `(tactic| with_reducible first | assumption | exact DiskF_get_lying | exact DiskF_get_pending | exact DiskF_get_spoils | exact StoreF_get_disk | exact DiskF_no (by decide +kernel) (by decide +kernel) (by decide +kernel) | exact StoreF_no (by decide +kernel))
local macro_rules | `(tactic| walk_at "puts") => `(tactic| try simp only [DiskF_put_lying, DiskF_put_pending, DiskF_put_spoils, StoreF_put_disk, DiskF0_put, DiskF1_put, DiskF2_put, StoreF0_put])
local macro_rules | `(tactic| walk_at "flen") => `(tactic| first | with_reducible assumption | with_reducible (first | exact DiskF_len | exact StoreF_len | exact DiskF0_len | exact DiskF1_len | exact DiskF2_len | exact StoreF0_len) | decide)
section
variable {Z : Ads} {P : Program} {w : World} {K : PySem.W.Frag} {mg : Str → Option Value} {base : Heap}
def spKeepE (C D CS : Addr) : Sp := fun vs H Q E => ∃ (n : Int) (s d l q : Addr) (ls ps : List PyData) (k v : V) (kd vd : PyData), vs = [.ref s, k, v] ∧ StoreAt C H s d ∧ DiskAt D n H d l q ls ps ∧ ls.length + ps.length ≤ 900 ∧ (∀ e ∈ ls, IsTr e) ∧ (∀ e ∈ ps, IsPr e) ∧ TD H k kd ∧ KeyD kd ∧ isSeal kd = false ∧ TD H v vd ∧ Nice 10 vd ∧
  (badN n (wholes ls ps) = true → ∀ H', Fr [] H H' → E (.ref CS) none H') ∧ (badN n (wholes ls ps) = false → ∀ H', DiskAt D n H' d l q ls (ps ++ [.tuple [kd, vd]]) → Fr [q] H H' → Q .non H')
abbrev s_Store_keep : Stmt := inClass (top 71) 2
theorem sc_Store_keep : FnScope ["self", "key", "thing"] ["self", "key", "thing"] (defScope s_Store_keep) := ⟨rfl, rfl, rfl, by decide +kernel, rfl, by decide +kernel, by decide +kernel⟩
theorem ok_Store_keep {f : Addr} {fd : FuncData} (F : Fun K "keep" "Store.keep" s_Store_keep f fd) (T : Txt K mg Z) (D_is_key : Dn P w K mg base "is_key" 3 ["thing"] spIsKey) (D_is_kept : Dn P w K mg base "is_kept" 11 ["thing"] (spKept 10))
    (M_Store_check : Mn P w K mg base Z.Store "check" 3 ["self"] (spCheckE Z.Store Z.Disk Z.Spoilt)) (M_Disk_write : Mn P w K mg base Z.Disk "write" 12 ["self", "key", "thing"] (spWrite Z.Disk)) :
    FnOk P w K mg base (L2.CX P w) 13 f fd ["self", "key", "thing"] (spKeepE Z.Store Z.Disk Z.Spoilt) := by
  have cl := T.cl
  have clS := T.clS
  have aD := T.aD
  refine okE F sc_Store_keep (fun vs H Q E h => ?_) (fun cdv A outer s0 H vs Q E hr h => ?_)
  · obtain ⟨n, s, d, l, q, ls, ps, kk, v, kd, vd, rfl, _⟩ := h
    rfl
  · obtain ⟨n, s, d, l, q, ls, ps, kk, v, kd, vd, rfl, S, D, hps, htr, hpr, tk, hk, hseal, tv, hv, kb, kg⟩ := h
    refine ⟨_, [some _, some _, some _], rfl, (pss_cons (ps_if (PW.pt (pw_or (pt_not (pt_val (pe_d D_is_key E0 (hr.mono (by first | decide | omega)) (by rfl) passL (pa_cons (pv 1) pa_nil)))) (pw_or1 (pt_cmpR op_eq (pe_ix (kIxT (K := K)) (pv 1) pe_int (fun _ _ => rfl)) (pe_gl (by rfl) T.g_SEAL) (by first | exact nomark _ | rfl))))) (pss_one ps_never) pss_nil)
      (pss_cons (ps_if (pt_not (pt_val (pe_d D_is_kept E0 (hr.mono (by first | decide | omega)) (by rfl) passL (pa_cons (pv 2) pa_nil)))) (pss_one ps_never) pss_nil)
      (pss_cons (ps_expr (pe_m0 M_Store_check E (hr.mono (by first | decide | omega)) (pv 0) passE _))
      (pss_one (ps_expr (pe_m M_Disk_write E0 (hr.mono (by first | decide | omega)) (kFld (K := K) (pv 0) rfl) passL (pa_cons (pv 1) (pa_cons (pv 2) pa_nil)) _)))))), ?_⟩
    walk_at "st"
    refine ⟨kk, kd, rfl, tk, hk, fun H1 f1 => ?_⟩
    obtain ⟨b, z, zs, rfl, hb, _, hz⟩ := key_td (TD.mono f1.tup _ _ tk) hk
    have S1 := S.keep f1 List.not_mem_nil
    have D1 := D.keep f1 List.not_mem_nil List.not_mem_nil List.not_mem_nil
    obtain ⟨sx, hs⟩ := S1
    obtain ⟨dx, hd⟩ := D1.ok
    walk_at "st"
    rcases hz with ⟨x, rfl, hx⟩ | ⟨i, rfl, hx⟩
    all_goals
      walk_at "st"
      refine iteD (fun h => ?_) (fun h => ?_)
    · rw [hseal] at hx
      have e : x = "seal" := V.str.inj h
      rw [decide_eq_true e] at hx
      exact nomatch hx
    rotate_left
    · exact nomatch h
    all_goals
      walk_at "st"
      refine ⟨v, vd, rfl, TD.mono f1.tup _ _ tv, hv, fun H2 f2 => ?_⟩
      have f12 := f1.trans f2
      have hs2 := f2.same _ _ hs
      have hd2 := f2.same _ _ hd
      have D2 := D.keep f12 List.not_mem_nil List.not_mem_nil List.not_mem_nil
      walk_at "st"
      refine ⟨s, d, l, q, n, ls, ps, rfl, ⟨sx, hs2⟩, D2, by omega, htr, hpr, fun hb H3 f3 => kb hb _ (f12.trans f3), fun hb H3 f3 => ?_⟩
      have hs3 := f3.same _ _ hs2
      have hd3 := f3.same _ _ hd2
      have D3 := D2.keep f3 List.not_mem_nil List.not_mem_nil List.not_mem_nil
      have f13 := f12.trans f3
      walk_at "st"
      refine ⟨n, d, l, q, ls, ps, _, _, kd, vd, rfl, D3, by omega, TD.mono f13.tup _ _ tk, hk, TD.mono f13.tup _ _ tv, hv, fun H4 D4 f4 => ?_⟩
      walk_at "st"
      exact kg hb _ D4 ((f13.mono (by simp)).trans f4)
def spSealE (C D CS : Addr) : Sp := fun vs H Q E => ∃ (n : Int) (s d l q : Addr) (ls ps : List PyData), vs = [.ref s] ∧ StoreAt C H s d ∧ DiskAt D n H d l q ls ps ∧ ps.length ≤ 900 ∧ ls.length ≤ 1000 ∧ (∀ e ∈ ls, IsTr e) ∧ (∀ e ∈ ps, IsPr e) ∧
  (badN n (wholes ls ps) = true → ∀ H', Fr [] H H' → E (.ref CS) none H') ∧ (badN n (wholes ls ps) = false → ∀ H' q', H q' = none → DiskAt D n H' d l q' (ls ++ (ps ++ [sealD (wholes ls ps).length]).map trip) [] → Fr [d, l, q] H H' → Q .non H')
abbrev s_Store_seal : Stmt := inClass (top 71) 3
theorem sc_Store_seal : FnScope ["self"] ["self"] (defScope s_Store_seal) := ⟨rfl, rfl, rfl, by decide +kernel, rfl, by decide +kernel, by decide +kernel⟩
theorem ok_Store_seal {f : Addr} {fd : FuncData} (F : Fun K "seal" "Store.seal" s_Store_seal f fd) (T : Txt K mg Z)
    (M_Store_check : Mn P w K mg base Z.Store "check" 3 ["self"] (spCheckE Z.Store Z.Disk Z.Spoilt)) (M_Disk_write : Mn P w K mg base Z.Disk "write" 12 ["self", "key", "thing"] (spWrite Z.Disk))
    (M_Disk_wholes : Mn P w K mg base Z.Disk "wholes" 1 ["self"] (spWholes Z.Disk)) (M_Disk_sync : Mn P w K mg base Z.Disk "sync" 1 ["self"] (spSync Z.Disk)) :
    FnOk P w K mg base (L2.CX P w) 13 f fd ["self"] (spSealE Z.Store Z.Disk Z.Spoilt) := by
  have cl := T.cl
  have clS := T.clS
  have aD := T.aD
  refine okE F sc_Store_seal (fun vs H Q E h => ?_) (fun cdv A outer s0 H vs Q E hr h => ?_)
  · obtain ⟨n, s, d, l, q, ls, ps, rfl, _⟩ := h
    rfl
  · obtain ⟨n, s, d, l, q, ls, ps, rfl, S, D, hps, hls, htr, hpr, kb, kg⟩ := h
    obtain ⟨sx, hs⟩ := id S
    obtain ⟨dx, hd⟩ := D.ok
    obtain ⟨xq, hq, _⟩ := D.pen
    have sq : s ≠ q := ne_of hs hq (by intro z; cases z)
    refine ⟨_, [some _], rfl, (pss_cons (ps_expr (pe_m0 M_Store_check E (hr.mono (by first | decide | omega)) (pv 0) passE _))
      (pss_cons (ps_expr (pe_m M_Disk_write E0 (hr.mono (by first | decide | omega)) (kFld (K := K) (pv 0) rfl) passL (pa_cons (pe_tup (pa_cons (pe_gl (by rfl) T.g_SEAL) pa_nil)) (pa_cons (pe_callB (kLen (K := K)) (by rfl) T.n_len (by decide +kernel) (pa_cons (pe_m0 M_Disk_wholes E0 (hr.mono (by first | decide | omega)) (kFld (K := K) (pv 0) rfl) passL _) pa_nil)) pa_nil)) _))
      (pss_one (ps_expr (pe_m0 M_Disk_sync E0 (hr.mono (by first | decide | omega)) (kFld (K := K) (pv 0) rfl) passL _))))), ?_⟩
    walk_at "st"
    refine ⟨s, d, l, q, n, ls, ps, rfl, S, D, by omega, htr, hpr, fun hb H0 f0 => kb hb _ f0, fun hb H0 f0 => ?_⟩
    have hs00 := f0.same _ _ hs
    have hd00 := f0.same _ _ hd
    walk_at "st"
    intro t ht
    have f1 : Fr [] H (upd H0 t (.tup [.str "seal"])) := f0.new ht
    have D1 := D.keep f1 List.not_mem_nil List.not_mem_nil List.not_mem_nil
    have hs1 := f1.same _ _ hs
    have hd1 := f1.same _ _ hd
    walk_at "st"
    refine ⟨n, d, l, q, ls, ps, rfl, D1, by omega, htr, fun H2 p xs hp0 hp t2 f2 => ?_⟩
    have f12 := f1.trans f2
    have D2 := D1.keep f2 List.not_mem_nil List.not_mem_nil List.not_mem_nil
    have hs2 := f2.same _ _ hs1
    obtain ⟨dx2, hd2⟩ := D2.ok
    have ht2 : H2 t = some (.tup [.str "seal"]) := f2.same _ _ upd_same
    walk_at "st"
    refine ⟨n, d, l, q, ls, ps, _, _, .tuple [.str "seal"], .int _, rfl, D2, by omega, .tup ht2 (.cons (.str _) .nil), sealKey, .int _, nice_int _ _, fun H3 D3 f3 => ?_⟩
    have f13 := (f12.mono (ns := [q]) (by simp)).trans f3
    have hs3 := f13.keep _ _ (by simpa using sq) hs
    obtain ⟨dx3, hd3⟩ := D3.ok
    walk_at "st"
    refine ⟨n, d, l, q, ls, ps ++ [sealD (xs.length : Int)], rfl, D3, by rw [List.length_append]; simp; omega, hls, fun e he => ?_, fun H4 q' hq' D4 f4 => ?_⟩
    · rcases List.mem_append.mp he with he | he
      · exact hpr e he
      · rw [List.mem_singleton.mp he]; exact sealPr _
    · walk_at "st"
      rw [t2.length] at D4
      refine kg hb _ q' ?_ D4 ((f13.mono (by simp)).trans (f4.mono (by simp)))
      have qn : q' ≠ q := by
        obtain ⟨_, hq3, _⟩ := D3.pen
        exact (ne_of_none hq3 hq').symm
      exact f13.back (by simpa using qn) hq'
def spFoundE (C D CS : Addr) : Sp := fun vs H Q E => ∃ (n : Int) (s d l q : Addr) (ls ps : List PyData), vs = [.ref s] ∧ StoreAt C H s d ∧ DiskAt D n H d l q ls ps ∧ ls.length + ps.length ≤ 5000 ∧ (∀ e ∈ ls, IsTr e) ∧ (∀ e ∈ ps, IsPr e) ∧
  (badN n (wholes ls ps) = true → ∀ H', Fr [] H H' → E (.ref CS) none H') ∧ (badN n (wholes ls ps) = false → ∀ H' p, H p = none → TabAt H' p (tab (wholes ls ps)) → Fr [] H H' → Q (.ref p) H')
abbrev s_Store_found : Stmt := inClass (top 71) 4
theorem sc_Store_found : FnScope ["self", "key", "thing"] ["self"] (defScope s_Store_found) := ⟨rfl, rfl, rfl, by decide +kernel, rfl, by decide +kernel, by decide +kernel⟩
theorem ok_Store_found {f : Addr} {fd : FuncData} (F : Fun K "found" "Store.found" s_Store_found f fd) (T : Txt K mg Z)
    (M_Store_check : Mn P w K mg base Z.Store "check" 3 ["self"] (spCheckE Z.Store Z.Disk Z.Spoilt)) (M_Disk_wholes : Mn P w K mg base Z.Disk "wholes" 1 ["self"] (spWholes Z.Disk)) :
    FnOk P w K mg base (L2.CX P w) 4 f fd ["self"] (spFoundE Z.Store Z.Disk Z.Spoilt) := by
  have cl := T.cl
  have clS := T.clS
  have aD := T.aD
  refine okE F sc_Store_found (fun vs H Q E h => ?_) (fun cdv A outer s0 H vs Q E hr h => ?_)
  · obtain ⟨n, s, d, l, q, ls, ps, rfl, _⟩ := h
    rfl
  · obtain ⟨n, s, d, l, q, ls, ps, rfl, S, D, hsz, htr, hpr, kb, kg⟩ := h
    obtain ⟨sx, hs⟩ := id S
    obtain ⟨dx, hd⟩ := D.ok
    have hu0 := u0_of hr
    refine ⟨_, [some _, none, none], rfl, (pss_cons (ps_expr (pe_m0 M_Store_check E (hr.mono (by first | decide | omega)) (pv 0) passE _))
      (pss_one (ps_ret (pe_dcG (own := [("key", 1), ("thing", 2)]) (g := (gTup K 2 (gCons (gName 1) (gCons (gName 2) gNil)))) (tt := _) (.dT []) hu0 (Or.inr rfl) rfl sc_Store_found.nd (kPiL (K := K) (pe_m0 M_Disk_wholes E0 (hr.mono (by first | decide | omega)) (kFld (K := K) (pv 0) rfl) passL _)) (blkOk_by (N := ["self", "key", "thing"]) (sc := defScope s_Store_found) (by decide +kernel)) (fun _ _ _ _ _ => (kTupT (K := K) (n := 2) (pgs_cons (pg_name (i := 1) sc_Store_found.nd rfl (by first | exact Or.inl rfl | exact Or.inr rfl)) (pgs_cons (pg_name (i := 2) sc_Store_found.nd rfl (by first | exact Or.inl rfl | exact Or.inr rfl)) pgs_nil)))) (fun _ _ _ _ _ => (pts_one (pt_cmpR op_ne (pe_ix (kIxT (K := K)) (pv 1) pe_int (fun _ _ => rfl)) (pe_gl (by rfl) T.g_SEAL) (by first | exact nomark _ | rfl)))) (fun _ _ _ _ _ => (pv 1)) (fun _ _ _ _ _ => (pv 2)))))), ?_⟩
    walk_at "st"
    refine ⟨s, d, l, q, n, ls, ps, rfl, S, D, hsz, htr, hpr, fun hb H0 f0 => kb hb _ f0, fun hb H0 f0 => ?_⟩
    have hs00 := f0.same _ _ hs
    have hd00 := f0.same _ _ hd
    walk_at "st"
    refine ⟨n, d, l, q, ls, ps, rfl, D.keep f0 List.not_mem_nil List.not_mem_nil List.not_mem_nil, hsz, htr, fun H1 p xs hp0 hp tp f1 => ?_⟩
    have hlen := tp.length
    have hwl := wholes_len ls ps
    have hpw := wholes_pr htr hpr
    walk_at "st"
    intro u hu
    refine dc_it (walk_list (xs := xs)) (fun i H' => Fr [] H1 H' ∧ ∃ kvs, H' u = some (.dT kvs) ∧ kvs.length ≤ i ∧ KD H' kvs (tab ((wholes ls ps).take i))) ⟨Fr.up hu, [], upd_same, Nat.le_refl _, .nil⟩ (fun i H' _ h => SqL.of (h.1.same _ _ hp)) ?_ ?_
    · rintro i x H2 H3 hi ⟨f2, kvs, e2, ek, tk⟩ ⟨rfl, hx⟩
      obtain ⟨e, he, te⟩ := TDs.at_ (TDs.mono f2.tup _ _ tp) hx
      obtain ⟨kd, vd, rfl, hkd, hvd⟩ := hpw e (List.mem_of_getElem? he)
      cases te with
      | @tup a zs _ ha hT =>
      cases hT with
      | @cons z1 _ _ _ t1 hT =>
      cases hT with
      | @cons z2 _ _ _ t2 hT =>
      cases hT
      obtain ⟨b, z, zs, rfl, hb, ekey, hz⟩ := key_td t1 hkd
      have hbk := hb
      rw [← ekey] at hbk
      have put : isSeal kd = false → kvs.length < sizeLine ∧ Fr [] H1 (upd H3 u (.dT (putK kvs (keysOf kd) z2))) ∧ ∃ kvs', upd H3 u (.dT (putK kvs (keysOf kd) z2)) u = some (.dT kvs') ∧ kvs'.length ≤ i + 1 ∧ KD (upd H3 u (.dT (putK kvs (keysOf kd) z2))) kvs' (tab ((wholes ls ps).take (i + 1))) := fun hs => by
        have f3 : Fr [u] H3 (upd H3 u (.dT (putK kvs (keysOf kd) z2))) := (Fr.refl H3).wr e2 trivial (.inl (by simp))
        refine ⟨line_lt (by omega), f2.wr e2 trivial (.inr hu), _, upd_same, ?_, ?_⟩
        · have := length_putK kvs (keysOf kd) z2
          omega
        · rw [tab_snoc he]
          show KD _ _ (if isSeal kd = true then _ else _)
          rw [hs, if_neg Bool.false_ne_true]
          exact (KD.put tk _ t2).mono f3.tup
      walk_at "st"
      rcases hz with ⟨x, rfl, hx⟩ | ⟨i', rfl, hx⟩
      · walk_at "st"
        refine iteDN (fun h => ?_) (fun h => ?_)
        · have e : x = "seal" := V.str.inj h
          rw [decide_eq_true e] at hx
          refine ⟨f2, kvs, e2, by omega, ?_⟩
          rw [tab_snoc he]
          show KD _ _ (if isSeal kd = true then _ else _)
          rw [hx, if_pos rfl]
          exact tk
        · have e : ¬ x = "seal" := fun z => h (by rw [z])
          rw [decide_eq_false e] at hx
          walk_at "st"
          exact (put hx).2
      · walk_at "st"
        refine iteDN (fun h => nomatch h) (fun h => ?_)
        walk_at "st"
        exact (put hx).2
    · rintro H2 ⟨f2, kvs, e2, ek, tk⟩
      rw [List.take_of_length_le (by omega)] at tk
      exact kg hb _ u (f0.free (f1.free hu)) ⟨kvs, e2, tk⟩ (f0.trans (f1.trans f2))
def spRaises (C D CS : Addr) : Sp := fun vs H Q E => ∃ (n : Int) (s d l q : Addr) (ls ps : List PyData), vs = [.ref s] ∧ StoreAt C H s d ∧ DiskAt D n H d l q ls ps ∧ ls.length + ps.length ≤ 5000 ∧ (∀ e ∈ ls, IsTr e) ∧ (∀ e ∈ ps, IsPr e) ∧ badN n (wholes ls ps) = true ∧
  ∀ H', Fr [] H H' → E (.ref CS) none H'
abbrev s_Store_row : Stmt := inClass (top 71) 5
theorem sc_Store_row : FnScope ["self", "found", "row"] ["self"] (defScope s_Store_row) := ⟨rfl, rfl, rfl, by decide +kernel, rfl, by decide +kernel, by decide +kernel⟩
theorem ok_Store_row {f : Addr} {fd : FuncData} (F : Fun K "row" "Store.row" s_Store_row f fd) (T : Txt K mg Z) (M_Store_found : Mn P w K mg base Z.Store "found" 4 ["self"] (spFoundE Z.Store Z.Disk Z.Spoilt)) :
    FnOk P w K mg base (L2.CX P w) 5 f fd ["self"] (spRaises Z.Store Z.Disk Z.Spoilt) := by
  refine okE F sc_Store_row (fun vs H Q E h => ?_) (fun cdv A outer s0 H vs Q E hr h => ?_)
  · obtain ⟨n, s, d, l, q, ls, ps, rfl, _⟩ := h
    rfl
  · obtain ⟨n, s, d, l, q, ls, ps, rfl, S, D, hsz, htr, hpr, hb, k⟩ := h
    obtain ⟨sx, hs⟩ := id S
    refine ⟨_, [some _, none, none], rfl, (pss_cons (ps_par (i := 1) (j := 2) rfl sc_Store_row.nd rfl rfl (by decide) rfl rfl (pa_cons (pe_m0 M_Store_found E (hr.mono (by first | decide | omega)) (pv 0) passE _) (pa_cons (pe_lst pa_nil) pa_nil)) rfl)
      (pss_cons ps_never
      (pss_one (ps_ret (pe_callTy (kTupOf (K := K)) (by rfl) T.n_tuple (by decide +kernel) (pa_cons (pv 2) pa_nil)))))), ?_⟩
    walk_at "st"
    exact ⟨n, s, d, l, q, ls, ps, rfl, S, D, hsz, htr, hpr, fun _ H' f => k _ f, fun h => absurd (hb.symm.trans h) (by decide)⟩
abbrev s_Store_picture : Stmt := inClass (top 71) 6
theorem sc_Store_picture : FnScope ["self", "found", "i"] ["self"] (defScope s_Store_picture) := ⟨rfl, rfl, rfl, by decide +kernel, rfl, by decide +kernel, by decide +kernel⟩
theorem ok_Store_picture {f : Addr} {fd : FuncData} (F : Fun K "picture" "Store.picture" s_Store_picture f fd) (T : Txt K mg Z) (M_Store_found : Mn P w K mg base Z.Store "found" 4 ["self"] (spFoundE Z.Store Z.Disk Z.Spoilt)) :
    FnOk P w K mg base (L2.CX P w) 5 f fd ["self"] (spRaises Z.Store Z.Disk Z.Spoilt) := by
  refine okE F sc_Store_picture (fun vs H Q E h => ?_) (fun cdv A outer s0 H vs Q E hr h => ?_)
  · obtain ⟨n, s, d, l, q, ls, ps, rfl, _⟩ := h
    rfl
  · obtain ⟨n, s, d, l, q, ls, ps, rfl, S, D, hsz, htr, hpr, hb, k⟩ := h
    obtain ⟨sx, hs⟩ := id S
    refine ⟨_, [some _, none, none], rfl, (pss_cons (ps_set (i := 1) sc_Store_picture.nd rfl (by first | exact Or.inl rfl | exact Or.inr rfl) (pe_m0 M_Store_found E (hr.mono (by first | decide | omega)) (pv 0) passE _))
      (pss_cons ps_never
      (pss_one (ps_ret pe_non)))), ?_⟩
    walk_at "st"
    exact ⟨n, s, d, l, q, ls, ps, rfl, S, D, hsz, htr, hpr, fun _ H' f => k _ f, fun h => absurd (hb.symm.trans h) (by decide)⟩
end

end K42

namespace K42
open PySem PySem.Spec PyProof.Rows L2 Hq
local macro_rules | `(tactic| walk_at "st1") => `(tactic| first
  | with_reducible refine st_seq ?_ | with_reducible refine st_ret ?_ | with_reducible refine st_ifS ?_ | with_reducible refine st_asg ?_ | with_reducible refine st_drop ?_
  | ((with_reducible refine' st_var ?hv ?_); (case hv => rfl)) | with_reducible refine st_c ?_ | with_reducible refine st_op ?_ | with_reducible refine st_un ?_
  | with_reducible refine st_I0 ?_ | with_reducible refine st_U ?_ | ((with_reducible refine' st_I ?hc ?_); (case hc => walk_at "side"))
  | ((with_reducible refine' st_eq ?hs ?_); (case hs => rfl)) | ((with_reducible refine' st_ne ?hs ?_); (case hs => rfl))
  | with_reducible refine st_test ?_ | with_reducible refine st_B ?_ | with_reducible refine st_bl ?_ | with_reducible refine st_isN ?_ | with_reducible refine st_notN ?_
  | with_reducible refine st_chain ?_ | with_reducible refine st_and ?_ | with_reducible refine st_or ?_ | with_reducible refine st_not ?_
  | with_reducible refine st_andV ?_ | with_reducible refine st_orV ?_ | with_reducible refine st_notV ?_ | with_reducible refine st_if ?_
  | with_reducible refine st_CB ?_ | with_reducible refine st_cons ?_ | with_reducible refine st_nil ?_ | with_reducible refine st_fld ?_
  | ((with_reducible refine st_tup ?_)) | ((with_reducible refine st_lst ?_))
  | with_reducible refine st_call ?_ | with_reducible refine st_meth ?_ | with_reducible refine st_make ?_
  | with_reducible refine st_sl ?_ | with_reducible refine st_noPart ?_ | with_reducible refine st_part ?_ | with_reducible refine st_int ?_
  | ((with_reducible refine' st_ixL ?hq ?he ?_); (case hq => walk_at "sqL"); (case he => walk_at "at"))
  | ((with_reducible refine' st_ixT ?hq ?he ?_); (case hq => walk_at "sqT"); (case he => walk_at "at"))
  | with_reducible refine st_bm ?_ | with_reducible refine st_app ?_
  | ((with_reducible refine' st_append ?hq ?hl ?_); (case hq => walk_at "hp"); (case hl => walk_at "line"))
  | ((with_reducible refine' st_len (n := 0) ?hq ?_); (case hq => first | exact Or.inl (by walk_at "sqL") | exact Or.inr (by walk_at "sqT")))
  | ((with_reducible refine' st_listOf ?hq ?_); (case hq => first | exact Or.inl (by walk_at "sqL") | exact Or.inr (by walk_at "sqT")))
  | ((with_reducible refine st_name ?_); (try dsimp only [List.set_cons_zero, List.set_cons_succ])) | with_reducible refine st_par ?_
  | with_reducible refine st_gcons ?_ | with_reducible refine st_gnil ?_ | with_reducible refine st_gsub ?_ | with_reducible refine st_sFld ?_
  | ((with_reducible refine' st_gtup ?hq ?hl ?_); (case hq => walk_at "sqT"); (case hl => rfl))
  | ((with_reducible refine' st_setL ?hq ?hl ?_); (case hq => walk_at "hp"); (case hl => first | rfl | exact ix0 | exact ixN_nat (by assumption)); (try simp only [Int.reduceToNat, List.set_cons_zero, List.set_cons_succ]))
  | with_reducible refine st_intI ?_ | with_reducible refine st_abs ?_
  | ((with_reducible refine' st_popAt ?hq ?hk ?hy ?_); (case hq => walk_at "hp"); (case hk => exact seq0); (case hy => rfl))
  | ((with_reducible refine' and_left ?ht ?_); (case ht => walk_at "ty"))
  | with_reducible refine st_lc ?_ | with_reducible refine st_for ?_ | with_reducible refine st_iL ?_ | with_reducible refine st_iT ?_ | with_reducible refine st_iR1 ?_ | with_reducible refine st_iR2 ?_ | with_reducible refine st_iZ ?_
  | ((with_reducible refine' st_refL ?hq ?_); (case hq => walk_at "sqL")) | ((with_reducible refine' st_refT ?hq ?_); (case hq => walk_at "sqT"))
  | ((with_reducible refine' st_rng1 ?hq ?_); (case hq => walk_at "side")) | ((with_reducible refine' st_rng2 ?hq ?_); (case hq => walk_at "side"))
  | ((with_reducible refine' st_zip ?hq ?hr ?_); (case hq => walk_at "sqb"); (case hr => walk_at "sqb"))
  | ((with_reducible refine' st_size ?hw ?_); (case hw => walk_at "line"))
  | ((with_reducible refine' st_sum ?hq ?_); (case hq => walk_at "sqL"))
  | with_reducible refine st_two ?_ | with_reducible refine st_yes ?_ | ((with_reducible refine' st_wipe ?hw ?_); (case hw => rfl))
  | ((with_reducible refine' st_slL ?hq ?_); (case hq => walk_at "sqL"))
  | ((with_reducible refine' st_cat ?hq ?hr ?hl ?_); (case hq => walk_at "hp"); (case hr => walk_at "hp"); (case hl => walk_at "line"))
  | ((with_reducible refine' st_isi ?hk ?he ?_); (case hk => walk_at "kd"); (case he => walk_at "kit"))
  | ((with_reducible refine' st_ins ?hq ?hc ?hn ?hl ?_); (case hq => walk_at "hp"); (case hc => with_reducible assumption); (case hn => with_reducible assumption); (case hl => walk_at "flen"); walk_at "puts")
  | ((with_reducible refine' st_att ?hq ?hc ?hn ?hl ?_); (case hq => walk_at "hp"); (case hc => with_reducible assumption); (case hn => with_reducible assumption); (case hl => walk_at "lk"))
  | ((with_reducible refine' st_mt ?hq ?hl ?_); (case hq => walk_at "hp"); (case hl => walk_at "lk"))
  | ((with_reducible refine' st_extend ?hq ?hr ?hl ?_); (case hq => walk_at "hp"); (case hr => walk_at "hp"); (case hl => walk_at "line"))
  | with_reducible refine st_next ?_ | with_reducible refine st_retN ?_ | (with_reducible refine iteNT ?_) | (with_reducible refine iteNF ?_) | (with_reducible refine iteT ?_) | (with_reducible refine iteF ?_))
local macro_rules | `(tactic| walk_at "side") => `(tactic| first | omega | decide | assumption | exact ⟨by omega, by omega⟩ | exact Or.inr ⟨by omega, by omega⟩ | exact Or.inl ⟨by omega, by omega⟩ | (simp only [List.length_map, List.length_cons, List.length_nil, List.length_append] at *; omega))
local macro_rules | `(tactic| walk_at "hp") => `(tactic| first | assumption | exact upd_same | refine upd_old (by assumption) (by walk_at "hp") | (rw [upd_ne (by first | assumption | exact Ne.symm (by assumption))]; walk_at "hp"))
local macro_rules | `(tactic| walk_at "sqL") => `(tactic| first | assumption | exact SqL.of (by walk_at "hp"))
local macro_rules | `(tactic| walk_at "sqT") => `(tactic| first | assumption | exact SqT.of (by walk_at "hp"))
local macro_rules | `(tactic| walk_at "sqb") => `(tactic| (unfold SqB; first | ((with_reducible change SqL _ _ _ _); walk_at "sqL") | ((with_reducible change SqT _ _ _ _); walk_at "sqT")))
local macro_rules | `(tactic| walk_at "line") => `(tactic| first | assumption | decide | (apply line_of; walk_at "side") | (apply line_lt; walk_at "side"))
local macro_rules | `(tactic| walk_at "ty") => `(tactic| ((with_reducible refine' ty_lst ?hq); (case hq => walk_at "hp")))
local macro_rules | `(tactic| walk_at "at") => `(tactic| with_reducible first | assumption | exact at0 | exact at1 | exact at2 | exact at3 | exact at4 | exact at5 | exact at6 | exact at7 | exact at8)
local macro_rules | `(tactic| walk_at "st") => `(tactic| (repeat walk_at "st1"))
local macro_rules | `(tactic| walk_at "lk") => `(tactic| first | with_reducible assumption | rfl)
local macro_rules | `(tactic| walk_at "kd") => `(tactic| first | exact .base (.int _) | exact .base .non | exact .base (.bl _) | exact .base (.str _) | exact .base (.tup (by walk_at "hp")) | exact .base (.lst (by walk_at "hp")) | exact .base (.dK (by walk_at "hp")) | exact .base (.dT (by walk_at "hp")))
local macro_rules | `(tactic| walk_at "kit") => `(tactic| with_reducible first
  | exact kit_NoneType_bool
  | exact kit_NoneType_int
  | exact kit_NoneType_str
  | exact kit_NoneType_tuple
  | exact kit_NoneType_list
  | exact kit_NoneType_dict
  | exact kit_bool_bool
  | exact kit_bool_int
  | exact kit_bool_str
  | exact kit_bool_tuple
  | exact kit_bool_list
  | exact kit_bool_dict
  | exact kit_int_bool
  | exact kit_int_int
  | exact kit_int_str
  | exact kit_int_tuple
  | exact kit_int_list
  | exact kit_int_dict
  | exact kit_str_bool
  | exact kit_str_int
  | exact kit_str_str
  | exact kit_str_tuple
  | exact kit_str_list
  | exact kit_str_dict
  | exact kit_tuple_bool
  | exact kit_tuple_int
  | exact kit_tuple_str
  | exact kit_tuple_tuple
  | exact kit_tuple_list
  | exact kit_tuple_dict
  | exact kit_list_bool
  | exact kit_list_int
  | exact kit_list_str
  | exact kit_list_tuple
  | exact kit_list_list
  | exact kit_list_dict
  | exact kit_dict_bool
  | exact kit_dict_int
  | exact kit_dict_str
  | exact kit_dict_tuple
  | exact kit_dict_list
  | exact kit_dict_dict)
local macro_rules | `(tactic| walk_at "flen") => `(tactic| decide)
local macro_rules | `(tactic| walk_at "puts") => `(tactic| skip)

local macro_rules | `(tactic| walk_at "st1") => `(tactic| first
  | with_reducible refine st_dc ?_ | with_reducible refine st_dgetS ?_ | with_reducible refine st_dinS ?_ | with_reducible refine st_dninS ?_ | with_reducible refine st_dputS ?_ | with_reducible refine st_newT ?_ | with_reducible refine iteNN ?_ | with_reducible refine iteYN ?_
  | ((with_reducible refine' st_getT ?hq ?hk ?hv ?_); (case hq => walk_at "hp"); (case hk => walk_at "key"); (case hv => with_reducible assumption))
  | ((with_reducible refine' st_inT ?hq ?hk ?_); (case hq => walk_at "hp"); (case hk => walk_at "key"))
  | ((with_reducible refine' st_ninT ?hq ?hk ?_); (case hq => walk_at "hp"); (case hk => walk_at "key"))
  | ((with_reducible refine' st_putT ?hq ?hk ?hl ?_); (case hq => walk_at "hp"); (case hk => walk_at "key"); (case hl => walk_at "line"))
  | ((with_reducible refine' st_cputT ?hq ?hk ?hl ?_); (case hq => walk_at "hp"); (case hk => walk_at "key"); (case hl => walk_at "line"))
  | ((with_reducible refine' st_ixB ?hq ?he ?_); (case hq => first | assumption | exact Or.inl (by walk_at "sqL") | exact Or.inr (by walk_at "sqT")); (case he => walk_at "at")))
local macro_rules | `(tactic| walk_at "key") => `(tactic| with_reducible assumption)

local macro_rules | `(tactic| walk_at "lk") => `(tactic| with_reducible first | assumption | exact DiskF_get_lying | exact DiskF_get_pending | exact DiskF_get_spoils | exact StoreF_get_disk | exact DiskF_no (by decide +kernel) (by decide +kernel) (by decide +kernel) | exact StoreF_no (by decide +kernel))
local macro_rules | `(tactic| walk_at "puts") => `(tactic| try simp only [DiskF_put_lying, DiskF_put_pending, DiskF_put_spoils, StoreF_put_disk, DiskF0_put, DiskF1_put, DiskF2_put, StoreF0_put])
local macro_rules | `(tactic| walk_at "flen") => `(tactic| first | with_reducible assumption | with_reducible (first | exact DiskF_len | exact StoreF_len | exact DiskF0_len | exact DiskF1_len | exact DiskF2_len | exact StoreF0_len) | decide)
section
variable {Z : Ads} {P : Program} {w : World} {K : PySem.W.Frag} {mg : Str → Option Value} {base : Heap}
theorem made {H H2 : Hp} {C x dx : Addr} (hx : H x = none) (hdx : H dx = none) (n : dx ≠ x) (f : Fr [x] (upd (upd H dx (.own x)) x (.ins C dx [])) H2) : Fr [] H H2 := by
  have f1 : Fr [] H _ := ((Fr.refl H).new (o := .own x) hdx).new (o := .ins C dx []) (by rw [upd_ne n.symm]; exact hx)
  exact ((f1.mono (ns := [] ++ [x]) (by simp)).trans (f.mono (by simp))).cut (fun b hb => by rw [List.mem_singleton.mp hb]; exact hx)
theorem nice_shaped {v : PyData} (h : Nice 10 v) : SeqAt.shaped v = true := by
  unfold SeqAt.shaped
  rw [h.lay, decide_eq_true (show v.depth ≤ 64 from Nat.le_trans h.dep (by decide))]
  rfl
theorem good_put {m : Dd} {e : PyData} (g : GoodD m) (h : IsPr e) : GoodD (putE m e) := by
  obtain ⟨k, v, rfl, _, hv⟩ := h
  show GoodD (if isSeal k = true then m else _)
  by_cases z : isSeal k = true
  · rw [if_pos z]; exact g
  · rw [if_neg z]; exact g.put (nice_shaped hv)
theorem good_fold : ∀ {es : List PyData} {m : Dd}, (∀ e ∈ es, IsPr e) → GoodD m → GoodD (es.foldl putE m)
  | [], _, _, g => g
  | e :: es, m, h, g => good_fold (es := es) (fun x hx => h x (List.mem_cons_of_mem _ hx)) (good_put g (h e (by simp)))
theorem good_tab {es : List PyData} (h : ∀ e ∈ es, IsPr e) : GoodD (tab es) := good_fold h GoodD.nil
theorem tab_app (xs ys : List PyData) : tab (xs ++ ys) = ys.foldl putE (tab xs) := List.foldl_append
end

def nos : PyData → Bool
  | .tuple [k, _] => !isSeal k
  | _ => true
theorem fold_nos : ∀ (es : List PyData) (m : Dd), es.foldl putE m = (es.filter nos).foldl putE m
  | [], _ => rfl
  | e :: es, m => by
    rw [List.foldl_cons, List.filter_cons]
    by_cases h : nos e = true
    · rw [if_pos h, List.foldl_cons]
      exact fold_nos es _
    · rw [if_neg h]
      have : putE m e = m := by
        unfold putE
        split
        · rename_i k v
          have : isSeal k = true := by
            have : ¬ (!isSeal k) = true := h
            cases hk : isSeal k with
            | true => rfl
            | false => rw [hk] at this; exact absurd rfl this
          rw [if_pos this]
        · rfl
      rw [this]
      exact fold_nos es _
theorem tab_nos (es : List PyData) : tab es = tab (es.filter nos) := fold_nos es []
def UPr (d : PyData) : Prop := ∃ k v, d = .tuple [k, v] ∧ KeyD k ∧ isSeal k = false ∧ Nice 10 v
theorem UPr.pr {d : PyData} (h : UPr d) : IsPr d := by
  obtain ⟨k, v, rfl, a, _, b⟩ := h
  exact ⟨k, v, rfl, a, b⟩
theorem UPr.nos {d : PyData} (h : UPr d) : nos d = true := by
  obtain ⟨k, v, rfl, a, e, b⟩ := h
  show (!isSeal k) = true
  rw [e]; rfl
theorem nos_all : ∀ {ps : List PyData}, (∀ e ∈ ps, UPr e) → ps.filter nos = ps := fun h => List.filter_eq_self.mpr fun e he => (h e he).nos
theorem trip_tr {e : PyData} (h : IsPr e) : IsTr (trip e) := by
  obtain ⟨k, v, rfl, a, b⟩ := h
  exact ⟨k, v, true, rfl, a, b⟩
theorem whole_trip {e : PyData} (h : IsPr e) : whole (trip e) = [e] := by
  obtain ⟨k, v, rfl, a, b⟩ := h
  rfl
theorem flat_trip : ∀ {ps : List PyData}, (∀ e ∈ ps, IsPr e) → (ps.map trip).flatMap whole = ps
  | [], _ => rfl
  | e :: ps, h => by
    rw [List.map_cons, List.flatMap_cons, whole_trip (h e (by simp)), flat_trip fun x hx => h x (List.mem_cons_of_mem _ hx)]
    rfl
theorem map_id_of {f : PyData → PyData} : ∀ {xs : List PyData}, (∀ e ∈ xs, f e = e) → xs.map f = xs
  | [], _ => rfl
  | x :: xs, h => by rw [List.map_cons, h x (by simp), map_id_of fun e he => h e (List.mem_cons_of_mem _ he)]

section
variable {Z : Ads} {P : Program} {w : World} {K : PySem.W.Frag} {mg : Str → Option Value} {base : Heap}
def spFallen : Sp := fun vs H Q _ => ∃ (a b r : Addr) (xs ys : List V) (ls ps : List PyData) (hs : List Int), vs = [.ref a, .ref b, .ref r] ∧ H a = some (.lst xs) ∧ TDs H xs ls ∧ H b = some (.lst ys) ∧ TDs H ys ps ∧ H r = some (.tup (hs.map V.int)) ∧ hs.length = ps.length ∧ (∀ h ∈ hs, 0 ≤ h ∧ h ≤ 2) ∧
  ps.length ≤ 1000 ∧ ls.length ≤ 1000 ∧ (∀ e ∈ ps, IsPr e) ∧ ∀ H' u zs, H u = none → H' u = some (.lst zs) → TDs H' zs (ls ++ fallen ps hs) → Fr [] H H' → Q (.ref u) H'
abbrev s_law_fallen : Stmt := top 79
theorem sc_law_fallen : FnScope ["lying", "waiting", "hows", "found", "key", "thing", "one"] ["lying", "waiting", "hows"] (defScope s_law_fallen) := ⟨rfl, rfl, rfl, by decide +kernel, rfl, by decide +kernel, by decide +kernel⟩
theorem ok_law_fallen {f : Addr} {fd : FuncData} (F : Fun K "_law_fallen" "_law_fallen" s_law_fallen f fd) (T : Txt K mg Z) : FnOk P w K mg base (L2.CX P w) 1 f fd ["lying", "waiting", "hows"] spFallen := by
  refine okN F sc_law_fallen (fun vs H Q E h => ?_) (fun cdv A outer s0 H vs Q E hr h => ?_)
  · obtain ⟨a, b, r, xs, ys, ls, ps, hs, rfl, _⟩ := h
    rfl
  · obtain ⟨a, b, r, xs, ys, ls, ps, hs, rfl, hl, tl, hq, tq, hR, hlen, hbd, hps, hls, hpr, k⟩ := h
    have hny := tq.length
    have hnx := tl.length
    refine ⟨_, [some _, some _, some _, none, none, none, none], rfl, (pss_cons (ps_set (i := 3) sc_law_fallen.nd rfl (by first | exact Or.inl rfl | exact Or.inr rfl) (pe_callTy (kListOf (K := K)) (by rfl) T.n_list (by decide +kernel) (pa_cons (pv 0) pa_nil)))
      (pss_cons (ps_for PassesOwn.never rfl (kZip false true (K := K) (by rfl) T.n_zip (pa_cons (pv 1) (pa_cons (pv 2) pa_nil))) (kTupT (K := K) (n := 2) (pgs_cons (kTupT (K := K) (n := 2) (pgs_cons (pg_name (i := 4) sc_law_fallen.nd rfl (by first | exact Or.inl rfl | exact Or.inr rfl)) (pgs_cons (pg_name (i := 5) sc_law_fallen.nd rfl (by first | exact Or.inl rfl | exact Or.inr rfl)) pgs_nil))) (pgs_cons (pg_name (i := 6) sc_law_fallen.nd rfl (by first | exact Or.inl rfl | exact Or.inr rfl)) pgs_nil)))
      (pss_one (ps_if (pt_cmpR op_eq (pv 6) pe_int (by first | exact nomark _ | rfl)) (pss_one (ps_expr (kApp (K := K) (pv 3) (pe_tup (pa_cons (pv 4) (pa_cons (pv 5) (pa_cons pe_bl pa_nil))))))) (pss_one (ps_if (pt_cmpR op_eq (pv 6) pe_int (by first | exact nomark _ | rfl)) (pss_one (ps_expr (kApp (K := K) (pv 3) (pe_tup (pa_cons (pv 4) (pa_cons pe_non (pa_cons pe_bl pa_nil))))))) pss_nil)))))
      (pss_one (ps_ret (pv 3))))), ?_⟩
    walk_at "st"
    intro u hu
    have f1 : Fr [] H (upd H u (.lst xs)) := Fr.up hu
    have hq1 := f1.same _ _ hq
    have hR1 := f1.same _ _ hR
    walk_at "st"
    refine for_it (walkZ (b := false) (c := true) (xs := ys) (ys := hs.map V.int) (n := ps.length) (by rw [List.length_map]; omega))
      (fun i σ H' => ∃ acc o1 o2 o3, σ = [some (.ref a), some (.ref b), some (.ref r), some (.ref u), o1, o2, o3] ∧ Fr [] H H' ∧ H' u = some (.lst (xs ++ acc)) ∧ acc.length ≤ i ∧ TDs H' acc (fallen (ps.take i) (hs.take i)))
      ⟨[], none, none, none, rfl, f1, by rw [List.append_nil]; exact upd_same, Nat.le_refl _, .nil⟩ (fun i σ H' _ ⟨acc, o1, o2, o3, _, g, _⟩ => ⟨SqL.of (g.same _ _ hq), SqT.of (g.tup _ _ hR)⟩) ?_ ?_
    · rintro i x σ H2 H3 hi ⟨acc, o1, o2, o3, rfl, g, e2, ea, ta⟩ ⟨t, v1, v2, rfl, ht, rfl, hx, hy⟩
      have hx : ys[i]? = some v1 := hx
      have hy : (hs.map V.int)[i]? = some v2 := hy
      rw [List.getElem?_map] at hy
      obtain ⟨h, hh, rfl⟩ := Option.map_eq_some_iff.mp hy
      obtain ⟨b0, b2⟩ := hbd h (List.mem_of_getElem? hh)
      have g1 := g.new (o := .tup [v1, V.int h]) ht
      obtain ⟨e, he, te⟩ := TDs.at_ (TDs.mono g1.tup _ _ tq) hx
      obtain ⟨kd, vd, rfl, _, _⟩ := hpr e (List.mem_of_getElem? he)
      cases te with
      | @tup c zs _ ha hT =>
      cases hT with
      | @cons z1 _ _ _ t1 hT =>
      cases hT with
      | @cons z2 _ _ _ t2 hT =>
      cases hT
      have e3 := upd_old (o' := HO.tup [V.ref c, V.int h]) ht e2
      have hT0 : Tp H2 (upd H2 t (.tup [V.ref c, V.int h])) := (Fr.up (ms := []) ht).tup
      have fin : ∀ (H4 : Hp) (u' : Addr) (z : List V) (zd : List PyData), upd H2 t (.tup [V.ref c, V.int h]) u' = none → H4 = upd (upd (upd H2 t (.tup [V.ref c, V.int h])) u' (.tup z)) u (.lst ((xs ++ acc) ++ [.ref u'])) → TDs (upd H2 t (.tup [V.ref c, V.int h])) z zd → fell (.tuple [kd, vd]) h = [.tuple zd] →
          ∃ acc' o1' o2' o3', [some (V.ref a), some (V.ref b), some (V.ref r), some (V.ref u), some z1, some z2, some (V.int h)] = [some (.ref a), some (.ref b), some (.ref r), some (.ref u), o1', o2', o3'] ∧ Fr [] H H4 ∧ H4 u = some (.lst (xs ++ acc')) ∧ acc'.length ≤ i + 1 ∧ TDs H4 acc' (fallen (ps.take (i + 1)) (hs.take (i + 1))) := by
        intro H4 u' z zd hu' eH tz ef
        have e5 := upd_old (o' := HO.tup z) hu' e3
        have gT : Tp (upd H2 t (.tup [V.ref c, V.int h])) H4 := by
          rw [eH]
          exact ((Fr.up (ms := [u]) hu').wl e5 (.inl (by simp))).tup
        refine ⟨acc ++ [.ref u'], _, _, _, rfl, ?_, ?_, by simp; omega, ?_⟩
        · rw [eH]
          exact (g1.new hu').wl e5 (.inr hu)
        · rw [eH, upd_same, List.append_assoc]
        · rw [fallen_snoc he hh, ef]
          refine TDs.snoc (TDs.mono (hT0.trans gT) _ _ ta) (.tup ?_ (TDs.mono gT _ _ tz))
          rw [eH, upd_ne (ne_of (H := upd (upd H2 t (.tup [V.ref c, V.int h])) u' (.tup z)) upd_same e5 (by intro z; cases z))]
          exact upd_same
      have hlim : (xs ++ acc).length ≤ 100000 := by rw [List.length_append]; omega
      walk_at "st"
      refine iteD (fun h2 => ?_) (fun h2 => ?_)
      · have h2' : h = 2 := V.int.inj h2
        have n0 : ¬ h = 0 := by omega
        walk_at "st"
        intro u' hu'
        walk_at "st"
        exact fin _ u' _ _ hu' rfl (.cons t1 (.cons t2 (.cons (.bl true) .nil))) (by simp only [fell, if_neg n0, if_pos h2'])
      · have h2' : ¬ h = 2 := fun z => h2 (by rw [z])
        walk_at "st"
        refine iteD (fun h1 => ?_) (fun h1 => ?_)
        · have h1' : h = 1 := V.int.inj h1
          have n0 : ¬ h = 0 := by omega
          walk_at "st"
          intro u' hu'
          walk_at "st"
          exact fin _ u' _ _ hu' rfl (.cons t1 (.cons .non (.cons (.bl false) .nil))) (by simp only [fell, if_neg n0, if_neg h2'])
        · have h1' : ¬ h = 1 := fun z => h1 (by rw [z])
          have n0 : h = 0 := by omega
          walk_at "st"
          refine ⟨acc, _, _, _, rfl, g1, e3, by omega, ?_⟩
          have ef : fell (.tuple [kd, vd]) h = [] := by simp only [fell, if_pos n0]
          rw [fallen_snoc he hh, ef, List.append_nil]
          exact TDs.mono hT0 _ _ ta
    · rintro σ H2 ⟨acc, o1, o2, o3, rfl, g, e2, ea, ta⟩
      walk_at "st"
      have t2 : hs.take ps.length = hs := List.take_of_length_le (by omega)
      rw [List.take_length, t2] at ta
      exact k _ u _ hu e2 (TDs.app (TDs.mono g.tup _ _ tl) ta) g
end

section
variable {Z : Ads} {P : Program} {w : World} {K : PySem.W.Frag} {mg : Str → Option Value} {base : Heap}
/-! ### the law's rows: none for a seal -/
def IsRow (d : PyData) : Prop := d = .none ∨ ∃ k v b, d = .tuple [k, v, .bool b] ∧ KeyD k ∧ isSeal k = false ∧ Nice 10 v
def live (rs : List PyData) : List PyData := rs.flatMap whole
theorem live_snoc {rs : List PyData} {i : Nat} {e : PyData} (h : rs[i]? = some e) : live (rs.take (i + 1)) = live (rs.take i) ++ whole e := flat_snoc h
def spLLast : Sp := fun vs H Q _ => ∃ (r : Addr) (xs : List V) (rs : List PyData), vs = [.ref r] ∧ H r = some (.lst xs) ∧ TDs H xs rs ∧ rs.length ≤ 5000 ∧ (∀ e ∈ rs, IsRow e) ∧ ∀ H' p, H p = none → TabAt H' p (tab (live rs)) → Fr [] H H' → Q (.ref p) H'
abbrev s_law_last : Stmt := top 83
theorem sc_law_last : FnScope ["rows", "found", "row"] ["rows"] (defScope s_law_last) := ⟨rfl, rfl, rfl, by decide +kernel, rfl, by decide +kernel, by decide +kernel⟩
theorem ok_law_last {f : Addr} {fd : FuncData} (F : Fun K "_law_last" "_law_last" s_law_last f fd) (T : Txt K mg Z) : FnOk P w K mg base (L2.CX P w) 1 f fd ["rows"] spLLast := by
  refine okN F sc_law_last (fun vs H Q E h => ?_) (fun cdv A outer s0 H vs Q E hr h => ?_)
  · obtain ⟨r, xs, rs, rfl, _⟩ := h
    rfl
  · obtain ⟨r, xs, rs, rfl, hx, tx, hsz, hrow, k⟩ := h
    have hlen := tx.length
    have hu := u1_of hr
    refine ⟨_, [some _, none, none], rfl, (pss_cons (ps_set (i := 1) sc_law_last.nd rfl (by first | exact Or.inl rfl | exact Or.inr rfl) pe_dnewT)
      (pss_cons (ps_for PassesOwn.never rfl (kPiL (K := K) (pv 0)) (pg_name (i := 2) sc_law_last.nd rfl (by first | exact Or.inl rfl | exact Or.inr rfl))
      (pss_one (ps_if (PW.pt (pw_and (pt_cmp (pc_notN (pv 2))) (pw_and1 (pt_val (pe_ix (kIxT (K := K)) (pv 2) pe_int (fun _ _ => rfl)))))) (pss_one (ps_dput hu (pv 1) (pe_ix (kIxT (K := K)) (pv 2) pe_int (fun _ _ => rfl)) (pe_ix (kIxT (K := K)) (pv 2) pe_int (fun _ _ => rfl)) rfl)) pss_nil)))
      (pss_one (ps_ret (pv 1))))), ?_⟩
    clear hu
    walk_at "st"
    intro D hD
    walk_at "st"
    refine for_it (walk_list (xs := xs)) (fun i σ H' => ∃ kvs o1, σ = [some (.ref r), some (.ref D), o1] ∧ Fr [] H H' ∧ H' D = some (.dT kvs) ∧ kvs.length ≤ i ∧ KD H' kvs (tab (live (rs.take i))))
      ⟨[], none, rfl, Fr.up hD, upd_same, Nat.le_refl _, .nil⟩ (fun i σ H' _ ⟨_, _, _, f, _⟩ => SqL.of (f.same _ _ hx)) ?_ ?_
    · rintro i x σ H1 H2 hi ⟨kvs, o1, rfl, f1, e1, ek, tk⟩ ⟨rfl, hxi⟩
      obtain ⟨e, he, te⟩ := TDs.at_ (TDs.mono f1.tup _ _ tx) hxi
      rcases hrow e (List.mem_of_getElem? he) with rfl | ⟨kd, vd, b, rfl, hkd, hseal, hvd⟩
      · cases te
        walk_at "st"
        refine ⟨kvs, _, rfl, f1, e1, by omega, ?_⟩
        rw [live_snoc he, show whole .none = [] from rfl, List.append_nil]
        exact tk
      · cases te with
        | @tup a zs _ ha hT =>
        cases hT with
        | @cons z1 _ _ _ t1 hT =>
        cases hT with
        | @cons z2 _ _ _ t2 hT =>
        cases hT with
        | @cons z3 _ _ _ t3 hT =>
        cases hT
        cases t3
        obtain ⟨c, z, zs, rfl, hb, ekey, _⟩ := key_td t1 hkd
        rw [← ekey] at hb
        have hw : b = true → kvs.length < sizeLine ∧ ∃ kvs' o1, [some (V.ref r), some (V.ref D), some (V.ref a)] = [some (.ref r), some (.ref D), o1] ∧ Fr [] H (upd H2 D (.dT (putK kvs (keysOf kd) z2))) ∧ upd H2 D (.dT (putK kvs (keysOf kd) z2)) D = some (.dT kvs') ∧ kvs'.length ≤ i + 1 ∧ KD (upd H2 D (.dT (putK kvs (keysOf kd) z2))) kvs' (tab (live (rs.take (i + 1)))) := fun hb' => by
          have f3 : Fr [D] H2 (upd H2 D (.dT (putK kvs (keysOf kd) z2))) := (Fr.refl H2).wr e1 trivial (.inl (by simp))
          refine ⟨line_lt (by omega), _, _, rfl, f1.wr e1 trivial (.inr hD), upd_same, ?_, ?_⟩
          · have := length_putK kvs (keysOf kd) z2
            omega
          · rw [live_snoc he, hb', show whole (.tuple [kd, vd, .bool true]) = [.tuple [kd, vd]] from rfl, tab_app]
            show KD _ _ (if isSeal kd = true then _ else _)
            rw [hseal, if_neg Bool.false_ne_true]
            exact (KD.put tk _ t2).mono f3.tup
        walk_at "st"
        rw [if_pos (by simp)]
        walk_at "st"
        cases b with
        | true =>
          walk_at "st"
          exact (hw rfl).2
        | false =>
          walk_at "st"
          refine ⟨kvs, _, rfl, f1, e1, by omega, ?_⟩
          rw [live_snoc he, show whole (.tuple [kd, vd, .bool false]) = [] from rfl, List.append_nil]
          exact tk
    · rintro σ H1 ⟨kvs, o1, rfl, f1, e1, ek, tk⟩
      walk_at "st"
      rw [List.take_of_length_le (by omega)] at tk
      exact k _ D hD ⟨kvs, e1, tk⟩ f1
end
end K42

namespace K42
open PySem PySem.Spec PyProof.Rows L2 Hq
local macro_rules | `(tactic| walk_at "st1") => `(tactic| first
  | with_reducible refine st_seq ?_ | with_reducible refine st_ret ?_ | with_reducible refine st_ifS ?_ | with_reducible refine st_asg ?_ | with_reducible refine st_drop ?_
  | ((with_reducible refine' st_var ?hv ?_); (case hv => rfl)) | with_reducible refine st_c ?_ | with_reducible refine st_op ?_ | with_reducible refine st_un ?_
  | with_reducible refine st_I0 ?_ | with_reducible refine st_U ?_ | ((with_reducible refine' st_I ?hc ?_); (case hc => walk_at "side"))
  | ((with_reducible refine' st_eq ?hs ?_); (case hs => rfl)) | ((with_reducible refine' st_ne ?hs ?_); (case hs => rfl))
  | with_reducible refine st_test ?_ | with_reducible refine st_B ?_ | with_reducible refine st_bl ?_ | with_reducible refine st_isN ?_ | with_reducible refine st_notN ?_
  | with_reducible refine st_chain ?_ | with_reducible refine st_and ?_ | with_reducible refine st_or ?_ | with_reducible refine st_not ?_
  | with_reducible refine st_andV ?_ | with_reducible refine st_orV ?_ | with_reducible refine st_notV ?_ | with_reducible refine st_if ?_
  | with_reducible refine st_CB ?_ | with_reducible refine st_cons ?_ | with_reducible refine st_nil ?_ | with_reducible refine st_fld ?_
  | ((with_reducible refine st_tup ?_)) | ((with_reducible refine st_lst ?_))
  | with_reducible refine st_call ?_ | with_reducible refine st_meth ?_ | with_reducible refine st_make ?_
  | with_reducible refine st_sl ?_ | with_reducible refine st_noPart ?_ | with_reducible refine st_part ?_ | with_reducible refine st_int ?_
  | ((with_reducible refine' st_ixL ?hq ?he ?_); (case hq => walk_at "sqL"); (case he => walk_at "at"))
  | ((with_reducible refine' st_ixT ?hq ?he ?_); (case hq => walk_at "sqT"); (case he => walk_at "at"))
  | with_reducible refine st_bm ?_ | with_reducible refine st_app ?_
  | ((with_reducible refine' st_append ?hq ?hl ?_); (case hq => walk_at "hp"); (case hl => walk_at "line"))
  | ((with_reducible refine' st_len (n := 0) ?hq ?_); (case hq => first | exact Or.inl (by walk_at "sqL") | exact Or.inr (by walk_at "sqT")))
  | ((with_reducible refine' st_listOf ?hq ?_); (case hq => first | exact Or.inl (by walk_at "sqL") | exact Or.inr (by walk_at "sqT")))
  | ((with_reducible refine st_name ?_); (try dsimp only [List.set_cons_zero, List.set_cons_succ])) | with_reducible refine st_par ?_
  | with_reducible refine st_gcons ?_ | with_reducible refine st_gnil ?_ | with_reducible refine st_gsub ?_ | with_reducible refine st_sFld ?_
  | ((with_reducible refine' st_gtup ?hq ?hl ?_); (case hq => walk_at "sqT"); (case hl => rfl))
  | ((with_reducible refine' st_setL ?hq ?hl ?_); (case hq => walk_at "hp"); (case hl => first | rfl | exact ix0 | exact ixN_nat (by assumption)); (try simp only [Int.reduceToNat, List.set_cons_zero, List.set_cons_succ]))
  | with_reducible refine st_intI ?_ | with_reducible refine st_abs ?_
  | ((with_reducible refine' st_popAt ?hq ?hk ?hy ?_); (case hq => walk_at "hp"); (case hk => exact seq0); (case hy => rfl))
  | ((with_reducible refine' and_left ?ht ?_); (case ht => walk_at "ty"))
  | with_reducible refine st_lc ?_ | with_reducible refine st_for ?_ | with_reducible refine st_iL ?_ | with_reducible refine st_iT ?_ | with_reducible refine st_iR1 ?_ | with_reducible refine st_iR2 ?_ | with_reducible refine st_iZ ?_
  | ((with_reducible refine' st_refL ?hq ?_); (case hq => walk_at "sqL")) | ((with_reducible refine' st_refT ?hq ?_); (case hq => walk_at "sqT"))
  | ((with_reducible refine' st_rng1 ?hq ?_); (case hq => walk_at "side")) | ((with_reducible refine' st_rng2 ?hq ?_); (case hq => walk_at "side"))
  | ((with_reducible refine' st_zip ?hq ?hr ?_); (case hq => walk_at "sqb"); (case hr => walk_at "sqb"))
  | ((with_reducible refine' st_size ?hw ?_); (case hw => walk_at "line"))
  | ((with_reducible refine' st_sum ?hq ?_); (case hq => walk_at "sqL"))
  | with_reducible refine st_two ?_ | with_reducible refine st_yes ?_ | ((with_reducible refine' st_wipe ?hw ?_); (case hw => rfl))
  | ((with_reducible refine' st_slL ?hq ?_); (case hq => walk_at "sqL"))
  | ((with_reducible refine' st_cat ?hq ?hr ?hl ?_); (case hq => walk_at "hp"); (case hr => walk_at "hp"); (case hl => walk_at "line"))
  | ((with_reducible refine' st_isi ?hk ?he ?_); (case hk => walk_at "kd"); (case he => walk_at "kit"))
  | ((with_reducible refine' st_ins ?hq ?hc ?hn ?hl ?_); (case hq => walk_at "hp"); (case hc => with_reducible assumption); (case hn => with_reducible assumption); (case hl => walk_at "flen"); walk_at "puts")
  | ((with_reducible refine' st_att ?hq ?hc ?hn ?hl ?_); (case hq => walk_at "hp"); (case hc => with_reducible assumption); (case hn => with_reducible assumption); (case hl => walk_at "lk"))
  | ((with_reducible refine' st_mt ?hq ?hl ?_); (case hq => walk_at "hp"); (case hl => walk_at "lk"))
  | ((with_reducible refine' st_extend ?hq ?hr ?hl ?_); (case hq => walk_at "hp"); (case hr => walk_at "hp"); (case hl => walk_at "line"))
  | with_reducible refine st_next ?_ | with_reducible refine st_retN ?_ | (with_reducible refine iteNT ?_) | (with_reducible refine iteNF ?_) | (with_reducible refine iteT ?_) | (with_reducible refine iteF ?_))
local macro_rules | `(tactic| walk_at "side") => `(tactic| first | omega | decide | assumption | exact ⟨by omega, by omega⟩ | exact Or.inr ⟨by omega, by omega⟩ | exact Or.inl ⟨by omega, by omega⟩ | (simp only [List.length_map, List.length_cons, List.length_nil, List.length_append] at *; omega))
local macro_rules | `(tactic| walk_at "hp") => `(tactic| first | assumption | exact upd_same | refine upd_old (by assumption) (by walk_at "hp") | (rw [upd_ne (by first | assumption | exact Ne.symm (by assumption))]; walk_at "hp"))
local macro_rules | `(tactic| walk_at "sqL") => `(tactic| first | assumption | exact SqL.of (by walk_at "hp"))
local macro_rules | `(tactic| walk_at "sqT") => `(tactic| first | assumption | exact SqT.of (by walk_at "hp"))
local macro_rules | `(tactic| walk_at "sqb") => `(tactic| (unfold SqB; first | ((with_reducible change SqL _ _ _ _); walk_at "sqL") | ((with_reducible change SqT _ _ _ _); walk_at "sqT")))
local macro_rules | `(tactic| walk_at "line") => `(tactic| first | assumption | decide | (apply line_of; walk_at "side") | (apply line_lt; walk_at "side"))
local macro_rules | `(tactic| walk_at "ty") => `(tactic| ((with_reducible refine' ty_lst ?hq); (case hq => walk_at "hp")))
local macro_rules | `(tactic| walk_at "at") => `(tactic| with_reducible first | assumption | exact at0 | exact at1 | exact at2 | exact at3 | exact at4 | exact at5 | exact at6 | exact at7 | exact at8)
local macro_rules | `(tactic| walk_at "st") => `(tactic| (repeat walk_at "st1"))
local macro_rules | `(tactic| walk_at "lk") => `(tactic| first | with_reducible assumption | rfl)
local macro_rules | `(tactic| walk_at "kd") => `(tactic| first | exact .base (.int _) | exact .base .non | exact .base (.bl _) | exact .base (.str _) | exact .base (.tup (by walk_at "hp")) | exact .base (.lst (by walk_at "hp")) | exact .base (.dK (by walk_at "hp")) | exact .base (.dT (by walk_at "hp")))
local macro_rules | `(tactic| walk_at "kit") => `(tactic| with_reducible first
  | exact kit_NoneType_bool
  | exact kit_NoneType_int
  | exact kit_NoneType_str
  | exact kit_NoneType_tuple
  | exact kit_NoneType_list
  | exact kit_NoneType_dict
  | exact kit_bool_bool
  | exact kit_bool_int
  | exact kit_bool_str
  | exact kit_bool_tuple
  | exact kit_bool_list
  | exact kit_bool_dict
  | exact kit_int_bool
  | exact kit_int_int
  | exact kit_int_str
  | exact kit_int_tuple
  | exact kit_int_list
  | exact kit_int_dict
  | exact kit_str_bool
  | exact kit_str_int
  | exact kit_str_str
  | exact kit_str_tuple
  | exact kit_str_list
  | exact kit_str_dict
  | exact kit_tuple_bool
  | exact kit_tuple_int
  | exact kit_tuple_str
  | exact kit_tuple_tuple
  | exact kit_tuple_list
  | exact kit_tuple_dict
  | exact kit_list_bool
  | exact kit_list_int
  | exact kit_list_str
  | exact kit_list_tuple
  | exact kit_list_list
  | exact kit_list_dict
  | exact kit_dict_bool
  | exact kit_dict_int
  | exact kit_dict_str
  | exact kit_dict_tuple
  | exact kit_dict_list
  | exact kit_dict_dict)
local macro_rules | `(tactic| walk_at "flen") => `(tactic| decide)
local macro_rules | `(tactic| walk_at "puts") => `(tactic| skip)

local macro_rules | `(tactic| walk_at "st1") => `(tactic| first
  | with_reducible refine st_dc ?_ | with_reducible refine st_dgetS ?_ | with_reducible refine st_dinS ?_ | with_reducible refine st_dninS ?_ | with_reducible refine st_dputS ?_ | with_reducible refine st_newT ?_ | with_reducible refine iteNN ?_ | with_reducible refine iteYN ?_
  | ((with_reducible refine' st_getT ?hq ?hk ?hv ?_); (case hq => walk_at "hp"); (case hk => walk_at "key"); (case hv => with_reducible assumption))
  | ((with_reducible refine' st_inT ?hq ?hk ?_); (case hq => walk_at "hp"); (case hk => walk_at "key"))
  | ((with_reducible refine' st_ninT ?hq ?hk ?_); (case hq => walk_at "hp"); (case hk => walk_at "key"))
  | ((with_reducible refine' st_putT ?hq ?hk ?hl ?_); (case hq => walk_at "hp"); (case hk => walk_at "key"); (case hl => walk_at "line"))
  | ((with_reducible refine' st_cputT ?hq ?hk ?hl ?_); (case hq => walk_at "hp"); (case hk => walk_at "key"); (case hl => walk_at "line"))
  | ((with_reducible refine' st_ixB ?hq ?he ?_); (case hq => first | assumption | exact Or.inl (by walk_at "sqL") | exact Or.inr (by walk_at "sqT")); (case he => walk_at "at")))
local macro_rules | `(tactic| walk_at "key") => `(tactic| with_reducible assumption)

local macro_rules | `(tactic| walk_at "lk") => `(tactic| with_reducible first | assumption | exact DiskF_get_lying | exact DiskF_get_pending | exact DiskF_get_spoils | exact StoreF_get_disk | exact DiskF_no (by decide +kernel) (by decide +kernel) (by decide +kernel) | exact StoreF_no (by decide +kernel))
local macro_rules | `(tactic| walk_at "puts") => `(tactic| try simp only [DiskF_put_lying, DiskF_put_pending, DiskF_put_spoils, StoreF_put_disk, DiskF0_put, DiskF1_put, DiskF2_put, StoreF0_put])
local macro_rules | `(tactic| walk_at "flen") => `(tactic| first | with_reducible assumption | with_reducible (first | exact DiskF_len | exact StoreF_len | exact DiskF0_len | exact DiskF1_len | exact DiskF2_len | exact StoreF0_len) | decide)
section
variable {Z : Ads} {P : Program} {w : World} {K : PySem.W.Frag} {mg : Str → Option Value} {base : Heap}
/-! ### all that the law holds -/
structure Al (Tb : List (Addr × Str)) (Z : Ads) (H : Hp) (p g m d l q s r kk : Addr) (ls ps rs kds : List PyData) : Prop where
  pot : Pot H p g m
  disk : DiskAt Z.Disk 0 H d l q ls ps
  store : StoreAt Z.Store H s d
  row : ∃ xs, H r = some (.lst xs) ∧ TDs H xs rs
  keys : ∃ xs, H kk = some (.lst xs) ∧ TDs H xs kds
  tp : ∀ x ∈ [p, g, m], x ≠ d ∧ x ≠ l ∧ x ≠ q ∧ x ≠ s ∧ x ≠ r ∧ x ≠ kk
  nr : r ≠ d ∧ r ≠ l ∧ r ≠ q ∧ r ≠ s ∧ r ≠ kk
  nk : kk ≠ d ∧ kk ≠ l ∧ kk ≠ q ∧ kk ≠ s
  ns : s ≠ d ∧ s ≠ l ∧ s ≠ q
  tabs : LamX.Tabs Tb H
/-- a list or an instance -/
def Soft (o : HO) : Prop := (∃ xs, o = .lst xs) ∨ ∃ C dx fs, o = .ins C dx fs
theorem tabs_fr {Tb : List (Addr × Str)} {H H' : Hp} {ms : List Addr} (t : LamX.Tabs Tb H) (f : Fr ms H H') (hm : ∀ x ∈ ms, ∃ o, H x = some o ∧ Soft o) : LamX.Tabs Tb H' := by
  intro pr hpr
  obtain ⟨ps, h1, h2, h3⟩ := t pr hpr
  refine ⟨ps, f.keep _ _ (fun hx => ?_) h1, h2, fun pos cv hc => ?_⟩
  · obtain ⟨o, ho, n1⟩ := hm _ hx
    rw [h1] at ho
    cases ho
    rcases n1 with ⟨_, z⟩ | ⟨_, _, _, z⟩ <;> exact nomatch z
  · obtain ⟨c, e1, e2⟩ := h3 pos cv hc
    refine ⟨c, e1, f.keep _ _ (fun hx => ?_) e2⟩
    obtain ⟨o, ho, n1⟩ := hm _ hx
    rw [e2] at ho
    cases ho
    rcases n1 with ⟨_, z⟩ | ⟨_, _, _, z⟩ <;> exact nomatch z
section
variable {Tb : List (Addr × Str)} {H H' : Hp} {p g m d l q s r kk : Addr} {ls ps rs kds : List PyData}
theorem Al.live (A : Al Tb Z H p g m d l q s r kk ls ps rs kds) : ∀ x ∈ [p, g, m, d, l, q, s, r, kk], ∃ o, H x = some o := by
  obtain ⟨⟨⟨gs, ss, t, c, h1, h2, h3, _⟩, _, _, _⟩, ⟨⟨dx, hd⟩, ⟨xl, hl, _⟩, ⟨xq, hq, _⟩, _⟩, ⟨sx, hs⟩, ⟨xr, hr, _⟩, ⟨xk, hk, _⟩, _, _, _, _, _⟩ := A
  intro x hx
  simp only [List.mem_cons, List.not_mem_nil, or_false] at hx
  rcases hx with rfl | rfl | rfl | rfl | rfl | rfl | rfl | rfl | rfl
  · exact ⟨_, h1⟩
  · exact ⟨_, h2⟩
  · exact ⟨_, h3⟩
  · exact ⟨_, hd⟩
  · exact ⟨_, hl⟩
  · exact ⟨_, hq⟩
  · exact ⟨_, hs⟩
  · exact ⟨_, hr⟩
  · exact ⟨_, hk⟩
theorem Al.soft (A : Al Tb Z H p g m d l q s r kk ls ps rs kds) : ∀ x ∈ [p, g, d, l, q, r, kk], ∃ o, H x = some o ∧ Soft o := by
  obtain ⟨⟨⟨gs, ss, t, c, h1, h2, h3, _⟩, _, _, _⟩, ⟨⟨dx, hd⟩, ⟨xl, hl, _⟩, ⟨xq, hq, _⟩, _⟩, ⟨sx, hs⟩, ⟨xr, hr, _⟩, ⟨xk, hk, _⟩, _, _, _, _, _⟩ := A
  intro x hx
  simp only [List.mem_cons, List.not_mem_nil, or_false] at hx
  rcases hx with rfl | rfl | rfl | rfl | rfl | rfl | rfl
  · exact ⟨_, h1, .inl ⟨_, rfl⟩⟩
  · exact ⟨_, h2, .inl ⟨_, rfl⟩⟩
  · exact ⟨_, hd, .inr ⟨_, _, _, rfl⟩⟩
  · exact ⟨_, hl, .inl ⟨_, rfl⟩⟩
  · exact ⟨_, hq, .inl ⟨_, rfl⟩⟩
  · exact ⟨_, hr, .inl ⟨_, rfl⟩⟩
  · exact ⟨_, hk, .inl ⟨_, rfl⟩⟩
theorem Al.tabs_of {ms : List Addr} (A : Al Tb Z H p g m d l q s r kk ls ps rs kds) (f : Fr ms H H') (h : ∀ x ∈ ms, x ∈ [p, g, d, l, q, r, kk]) : LamX.Tabs Tb H' := tabs_fr A.tabs f fun x hx => A.soft x (h x hx)
theorem Al.apart (A : Al Tb Z H p g m d l q s r kk ls ps rs kds) {y : Addr} (hy : H y = none) : ∀ x ∈ [p, g, m, d, l, q, s, r, kk], x ≠ y := fun x hx => by
  obtain ⟨o, ho⟩ := A.live x hx
  exact ne_of_none ho hy
/-- a part of what is written stays out of the rest -/
theorem Al.keep (A : Al Tb Z H p g m d l q s r kk ls ps rs kds) (f : Fr [] H H') : Al Tb Z H' p g m d l q s r kk ls ps rs kds := by
  obtain ⟨xr, hr, tr⟩ := A.row
  obtain ⟨xk, hk, tk⟩ := A.keys
  exact ⟨A.pot.keep f, A.disk.keep f List.not_mem_nil List.not_mem_nil List.not_mem_nil, A.store.keep f List.not_mem_nil, ⟨xr, f.same _ _ hr, TDs.mono f.tup _ _ tr⟩, ⟨xk, f.same _ _ hk, TDs.mono f.tup _ _ tk⟩, A.tp, A.nr, A.nk, A.ns, A.tabs_of f (by simp)⟩
theorem Al.drawn (A : Al Tb Z H p g m d l q s r kk ls ps rs kds) (f : Fr [p, g] H H') (hP : Pot H' p g m) : Al Tb Z H' p g m d l q s r kk ls ps rs kds := by
  obtain ⟨xr, hr, tr⟩ := A.row
  obtain ⟨xk, hk, tk⟩ := A.keys
  obtain ⟨p1, p2, p3, p4, p5, p6⟩ := A.tp p (by simp)
  obtain ⟨g1, g2, g3, g4, g5, g6⟩ := A.tp g (by simp)
  exact ⟨hP, A.disk.keep f (by simpa using ⟨p1.symm, g1.symm⟩) (by simpa using ⟨p2.symm, g2.symm⟩) (by simpa using ⟨p3.symm, g3.symm⟩), A.store.keep f (by simpa using ⟨p4.symm, g4.symm⟩),
    ⟨xr, f.keep _ _ (by simpa using ⟨p5.symm, g5.symm⟩) hr, TDs.mono f.tup _ _ tr⟩, ⟨xk, f.keep _ _ (by simpa using ⟨p6.symm, g6.symm⟩) hk, TDs.mono f.tup _ _ tk⟩, A.tp, A.nr, A.nk, A.ns, A.tabs_of f (by simp)⟩
/-- the disk's own lists are written; what waits may be a new list -/
theorem Al.disked {q' : Addr} {ls' ps' : List PyData} (A : Al Tb Z H p g m d l q s r kk ls ps rs kds) (f : Fr [d, l, q] H H') (hq : q' = q ∨ H q' = none) (D : DiskAt Z.Disk 0 H' d l q' ls' ps') : Al Tb Z H' p g m d l q' s r kk ls' ps' rs kds := by
  have ap : ∀ x ∈ [p, g, m, r, kk, s], x ≠ q' := fun x hx => by
    rcases hq with rfl | hq
    · simp only [List.mem_cons, List.not_mem_nil, or_false] at hx
      rcases hx with rfl | rfl | rfl | rfl | rfl | rfl
      · exact (A.tp _ (by simp)).2.2.1
      · exact (A.tp _ (by simp)).2.2.1
      · exact (A.tp _ (by simp)).2.2.1
      · exact A.nr.2.2.1
      · exact A.nk.2.2.1
      · exact A.ns.2.2
    · refine A.apart hq x ?_
      simp only [List.mem_cons, List.not_mem_nil, or_false] at hx ⊢
      rcases hx with rfl | rfl | rfl | rfl | rfl | rfl <;> simp
  obtain ⟨xr, hr, tr⟩ := A.row
  obtain ⟨xk, hk, tk⟩ := A.keys
  have tp := A.tp
  have out : ∀ x ∈ [p, g, m], x ∉ [d, l, q] := fun x hx => by
    obtain ⟨a, b, c, _⟩ := tp x hx
    simpa using ⟨a, b, c⟩
  refine ⟨A.pot.keep f (out p (by simp)) (out g (by simp)) (out m (by simp)), D, A.store.keep f (by simpa using A.ns), ⟨xr, f.keep _ _ (by simpa using ⟨A.nr.1, A.nr.2.1, A.nr.2.2.1⟩) hr, TDs.mono f.tup _ _ tr⟩,
    ⟨xk, f.keep _ _ (by simpa using ⟨A.nk.1, A.nk.2.1, A.nk.2.2.1⟩) hk, TDs.mono f.tup _ _ tk⟩, fun x hx => ?_, ⟨A.nr.1, A.nr.2.1, ap r (by simp), A.nr.2.2.2⟩, ⟨A.nk.1, A.nk.2.1, ap kk (by simp), A.nk.2.2.2⟩, ⟨A.ns.1, A.ns.2.1, ap s (by simp)⟩, A.tabs_of f (by simp)⟩
  obtain ⟨a, b, c, e⟩ := tp x hx
  refine ⟨a, b, ap x ?_, e⟩
  simp only [List.mem_cons, List.not_mem_nil, or_false] at hx ⊢
  rcases hx with rfl | rfl | rfl <;> simp
theorem Al.stored {s' : Addr} (A : Al Tb Z H p g m d l q s r kk ls ps rs kds) (f : Fr [] H H') (hs : H s' = none) (S : StoreAt Z.Store H' s' d) : Al Tb Z H' p g m d l q s' r kk ls ps rs kds := by
  have ap := A.apart hs
  have B := A.keep f
  refine ⟨B.pot, B.disk, S, B.row, B.keys, fun x hx => ?_, ⟨B.nr.1, B.nr.2.1, B.nr.2.2.1, ap r (by simp), B.nr.2.2.2.2⟩, ⟨B.nk.1, B.nk.2.1, B.nk.2.2.1, ap kk (by simp)⟩, ⟨(ap d (by simp)).symm, (ap l (by simp)).symm, (ap q (by simp)).symm⟩, B.tabs⟩
  obtain ⟨a, b, c, e, h⟩ := B.tp x hx
  refine ⟨a, b, c, ap x ?_, h⟩
  simp only [List.mem_cons, List.not_mem_nil, or_false] at hx ⊢
  rcases hx with rfl | rfl | rfl <;> simp
theorem Al.rowed {rs' : List PyData} {xs : List V} (A : Al Tb Z H p g m d l q s r kk ls ps rs kds) (f : Fr [r] H H') (hr : H' r = some (.lst xs)) (tr : TDs H' xs rs') : Al Tb Z H' p g m d l q s r kk ls ps rs' kds := by
  obtain ⟨xk, hk, tk⟩ := A.keys
  have tp := A.tp
  have out : ∀ x ∈ [p, g, m], x ∉ [r] := fun x hx => by
    obtain ⟨_, _, _, _, e, _⟩ := tp x hx
    simpa using e
  exact ⟨A.pot.keep f (out p (by simp)) (out g (by simp)) (out m (by simp)), A.disk.keep f (by simpa using A.nr.1.symm) (by simpa using A.nr.2.1.symm) (by simpa using A.nr.2.2.1.symm), A.store.keep f (by simpa using A.nr.2.2.2.1.symm), ⟨xs, hr, tr⟩,
    ⟨xk, f.keep _ _ (by simpa using A.nr.2.2.2.2.symm) hk, TDs.mono f.tup _ _ tk⟩, A.tp, A.nr, A.nk, A.ns, A.tabs_of f (by simp)⟩
theorem Al.rowNew {rs' : List PyData} {r' : Addr} {xs : List V} (A : Al Tb Z H p g m d l q s r kk ls ps rs kds) (f : Fr [] H H') (h0 : H r' = none) (hr : H' r' = some (.lst xs)) (tr : TDs H' xs rs') : Al Tb Z H' p g m d l q s r' kk ls ps rs' kds := by
  have ap := A.apart h0
  have B := A.keep f
  refine ⟨B.pot, B.disk, B.store, ⟨xs, hr, tr⟩, B.keys, fun x hx => ?_, ⟨(ap d (by simp)).symm, (ap l (by simp)).symm, (ap q (by simp)).symm, (ap s (by simp)).symm, (ap kk (by simp)).symm⟩, B.nk, B.ns, B.tabs⟩
  obtain ⟨a, b, c, e, h, h'⟩ := B.tp x hx
  refine ⟨a, b, c, e, ap x ?_, h'⟩
  simp only [List.mem_cons, List.not_mem_nil, or_false] at hx ⊢
  rcases hx with rfl | rfl | rfl <;> simp
theorem Al.waited {kds' : List PyData} {xs : List V} (A : Al Tb Z H p g m d l q s r kk ls ps rs kds) (f : Fr [kk] H H') (hr : H' kk = some (.lst xs)) (tr : TDs H' xs kds') : Al Tb Z H' p g m d l q s r kk ls ps rs kds' := by
  obtain ⟨xk, hk, tk⟩ := A.row
  have tp := A.tp
  have out : ∀ x ∈ [p, g, m], x ∉ [kk] := fun x hx => by
    obtain ⟨_, _, _, _, _, e⟩ := tp x hx
    simpa using e
  exact ⟨A.pot.keep f (out p (by simp)) (out g (by simp)) (out m (by simp)), A.disk.keep f (by simpa using A.nk.1.symm) (by simpa using A.nk.2.1.symm) (by simpa using A.nk.2.2.1.symm), A.store.keep f (by simpa using A.nk.2.2.2.symm),
    ⟨xk, f.keep _ _ (by simpa using A.nr.2.2.2.2) hk, TDs.mono f.tup _ _ tk⟩, ⟨xs, hr, tr⟩, A.tp, A.nr, A.nk, A.ns, A.tabs_of f (by simp)⟩
theorem Al.waitNew {kds' : List PyData} {kk' : Addr} {xs : List V} (A : Al Tb Z H p g m d l q s r kk ls ps rs kds) (f : Fr [] H H') (h0 : H kk' = none) (hr : H' kk' = some (.lst xs)) (tr : TDs H' xs kds') : Al Tb Z H' p g m d l q s r kk' ls ps rs kds' := by
  have ap := A.apart h0
  have B := A.keep f
  refine ⟨B.pot, B.disk, B.store, B.row, ⟨xs, hr, tr⟩, fun x hx => ?_, ⟨B.nr.1, B.nr.2.1, B.nr.2.2.1, B.nr.2.2.2.1, ap r (by simp)⟩, ⟨(ap d (by simp)).symm, (ap l (by simp)).symm, (ap q (by simp)).symm, (ap s (by simp)).symm⟩, B.ns, B.tabs⟩
  obtain ⟨a, b, c, e, h, h'⟩ := B.tp x hx
  refine ⟨a, b, c, e, h, ap x ?_⟩
  simp only [List.mem_cons, List.not_mem_nil, or_false] at hx ⊢
  rcases hx with rfl | rfl | rfl <;> simp
end
end

/-! ### the disk's words and the law's rows -/
def isSeal3 : PyData → Bool
  | .tuple (k :: _) => isSeal k
  | _ => false
def rowOf (e : PyData) : PyData := if isSeal3 e = true then .none else e
def SealsOk : Nat → List PyData → Prop
  | _, [] => True
  | c, e :: r => (isSeal3 e = true → e = .tuple [sKey, .int c, .bool true]) ∧ SealsOk (c + (whole e).length) r
theorem seals_app : ∀ {A B : List PyData} {c : Nat}, SealsOk c (A ++ B) ↔ SealsOk c A ∧ SealsOk (c + (A.flatMap whole).length) B
  | [], B, c => by simp [SealsOk]
  | e :: A, B, c => by
    rw [List.cons_append]
    show (_ ∧ SealsOk _ (A ++ B)) ↔ (_ ∧ SealsOk _ A) ∧ _
    rw [seals_app (A := A), List.flatMap_cons, List.length_append, Nat.add_assoc, and_assoc]
theorem seals_user : ∀ {A : List PyData} {c : Nat}, (∀ e ∈ A, isSeal3 e = false) → SealsOk c A
  | [], _, _ => trivial
  | e :: A, c, h => ⟨fun z => absurd ((h e (by simp)).symm.trans z) (by decide), seals_user fun x hx => h x (List.mem_cons_of_mem _ hx)⟩
theorem rowOf_user : ∀ {A : List PyData}, (∀ e ∈ A, isSeal3 e = false) → A.map rowOf = A
  | [], _ => rfl
  | e :: A, h => by
    rw [List.map_cons, rowOf_user fun x hx => h x (List.mem_cons_of_mem _ hx)]
    unfold rowOf
    rw [if_neg (by rw [h e (by simp)]; exact Bool.false_ne_true)]
theorem trip_user {e : PyData} (h : UPr e) : isSeal3 (trip e) = false := by
  obtain ⟨k, v, rfl, a, b, c⟩ := h
  exact b
theorem fell_user {e z : PyData} {h : Int} (he : UPr e) (hz : z ∈ fell e h) : isSeal3 z = false ∧ IsTr z := by
  obtain ⟨k, v, rfl, hk, hs, hv⟩ := he
  replace hz : z ∈ (if h = 0 then [] else if h = 2 then [PyData.tuple [k, v, .bool true]] else [PyData.tuple [k, .none, .bool false]]) := hz
  by_cases h0 : h = 0
  · rw [if_pos h0] at hz; cases hz
  · rw [if_neg h0] at hz
    by_cases h2 : h = 2
    · rw [if_pos h2] at hz
      rw [List.mem_singleton.mp hz]
      exact ⟨hs, k, v, true, rfl, hk, hv⟩
    · rw [if_neg h2] at hz
      rw [List.mem_singleton.mp hz]
      exact ⟨hs, k, .none, false, rfl, hk, ⟨rfl, Nat.zero_le _, rfl⟩⟩
theorem fallen_user {ps : List PyData} {hs : List Int} (h : ∀ e ∈ ps, UPr e) : ∀ z ∈ fallen ps hs, isSeal3 z = false ∧ IsTr z := by
  intro z hz
  unfold fallen at hz
  obtain ⟨x, hx, hm⟩ := List.mem_flatMap.mp hz
  exact fell_user (h x.1 (List.of_mem_zip hx).1) hm
theorem fallen_two : ∀ {ps : List PyData}, (∀ e ∈ ps, UPr e) → fallen ps (List.replicate ps.length 2) = ps.map trip
  | [], _ => rfl
  | e :: ps, h => by
    obtain ⟨k, v, rfl, _⟩ := h e (by simp)
    rw [List.length_cons, List.replicate_succ, fallen_cons, fallen_two fun x hx => h x (List.mem_cons_of_mem _ hx)]
    rfl
structure Rel (ls ps rs : List PyData) : Prop where
  tr : ∀ e ∈ ls, IsTr e
  up : ∀ e ∈ ps, UPr e
  rows : rs = ls.map rowOf
  seals : SealsOk 0 ls
theorem Rel.pr {ls ps rs : List PyData} (h : Rel ls ps rs) : ∀ e ∈ ps, IsPr e := fun e he => (h.up e he).pr
theorem Rel.nil : Rel [] [] [] := ⟨(fun _ h => nomatch h), (fun _ h => nomatch h), rfl, trivial⟩
theorem Rel.put {ls ps rs : List PyData} {k v : PyData} (h : Rel ls ps rs) (hk : KeyD k) (hs : isSeal k = false) (hv : Nice 10 v) : Rel ls (ps ++ [.tuple [k, v]]) rs := by
  refine ⟨h.tr, fun e he => ?_, h.rows, h.seals⟩
  rcases List.mem_append.mp he with he | he
  · exact h.up e he
  · rw [List.mem_singleton.mp he]; exact ⟨k, v, rfl, hk, hs, hv⟩
theorem Rel.fall {ls ps rs : List PyData} {hs : List Int} (h : Rel ls ps rs) : Rel (ls ++ fallen ps hs) [] (rs ++ fallen ps hs) := by
  have u := fallen_user (hs := hs) h.up
  refine ⟨fun e he => ?_, (fun _ h => nomatch h), ?_, ?_⟩
  · rcases List.mem_append.mp he with he | he
    · exact h.tr e he
    · exact (u e he).2
  · rw [List.map_append, h.rows, rowOf_user fun e he => (u e he).1]
  · exact seals_app.mpr ⟨h.seals, seals_user fun e he => (u e he).1⟩
theorem seal_rowOf (j : Int) : rowOf (trip (sealD j)) = .none := by
  unfold rowOf
  rw [if_pos]
  show decide (("seal" : Str) = "seal") = true
  exact decide_eq_true rfl
theorem Rel.sealed {ls ps rs : List PyData} (h : Rel ls ps rs) : Rel (ls ++ (ps ++ [sealD (wholes ls ps).length]).map trip) [] ((rs ++ ps.map trip) ++ [.none]) := by
  have hu : ∀ e ∈ ps.map trip, isSeal3 e = false := fun e he => by
    obtain ⟨x, hx, rfl⟩ := List.mem_map.mp he
    exact trip_user (h.up x hx)
  rw [List.map_append, ← List.append_assoc]
  refine ⟨fun e he => ?_, (fun _ h => nomatch h), ?_, ?_⟩
  · rcases List.mem_append.mp he with he | he
    · rcases List.mem_append.mp he with he | he
      · exact h.tr e he
      · obtain ⟨x, hx, rfl⟩ := List.mem_map.mp he
        exact trip_tr (h.pr x hx)
    · rw [List.mem_singleton.mp he]; exact trip_tr (sealPr _)
  · rw [List.map_append, List.map_append, h.rows, rowOf_user hu]
    show _ = _ ++ [rowOf (trip (sealD _))]
    rw [seal_rowOf]
  · refine seals_app.mpr ⟨seals_app.mpr ⟨h.seals, seals_user hu⟩, fun _ => ?_, trivial⟩
    have e : (wholes ls ps).length = 0 + ((ls ++ ps.map trip).flatMap whole).length := by
      unfold wholes
      rw [List.flatMap_append, flat_trip h.pr, Nat.zero_add]
    show PyData.tuple [_, .int ((wholes ls ps).length : Nat), _] = _
    rw [e]
    rfl
theorem row_of {e : PyData} (h : IsTr e) : IsRow (rowOf e) := by
  obtain ⟨k, v, b, rfl, hk, hv⟩ := h
  unfold rowOf
  by_cases z : isSeal3 (.tuple [k, v, .bool b]) = true
  · rw [if_pos z]; exact .inl rfl
  · rw [if_neg z]
    exact .inr ⟨k, v, b, rfl, hk, Bool.eq_false_iff.mpr z, hv⟩
theorem Rel.isRows {ls ps rs : List PyData} (h : Rel ls ps rs) : ∀ e ∈ rs, IsRow e := fun e he => by
  rw [h.rows] at he
  obtain ⟨x, hx, rfl⟩ := List.mem_map.mp he
  exact row_of (h.tr x hx)
theorem live_rowOf : ∀ {ls : List PyData}, (∀ e ∈ ls, IsTr e) → live (ls.map rowOf) = (ls.flatMap whole).filter nos
  | [], _ => rfl
  | e :: ls, h => by
    have ih := live_rowOf fun x hx => h x (List.mem_cons_of_mem _ hx)
    obtain ⟨k, v, b, rfl, hk, hv⟩ := h e (by simp)
    rw [List.map_cons, List.flatMap_cons, List.filter_append, ← ih]
    show whole (rowOf _) ++ live _ = _
    congr 1
    unfold rowOf
    by_cases z : isSeal3 (.tuple [k, v, .bool b]) = true
    · rw [if_pos z]
      have z' : isSeal k = true := z
      cases b with
      | false => rfl
      | true =>
        show [] = List.filter nos [.tuple [k, v]]
        rw [List.filter_cons_of_neg (by show ¬ (!isSeal k) = true; rw [z']; decide)]
        rfl
    · rw [if_neg z]
      have z' : isSeal k = false := Bool.eq_false_iff.mpr z
      cases b with
      | false => rfl
      | true =>
        show [.tuple [k, v]] = List.filter nos [.tuple [k, v]]
        rw [List.filter_cons_of_pos (by show (!isSeal k) = true; rw [z']; rfl)]
        rfl
theorem Rel.tab {ls rs : List PyData} (h : Rel ls [] rs) : K42.tab (wholes ls []) = K42.tab (live rs) := by
  rw [tab_nos]
  unfold wholes
  rw [List.append_nil, ← live_rowOf h.tr, h.rows]
end K42

namespace K42
open PySem PySem.Spec PyProof.Rows L2 Hq
local macro_rules | `(tactic| walk_at "st1") => `(tactic| first
  | with_reducible refine st_seq ?_ | with_reducible refine st_ret ?_ | with_reducible refine st_ifS ?_ | with_reducible refine st_asg ?_ | with_reducible refine st_drop ?_
  | ((with_reducible refine' st_var ?hv ?_); (case hv => rfl)) | with_reducible refine st_c ?_ | with_reducible refine st_op ?_ | with_reducible refine st_un ?_
  | with_reducible refine st_I0 ?_ | with_reducible refine st_U ?_ | ((with_reducible refine' st_I ?hc ?_); (case hc => walk_at "side"))
  | ((with_reducible refine' st_eq ?hs ?_); (case hs => rfl)) | ((with_reducible refine' st_ne ?hs ?_); (case hs => rfl))
  | with_reducible refine st_test ?_ | with_reducible refine st_B ?_ | with_reducible refine st_bl ?_ | with_reducible refine st_isN ?_ | with_reducible refine st_notN ?_
  | with_reducible refine st_chain ?_ | with_reducible refine st_and ?_ | with_reducible refine st_or ?_ | with_reducible refine st_not ?_
  | with_reducible refine st_andV ?_ | with_reducible refine st_orV ?_ | with_reducible refine st_notV ?_ | with_reducible refine st_if ?_
  | with_reducible refine st_CB ?_ | with_reducible refine st_cons ?_ | with_reducible refine st_nil ?_ | with_reducible refine st_fld ?_
  | ((with_reducible refine st_tup ?_)) | ((with_reducible refine st_lst ?_))
  | with_reducible refine st_call ?_ | with_reducible refine st_meth ?_ | with_reducible refine st_make ?_
  | with_reducible refine st_sl ?_ | with_reducible refine st_noPart ?_ | with_reducible refine st_part ?_ | with_reducible refine st_int ?_
  | ((with_reducible refine' st_ixL ?hq ?he ?_); (case hq => walk_at "sqL"); (case he => walk_at "at"))
  | ((with_reducible refine' st_ixT ?hq ?he ?_); (case hq => walk_at "sqT"); (case he => walk_at "at"))
  | with_reducible refine st_bm ?_ | with_reducible refine st_app ?_
  | ((with_reducible refine' st_append ?hq ?hl ?_); (case hq => walk_at "hp"); (case hl => walk_at "line"))
  | ((with_reducible refine' st_len (n := 0) ?hq ?_); (case hq => first | exact Or.inl (by walk_at "sqL") | exact Or.inr (by walk_at "sqT")))
  | ((with_reducible refine' st_listOf ?hq ?_); (case hq => first | exact Or.inl (by walk_at "sqL") | exact Or.inr (by walk_at "sqT")))
  | ((with_reducible refine st_name ?_); (try dsimp only [List.set_cons_zero, List.set_cons_succ])) | with_reducible refine st_par ?_
  | with_reducible refine st_gcons ?_ | with_reducible refine st_gnil ?_ | with_reducible refine st_gsub ?_ | with_reducible refine st_sFld ?_
  | ((with_reducible refine' st_gtup ?hq ?hl ?_); (case hq => walk_at "sqT"); (case hl => rfl))
  | ((with_reducible refine' st_setL ?hq ?hl ?_); (case hq => walk_at "hp"); (case hl => first | rfl | exact ix0 | exact ixN_nat (by assumption)); (try simp only [Int.reduceToNat, List.set_cons_zero, List.set_cons_succ]))
  | with_reducible refine st_intI ?_ | with_reducible refine st_abs ?_
  | ((with_reducible refine' st_popAt ?hq ?hk ?hy ?_); (case hq => walk_at "hp"); (case hk => exact seq0); (case hy => rfl))
  | ((with_reducible refine' and_left ?ht ?_); (case ht => walk_at "ty"))
  | with_reducible refine st_lc ?_ | with_reducible refine st_for ?_ | with_reducible refine st_iL ?_ | with_reducible refine st_iT ?_ | with_reducible refine st_iR1 ?_ | with_reducible refine st_iR2 ?_ | with_reducible refine st_iZ ?_
  | ((with_reducible refine' st_refL ?hq ?_); (case hq => walk_at "sqL")) | ((with_reducible refine' st_refT ?hq ?_); (case hq => walk_at "sqT"))
  | ((with_reducible refine' st_rng1 ?hq ?_); (case hq => walk_at "side")) | ((with_reducible refine' st_rng2 ?hq ?_); (case hq => walk_at "side"))
  | ((with_reducible refine' st_zip ?hq ?hr ?_); (case hq => walk_at "sqb"); (case hr => walk_at "sqb"))
  | ((with_reducible refine' st_size ?hw ?_); (case hw => walk_at "line"))
  | ((with_reducible refine' st_sum ?hq ?_); (case hq => walk_at "sqL"))
  | with_reducible refine st_two ?_ | with_reducible refine st_yes ?_ | ((with_reducible refine' st_wipe ?hw ?_); (case hw => rfl))
  | ((with_reducible refine' st_slL ?hq ?_); (case hq => walk_at "sqL"))
  | ((with_reducible refine' st_cat ?hq ?hr ?hl ?_); (case hq => walk_at "hp"); (case hr => walk_at "hp"); (case hl => walk_at "line"))
  | ((with_reducible refine' st_isi ?hk ?he ?_); (case hk => walk_at "kd"); (case he => walk_at "kit"))
  | ((with_reducible refine' st_ins ?hq ?hc ?hn ?hl ?_); (case hq => walk_at "hp"); (case hc => with_reducible assumption); (case hn => with_reducible assumption); (case hl => walk_at "flen"); walk_at "puts")
  | ((with_reducible refine' st_att ?hq ?hc ?hn ?hl ?_); (case hq => walk_at "hp"); (case hc => with_reducible assumption); (case hn => with_reducible assumption); (case hl => walk_at "lk"))
  | ((with_reducible refine' st_mt ?hq ?hl ?_); (case hq => walk_at "hp"); (case hl => walk_at "lk"))
  | ((with_reducible refine' st_extend ?hq ?hr ?hl ?_); (case hq => walk_at "hp"); (case hr => walk_at "hp"); (case hl => walk_at "line"))
  | with_reducible refine st_next ?_ | with_reducible refine st_retN ?_ | (with_reducible refine iteNT ?_) | (with_reducible refine iteNF ?_) | (with_reducible refine iteT ?_) | (with_reducible refine iteF ?_))
local macro_rules | `(tactic| walk_at "side") => `(tactic| first | omega | decide | assumption | exact ⟨by omega, by omega⟩ | exact Or.inr ⟨by omega, by omega⟩ | exact Or.inl ⟨by omega, by omega⟩ | (simp only [List.length_map, List.length_cons, List.length_nil, List.length_append] at *; omega))
local macro_rules | `(tactic| walk_at "hp") => `(tactic| first | assumption | exact upd_same | refine upd_old (by assumption) (by walk_at "hp") | (rw [upd_ne (by first | assumption | exact Ne.symm (by assumption))]; walk_at "hp"))
local macro_rules | `(tactic| walk_at "sqL") => `(tactic| first | assumption | exact SqL.of (by walk_at "hp"))
local macro_rules | `(tactic| walk_at "sqT") => `(tactic| first | assumption | exact SqT.of (by walk_at "hp"))
local macro_rules | `(tactic| walk_at "sqb") => `(tactic| (unfold SqB; first | ((with_reducible change SqL _ _ _ _); walk_at "sqL") | ((with_reducible change SqT _ _ _ _); walk_at "sqT")))
local macro_rules | `(tactic| walk_at "line") => `(tactic| first | assumption | decide | (apply line_of; walk_at "side") | (apply line_lt; walk_at "side"))
local macro_rules | `(tactic| walk_at "ty") => `(tactic| ((with_reducible refine' ty_lst ?hq); (case hq => walk_at "hp")))
local macro_rules | `(tactic| walk_at "at") => `(tactic| with_reducible first | assumption | exact at0 | exact at1 | exact at2 | exact at3 | exact at4 | exact at5 | exact at6 | exact at7 | exact at8)
local macro_rules | `(tactic| walk_at "st") => `(tactic| (repeat walk_at "st1"))
local macro_rules | `(tactic| walk_at "lk") => `(tactic| first | with_reducible assumption | rfl)
local macro_rules | `(tactic| walk_at "kd") => `(tactic| first | exact .base (.int _) | exact .base .non | exact .base (.bl _) | exact .base (.str _) | exact .base (.tup (by walk_at "hp")) | exact .base (.lst (by walk_at "hp")) | exact .base (.dK (by walk_at "hp")) | exact .base (.dT (by walk_at "hp")))
local macro_rules | `(tactic| walk_at "kit") => `(tactic| with_reducible first
  | exact kit_NoneType_bool
  | exact kit_NoneType_int
  | exact kit_NoneType_str
  | exact kit_NoneType_tuple
  | exact kit_NoneType_list
  | exact kit_NoneType_dict
  | exact kit_bool_bool
  | exact kit_bool_int
  | exact kit_bool_str
  | exact kit_bool_tuple
  | exact kit_bool_list
  | exact kit_bool_dict
  | exact kit_int_bool
  | exact kit_int_int
  | exact kit_int_str
  | exact kit_int_tuple
  | exact kit_int_list
  | exact kit_int_dict
  | exact kit_str_bool
  | exact kit_str_int
  | exact kit_str_str
  | exact kit_str_tuple
  | exact kit_str_list
  | exact kit_str_dict
  | exact kit_tuple_bool
  | exact kit_tuple_int
  | exact kit_tuple_str
  | exact kit_tuple_tuple
  | exact kit_tuple_list
  | exact kit_tuple_dict
  | exact kit_list_bool
  | exact kit_list_int
  | exact kit_list_str
  | exact kit_list_tuple
  | exact kit_list_list
  | exact kit_list_dict
  | exact kit_dict_bool
  | exact kit_dict_int
  | exact kit_dict_str
  | exact kit_dict_tuple
  | exact kit_dict_list
  | exact kit_dict_dict)
local macro_rules | `(tactic| walk_at "flen") => `(tactic| decide)
local macro_rules | `(tactic| walk_at "puts") => `(tactic| skip)

local macro_rules | `(tactic| walk_at "st1") => `(tactic| first
  | with_reducible refine st_dc ?_ | with_reducible refine st_dgetS ?_ | with_reducible refine st_dinS ?_ | with_reducible refine st_dninS ?_ | with_reducible refine st_dputS ?_ | with_reducible refine st_newT ?_ | with_reducible refine iteNN ?_ | with_reducible refine iteYN ?_
  | ((with_reducible refine' st_getT ?hq ?hk ?hv ?_); (case hq => walk_at "hp"); (case hk => walk_at "key"); (case hv => with_reducible assumption))
  | ((with_reducible refine' st_inT ?hq ?hk ?_); (case hq => walk_at "hp"); (case hk => walk_at "key"))
  | ((with_reducible refine' st_ninT ?hq ?hk ?_); (case hq => walk_at "hp"); (case hk => walk_at "key"))
  | ((with_reducible refine' st_putT ?hq ?hk ?hl ?_); (case hq => walk_at "hp"); (case hk => walk_at "key"); (case hl => walk_at "line"))
  | ((with_reducible refine' st_cputT ?hq ?hk ?hl ?_); (case hq => walk_at "hp"); (case hk => walk_at "key"); (case hl => walk_at "line"))
  | ((with_reducible refine' st_ixB ?hq ?he ?_); (case hq => first | assumption | exact Or.inl (by walk_at "sqL") | exact Or.inr (by walk_at "sqT")); (case he => walk_at "at")))
local macro_rules | `(tactic| walk_at "key") => `(tactic| with_reducible assumption)

local macro_rules | `(tactic| walk_at "st1") => `(tactic| with_reducible refine st_par3 ?_)
local macro_rules | `(tactic| walk_at "lk") => `(tactic| with_reducible first | assumption | exact DiskF_get_lying | exact DiskF_get_pending | exact DiskF_get_spoils | exact StoreF_get_disk | exact DiskF_no (by decide +kernel) (by decide +kernel) (by decide +kernel) | exact StoreF_no (by decide +kernel))
local macro_rules | `(tactic| walk_at "puts") => `(tactic| try simp only [DiskF_put_lying, DiskF_put_pending, DiskF_put_spoils, StoreF_put_disk, DiskF0_put, DiskF1_put, DiskF2_put, StoreF0_put])
local macro_rules | `(tactic| walk_at "flen") => `(tactic| first | with_reducible assumption | with_reducible (first | exact DiskF_len | exact StoreF_len | exact DiskF0_len | exact DiskF1_len | exact DiskF2_len | exact StoreF0_len) | decide)
section
variable {Z : Ads} {P : Program} {w : World} {K : PySem.W.Frag} {mg : Str → Option Value} {base : Heap}
theorem badN0 (W : List PyData) : badN 0 W = false := by
  unfold badN
  rw [decide_eq_false (by simp)]
  rfl
theorem no_bad {W : List PyData} {p : Prop} (h : badN 0 W = true) : p := by
  rw [badN0] at h
  exact nomatch h
/-- a list of triples of the pairs -/
theorem app_trip {i : Nat} {ps : List PyData} {e : PyData} (h : ps[i]? = some e) : (ps.take (i + 1)).map trip = (ps.take i).map trip ++ [trip e] := by
  rw [take_snoc h, List.map_append]
  rfl
theorem st_repN {K : PySem.W.Frag} {H : Hp} {l : Addr} {k : Nat} {xs : List V} {Q : VK} (h : H l = some (.tup xs)) (ne : xs ≠ []) (hk : k ≤ 1000) (hl : xs.length ≤ 1000) (q : ∀ H' u, Fr [] H H' → H' u = some (.tup (List.replicate k xs).flatten) → Q (.ref u) H') : rRepN K (.ref l) (.int k) H Q := by
  refine ⟨l, k, xs, rfl, rfl, SqT.of h, ne, hk, hl, fun e => ?_, fun _ p hp => q _ p (Fr.up hp) upd_same⟩
  subst e
  refine q H l (Fr.refl H) ?_
  rw [h]
  simp
theorem trip_turn {H11 H13 : Hp} {D : Addr} {acc xt : List V} {ps : List PyData} {j : Nat} {x : V} {G : Prop} (pr : ∀ e ∈ ps, IsPr e) (hD : H11 D = none) (f12 : Fr [] H11 H13) (e12 : H13 D = some (.lst acc)) (ea : acc.length = j) (ta : TDs H13 acc ((ps.take j).map trip)) (tt : TDs H13 xt ps) (hx : xt[j]? = some x) (hs : j ≤ 2000)
    (go : ∀ z1 z2 a, x = .ref a → H13 a = some (.tup [z1, z2]) →
      (∀ u, H13 u = none → ∃ acc', upd H13 u (.tup [z1, z2, V.bl true]) D = some (.lst acc') ∧ acc'.length < sizeLine ∧ Fr [] H11 (upd (upd H13 u (.tup [z1, z2, V.bl true])) D (.lst (acc' ++ [V.ref u]))) ∧
        ∃ acc'', upd (upd H13 u (.tup [z1, z2, V.bl true])) D (.lst (acc' ++ [V.ref u])) D = some (.lst acc'') ∧ acc''.length = j + 1 ∧ TDs (upd (upd H13 u (.tup [z1, z2, V.bl true])) D (.lst (acc' ++ [V.ref u]))) acc'' ((ps.take (j + 1)).map trip)) → G) : G := by
  obtain ⟨e, he, te⟩ := TDs.at_ tt hx
  obtain ⟨kd, vd, rfl, _, _⟩ := pr e (List.mem_of_getElem? he)
  cases te with
  | @tup a zs _ ha hT =>
  cases hT with
  | @cons z1 _ _ _ t1 hT =>
  cases hT with
  | @cons z2 _ _ _ t2 hT =>
  cases hT
  refine go z1 z2 a rfl ha fun u hu => ?_
  have e2 := upd_old (o' := HO.tup [z1, z2, V.bl true]) hu e12
  have f2 := f12.new (o := .tup [z1, z2, V.bl true]) hu
  have gT : Tp H13 (upd (upd H13 u (.tup [z1, z2, V.bl true])) D (.lst (acc ++ [.ref u]))) := ((Fr.up (ms := [D]) hu).wl e2 (.inl (by simp))).tup
  refine ⟨acc, e2, line_lt (by omega), f2.wl e2 (.inr hD), acc ++ [.ref u], upd_same, by simp [ea], ?_⟩
  rw [app_trip he]
  refine TDs.snoc (TDs.mono gT _ _ ta) (.tup ?_ (.cons (TD.mono gT _ _ t1) (.cons (TD.mono gT _ _ t2) (.cons (.bl true) .nil))))
  rw [upd_ne (ne_of (H := upd H13 u (.tup [z1, z2, V.bl true])) upd_same e2 (by intro z; cases z))]
  exact upd_same
def spWritten (Tb : List (Addr × Str)) (Z : Ads) : Sp := fun vs H Q _ => ∃ (p g m d l q : Addr), vs = [.ref p, .ref d] ∧ Pot H p g m ∧ DiskAt Z.Disk 0 H d l q [] [] ∧ (∀ x ∈ [p, g, m], x ≠ d ∧ x ≠ l ∧ x ≠ q) ∧ LamX.Tabs Tb H ∧
  ∀ H' q' r xs ls rs, Pot H' p g m → DiskAt Z.Disk 0 H' d l q' ls [] → H' r = some (.lst xs) → TDs H' xs rs → Rel ls [] rs → ls.length ≤ 60 → (∀ x ∈ [p, g, m], x ≠ d ∧ x ≠ l ∧ x ≠ q' ∧ x ≠ r) → (r ≠ d ∧ r ≠ l ∧ r ≠ q') → LamX.Tabs Tb H' → Q (.ref r) H'
abbrev s_law_written : Stmt := top 80
theorem sc_law_written : FnScope ["pot", "disk", "store", "rows", "waiting", "turn", "kind", "key", "thing", "hows", "word"] ["pot", "disk"] (defScope s_law_written) := ⟨rfl, rfl, rfl, by decide +kernel, rfl, by decide +kernel, by decide +kernel⟩
theorem ok_law_written {Tb : List (Addr × Str)} {f : Addr} {fd : FuncData} (F : Fun K "_law_written" "_law_written" s_law_written f fd) (T : Txt K mg Z) (D_law_draw : Dn P w K mg base "_law_draw" 1 ["pot", "many"] spDraw)
    (D_law_key : Dn P w K mg base "_law_key" 3 ["pot"] spKey) (D_law_thing : Dn P w K mg base "_law_thing" 5 ["pot", "deep"] (spThing 2)) (D_law_fallen : Dn P w K mg base "_law_fallen" 1 ["lying", "waiting", "hows"] spFallen)
    (C_Store : Cn P w K mg base "Store" Z.Store 1 ["self", "disk"] (spSInit Z.Store)) (M_Disk_fall : Mn P w K mg base Z.Disk "fall" 3 ["self", "reached"] (spFall Z.Disk))
    (M_Store_keep : Mn P w K mg base Z.Store "keep" 13 ["self", "key", "thing"] (spKeepE Z.Store Z.Disk Z.Spoilt)) (M_Store_seal : Mn P w K mg base Z.Store "seal" 13 ["self"] (spSealE Z.Store Z.Disk Z.Spoilt)) :
    FnOk P w K mg base (L2.CX P w) 14 f fd ["pot", "disk"] (spWritten Tb Z) := by
  have cl := T.cl
  have clS := T.clS
  have aD := T.aD
  refine okN F sc_law_written (fun vs H Q E h => ?_) (fun cdv A outer s0 H vs Q E hr h => ?_)
  · obtain ⟨p, g, m, d, l, q, rfl, _⟩ := h
    rfl
  · obtain ⟨p, g, m, d, l, q, rfl, hP, D0, ap0, hTb, k⟩ := h
    refine ⟨_, [some _, some _, none, none, none, none, none, none, none, none, none], rfl, (pss_cons (ps_par3 (i := 2) (j := 3) (l := 4) rfl sc_law_written.nd rfl rfl rfl (by decide) (by decide) (by decide) rfl rfl rfl (pa_cons (pe_c C_Store E0 (hr.mono (by first | decide | omega)) (by rfl) passL (pa_cons (pv 1) pa_nil)) (pa_cons (pe_lst pa_nil) (pa_cons (pe_lst pa_nil) pa_nil))) rfl)
      (pss_cons (ps_for PassesOwn.never rfl (pi_range1 (by rfl) T.n_range (pa_cons (pe_op op_add pe_int (pe_d D_law_draw E0 (hr.mono (by first | decide | omega)) (by rfl) passL (pa_cons (pv 0) (pa_cons pe_int pa_nil)))) pa_nil)) (pg_name (i := 5) sc_law_written.nd rfl (by first | exact Or.inl rfl | exact Or.inr rfl))
      (pss_cons (ps_set (i := 6) sc_law_written.nd rfl (by first | exact Or.inl rfl | exact Or.inr rfl) (pe_d D_law_draw E0 (hr.mono (by first | decide | omega)) (by rfl) passL (pa_cons (pv 0) (pa_cons pe_int pa_nil))))
      (pss_one (ps_if (pt_cmpR op_lt (pv 6) pe_int (by first | exact nomark _ | rfl)) (pss_cons (ps_par (i := 7) (j := 8) rfl sc_law_written.nd rfl rfl (by decide) rfl rfl (pa_cons (pe_d D_law_key E0 (hr.mono (by first | decide | omega)) (by rfl) passL (pa_cons (pv 0) pa_nil)) (pa_cons (pe_d D_law_thing E0 (hr.mono (by first | decide | omega)) (by rfl) passL (pa_cons (pv 0) (pa_cons pe_int pa_nil))) pa_nil)) rfl)
      (pss_cons (ps_expr (pe_m M_Store_keep E0 (hr.mono (by first | decide | omega)) (pv 2) passL (pa_cons (pv 7) (pa_cons (pv 8) pa_nil)) _))
      (pss_one (ps_expr (kApp (K := K) (pv 4) (pe_tup (pa_cons (pv 7) (pa_cons (pv 8) pa_nil)))))))) (pss_one (ps_if (pt_cmpR op_eq (pv 6) pe_int (by first | exact nomark _ | rfl)) (pss_cons (ps_expr (pe_m0 M_Store_seal E0 (hr.mono (by first | decide | omega)) (pv 2) passL _))
      (pss_cons (ps_set (i := 3) sc_law_written.nd rfl (by first | exact Or.inl rfl | exact Or.inr rfl) (pe_op op_cat (pe_op op_cat (pv 3) (pe_lc (own := [("key", 7), ("thing", 8)]) (g := (gTup K 2 (gCons (gName 7) (gCons (gName 8) gNil)))) (tt := tYes) rfl sc_law_written.nd (kPiL (K := K) (pv 4)) (blkOk_by (N := ["pot", "disk", "store", "rows", "waiting", "turn", "kind", "key", "thing", "hows", "word"]) (sc := defScope s_law_written) (by decide +kernel)) (fun _ _ _ _ _ => (kTupT (K := K) (n := 2) (pgs_cons (pg_name (i := 7) sc_law_written.nd rfl (by first | exact Or.inl rfl | exact Or.inr rfl)) (pgs_cons (pg_name (i := 8) sc_law_written.nd rfl (by first | exact Or.inl rfl | exact Or.inr rfl)) pgs_nil)))) (fun _ _ _ _ _ => pts_nil) (fun _ _ _ _ _ => (pe_tup (pa_cons (pv 7) (pa_cons (pv 8) (pa_cons pe_bl pa_nil))))))) (pe_lst (pa_cons pe_non pa_nil))))
      (pss_one (ps_set (i := 4) sc_law_written.nd rfl (by first | exact Or.inl rfl | exact Or.inr rfl) (pe_lst pa_nil))))) (pss_cons (ps_set (i := 9) sc_law_written.nd rfl (by first | exact Or.inl rfl | exact Or.inr rfl) (pe_callTy (kTupOf (K := K)) (by rfl) T.n_tuple (by decide +kernel) (pa_cons (pe_lc (own := [("word", 10)]) (g := (gName 10)) (tt := tYes) rfl sc_law_written.nd (kPiL (K := K) (pv 4)) (blkOk_by (N := ["pot", "disk", "store", "rows", "waiting", "turn", "kind", "key", "thing", "hows", "word"]) (sc := defScope s_law_written) (by decide +kernel)) (fun _ _ _ _ _ => (pg_name (i := 10) sc_law_written.nd rfl (by first | exact Or.inl rfl | exact Or.inr rfl))) (fun _ _ _ _ _ => pts_nil) (fun _ _ _ _ _ => (pe_d D_law_draw E0 (hr.mono (by first | decide | omega)) (by rfl) passL (pa_cons (pv 0) (pa_cons pe_int pa_nil))))) pa_nil)))
      (pss_cons (ps_expr (pe_m M_Disk_fall E0 (hr.mono (by first | decide | omega)) (pv 1) passL (pa_cons (pv 9) pa_nil) _))
      (pss_cons (ps_set (i := 3) sc_law_written.nd rfl (by first | exact Or.inl rfl | exact Or.inr rfl) (pe_d D_law_fallen E0 (hr.mono (by first | decide | omega)) (by rfl) passL (pa_cons (pv 3) (pa_cons (pv 4) (pa_cons (pv 9) pa_nil)))))
      (pss_one (ps_par (i := 4) (j := 2) rfl sc_law_written.nd rfl rfl (by decide) rfl rfl (pa_cons (pe_lst pa_nil) (pa_cons (pe_c C_Store E0 (hr.mono (by first | decide | omega)) (by rfl) passL (pa_cons (pv 1) pa_nil)) pa_nil)) rfl)))))))))))
      (pss_cons (ps_expr (pe_m M_Disk_fall E0 (hr.mono (by first | decide | omega)) (pv 1) passL (pa_cons (pe_op (kRepN (K := K)) (pe_tup (pa_cons pe_int pa_nil)) (pe_callB (kLen (K := K)) (by rfl) T.n_len (by decide +kernel) (pa_cons (pv 4) pa_nil))) pa_nil) _))
      (pss_one (ps_ret (pe_op op_cat (pv 3) (pe_lc (own := [("key", 7), ("thing", 8)]) (g := (gTup K 2 (gCons (gName 7) (gCons (gName 8) gNil)))) (tt := tYes) rfl sc_law_written.nd (kPiL (K := K) (pv 4)) (blkOk_by (N := ["pot", "disk", "store", "rows", "waiting", "turn", "kind", "key", "thing", "hows", "word"]) (sc := defScope s_law_written) (by decide +kernel)) (fun _ _ _ _ _ => (kTupT (K := K) (n := 2) (pgs_cons (pg_name (i := 7) sc_law_written.nd rfl (by first | exact Or.inl rfl | exact Or.inr rfl)) (pgs_cons (pg_name (i := 8) sc_law_written.nd rfl (by first | exact Or.inl rfl | exact Or.inr rfl)) pgs_nil)))) (fun _ _ _ _ _ => pts_nil) (fun _ _ _ _ _ => (pe_tup (pa_cons (pv 7) (pa_cons (pv 8) (pa_cons pe_bl pa_nil)))))))))))), ?_⟩
    walk_at "st"
    intro s sx hs0 hsx0 sxs
    refine ⟨s, sx, d, rfl, upd_same, fun H1 S1 f1 => ⟨rfl, ?_⟩⟩
    have F1 := made hs0 hsx0 sxs f1
    obtain ⟨dx, hd⟩ := D0.ok
    obtain ⟨xl, hl, _⟩ := D0.lie
    obtain ⟨xq, hq, _⟩ := D0.pen
    have hP1 := hP.keep F1
    have ns := hP.ne hs0
    obtain ⟨sx1, hs1⟩ := S1.ok
    walk_at "st"
    intro r hr0
    walk_at "st"
    intro t ht0
    walk_at "st"
    refine ⟨_, _, _, rfl, ?_⟩
    dsimp only [List.set_cons_zero, List.set_cons_succ]
    walk_at "st"
    have G1 : Fr [] H1 (upd H1 r (.lst [])) := Fr.up hr0
    have G2 : Fr [] H1 (upd (upd H1 r (.lst [])) t (.lst [])) := G1.new ht0
    have F2 := F1.trans G2
    have nr := hP1.ne hr0
    have ht1 : H1 t = none := fresh_of ht0
    have nt := hP1.ne ht1
    have A : Al Tb Z (upd (upd H1 r (.lst [])) t (.lst [])) p g m d l q s r t [] [] [] [] := by
      refine ⟨hP.keep F2, D0.keep F2 List.not_mem_nil List.not_mem_nil List.not_mem_nil, S1.keep G2 List.not_mem_nil, ⟨[], upd_old ht0 upd_same, .nil⟩, ⟨[], upd_same, .nil⟩, fun x hx => ?_,
        ⟨(ne_of_none (F1.same _ _ hd) hr0).symm, (ne_of_none (F1.same _ _ hl) hr0).symm, (ne_of_none (F1.same _ _ hq) hr0).symm, (ne_of_none hs1 hr0).symm, (fresh_ne ht0).symm⟩,
        ⟨(ne_of_none (F1.same _ _ hd) ht1).symm, (ne_of_none (F1.same _ _ hl) ht1).symm, (ne_of_none (F1.same _ _ hq) ht1).symm, (ne_of_none hs1 ht1).symm⟩, ⟨(ne_of_none hd hs0).symm, (ne_of_none hl hs0).symm, (ne_of_none hq hs0).symm⟩, hTb.ext F2.same⟩
      obtain ⟨a, b, c⟩ := ap0 x hx
      simp only [List.mem_cons, List.not_mem_nil, or_false] at hx
      rcases hx with rfl | rfl | rfl
      · exact ⟨a, b, c, ns.1.symm, nr.1.symm, nt.1.symm⟩
      · exact ⟨a, b, c, ns.2.1.symm, nr.2.1.symm, nt.2.1.symm⟩
      · exact ⟨a, b, c, ns.2.2.symm, nr.2.2.symm, nt.2.2.symm⟩
    generalize (upd (upd H1 r (.lst [])) t (.lst [])) = H2 at A ⊢
    clear nt ht1 nr F2 G2 G1 ht0 hr0 hs1 ns hP1 hq hl hd F1 S1 f1 sxs hsx0 hs0 ap0 D0 hP
    refine ⟨p, g, m, _, rfl, A.pot, by omega, by omega, fun H3 n n0 n1 hP3 f3 => ?_⟩
    have A3 := A.drawn f3 hP3
    walk_at "st"
    refine for_it walk_range (fun i σ H' => ∃ q s r t ls ps rs o1 o2 o3 o4 o5 o6, σ = [some (.ref p), some (.ref d), some (.ref s), some (.ref r), some (.ref t), o1, o2, o3, o4, o5, o6] ∧ Al Tb Z H' p g m d l q s r t ls ps rs ps ∧ Rel ls ps rs ∧ ls.length + ps.length ≤ i)
      ⟨q, s, r, t, [], [], [], none, none, none, none, none, none, rfl, A3, Rel.nil, Nat.le_refl _⟩ (fun _ _ _ _ _ => trivial) ?_ ?_
    · rintro i x σ H8 H9 hi ⟨q, s, r, t, ls, ps, rs, o1, o2, o3, o4, o5, o6, rfl, A, R, hsz⟩ ⟨rfl, rfl⟩
      have hi40 : i < 16 := by omega
      walk_at "st"
      refine ⟨p, g, m, _, rfl, A.pot, by omega, by omega, fun H10 kind k0 k1 hP10 f10 => ?_⟩
      have A10 := A.drawn f10 hP10
      walk_at "st"
      refine iteD (fun h4 => ?_) (fun h4 => ?_)
      · walk_at "st"
        refine ⟨p, g, m, rfl, A10.pot, fun H11 kv kd tk uk hP11 f11 => ?_⟩
        have A11 := A10.drawn f11 hP11
        walk_at "st"
        refine ⟨p, g, m, rfl, A11.pot, fun H12 v vd tv hv hP12 f12 => ?_⟩
        have A12 := A11.drawn f12 hP12
        have tk12 := TD.mono f12.tup _ _ tk
        obtain ⟨sx12, hs12⟩ := A12.store.ok
        walk_at "st"
        refine ⟨0, s, d, l, q, ls, ps, kv, v, kd, vd, rfl, A12.store, A12.disk, by omega, R.tr, R.pr, tk12, uk.key, uk.seal, tv, hv.mono (by decide), fun hb => no_bad hb, fun _ H13 D13 f13 => ?_⟩
        have A13 := A12.disked (f13.mono (by simp)) (.inl rfl) D13
        obtain ⟨xt, ht13, tt⟩ := A13.keys
        have lt := tt.length
        walk_at "st"
        intro u hu
        walk_at "st"
        have g13 : Fr [t] H13 _ := (Fr.up (o := .tup [kv, v]) hu).wl (p := t) (o' := .lst (xt ++ [V.ref u])) (by walk_at "hp") (.inl (by simp))
        have utn : u ≠ t := (ne_of_none ht13 hu).symm
        refine ⟨q, s, r, t, ls, ps ++ [.tuple [kd, vd]], rs, _, _, _, _, _, _, rfl, A13.waited g13 upd_same (TDs.snoc (TDs.mono g13.tup _ _ tt) (.tup (by rw [upd_ne utn]; exact upd_same) (.cons (TD.mono (f13.tup.trans g13.tup) _ _ tk12) (.cons (TD.mono (f13.tup.trans g13.tup) _ _ tv) .nil)))), R.put uk.key uk.seal (hv.mono (by decide)), ?_⟩
        rw [List.length_append]; simp; omega
      · walk_at "st"
        refine iteD (fun h5 => ?_) (fun h5 => ?_)
        · obtain ⟨sx10, hs10⟩ := A10.store.ok
          walk_at "st"
          refine ⟨0, s, d, l, q, ls, ps, rfl, A10.store, A10.disk, by omega, by omega, R.tr, R.pr, fun hb => no_bad hb, fun _ H11 q2 hq2 D11 f11 => ?_⟩
          have A11 := A10.disked f11 (.inr hq2) D11
          obtain ⟨xr, hr11, tr⟩ := A11.row
          obtain ⟨xt, ht11, tt⟩ := A11.keys
          have lt := tt.length
          have lr := tr.length
          have hrl : rs.length = ls.length := by rw [R.rows, List.length_map]
          walk_at "st"
          intro D hD
          refine lc_it (walk_list (xs := xt)) (fun i H' => Fr [] H11 H' ∧ ∃ acc, H' D = some (.lst acc) ∧ acc.length = i ∧ TDs H' acc ((ps.take i).map trip)) ⟨Fr.up hD, [], upd_same, rfl, .nil⟩ (fun i H' _ h => SqL.of (h.1.same _ _ ht11)) ?_ ?_
          · rintro j x H12 H13 hj ⟨f12, acc, e12, ea, ta⟩ ⟨rfl, hx⟩
            exact trip_turn R.pr hD f12 e12 ea ta (TDs.mono f12.tup _ _ tt) hx (by omega) fun z1 z2 a ex ha q => by
              subst ex
              walk_at "st"
              intro u hu
              exact q u hu
          · rintro H12 ⟨f12, acc, e12, ea, ta⟩
            rw [List.take_of_length_le (by omega)] at ta
            have hr12 := f12.same _ _ hr11
            walk_at "st"
            intro E1 hE1
            walk_at "st"
            intro E2 hE2
            walk_at "st"
            intro E3 hE3
            walk_at "st"
            intro t2 ht2
            walk_at "st"
            have g1 : Fr [] H12 (upd H12 E1 (.lst (xr ++ acc))) := Fr.up hE1
            have g2 := g1.new (o := .lst [V.non]) hE2
            have g3 := g2.new (o := .lst (xr ++ acc ++ [V.non])) hE3
            have A12 := A11.keep f12
            have tr12 := TDs.mono f12.tup _ _ tr
            have A13 := A12.rowNew (rs' := (rs ++ ps.map trip) ++ [.none]) g3 (g2.free hE3) upd_same (TDs.snoc (TDs.app (TDs.mono g3.tup _ _ tr12) (TDs.mono g3.tup _ _ ta)) .non)
            refine ⟨q2, s, E3, t2, _, [], _, _, _, _, _, _, _, rfl, A13.waitNew (Fr.up ht2) ht2 upd_same .nil, R.sealed, ?_⟩
            simp only [List.length_append, List.length_map, List.length_cons, List.length_nil]
            omega
        · obtain ⟨xt, ht10, tt⟩ := A10.keys
          have lt := tt.length
          walk_at "st"
          intro D hD
          have nD := A10.pot.ne hD
          have apD := A10.apart hD
          have tpp := A10.tp p (by simp)
          have tpg := A10.tp g (by simp)
          refine lc_it (walk_list (xs := xt)) (fun i H' => ∃ hs : List Int, H' D = some (.lst (hs.map V.int)) ∧ Fr [p, g] H10 H' ∧ Pot H' p g m ∧ hs.length = i ∧ ∀ h ∈ hs, 0 ≤ h ∧ h ≤ 2) ⟨[], upd_same, Fr.up hD, A10.pot.up hD, rfl, (fun _ h => nomatch h)⟩
            (fun i H' _ ⟨_, _, f, _⟩ => SqL.of (f.keep _ _ (by simpa using ⟨tpp.2.2.2.2.2.symm, tpg.2.2.2.2.2.symm⟩) ht10)) ?_ ?_
          · rintro j x H11 H12 hj ⟨hs, e11, f11, hP11, lh, hb⟩ ⟨rfl, hx⟩
            walk_at "st"
            refine ⟨p, g, m, _, rfl, hP11, by omega, by omega, fun H13 n n0 n1 hP13 f13 => ?_⟩
            have e13 := f13.keep D _ (by simpa using ⟨nD.1, nD.2.1⟩) e11
            refine ⟨_, e13, line_lt (by rw [List.length_map]; omega), hs ++ [n], ?_, (f11.trans f13).wl e13 (.inr hD), hP13.wr e13 nD, by simp [lh], fun h hh => ?_⟩
            · rw [upd_same, List.map_append]; rfl
            · rcases List.mem_append.mp hh with hh | hh
              · exact hb h hh
              · rw [List.mem_singleton.mp hh]; omega
          · rintro H11 ⟨hs, e11, f11, hP11, lh, hb⟩
            have A11 := A10.drawn f11 hP11
            obtain ⟨dx11, hd11⟩ := A11.disk.ok
            have lhs : hs.length = ps.length := by omega
            have hrl : rs.length = ls.length := by rw [R.rows, List.length_map]
            walk_at "st"
            refine st_tupOf (SqL.of e11) fun u hu => ?_
            have g11 : Fr [] H11 (upd H11 u (.tup (hs.map V.int))) := Fr.up hu
            have A11' := A11.keep g11
            have hd11' := g11.same _ _ hd11
            walk_at "st"
            refine ⟨0, d, l, q, u, ls, ps, hs, rfl, A11'.disk, upd_same, lhs, hb, by omega, by omega, R.pr, fun H12 q2 hq2 D12 f12 => ?_⟩
            have A12 := A11'.disked (f12.mono (by simp)) (.inr hq2) D12
            have hu12 := f12.tup _ _ (upd_same (H := H11) (a := u) (o := .tup (hs.map V.int)))
            obtain ⟨xr, hr12, tr⟩ := A12.row
            obtain ⟨xt2, ht12, tt12⟩ := A12.keys
            walk_at "st"
            refine ⟨r, t, u, xr, xt2, rs, ps, hs, rfl, hr12, tr, ht12, tt12, hu12, lhs, hb, by omega, by omega, R.pr, fun H13 v zs hv0 hv tz f13 => ?_⟩
            have A13 := A12.rowNew f13 hv0 hv tz
            walk_at "st"
            intro t2 ht2
            have A14 := A13.waitNew (Fr.up (o := .lst []) ht2) ht2 upd_same .nil
            walk_at "st"
            intro s2 sx2 hs20 hsx20 sxs2
            refine ⟨s2, sx2, d, rfl, upd_same, fun H15 S15 f15 => ⟨rfl, ?_⟩⟩
            have F15 := made hs20 hsx20 sxs2 f15
            walk_at "st"
            have hfl := fallen_len (ps := ps) (hs := hs)
            refine ⟨q2, s2, v, t2, ls ++ fallen ps hs, [], rs ++ fallen ps hs, _, _, _, _, _, _, rfl, A14.stored F15 hs20 S15, R.fall, ?_⟩
            rw [List.length_append]; simp; omega
    · rintro σ H8 ⟨q, s, r, t, ls, ps, rs, o1, o2, o3, o4, o5, o6, rfl, A, R, hsz⟩
      obtain ⟨dx8, hd8⟩ := A.disk.ok
      obtain ⟨xt, ht8, tt⟩ := A.keys
      have lt := tt.length
      have hrl : rs.length = ls.length := by rw [R.rows, List.length_map]
      have hi40 : (3 + n).toNat ≤ 14 := by omega
      walk_at "st"
      intro c hc
      have ht8' := upd_old (o' := HO.tup [V.int 2]) hc ht8
      walk_at "st"
      refine st_repN (k := xt.length) upd_same (by simp) (by omega) (by decide) fun H9 u f9 hu => ?_
      have f8 : Fr [] H8 H9 := (Fr.up hc).trans f9
      have A9 := A.keep f8
      have e2 : (List.replicate xt.length [V.int 2]).flatten = (List.replicate xt.length (2 : Int)).map V.int := by
        generalize xt.length = k
        induction k with
        | zero => rfl
        | succ k ih => rw [List.replicate_succ, List.replicate_succ, List.flatten_cons, List.map_cons, ih]; rfl
      rw [e2] at hu
      have hd9 := f8.same _ _ hd8
      walk_at "st"
      refine ⟨0, d, l, q, u, ls, ps, List.replicate xt.length 2, rfl, A9.disk, hu, by rw [List.length_replicate]; exact lt, fun h hh => by rw [List.eq_of_mem_replicate hh]; decide, by omega, by omega, R.pr, fun H10 q2 hq2 D10 f10 => ?_⟩
      rw [lt, fallen_two R.up] at D10
      have A10 := A9.disked (f10.mono (by simp)) (.inr hq2) D10
      have R10 : Rel (ls ++ ps.map trip) [] (rs ++ ps.map trip) := by
        have := R.fall (hs := List.replicate ps.length 2)
        rw [fallen_two R.up] at this
        exact this
      obtain ⟨xr, hr10, tr⟩ := A10.row
      obtain ⟨xt2, ht10, tt10⟩ := A10.keys
      have lr := tr.length
      have lt2 := tt10.length
      walk_at "st"
      intro D hD
      refine lc_it (walk_list (xs := xt2)) (fun i H' => Fr [] H10 H' ∧ ∃ acc, H' D = some (.lst acc) ∧ acc.length = i ∧ TDs H' acc ((ps.take i).map trip)) ⟨Fr.up hD, [], upd_same, rfl, .nil⟩ (fun i H' _ h => SqL.of (h.1.same _ _ ht10)) ?_ ?_
      · rintro j x H12 H13 hj ⟨f12, acc, e12, ea, ta⟩ ⟨rfl, hx⟩
        exact trip_turn R.pr hD f12 e12 ea ta (TDs.mono f12.tup _ _ tt10) hx (by omega) fun z1 z2 a ex ha q => by
          subst ex
          walk_at "st"
          intro u hu
          exact q u hu
      · rintro H12 ⟨f12, acc, e12, ea, ta⟩
        rw [List.take_of_length_le (by omega)] at ta
        have hr12 := f12.same _ _ hr10
        walk_at "st"
        intro E1 hE1
        have A12 := A10.keep f12
        have g1 : Fr [] H12 (upd H12 E1 (.lst (xr ++ acc))) := Fr.up hE1
        have A13 := A12.rowNew (rs' := rs ++ ps.map trip) g1 hE1 upd_same (TDs.app (TDs.mono g1.tup _ _ (TDs.mono f12.tup _ _ tr)) (TDs.mono g1.tup _ _ ta))
        walk_at "st"
        refine k _ q2 E1 _ _ _ A13.pot A13.disk upd_same (TDs.app (TDs.mono g1.tup _ _ (TDs.mono f12.tup _ _ tr)) (TDs.mono g1.tup _ _ ta)) R10 ?_ (fun x hx => ?_) ⟨A13.nr.1, A13.nr.2.1, A13.nr.2.2.1⟩ A13.tabs
        · rw [List.length_append, List.length_map]; omega
        · obtain ⟨a, b, c, _, e, _⟩ := A13.tp x hx
          exact ⟨a, b, c, e⟩
end
end K42

namespace K42
open PySem PySem.Spec PyProof.Rows L2 Hq LamX
local macro_rules | `(tactic| walk_at "st1") => `(tactic| first
  | with_reducible refine st_seq ?_ | with_reducible refine st_ret ?_ | with_reducible refine st_ifS ?_ | with_reducible refine st_asg ?_ | with_reducible refine st_drop ?_
  | ((with_reducible refine' st_var ?hv ?_); (case hv => rfl)) | with_reducible refine st_c ?_ | with_reducible refine st_op ?_ | with_reducible refine st_un ?_
  | with_reducible refine st_I0 ?_ | with_reducible refine st_U ?_ | ((with_reducible refine' st_I ?hc ?_); (case hc => walk_at "side"))
  | ((with_reducible refine' st_eq ?hs ?_); (case hs => rfl)) | ((with_reducible refine' st_ne ?hs ?_); (case hs => rfl))
  | with_reducible refine st_test ?_ | with_reducible refine st_B ?_ | with_reducible refine st_bl ?_ | with_reducible refine st_isN ?_ | with_reducible refine st_notN ?_
  | with_reducible refine st_chain ?_ | with_reducible refine st_and ?_ | with_reducible refine st_or ?_ | with_reducible refine st_not ?_
  | with_reducible refine st_andV ?_ | with_reducible refine st_orV ?_ | with_reducible refine st_notV ?_ | with_reducible refine st_if ?_
  | with_reducible refine st_CB ?_ | with_reducible refine st_cons ?_ | with_reducible refine st_nil ?_ | with_reducible refine st_fld ?_
  | ((with_reducible refine st_tup ?_)) | ((with_reducible refine st_lst ?_))
  | with_reducible refine st_call ?_ | with_reducible refine st_meth ?_ | with_reducible refine st_make ?_
  | with_reducible refine st_sl ?_ | with_reducible refine st_noPart ?_ | with_reducible refine st_part ?_ | with_reducible refine st_int ?_
  | ((with_reducible refine' st_ixL ?hq ?he ?_); (case hq => walk_at "sqL"); (case he => walk_at "at"))
  | ((with_reducible refine' st_ixT ?hq ?he ?_); (case hq => walk_at "sqT"); (case he => walk_at "at"))
  | with_reducible refine st_bm ?_ | with_reducible refine st_app ?_
  | ((with_reducible refine' st_append ?hq ?hl ?_); (case hq => walk_at "hp"); (case hl => walk_at "line"))
  | ((with_reducible refine' st_len (n := 0) ?hq ?_); (case hq => first | exact Or.inl (by walk_at "sqL") | exact Or.inr (by walk_at "sqT")))
  | ((with_reducible refine' st_listOf ?hq ?_); (case hq => first | exact Or.inl (by walk_at "sqL") | exact Or.inr (by walk_at "sqT")))
  | ((with_reducible refine st_name ?_); (try dsimp only [List.set_cons_zero, List.set_cons_succ])) | with_reducible refine st_par ?_
  | with_reducible refine st_gcons ?_ | with_reducible refine st_gnil ?_ | with_reducible refine st_gsub ?_ | with_reducible refine st_sFld ?_
  | ((with_reducible refine' st_gtup ?hq ?hl ?_); (case hq => walk_at "sqT"); (case hl => rfl))
  | ((with_reducible refine' st_setL ?hq ?hl ?_); (case hq => walk_at "hp"); (case hl => first | rfl | exact ix0 | exact ixN_nat (by assumption)); (try simp only [Int.reduceToNat, List.set_cons_zero, List.set_cons_succ]))
  | with_reducible refine st_intI ?_ | with_reducible refine st_abs ?_
  | ((with_reducible refine' st_popAt ?hq ?hk ?hy ?_); (case hq => walk_at "hp"); (case hk => exact seq0); (case hy => rfl))
  | ((with_reducible refine' and_left ?ht ?_); (case ht => walk_at "ty"))
  | with_reducible refine st_lc ?_ | with_reducible refine st_for ?_ | with_reducible refine st_iL ?_ | with_reducible refine st_iT ?_ | with_reducible refine st_iR1 ?_ | with_reducible refine st_iR2 ?_ | with_reducible refine st_iZ ?_
  | ((with_reducible refine' st_refL ?hq ?_); (case hq => walk_at "sqL")) | ((with_reducible refine' st_refT ?hq ?_); (case hq => walk_at "sqT"))
  | ((with_reducible refine' st_rng1 ?hq ?_); (case hq => walk_at "side")) | ((with_reducible refine' st_rng2 ?hq ?_); (case hq => walk_at "side"))
  | ((with_reducible refine' st_zip ?hq ?hr ?_); (case hq => walk_at "sqb"); (case hr => walk_at "sqb"))
  | ((with_reducible refine' st_size ?hw ?_); (case hw => walk_at "line"))
  | ((with_reducible refine' st_sum ?hq ?_); (case hq => walk_at "sqL"))
  | with_reducible refine st_two ?_ | with_reducible refine st_yes ?_ | ((with_reducible refine' st_wipe ?hw ?_); (case hw => rfl))
  | ((with_reducible refine' st_slL ?hq ?_); (case hq => walk_at "sqL"))
  | ((with_reducible refine' st_cat ?hq ?hr ?hl ?_); (case hq => walk_at "hp"); (case hr => walk_at "hp"); (case hl => walk_at "line"))
  | ((with_reducible refine' st_isi ?hk ?he ?_); (case hk => walk_at "kd"); (case he => walk_at "kit"))
  | ((with_reducible refine' st_ins ?hq ?hc ?hn ?hl ?_); (case hq => walk_at "hp"); (case hc => with_reducible assumption); (case hn => with_reducible assumption); (case hl => walk_at "flen"); walk_at "puts")
  | ((with_reducible refine' st_att ?hq ?hc ?hn ?hl ?_); (case hq => walk_at "hp"); (case hc => with_reducible assumption); (case hn => with_reducible assumption); (case hl => walk_at "lk"))
  | ((with_reducible refine' st_mt ?hq ?hl ?_); (case hq => walk_at "hp"); (case hl => walk_at "lk"))
  | ((with_reducible refine' st_extend ?hq ?hr ?hl ?_); (case hq => walk_at "hp"); (case hr => walk_at "hp"); (case hl => walk_at "line"))
  | with_reducible refine st_next ?_ | with_reducible refine st_retN ?_ | (with_reducible refine iteNT ?_) | (with_reducible refine iteNF ?_) | (with_reducible refine iteT ?_) | (with_reducible refine iteF ?_))
local macro_rules | `(tactic| walk_at "side") => `(tactic| first | omega | decide | assumption | exact ⟨by omega, by omega⟩ | exact Or.inr ⟨by omega, by omega⟩ | exact Or.inl ⟨by omega, by omega⟩ | (simp only [List.length_map, List.length_cons, List.length_nil, List.length_append] at *; omega))
local macro_rules | `(tactic| walk_at "hp") => `(tactic| first | assumption | exact upd_same | refine upd_old (by assumption) (by walk_at "hp") | (rw [upd_ne (by first | assumption | exact Ne.symm (by assumption))]; walk_at "hp"))
local macro_rules | `(tactic| walk_at "sqL") => `(tactic| first | assumption | exact SqL.of (by walk_at "hp"))
local macro_rules | `(tactic| walk_at "sqT") => `(tactic| first | assumption | exact SqT.of (by walk_at "hp"))
local macro_rules | `(tactic| walk_at "sqb") => `(tactic| (unfold SqB; first | ((with_reducible change SqL _ _ _ _); walk_at "sqL") | ((with_reducible change SqT _ _ _ _); walk_at "sqT")))
local macro_rules | `(tactic| walk_at "line") => `(tactic| first | assumption | decide | (apply line_of; walk_at "side") | (apply line_lt; walk_at "side"))
local macro_rules | `(tactic| walk_at "ty") => `(tactic| ((with_reducible refine' ty_lst ?hq); (case hq => walk_at "hp")))
local macro_rules | `(tactic| walk_at "at") => `(tactic| with_reducible first | assumption | exact at0 | exact at1 | exact at2 | exact at3 | exact at4 | exact at5 | exact at6 | exact at7 | exact at8)
local macro_rules | `(tactic| walk_at "st") => `(tactic| (repeat walk_at "st1"))
local macro_rules | `(tactic| walk_at "lk") => `(tactic| first | with_reducible assumption | rfl)
local macro_rules | `(tactic| walk_at "kd") => `(tactic| first | exact .base (.int _) | exact .base .non | exact .base (.bl _) | exact .base (.str _) | exact .base (.tup (by walk_at "hp")) | exact .base (.lst (by walk_at "hp")) | exact .base (.dK (by walk_at "hp")) | exact .base (.dT (by walk_at "hp")))
local macro_rules | `(tactic| walk_at "kit") => `(tactic| with_reducible first
  | exact kit_NoneType_bool
  | exact kit_NoneType_int
  | exact kit_NoneType_str
  | exact kit_NoneType_tuple
  | exact kit_NoneType_list
  | exact kit_NoneType_dict
  | exact kit_bool_bool
  | exact kit_bool_int
  | exact kit_bool_str
  | exact kit_bool_tuple
  | exact kit_bool_list
  | exact kit_bool_dict
  | exact kit_int_bool
  | exact kit_int_int
  | exact kit_int_str
  | exact kit_int_tuple
  | exact kit_int_list
  | exact kit_int_dict
  | exact kit_str_bool
  | exact kit_str_int
  | exact kit_str_str
  | exact kit_str_tuple
  | exact kit_str_list
  | exact kit_str_dict
  | exact kit_tuple_bool
  | exact kit_tuple_int
  | exact kit_tuple_str
  | exact kit_tuple_tuple
  | exact kit_tuple_list
  | exact kit_tuple_dict
  | exact kit_list_bool
  | exact kit_list_int
  | exact kit_list_str
  | exact kit_list_tuple
  | exact kit_list_list
  | exact kit_list_dict
  | exact kit_dict_bool
  | exact kit_dict_int
  | exact kit_dict_str
  | exact kit_dict_tuple
  | exact kit_dict_list
  | exact kit_dict_dict)
local macro_rules | `(tactic| walk_at "flen") => `(tactic| decide)
local macro_rules | `(tactic| walk_at "puts") => `(tactic| skip)

local macro_rules | `(tactic| walk_at "st1") => `(tactic| first
  | with_reducible refine st_dc ?_ | with_reducible refine st_dgetS ?_ | with_reducible refine st_dinS ?_ | with_reducible refine st_dninS ?_ | with_reducible refine st_dputS ?_ | with_reducible refine st_newT ?_ | with_reducible refine iteNN ?_ | with_reducible refine iteYN ?_
  | ((with_reducible refine' st_getT ?hq ?hk ?hv ?_); (case hq => walk_at "hp"); (case hk => walk_at "key"); (case hv => with_reducible assumption))
  | ((with_reducible refine' st_inT ?hq ?hk ?_); (case hq => walk_at "hp"); (case hk => walk_at "key"))
  | ((with_reducible refine' st_ninT ?hq ?hk ?_); (case hq => walk_at "hp"); (case hk => walk_at "key"))
  | ((with_reducible refine' st_putT ?hq ?hk ?hl ?_); (case hq => walk_at "hp"); (case hk => walk_at "key"); (case hl => walk_at "line"))
  | ((with_reducible refine' st_cputT ?hq ?hk ?hl ?_); (case hq => walk_at "hp"); (case hk => walk_at "key"); (case hl => walk_at "line"))
  | ((with_reducible refine' st_ixB ?hq ?he ?_); (case hq => first | assumption | exact Or.inl (by walk_at "sqL") | exact Or.inr (by walk_at "sqT")); (case he => walk_at "at")))
local macro_rules | `(tactic| walk_at "key") => `(tactic| with_reducible assumption)

local macro_rules | `(tactic| walk_at "lk") => `(tactic| with_reducible first | assumption | exact DiskF_get_lying | exact DiskF_get_pending | exact DiskF_get_spoils | exact StoreF_get_disk | exact DiskF_no (by decide +kernel) (by decide +kernel) (by decide +kernel) | exact StoreF_no (by decide +kernel))
local macro_rules | `(tactic| walk_at "puts") => `(tactic| try simp only [DiskF_put_lying, DiskF_put_pending, DiskF_put_spoils, StoreF_put_disk, DiskF0_put, DiskF1_put, DiskF2_put, StoreF0_put])
local macro_rules | `(tactic| walk_at "flen") => `(tactic| first | with_reducible assumption | with_reducible (first | exact DiskF_len | exact StoreF_len | exact DiskF0_len | exact DiskF1_len | exact DiskF2_len | exact StoreF0_len) | decide)
section
variable {Z : Ads} {P : Program} {w : World} {K : PySem.W.Frag} {mg : Str → Option Value} {base : Heap}
/-! ### a lambda handed to a def that tells how it ends -/
structure TxE (K : PySem.W.Frag) (Z : Ads) : Prop where
  ex : ExcC K Z.Spoilt
  em : PySem.W.exmOne K (.ref Z.Spoilt) (.ref Z.RunError) = some true
  ki : PySem.W.kitOne K (.ref Z.Spoilt) (.ref Z.Spoilt) = some true
abbrev s_law_word : Stmt := top 81
theorem sc_law_word : FnScope ["call", "found", "e"] ["call"] (defScope s_law_word) := ⟨rfl, rfl, rfl, by decide +kernel, rfl, by decide +kernel, by decide +kernel⟩
def wordEnd (Z : Ads) (Q : VK) : XK := fun cls d H' => cls = .ref Z.Spoilt ∧ d = none ∧ Q (.str "spoilt") H'
def TWord (Z : Ads) : (XK → Hp → VK → Prop) → Hp → VK → Prop := fun tl H Q => tl (wordEnd Z Q) H (fun _ H' => Q (.str "told") H')
theorem takes_len {X : Cx} {W : WX} (t : Takes X W) : Takes X (fun c d σ H => σ.length = X.N.length → W c d σ H) := fun u s' ⟨a, B, sI, pins, σ, H, cls, d, e, I, nb, up, sky, na, os, ag, w⟩ =>
  t u s' ⟨a, B, sI, pins, σ, H, cls, d, e, I, nb, up, sky, na, os, ag, w I.len⟩
theorem len3 {α : Type} {σ : List α} (h : σ.length = 3) : ∃ x y z, σ = [x, y, z] := by
  match σ, h with
  | [x, y, z], _ => exact ⟨x, y, z, rfl⟩
theorem word_gives {X : Cx} {q : Str} {g : Addr} {cdg : Value} (T : Txt X.K X.mg Z) (TE : TxE X.K Z) : GivesTo X ["call", "found", "e"] "_law_word" (defScope s_law_word) g cdg (defBody s_law_word) "call" q (TWord Z) := by
  intro f c' s H Q tl act hc h
  obtain ⟨uR, hR, rR⟩ := id T.g_RunError
  cases (show uR = .ref Z.RunError from rR)
  refine ⟨_, pss_cons (ps_set (i := 1) sc_law_word.nd rfl (Or.inl rfl) pe_str) (pss_cons (ps_try_as (i := 2) (X := (cxOf C8.CX0 X.prog X.w X.K X.mg X.base _ "_law_word" (defScope s_law_word) g cdg X.A X.stack s H C8.E0).nox) (c := .ref Z.RunError)
      (tb := fun W D σ H => ∃ Ech : XK, (∀ cls d σ' H', Ech cls d H' → σ'.length = 3 → W cls d σ' H') ∧ σ[0]? = some (some (.ref f)) ∧ H c' = some (CodeO c' q) ∧ tl Ech H (fun _ H' => D.nx σ H'))
      (ts := fun a cls d D σ H => ∃ x y, σ = [x, y, some (.ref a)] ∧ cls = .ref Z.Spoilt ∧ d = none ∧ D.nx [x, some (.str "spoilt"), some (.ref a)] H)
      rfl rfl sc_law_word.nd rfl rfl ⟨rfl, by decide, .inl hR⟩ LamX.takes0 (fun W pn xe tk _ => ?_) (fun a oe cls d pn hz hf => ?_)) (pss_one (ps_ret (pv 1)))), ?_⟩
  · refine ⟨fun pins s' σ H' D I h' => ?_⟩
    obtain ⟨Ech, hW, h1, h2, h3⟩ := h'
    exact (pss_one (ps_expr (act (fun c d σ H => σ.length = 3 → W c d σ H) pn xe Ech _ _ (takes_len tk) hW))).run pins s' σ H' D I ⟨h1, h2, h3⟩
  · by_cases hcd : cls = .ref Z.Spoilt ∧ d = none
    · obtain ⟨rfl, rfl⟩ := hcd
      refine ⟨fun pins s' σ H' D I h' => ?_⟩
      obtain ⟨x, y, rfl, _, _, h3⟩ := h'
      refine (pss_one (ps_set (i := 1) sc_law_word.nd rfl (Or.inl rfl) (pe_ifExp (pt_val (pe_callB (call_isE (X := (cxOf C8.CX0 X.prog X.w X.K X.mg X.base ["call", "found", "e"] "_law_word" (defScope s_law_word) g cdg X.A X.stack s H C8.E0).nox) TE.ex hz hf) (by rfl) T.n_isinstance (by decide +kernel) (pa_cons (pv 2) (pa_cons (pe_gl (by rfl) T.g_Spoilt) pa_nil)))) pe_str pe_str))).run pins s' _ H' D I ?_
      walk_at "st"
      refine ⟨.ref Z.Spoilt, .ref Z.Spoilt, true, rfl, fun u hu => hu, TE.ki, true, rfl, ?_⟩
      rw [if_pos rfl]
      walk_at "st"
      exact h3
    · refine ⟨fun pins s' σ H' D I h' => ?_⟩
      obtain ⟨x, y, _, h1, h2, _⟩ := h'
      exact absurd ⟨h1, h2⟩ hcd
  · walk_at "st"
    refine ⟨wordEnd Z Q, fun cls d σ' H' he hl => ?_, rfl, hc, ?_⟩
    · obtain ⟨rfl, rfl, hq⟩ := he
      obtain ⟨x, y, z, rfl⟩ := len3 hl
      refine ⟨true, TE.em, fun _ a ha => ⟨x, y, rfl, rfl, rfl, ?_⟩, fun z => nomatch z⟩
      show tRet (tVar 1) _ [x, some (.str "spoilt"), none] H'
      walk_at "st"
      exact hq
    · have e : ∀ D : Ends, D.rt = Q → (fun (_ : V) H' => tRet (tVar 1) D [some (.ref f), some (.str "told"), none] H') = fun _ H' => Q (.str "told") H' := by
        intro D hD
        subst hD
        funext v H'
        exact propext ⟨fun ⟨v, hv, q⟩ => by cases hv; exact q, fun q => ⟨_, rfl, q⟩⟩
      exact Eq.mpr (congrArg (tl (wordEnd Z Q) H) (e _ rfl)) h
/-- the def that is handed a lambda -/
structure WordDef (K : PySem.W.Frag) (mg : Str → Option Value) : Prop where
  ok : ∃ (g : Addr) (oc : Value) (od : Option Addr) (kV doc pm : Value) (an : Option Addr) (cdv ct : Value) (osl : Array (Option Value)), mg "_law_word" = some (.ref g) ∧ PySem.W.keepIn K (.ref g) = true ∧
    K.lookup g = some ⟨oc, od, .func (PySem.W.fnOf "_law_word" "_law_word" (defArgs s_law_word) (defBody s_law_word) (defScope s_law_word) .none kV doc pm an cdv ct), osl⟩ ∧ PySem.W.codeIn K cdv "_law_word" = true ∧
    L2.Binds K (PySem.W.fnOf "_law_word" "_law_word" (defArgs s_law_word) (defBody s_law_word) (defScope s_law_word) .none kV doc pm an cdv ct) ["call"] []
theorem pe_word {X : Cx} {Tb : List (Addr × Str)} {c Pt : Addr} {k : Nat} {params : Arguments} {body : Expr} {scope : Scope} {t : XK → TE} {p lpos pos : Pos} (W : WordDef X.K X.mg) (T : Txt X.K X.mg Z) (TE : TxE X.K Z) (hg : Gl X "_law_word")
    {qn : Str} (TB : TabB X.base X.mg c Pt) (hcode : X.env.code = .ref c) (hqn : X.env.qual = qn) (hmT : (Pt, qn ++ "<lambda>") ∈ Tb) (hu : ∀ p ∈ Tb, p.1 = Pt → p.2 = qn ++ "<lambda>") (hr : Room (k + 2) X.A) (L : LamS X.env.scope scope)
    (hbody : ∀ (A : Around) (outer : List Env) (s : Shared) (H : Hp) (E : XK) (f c' : Addr), Room k (A.deeper (lamEnv X scope s.heap.objs.size f c')) → PE (lamCx X A outer s H E scope f c') body (t E))
    (hdef : defaultsOf params X.env = ([], []) := by rfl)
    (hbind : ∀ (q : Str) (cl : List (Str × Addr)) (pm cv ctv : Value), bindArgs (PySem.W.kla_fn "<lambda>" q params body scope cl pm cv ctv) ⟨[], []⟩ = pure [] := by intro _ _ _ _ _; rfl) :
    PE X (.Call (.Name "_law_word" p) [.Lambda params body scope lpos] [] pos) (tLam Tb (TWord Z) t) := by
  subst hqn
  obtain ⟨g, oc, od, kV, doc, pm, an, cdv, ct, osl, hm, hk, lk, hcg, hb⟩ := W.ok
  exact pe_lamcall (Ng := ["call", "found", "e"]) hg hm hk lk hcg hb sc_law_word rfl (.inl rfl) (word_gives T TE) TB hcode hmT hu hr L hdef hbind hbody
/-- a def whose own code is told -/
theorem okL {P : Program} {w : World} {K : PySem.W.Frag} {mg : Str → Option Value} {base : Heap} {x qual : Str} {st : Stmt} {f : Addr} {N ps : List Str} {k : Nat} {sp : Sp} {oc : Value} {od : Option Addr} {kV doc pm : Value} {an : Option Addr} {cdv ct : Value} {osl : Array (Option Value)}
    (lk : K.lookup f = some ⟨oc, od, .func (PySem.W.fnOf x qual (defArgs st) (defBody st) (defScope st) .none kV doc pm an cdv ct), osl⟩) (hcd : PySem.W.codeIn K cdv qual = true) (S : FnScope N ps (defScope st)) (len : ∀ vs H Q E, sp vs H Q E → vs.length = ps.length)
    (hb : ∀ (A : Around) (outer : List Env) (s : Shared) (H : Hp) (vs : List V) (Q : VK) (E : XK), Room k (A.deeper (envOfC qual (defScope st) s.heap.objs.size f cdv)) → sp vs H Q E →
      ∃ t σ, L2.start N vs = σ ∧ PSs (cxOf (L2.CX P w) P w K mg base N qual (defScope st) f cdv A outer s H E).nox (defBody st) t ∧ t { nx := fun _ H' => Q .non H', rt := Q } σ H) :
    FnOk P w K mg base (L2.CX P w) (k + 1) f (PySem.W.fnOf x qual (defArgs st) (defBody st) (defScope st) .none kV doc pm an cdv ct) ps sp :=
  fn_of lk hcd S len fun A outer s H vs Q E hr hs => by
    obtain ⟨t, σ, e, h, q⟩ := hb A outer s H vs Q E hr hs
    cases e
    exact ⟨t, h.nox, q⟩
end
end K42

namespace K42
open PySem PySem.Spec PyProof.Rows L2 Hq LamX
local macro_rules | `(tactic| walk_at "st1") => `(tactic| first
  | with_reducible refine st_seq ?_ | with_reducible refine st_ret ?_ | with_reducible refine st_ifS ?_ | with_reducible refine st_asg ?_ | with_reducible refine st_drop ?_
  | ((with_reducible refine' st_var ?hv ?_); (case hv => rfl)) | with_reducible refine st_c ?_ | with_reducible refine st_op ?_ | with_reducible refine st_un ?_
  | with_reducible refine st_I0 ?_ | with_reducible refine st_U ?_ | ((with_reducible refine' st_I ?hc ?_); (case hc => walk_at "side"))
  | ((with_reducible refine' st_eq ?hs ?_); (case hs => rfl)) | ((with_reducible refine' st_ne ?hs ?_); (case hs => rfl))
  | with_reducible refine st_test ?_ | with_reducible refine st_B ?_ | with_reducible refine st_bl ?_ | with_reducible refine st_isN ?_ | with_reducible refine st_notN ?_
  | with_reducible refine st_chain ?_ | with_reducible refine st_and ?_ | with_reducible refine st_or ?_ | with_reducible refine st_not ?_
  | with_reducible refine st_andV ?_ | with_reducible refine st_orV ?_ | with_reducible refine st_notV ?_ | with_reducible refine st_if ?_
  | with_reducible refine st_CB ?_ | with_reducible refine st_cons ?_ | with_reducible refine st_nil ?_ | with_reducible refine st_fld ?_
  | ((with_reducible refine st_tup ?_)) | ((with_reducible refine st_lst ?_))
  | with_reducible refine st_call ?_ | with_reducible refine st_meth ?_ | with_reducible refine st_make ?_
  | with_reducible refine st_sl ?_ | with_reducible refine st_noPart ?_ | with_reducible refine st_part ?_ | with_reducible refine st_int ?_
  | ((with_reducible refine' st_ixL ?hq ?he ?_); (case hq => walk_at "sqL"); (case he => walk_at "at"))
  | ((with_reducible refine' st_ixT ?hq ?he ?_); (case hq => walk_at "sqT"); (case he => walk_at "at"))
  | with_reducible refine st_bm ?_ | with_reducible refine st_app ?_
  | ((with_reducible refine' st_append ?hq ?hl ?_); (case hq => walk_at "hp"); (case hl => walk_at "line"))
  | ((with_reducible refine' st_len (n := 0) ?hq ?_); (case hq => first | exact Or.inl (by walk_at "sqL") | exact Or.inr (by walk_at "sqT")))
  | ((with_reducible refine' st_listOf ?hq ?_); (case hq => first | exact Or.inl (by walk_at "sqL") | exact Or.inr (by walk_at "sqT")))
  | ((with_reducible refine st_name ?_); (try dsimp only [List.set_cons_zero, List.set_cons_succ])) | with_reducible refine st_par ?_
  | with_reducible refine st_gcons ?_ | with_reducible refine st_gnil ?_ | with_reducible refine st_gsub ?_ | with_reducible refine st_sFld ?_
  | ((with_reducible refine' st_gtup ?hq ?hl ?_); (case hq => walk_at "sqT"); (case hl => rfl))
  | ((with_reducible refine' st_setL ?hq ?hl ?_); (case hq => walk_at "hp"); (case hl => first | rfl | exact ix0 | exact ixN_nat (by assumption)); (try simp only [Int.reduceToNat, List.set_cons_zero, List.set_cons_succ]))
  | with_reducible refine st_intI ?_ | with_reducible refine st_abs ?_
  | ((with_reducible refine' st_popAt ?hq ?hk ?hy ?_); (case hq => walk_at "hp"); (case hk => exact seq0); (case hy => rfl))
  | ((with_reducible refine' and_left ?ht ?_); (case ht => walk_at "ty"))
  | with_reducible refine st_lc ?_ | with_reducible refine st_for ?_ | with_reducible refine st_iL ?_ | with_reducible refine st_iT ?_ | with_reducible refine st_iR1 ?_ | with_reducible refine st_iR2 ?_ | with_reducible refine st_iZ ?_
  | ((with_reducible refine' st_refL ?hq ?_); (case hq => walk_at "sqL")) | ((with_reducible refine' st_refT ?hq ?_); (case hq => walk_at "sqT"))
  | ((with_reducible refine' st_rng1 ?hq ?_); (case hq => walk_at "side")) | ((with_reducible refine' st_rng2 ?hq ?_); (case hq => walk_at "side"))
  | ((with_reducible refine' st_zip ?hq ?hr ?_); (case hq => walk_at "sqb"); (case hr => walk_at "sqb"))
  | ((with_reducible refine' st_size ?hw ?_); (case hw => walk_at "line"))
  | ((with_reducible refine' st_sum ?hq ?_); (case hq => walk_at "sqL"))
  | with_reducible refine st_two ?_ | with_reducible refine st_yes ?_ | ((with_reducible refine' st_wipe ?hw ?_); (case hw => rfl))
  | ((with_reducible refine' st_slL ?hq ?_); (case hq => walk_at "sqL"))
  | ((with_reducible refine' st_cat ?hq ?hr ?hl ?_); (case hq => walk_at "hp"); (case hr => walk_at "hp"); (case hl => walk_at "line"))
  | ((with_reducible refine' st_isi ?hk ?he ?_); (case hk => walk_at "kd"); (case he => walk_at "kit"))
  | ((with_reducible refine' st_ins ?hq ?hc ?hn ?hl ?_); (case hq => walk_at "hp"); (case hc => with_reducible assumption); (case hn => with_reducible assumption); (case hl => walk_at "flen"); walk_at "puts")
  | ((with_reducible refine' st_att ?hq ?hc ?hn ?hl ?_); (case hq => walk_at "hp"); (case hc => with_reducible assumption); (case hn => with_reducible assumption); (case hl => walk_at "lk"))
  | ((with_reducible refine' st_mt ?hq ?hl ?_); (case hq => walk_at "hp"); (case hl => walk_at "lk"))
  | ((with_reducible refine' st_extend ?hq ?hr ?hl ?_); (case hq => walk_at "hp"); (case hr => walk_at "hp"); (case hl => walk_at "line"))
  | with_reducible refine st_next ?_ | with_reducible refine st_retN ?_ | (with_reducible refine iteNT ?_) | (with_reducible refine iteNF ?_) | (with_reducible refine iteT ?_) | (with_reducible refine iteF ?_))
local macro_rules | `(tactic| walk_at "side") => `(tactic| first | omega | decide | assumption | exact ⟨by omega, by omega⟩ | exact Or.inr ⟨by omega, by omega⟩ | exact Or.inl ⟨by omega, by omega⟩ | (simp only [List.length_map, List.length_cons, List.length_nil, List.length_append] at *; omega))
local macro_rules | `(tactic| walk_at "hp") => `(tactic| first | assumption | exact upd_same | refine upd_old (by assumption) (by walk_at "hp") | (rw [upd_ne (by first | assumption | exact Ne.symm (by assumption))]; walk_at "hp"))
local macro_rules | `(tactic| walk_at "sqL") => `(tactic| first | assumption | exact SqL.of (by walk_at "hp"))
local macro_rules | `(tactic| walk_at "sqT") => `(tactic| first | assumption | exact SqT.of (by walk_at "hp"))
local macro_rules | `(tactic| walk_at "sqb") => `(tactic| (unfold SqB; first | ((with_reducible change SqL _ _ _ _); walk_at "sqL") | ((with_reducible change SqT _ _ _ _); walk_at "sqT")))
local macro_rules | `(tactic| walk_at "line") => `(tactic| first | assumption | decide | (apply line_of; walk_at "side") | (apply line_lt; walk_at "side"))
local macro_rules | `(tactic| walk_at "ty") => `(tactic| ((with_reducible refine' ty_lst ?hq); (case hq => walk_at "hp")))
local macro_rules | `(tactic| walk_at "at") => `(tactic| with_reducible first | assumption | exact at0 | exact at1 | exact at2 | exact at3 | exact at4 | exact at5 | exact at6 | exact at7 | exact at8)
local macro_rules | `(tactic| walk_at "st") => `(tactic| (repeat walk_at "st1"))
local macro_rules | `(tactic| walk_at "lk") => `(tactic| first | with_reducible assumption | rfl)
local macro_rules | `(tactic| walk_at "kd") => `(tactic| first | exact .base (.int _) | exact .base .non | exact .base (.bl _) | exact .base (.str _) | exact .base (.tup (by walk_at "hp")) | exact .base (.lst (by walk_at "hp")) | exact .base (.dK (by walk_at "hp")) | exact .base (.dT (by walk_at "hp")))
local macro_rules | `(tactic| walk_at "kit") => `(tactic| with_reducible first
  | exact kit_NoneType_bool
  | exact kit_NoneType_int
  | exact kit_NoneType_str
  | exact kit_NoneType_tuple
  | exact kit_NoneType_list
  | exact kit_NoneType_dict
  | exact kit_bool_bool
  | exact kit_bool_int
  | exact kit_bool_str
  | exact kit_bool_tuple
  | exact kit_bool_list
  | exact kit_bool_dict
  | exact kit_int_bool
  | exact kit_int_int
  | exact kit_int_str
  | exact kit_int_tuple
  | exact kit_int_list
  | exact kit_int_dict
  | exact kit_str_bool
  | exact kit_str_int
  | exact kit_str_str
  | exact kit_str_tuple
  | exact kit_str_list
  | exact kit_str_dict
  | exact kit_tuple_bool
  | exact kit_tuple_int
  | exact kit_tuple_str
  | exact kit_tuple_tuple
  | exact kit_tuple_list
  | exact kit_tuple_dict
  | exact kit_list_bool
  | exact kit_list_int
  | exact kit_list_str
  | exact kit_list_tuple
  | exact kit_list_list
  | exact kit_list_dict
  | exact kit_dict_bool
  | exact kit_dict_int
  | exact kit_dict_str
  | exact kit_dict_tuple
  | exact kit_dict_list
  | exact kit_dict_dict)
local macro_rules | `(tactic| walk_at "flen") => `(tactic| decide)
local macro_rules | `(tactic| walk_at "puts") => `(tactic| skip)

local macro_rules | `(tactic| walk_at "st1") => `(tactic| first
  | with_reducible refine st_dc ?_ | with_reducible refine st_dgetS ?_ | with_reducible refine st_dinS ?_ | with_reducible refine st_dninS ?_ | with_reducible refine st_dputS ?_ | with_reducible refine st_newT ?_ | with_reducible refine iteNN ?_ | with_reducible refine iteYN ?_
  | ((with_reducible refine' st_getT ?hq ?hk ?hv ?_); (case hq => walk_at "hp"); (case hk => walk_at "key"); (case hv => with_reducible assumption))
  | ((with_reducible refine' st_inT ?hq ?hk ?_); (case hq => walk_at "hp"); (case hk => walk_at "key"))
  | ((with_reducible refine' st_ninT ?hq ?hk ?_); (case hq => walk_at "hp"); (case hk => walk_at "key"))
  | ((with_reducible refine' st_putT ?hq ?hk ?hl ?_); (case hq => walk_at "hp"); (case hk => walk_at "key"); (case hl => walk_at "line"))
  | ((with_reducible refine' st_cputT ?hq ?hk ?hl ?_); (case hq => walk_at "hp"); (case hk => walk_at "key"); (case hl => walk_at "line"))
  | ((with_reducible refine' st_ixB ?hq ?he ?_); (case hq => first | assumption | exact Or.inl (by walk_at "sqL") | exact Or.inr (by walk_at "sqT")); (case he => walk_at "at")))
local macro_rules | `(tactic| walk_at "key") => `(tactic| with_reducible assumption)

local macro_rules | `(tactic| walk_at "lk") => `(tactic| with_reducible first | assumption | exact DiskF_get_lying | exact DiskF_get_pending | exact DiskF_get_spoils | exact StoreF_get_disk | exact DiskF_no (by decide +kernel) (by decide +kernel) (by decide +kernel) | exact StoreF_no (by decide +kernel))
local macro_rules | `(tactic| walk_at "puts") => `(tactic| try simp only [DiskF_put_lying, DiskF_put_pending, DiskF_put_spoils, StoreF_put_disk, DiskF0_put, DiskF1_put, DiskF2_put, StoreF0_put])
local macro_rules | `(tactic| walk_at "flen") => `(tactic| first | with_reducible assumption | with_reducible (first | exact DiskF_len | exact StoreF_len | exact DiskF0_len | exact DiskF1_len | exact DiskF2_len | exact StoreF0_len) | decide)
section
variable {Z : Ads} {P : Program} {w : World} {K : PySem.W.Frag} {mg : Str → Option Value} {base : Heap}
theorem extN_tp {H H' : Hp} (e : ExtN H H') : Tp H H' := fun a xs h => e a _ h (fun ps z => nomatch z)
theorem DiskAt.extN {C : Addr} {n : Int} {H H' : Hp} {d l q : Addr} {ls ps : List PyData} (D : DiskAt C n H d l q ls ps) (e : ExtN H H') : DiskAt C n H' d l q ls ps := by
  obtain ⟨⟨dx, hd⟩, ⟨xs, hl, tl⟩, ⟨ys, hq, tq⟩, lq⟩ := D
  exact ⟨⟨dx, e _ _ hd (fun _ z => nomatch z)⟩, ⟨xs, e _ _ hl (fun _ z => nomatch z), TDs.mono (extN_tp e) _ _ tl⟩, ⟨ys, e _ _ hq (fun _ z => nomatch z), TDs.mono (extN_tp e) _ _ tq⟩, lq⟩
theorem StoreAt.extN {C : Addr} {H H' : Hp} {s d : Addr} (S : StoreAt C H s d) (e : ExtN H H') : StoreAt C H' s d := by
  obtain ⟨dx, h⟩ := S
  exact ⟨dx, e _ _ h (fun _ z => nomatch z)⟩
theorem extN_fr {H H' : Hp} (f : Fr [] H H') : ExtN H H' := ExtN.of f.same
/-- a spoilt store's three words -/
def spWords3 (Tb : List (Addr × Str)) (Z : Ads) : Sp := fun vs H Q _ => ∃ (n : Int) (s d l q : Addr) (ls ps : List PyData), vs = [.ref s] ∧ StoreAt Z.Store H s d ∧ DiskAt Z.Disk n H d l q ls ps ∧ ls.length + ps.length ≤ 5000 ∧ (∀ e ∈ ls, IsTr e) ∧ (∀ e ∈ ps, IsPr e) ∧ badN n (wholes ls ps) = true ∧ Tabs Tb H ∧
  ∀ H' u, ExtN H H' → Tabs Tb H' → H' u = some (.lst [.str "spoilt", .str "spoilt", .str "spoilt"]) → Q (.ref u) H'
abbrev s_law_words : Stmt := top 82
theorem sc_law_words : FnScope ["store", "found"] ["store"] (defScope s_law_words) := ⟨rfl, rfl, rfl, by decide +kernel, rfl, by decide +kernel, by decide +kernel⟩
theorem ok_law_words {oc : Value} {od : Option Addr} {kV doc pm : Value} {an : Option Addr} {c Pt : Addr} {ct : Value} {osl : Array (Option Value)} {f : Addr} {Tb : List (Addr × Str)}
    (lk : K.lookup f = some ⟨oc, od, .func (PySem.W.fnOf "_law_words" "_law_words" (defArgs s_law_words) (defBody s_law_words) (defScope s_law_words) .none kV doc pm an (.ref c) ct), osl⟩) (hcd : PySem.W.codeIn K (.ref c) "_law_words" = true)
    (T : Txt K mg Z) (TE : TxE K Z) (WD : WordDef K mg) (TB : TabB base mg c Pt) (hmT : (Pt, (("_law_words" : Str) ++ ".<locals>.") ++ "<lambda>") ∈ Tb) (huT : ∀ p ∈ Tb, p.1 = Pt → p.2 = (("_law_words" : Str) ++ ".<locals>.") ++ "<lambda>")
    (M_Store_found : Mn P w K mg base Z.Store "found" 4 ["self"] (spFoundE Z.Store Z.Disk Z.Spoilt)) (M_Store_row : Mn P w K mg base Z.Store "row" 5 ["self"] (spRaises Z.Store Z.Disk Z.Spoilt)) (M_Store_picture : Mn P w K mg base Z.Store "picture" 5 ["self"] (spRaises Z.Store Z.Disk Z.Spoilt)) :
    FnOk P w K mg base (L2.CX P w) 9 f (PySem.W.fnOf "_law_words" "_law_words" (defArgs s_law_words) (defBody s_law_words) (defScope s_law_words) .none kV doc pm an (.ref c) ct) ["store"] (spWords3 Tb Z) := by
  refine okL lk hcd sc_law_words (fun vs H Q E h => ?_) (fun A outer s0 H vs Q E hr h => ?_)
  · obtain ⟨n, s, d, l, q, ls, ps, rfl, _⟩ := h
    rfl
  · obtain ⟨n, s, d, l, q, ls, ps, rfl, S, D, hsz, htr, hpr, hb, hT, k⟩ := h
    refine ⟨_, [some _, none], rfl, (pss_cons (ps_set (i := 1) sc_law_words.nd rfl (by first | exact Or.inl rfl | exact Or.inr rfl) (pe_lst (pa_cons (pe_word WD T TE (by rfl) TB (by rfl) (by rfl) hmT huT (hr.mono (by first | decide | omega)) (LamX.lamS_by (sc := defScope s_law_words) (by decide +kernel)) (fun A' outer' s' H' E' f' c' hr' => (pe_m0 M_Store_found E' hr' (pv 0) (passes_call (takes_of rfl rfl rfl rfl) fun _ _ _ _ h => h) _))) pa_nil)))
      (pss_cons (ps_expr (kApp (K := K) (pv 1) (pe_word WD T TE (by rfl) TB (by rfl) (by rfl) hmT huT (hr.mono (by first | decide | omega)) (LamX.lamS_by (sc := defScope s_law_words) (by decide +kernel)) (fun A' outer' s' H' E' f' c' hr' => (pe_m0 M_Store_row E' hr' (pv 0) (passes_call (takes_of rfl rfl rfl rfl) fun _ _ _ _ h => h) _)))))
      (pss_one (ps_ret (pe_op op_cat (pv 1) (pe_lst (pa_cons (pe_word WD T TE (by rfl) TB (by rfl) (by rfl) hmT huT (hr.mono (by first | decide | omega)) (LamX.lamS_by (sc := defScope s_law_words) (by decide +kernel)) (fun A' outer' s' H' E' f' c' hr' => (pe_m0 M_Store_picture E' hr' (pv 0) (passes_call (takes_of rfl rfl rfl rfl) fun _ _ _ _ h => h) _))) pa_nil))))))), ?_⟩
    walk_at "st"
    refine ⟨hT, fun H1 e1 hT1 => ?_⟩
    have S1 := S.extN e1
    have D1 := D.extN e1
    obtain ⟨sx1, hs1⟩ := S1.ok
    unfold TWord
    walk_at "st"
    refine ⟨n, s, d, l, q, ls, ps, rfl, S1, D1, hsz, htr, hpr, fun _ H2 f2 => ⟨rfl, rfl, ?_⟩, fun h => absurd (hb.symm.trans h) (by decide)⟩
    have hT2 := hT1.ext f2.same
    have S2 := S1.keep f2 List.not_mem_nil
    have D2 := D1.keep f2 List.not_mem_nil List.not_mem_nil List.not_mem_nil
    walk_at "st"
    intro u hu
    walk_at "st"
    have f3 : Fr [] H2 (upd H2 u (.lst [.str "spoilt"])) := Fr.up hu
    have hT3 := hT2.ext f3.same
    have S3 := S2.keep f3 List.not_mem_nil
    have D3 := D2.keep f3 List.not_mem_nil List.not_mem_nil List.not_mem_nil
    have hu3 : (upd H2 u (.lst [.str "spoilt"])) u = some (.lst [.str "spoilt"]) := upd_same
    generalize upd H2 u (.lst [.str "spoilt"]) = H3 at f3 hT3 S3 D3 hu3 ⊢
    refine ⟨hT3, fun H4 e4 hT4 => ?_⟩
    have S4 := S3.extN e4
    have D4 := D3.extN e4
    obtain ⟨sx4, hs4⟩ := S4.ok
    have hu4 := e4 _ _ hu3 (fun _ z => nomatch z)
    dsimp only
    walk_at "st"
    refine ⟨n, s, d, l, q, ls, ps, rfl, S4, D4, hsz, htr, hpr, hb, fun H5 f5 => ⟨rfl, rfl, ?_⟩⟩
    have hT5 := hT4.ext f5.same
    have S5 := S4.keep f5 List.not_mem_nil
    have D5 := D4.keep f5 List.not_mem_nil List.not_mem_nil List.not_mem_nil
    have hu5 := f5.same _ _ hu4
    walk_at "st"
    have us : s ≠ u := by
      obtain ⟨sx, z⟩ := S5.ok
      exact ne_of z hu5 (by intro z; cases z)
    have lu : l ≠ u ∧ q ≠ u ∧ d ≠ u := by
      obtain ⟨⟨dx, hd⟩, ⟨xl, hl, _⟩, ⟨xq, hq, _⟩, _⟩ := D2
      exact ⟨ne_of_none hl hu, ne_of_none hq hu, ne_of_none hd hu⟩
    have F6 : Fr [u] H5 (upd H5 u (.lst ([.str "spoilt"] ++ [.str "spoilt"]))) := (Fr.refl H5).wl hu5 (.inl (by simp))
    have hT6 : Tabs Tb (upd H5 u (.lst ([.str "spoilt"] ++ [.str "spoilt"]))) := by
      intro pr hpr'
      obtain ⟨pz, h1, h2, h3⟩ := hT5 pr hpr'
      refine ⟨pz, F6.keep _ _ (by simpa using ne_of h1 hu5 (by intro z; cases z)) h1, h2, fun pos cv hc => ?_⟩
      obtain ⟨cc, e1', e2'⟩ := h3 pos cv hc
      exact ⟨cc, e1', F6.keep _ _ (by simpa using ne_of e2' hu5 (by intro z; cases z)) e2'⟩
    have S6 := S5.keep F6 (by simpa using us)
    have D6 := D5.keep F6 (by simpa using lu.2.2) (by simpa using lu.1) (by simpa using lu.2.1)
    have hu6 : (upd H5 u (.lst ([.str "spoilt"] ++ [.str "spoilt"]))) u = some (.lst ([.str "spoilt"] ++ [.str "spoilt"])) := upd_same
    have key : ∀ b o, H b = some o → (∀ ps, o ≠ .tbl ps) → upd H5 u (.lst ([.str "spoilt"] ++ [.str "spoilt"])) b = some o := fun b o hbo nt => by
      have h2 := f2.same _ _ (e1 _ _ hbo nt)
      have h5 := f5.same _ _ (e4 _ _ (f3.same _ _ h2) nt)
      rw [upd_ne (ne_of_none h2 hu)]
      exact h5
    generalize upd H5 u (.lst ([.str "spoilt"] ++ [.str "spoilt"])) = H6 at hT6 S6 D6 hu6 key ⊢
    refine ⟨hT6, fun H7 e7 hT7 => ?_⟩
    have S7 := S6.extN e7
    have D7 := D6.extN e7
    obtain ⟨sx7, hs7⟩ := S7.ok
    have hu7 := e7 _ _ hu6 (fun _ z => nomatch z)
    walk_at "st"
    refine ⟨n, s, d, l, q, ls, ps, rfl, S7, D7, hsz, htr, hpr, hb, fun H8 f8 => ⟨rfl, rfl, ?_⟩⟩
    have hT8 := hT7.ext f8.same
    have hu8 := f8.same _ _ hu7
    walk_at "st"
    intro v1 hv1
    have hu9 := upd_old (o' := HO.lst [V.str "spoilt"]) hv1 hu8
    walk_at "st"
    intro v2 hv2
    have f9 : Fr [] H8 _ := (Fr.up (o := HO.lst [V.str "spoilt"]) hv1).new (o := .lst (([.str "spoilt"] ++ [.str "spoilt"]) ++ [.str "spoilt"])) hv2
    exact k _ v2 (fun b o hbo nt => f9.same _ _ (f8.same _ _ (e7 _ _ (key b o hbo nt) nt))) (hT8.ext f9.same) upd_same
end
end K42

namespace K42
open PySem PySem.Spec PyProof.Rows L2 Hq
/-! ### the plain law: where a spoilt disk is seen -/
theorem last_filter {p : Nat → Bool} {k : Nat} : ∀ {n : Nat}, k < n → p k = true → (∀ j, k < j → j < n → p j = false) → ((List.range n).filter p).getLast? = some k
  | 0, h, _, _ => absurd h (Nat.not_lt_zero k)
  | n + 1, h, hp, ho => by
    rw [List.range_succ, List.filter_append]
    by_cases e : k = n
    · subst e
      rw [List.filter_cons_of_pos hp]
      simp
    · rw [List.filter_cons_of_neg (by rw [ho n (by omega) (by omega)]; exact Bool.false_ne_true)]
      show ((List.range n).filter p ++ []).getLast? = some k
      rw [List.append_nil]
      exact last_filter (by omega) hp fun j a b => ho j a (by omega)
theorem no_filter {p : Nat → Bool} {n : Nat} (h : ∀ j, j < n → p j = false) : (List.range n).filter p = [] := by
  rw [List.filter_eq_nil_iff]
  intro j hj
  rw [h j (List.mem_range.mp hj)]
  exact Bool.false_ne_true
theorem eqv_user {k : PyData} (h : KeyD k) (hs : isSeal k = false) : PyData.eqv k sKey = false := by
  obtain ⟨ds, rfl, h0, h3, hk⟩ := h
  cases ds with
  | nil => exact absurd h0 (by simp)
  | cons d ds =>
    rcases hk d (by simp) with ⟨x, rfl, _⟩ | ⟨n, _, rfl⟩
    · have hx : ¬ x = "seal" := fun e => by
        have : decide (x = "seal") = false := hs
        rw [decide_eq_true e] at this
        exact nomatch this
      simp [sKey, PyData.eqv, PyData.eqvAll, hx]
    · simp [sKey, PyData.eqv, PyData.eqvAll]
theorem eqv_seal : PyData.eqv sKey sKey = true := SeqAt.eqv_refl _ (by decide +kernel)
/-- a word of a store: a user's pair or a seal -/
def IsS (e : PyData) : Prop := ∃ j, e = sealD j
theorem isS_at {W : List PyData} {i : Nat} {e : PyData} (h : W[i]? = some e) : isS W i = PyData.eqv (keyE e) sKey := by
  unfold isS
  rw [List.getD_eq_getElem?_getD, h]
  rfl
theorem bad_last {A B : List PyData} {v : PyData} (hB : ∀ e ∈ B, UPr e) : bad (A ++ .tuple [sKey, v] :: B) = !PyData.eqv v (.int A.length) := by
  have hl : (sealsOf (A ++ .tuple [sKey, v] :: B)).getLast? = some A.length := by
    unfold sealsOf
    refine last_filter (by simp) ?_ fun j h1 h2 => ?_
    · rw [isS_at (e := .tuple [sKey, v]) (by simp)]
      exact eqv_seal
    · have hj : (A ++ .tuple [sKey, v] :: B)[j]? = B[j - A.length - 1]? := by
        rw [List.getElem?_append_right (by omega)]
        obtain ⟨m, hm⟩ : ∃ m, j - A.length = m + 1 := ⟨j - A.length - 1, by omega⟩
        rw [hm, List.getElem?_cons_succ]
        congr 1
      rw [List.length_append, List.length_cons] at h2
      have hx : B[j - A.length - 1]? = some B[j - A.length - 1] := List.getElem?_eq_getElem (by omega)
      rw [hx] at hj
      rw [isS_at hj]
      obtain ⟨k, w, e, hk, hs, _⟩ := hB _ (List.mem_of_getElem? hx)
      rw [e]
      exact eqv_user hk hs
  unfold bad
  rw [hl]
  show (!PyData.eqv (valE ((A ++ .tuple [sKey, v] :: B).getD A.length .none)) (.int A.length)) = _
  rw [List.getD_eq_getElem?_getD]
  simp [valE]
theorem bad_none {W : List PyData} (h : ∀ e ∈ W, UPr e) : bad W = false := by
  have : sealsOf W = [] := by
    unfold sealsOf
    refine no_filter fun j hj => ?_
    have hx : W[j]? = some W[j] := List.getElem?_eq_getElem hj
    rw [isS_at hx]
    obtain ⟨k, w, e, hk, hs, _⟩ := h _ (List.mem_of_getElem? hx)
    rw [e]
    exact eqv_user hk hs
  unfold bad
  rw [this]
  rfl
theorem flat_erase : ∀ {L : List PyData} {i : Nat} {e : PyData}, L[i]? = some e → (L.flatMap whole).length = ((L.eraseIdx i).flatMap whole).length + (whole e).length
  | [], i, e, h => by simp at h
  | x :: L, 0, e, h => by
    simp only [List.getElem?_cons_zero, Option.some.injEq] at h
    subst h
    rw [List.eraseIdx_cons_zero, List.flatMap_cons, List.length_append, Nat.add_comm]
  | x :: L, i + 1, e, h => by
    rw [List.getElem?_cons_succ] at h
    rw [List.eraseIdx_cons_succ, List.flatMap_cons, List.flatMap_cons, List.length_append, List.length_append, flat_erase h]
    omega
/-- the words of which none is a seal are users' pairs -/
theorem flat_up {L : List PyData} (tr : ∀ e ∈ L, IsTr e) (hs : ∀ e ∈ L, isSeal3 e = false) : ∀ e ∈ L.flatMap whole, UPr e := by
  intro e he
  obtain ⟨x, hx, hm⟩ := List.mem_flatMap.mp he
  obtain ⟨k, v, b, rfl, hk, hv⟩ := tr x hx
  cases b with
  | false => exact nomatch hm
  | true =>
    rw [List.mem_singleton.mp hm]
    exact ⟨k, v, rfl, hk, hs _ hx, hv⟩
theorem mem_erase {L : List PyData} {i : Nat} {e : PyData} (h : e ∈ L.eraseIdx i) : e ∈ L := List.mem_of_mem_eraseIdx h
/-- a word ahead of the last seal is taken away -/
theorem bad_ahead {L1 L2 : List PyData} {i : Nat} {e : PyData} (ok : SealsOk 0 (L1 ++ .tuple [sKey, .int (L1.flatMap whole).length, .bool true] :: L2)) (h2 : ∀ e ∈ L2, isSeal3 e = false) (tr : ∀ e ∈ L2, IsTr e) (hi : L1[i]? = some e) :
    bad (wholes ((L1 ++ .tuple [sKey, .int (L1.flatMap whole).length, .bool true] :: L2).eraseIdx i) []) = decide (0 < (whole e).length) := by
  have hil : i < L1.length := (List.getElem?_eq_some_iff.mp hi).1
  rw [List.eraseIdx_append_of_lt_length hil]
  unfold wholes
  rw [List.append_nil, List.flatMap_append, List.flatMap_cons]
  show bad (_ ++ .tuple [sKey, .int (L1.flatMap whole).length] :: L2.flatMap whole) = _
  rw [bad_last (flat_up tr h2)]
  have hf := flat_erase hi
  show (!(((L1.flatMap whole).length : Nat) : Int) == (((L1.eraseIdx i).flatMap whole).length : Nat)) = _
  by_cases z : 0 < (whole e).length
  · rw [decide_eq_true z, hf]
    simp only [Bool.not_eq_true', beq_eq_false_iff_ne, ne_eq]
    omega
  · rw [decide_eq_false z, hf]
    have : (whole e).length = 0 := by omega
    rw [this, Nat.add_zero]
    simp
/-- a word behind the last seal is taken away -/
theorem bad_behind {L1 L2 : List PyData} {i : Nat} (h2 : ∀ e ∈ L2, isSeal3 e = false) (tr : ∀ e ∈ L2, IsTr e) (hi : L1.length < i) :
    bad (wholes ((L1 ++ .tuple [sKey, .int (L1.flatMap whole).length, .bool true] :: L2).eraseIdx i) []) = false := by
  rw [List.eraseIdx_append_of_length_le (by omega)]
  obtain ⟨m, hm⟩ : ∃ m, i - L1.length = m + 1 := ⟨i - L1.length - 1, by omega⟩
  rw [hm, List.eraseIdx_cons_succ]
  unfold wholes
  rw [List.append_nil, List.flatMap_append, List.flatMap_cons]
  show bad (_ ++ .tuple [sKey, .int (L1.flatMap whole).length] :: (L2.eraseIdx m).flatMap whole) = _
  rw [bad_last (flat_up (fun e he => tr e (mem_erase he)) fun e he => h2 e (mem_erase he))]
  show (!(((L1.flatMap whole).length : Nat) : Int) == ((L1.flatMap whole).length : Nat)) = _
  simp
theorem split_last {p : PyData → Bool} : ∀ ls : List PyData, (∀ e ∈ ls, p e = false) ∨ ∃ L1 e L2, ls = L1 ++ e :: L2 ∧ p e = true ∧ ∀ x ∈ L2, p x = false
  | [] => .inl (fun _ h => nomatch h)
  | a :: ls => by
    rcases split_last (p := p) ls with h | ⟨L1, e, L2, rfl, h1, h2⟩
    · cases ha : p a with
      | true => exact .inr ⟨[], a, ls, rfl, ha, h⟩
      | false =>
        refine .inl fun e he => ?_
        rcases List.mem_cons.mp he with rfl | he
        · exact ha
        · exact h e he
    · exact .inr ⟨a :: L1, e, L2, rfl, h1, h2⟩
/-- where the rows are none -/
def isNon : PyData → Bool
  | .none => true
  | _ => false
def nonesOf (rs : List PyData) : List Nat := (List.range rs.length).filter fun i => isNon (rs.getD i (.bool true))
theorem isNon_rowOf {e : PyData} (h : IsTr e) : isNon (rowOf e) = isSeal3 e := by
  obtain ⟨k, v, b, rfl, _, _⟩ := h
  unfold rowOf
  by_cases z : isSeal3 (.tuple [k, v, .bool b]) = true
  · rw [if_pos z, z]; rfl
  · rw [if_neg z, Bool.eq_false_iff.mpr z]; rfl
theorem nones_at {ls : List PyData} {i : Nat} {e : PyData} (tr : ∀ e ∈ ls, IsTr e) (h : ls[i]? = some e) : isNon ((ls.map rowOf).getD i (.bool true)) = isSeal3 e := by
  rw [List.getD_eq_getElem?_getD, List.getElem?_map, h]
  exact isNon_rowOf (tr e (List.mem_of_getElem? h))
/-- what the law asks of the place of a word taken away -/
theorem gone_iff {ls : List PyData} {i : Nat} {k v : PyData} {b : Bool} (R : Rel ls [] (ls.map rowOf)) (hi : ls[i]? = some (.tuple [k, v, .bool b])) (hs : isSeal k = false) :
    (nonesOf (ls.map rowOf) = [] ∧ bad (wholes (ls.eraseIdx i) []) = false) ∨ ∃ m : Nat, (nonesOf (ls.map rowOf)).getLast? = some m ∧ bad (wholes (ls.eraseIdx i) []) = (b && decide (i < m)) := by
  rcases split_last (p := isSeal3) ls with h | ⟨L1, e, L2, rfl, h1, h2⟩
  · left
    refine ⟨?_, ?_⟩
    · unfold nonesOf
      refine no_filter fun j hj => ?_
      rw [List.length_map] at hj
      rw [nones_at R.tr (List.getElem?_eq_getElem hj)]
      exact h _ (List.getElem_mem hj)
    · unfold wholes
      rw [List.append_nil]
      exact bad_none (flat_up (fun e he => R.tr e (mem_erase he)) fun e he => h e (mem_erase he))
  · right
    refine ⟨L1.length, ?_, ?_⟩
    · unfold nonesOf
      refine last_filter (by simp) ?_ fun j a c => ?_
      · rw [nones_at R.tr (e := e) (by simp)]
        exact h1
      · rw [List.length_map, List.length_append, List.length_cons] at c
        obtain ⟨m, hm⟩ : ∃ m, j - L1.length = m + 1 := ⟨j - L1.length - 1, by omega⟩
        have hx : L2[m]? = some L2[m] := List.getElem?_eq_getElem (by omega)
        have hj : (L1 ++ e :: L2)[j]? = some L2[m] := by
          rw [List.getElem?_append_right (by omega), hm, List.getElem?_cons_succ]
          exact hx
        rw [nones_at R.tr hj]
        exact h2 _ (List.getElem_mem _)
    · have ok := R.seals
      have oke := (seals_app.mp ok).2.1 h1
      rw [Nat.zero_add] at oke
      subst oke
      have tr2 : ∀ e ∈ L2, IsTr e := fun x hx => R.tr x (by simp [hx])
      rcases Nat.lt_trichotomy i L1.length with hlt | heq | hgt
      · rw [List.getElem?_append_left hlt] at hi
        rw [bad_ahead ok h2 tr2 hi, decide_eq_true hlt, Bool.and_true]
        cases b <;> rfl
      · subst heq
        rw [List.getElem?_append_right (Nat.le_refl _), Nat.sub_self] at hi
        simp only [List.getElem?_cons_zero, Option.some.injEq] at hi
        injection hi with hi
        injection hi with hi _
        rw [← hi] at hs
        exact absurd hs (by decide +kernel)
      · rw [bad_behind h2 tr2 hgt, decide_eq_false (by omega), Bool.and_false]
end K42

namespace K42
open PySem PySem.Spec PyProof.Rows L2 Hq
/-! ### the plain law: a word more behind a spoil that is not seen -/
theorem bad_snoc {W : List PyData} {e : PyData} (h : UPr e) : bad (W ++ [e]) = bad W := by
  obtain ⟨k, v, rfl, hk, hs, _⟩ := h
  have he : isS (W ++ [.tuple [k, v]]) W.length = false := by
    rw [isS_at (e := .tuple [k, v]) (by simp)]
    exact eqv_user hk hs
  have hg : ∀ j, j < W.length → (W ++ [PyData.tuple [k, v]]).getD j .none = W.getD j .none := fun j hj => by
    rw [List.getD_eq_getElem?_getD, List.getD_eq_getElem?_getD, List.getElem?_append_left hj]
  have hS : sealsOf (W ++ [.tuple [k, v]]) = sealsOf W := by
    unfold sealsOf
    rw [List.length_append, List.length_singleton, List.range_succ, List.filter_append, List.filter_cons_of_neg (by rw [he]; exact Bool.false_ne_true), List.filter_nil, List.append_nil]
    refine List.filter_congr fun j hj => ?_
    unfold isS
    rw [hg j (List.mem_range.mp hj)]
  unfold bad
  rw [hS]
  cases hl : (sealsOf W).getLast? with
  | none => rfl
  | some j =>
    have hm : j ∈ sealsOf W := List.mem_of_getLast? hl
    have hj : j < W.length := List.mem_range.mp (List.mem_filter.mp hm).1
    show (!PyData.eqv (valE ((W ++ [PyData.tuple [k, v]]).getD j .none)) (.int j)) = _
    rw [hg j hj]
theorem badN_of {n : Int} {W : List PyData} (h : 0 < n) : badN n W = bad W := by
  unfold badN
  rw [decide_eq_true (show n ≠ 0 by omega), Bool.true_and]
def laterK : PyData := .tuple [.str "later"]
def laterD : PyData := .tuple [laterK, .int 1]
theorem laterKey : KeyD laterK := ⟨_, rfl, by decide, by decide, fun e he => by rw [List.mem_singleton.mp he]; exact .inl ⟨_, rfl, by decide +kernel⟩⟩
theorem laterSeal : isSeal laterK = false := by decide +kernel
theorem laterU : UPr laterD := ⟨_, _, rfl, laterKey, laterSeal, nice_int 10 1⟩
/-- the words behind the keeping and the sealing -/
theorem later_wholes {ls : List PyData} (n : Int) : wholes (ls ++ ([laterD] ++ [sealD n]).map trip) [] = (wholes ls [] ++ [laterD]) ++ .tuple [sKey, .int n] :: [] := by
  unfold wholes
  rw [List.append_nil, List.append_nil, List.flatMap_append, flat_trip fun e he => ?_]
  · rw [List.append_assoc]
    rfl
  · rcases List.mem_append.mp he with he | he
    · rw [List.mem_singleton.mp he]; exact laterU.pr
    · rw [List.mem_singleton.mp he]; exact sealPr n
theorem wholes_later {ls : List PyData} : wholes ls [laterD] = wholes ls [] ++ [laterD] := by
  unfold wholes
  rw [List.append_nil]
theorem bad_later {ls : List PyData} : bad (wholes (ls ++ ([laterD] ++ [sealD (wholes ls [laterD]).length]).map trip) []) = false := by
  rw [later_wholes, bad_last (by intro e he; cases he), wholes_later]
  show (!((((wholes ls [] ++ [laterD]).length : Nat) : Int) == ((wholes ls [] ++ [laterD]).length : Nat))) = false
  simp
theorem lookD_put {ms : Dd} {k : List Key} {d : PyData} : lookD (putD ms k d) k = some d := by
  unfold putD
  by_cases q : (ms.any fun m => decide (m.1 = k)) = true
  · rw [if_pos q]
    unfold lookD
    induction ms with
    | nil => exact nomatch q
    | cons m ms ih =>
      rw [List.map_cons]
      by_cases e : m.1 = k
      · rw [if_pos e, List.find?_cons_of_pos (by simp [e])]
        rfl
      · rw [if_neg e, List.find?_cons_of_neg (by simp [e])]
        refine ih ?_
        rw [List.any_cons, decide_eq_false e, Bool.false_or] at q
        exact q
  · rw [if_neg q]
    unfold lookD
    rw [List.find?_append, List.find?_eq_none.mpr fun m hm z => q (List.any_eq_true.mpr ⟨m, hm, z⟩)]
    simp
theorem tab_later {ls : List PyData} (n : Int) : lookD (tab (wholes (ls ++ ([laterD] ++ [sealD n]).map trip) [])) [Sum.inr "later"] = some (.int 1) := by
  rw [later_wholes, tab_app]
  show lookD (putE (tab (wholes ls [] ++ [laterD])) (.tuple [sKey, .int n])) _ = _
  have e1 : ∀ m : Dd, putE m (.tuple [sKey, .int n]) = m := fun m => by
    show (if isSeal sKey = true then m else putD m (keysOf sKey) (.int n)) = m
    rw [if_pos (by decide +kernel)]
  rw [e1, tab_app]
  generalize tab (wholes ls []) = m
  show lookD (if isSeal laterK = true then m else putD m (keysOf laterK) (.int 1)) _ = _
  rw [laterSeal, if_neg Bool.false_ne_true]
  exact lookD_put
/-- what the last of the rows finds, whatever their seals tell -/
theorem tab_rows {ls : List PyData} (tr : ∀ e ∈ ls, IsTr e) : tab (wholes ls []) = tab (live (ls.map rowOf)) := by
  rw [tab_nos]
  unfold wholes
  rw [List.append_nil, ← live_rowOf tr]
theorem map_erase {f : PyData → PyData} : ∀ {ls : List PyData} {i : Nat}, (ls.map f).eraseIdx i = (ls.eraseIdx i).map f
  | [], _ => rfl
  | _ :: _, 0 => rfl
  | x :: ls, i + 1 => by
    rw [List.map_cons, List.eraseIdx_cons_succ, List.eraseIdx_cons_succ, List.map_cons, map_erase]
theorem live_none : ∀ {rs : List PyData}, (∀ e ∈ rs, e = .none) → live rs = []
  | [], _ => rfl
  | e :: rs, h => by
    rw [h e (by simp)]
    show whole .none ++ live rs = []
    rw [live_none fun x hx => h x (List.mem_cons_of_mem _ hx)]
    rfl
/-- where the rows are some -/
def somesOf (rs : List PyData) : List Nat := (List.range rs.length).filter fun i => !isNon (rs.getD i (.bool true))
theorem somes_nil {rs : List PyData} (h : somesOf rs = []) : ∀ e ∈ rs, e = .none := by
  intro e he
  obtain ⟨i, hi, rfl⟩ := List.mem_iff_getElem.mp he
  unfold somesOf at h
  rw [List.filter_eq_nil_iff] at h
  have := h i (List.mem_range.mpr hi)
  rw [List.getD_eq_getElem?_getD, List.getElem?_eq_getElem hi] at this
  cases hx : rs[i] with
  | none => rfl
  | _ => rw [hx] at this; exact absurd rfl this
theorem somes_at {rs : List PyData} {i : Nat} (h : i ∈ somesOf rs) : ∃ e, rs[i]? = some e ∧ e ≠ .none := by
  obtain ⟨h1, h2⟩ := List.mem_filter.mp h
  have hi := List.mem_range.mp h1
  refine ⟨rs[i], List.getElem?_eq_getElem hi, fun z => ?_⟩
  rw [List.getD_eq_getElem?_getD, List.getElem?_eq_getElem hi, z] at h2
  exact nomatch h2
theorem rows_at {ls : List PyData} {j : Nat} {k v : PyData} {b : Bool} (h : (ls.map rowOf)[j]? = some (.tuple [k, v, .bool b])) : ls[j]? = some (.tuple [k, v, .bool b]) := by
  rw [List.getElem?_map] at h
  obtain ⟨e, he, h2⟩ := Option.map_eq_some_iff.mp h
  unfold rowOf at h2
  by_cases z : isSeal3 e = true
  · rw [if_pos z] at h2; exact nomatch h2
  · rw [if_neg z] at h2; rw [he, h2]
def somesTo (rs : List PyData) (n : Nat) : List Nat := (List.range n).filter fun i => !isNon (rs.getD i (.bool true))
def nonesTo (rs : List PyData) (n : Nat) : List Nat := (List.range n).filter fun i => isNon (rs.getD i (.bool true))
theorem somes_step {rs : List PyData} {j : Nat} {e : PyData} (he : rs[j]? = some e) : somesTo rs (j + 1) = somesTo rs j ++ if isNon e = true then [] else [j] := by
  unfold somesTo
  rw [List.range_succ, List.filter_append]
  congr 1
  have h : rs.getD j (.bool true) = e := by rw [List.getD_eq_getElem?_getD, he]; rfl
  cases hn : isNon e with
  | true => rw [List.filter_cons_of_neg (by rw [h, hn]; decide)]; rfl
  | false => rw [List.filter_cons_of_pos (by rw [h, hn]; rfl)]; rfl
theorem nones_step {rs : List PyData} {j : Nat} {e : PyData} (he : rs[j]? = some e) : nonesTo rs (j + 1) = nonesTo rs j ++ if isNon e = true then [j] else [] := by
  unfold nonesTo
  rw [List.range_succ, List.filter_append]
  congr 1
  have h : rs.getD j (.bool true) = e := by rw [List.getD_eq_getElem?_getD, he]; rfl
  cases hn : isNon e with
  | true => rw [List.filter_cons_of_pos (by rw [h, hn])]; rfl
  | false => rw [List.filter_cons_of_neg (by rw [h, hn]; decide)]; rfl
theorem somesTo_len {rs : List PyData} {n : Nat} : (somesTo rs n).length ≤ n := by
  unfold somesTo
  exact Nat.le_trans (List.length_filter_le _ _) (by simp)
theorem nonesTo_len {rs : List PyData} {n : Nat} : (nonesTo rs n).length ≤ n := by
  unfold nonesTo
  exact Nat.le_trans (List.length_filter_le _ _) (by simp)
/-- what the law asks: b and c, c told by the seals -/
theorem gone_c {ls rs : List PyData} {j : Nat} {k v : PyData} {b : Bool} (R : Rel ls [] rs) (h : rs[j]? = some (.tuple [k, v, .bool b])) (hs : isSeal k = false) :
    ∃ c : Bool, bad (wholes (ls.eraseIdx j) []) = (b && c) ∧ ((nonesTo rs rs.length = [] ∧ c = false) ∨ ∃ m : Nat, (nonesTo rs rs.length).getLast? = some m ∧ c = decide (j < m)) := by
  have hr := R.rows
  subst hr
  rcases gone_iff R (rows_at h) hs with ⟨h1, h2⟩ | ⟨m, h1, h2⟩
  · exact ⟨false, by rw [h2, Bool.and_false], .inl ⟨h1, rfl⟩⟩
  · exact ⟨decide (j < m), h2, .inr ⟨m, h1, rfl⟩⟩
abbrev natVs (l : List Nat) : List V := l.map fun j => V.int (j : Nat)
theorem natVs_snoc (l : List Nat) (j : Nat) : natVs (l ++ [j]) = natVs l ++ [V.int (j : Nat)] := by simp [natVs]
end K42

namespace K42
open PySem PySem.Spec PyProof.Rows L2 Hq LamX
local macro_rules | `(tactic| walk_at "st1") => `(tactic| first
  | with_reducible refine st_seq ?_ | with_reducible refine st_ret ?_ | with_reducible refine st_ifS ?_ | with_reducible refine st_asg ?_ | with_reducible refine st_drop ?_
  | ((with_reducible refine' st_var ?hv ?_); (case hv => rfl)) | with_reducible refine st_c ?_ | with_reducible refine st_op ?_ | with_reducible refine st_un ?_
  | with_reducible refine st_I0 ?_ | with_reducible refine st_U ?_ | ((with_reducible refine' st_I ?hc ?_); (case hc => walk_at "side"))
  | ((with_reducible refine' st_eq ?hs ?_); (case hs => rfl)) | ((with_reducible refine' st_ne ?hs ?_); (case hs => rfl))
  | with_reducible refine st_test ?_ | with_reducible refine st_B ?_ | with_reducible refine st_bl ?_ | with_reducible refine st_isN ?_ | with_reducible refine st_notN ?_
  | with_reducible refine st_chain ?_ | with_reducible refine st_and ?_ | with_reducible refine st_or ?_ | with_reducible refine st_not ?_
  | with_reducible refine st_andV ?_ | with_reducible refine st_orV ?_ | with_reducible refine st_notV ?_ | with_reducible refine st_if ?_
  | with_reducible refine st_CB ?_ | with_reducible refine st_cons ?_ | with_reducible refine st_nil ?_ | with_reducible refine st_fld ?_
  | ((with_reducible refine st_tup ?_)) | ((with_reducible refine st_lst ?_))
  | with_reducible refine st_call ?_ | with_reducible refine st_meth ?_ | with_reducible refine st_make ?_
  | with_reducible refine st_sl ?_ | with_reducible refine st_noPart ?_ | with_reducible refine st_part ?_ | with_reducible refine st_int ?_
  | ((with_reducible refine' st_ixL ?hq ?he ?_); (case hq => walk_at "sqL"); (case he => walk_at "at"))
  | ((with_reducible refine' st_ixT ?hq ?he ?_); (case hq => walk_at "sqT"); (case he => walk_at "at"))
  | with_reducible refine st_bm ?_ | with_reducible refine st_app ?_
  | ((with_reducible refine' st_append ?hq ?hl ?_); (case hq => walk_at "hp"); (case hl => walk_at "line"))
  | ((with_reducible refine' st_len (n := 0) ?hq ?_); (case hq => first | exact Or.inl (by walk_at "sqL") | exact Or.inr (by walk_at "sqT")))
  | ((with_reducible refine' st_listOf ?hq ?_); (case hq => first | exact Or.inl (by walk_at "sqL") | exact Or.inr (by walk_at "sqT")))
  | ((with_reducible refine st_name ?_); (try dsimp only [List.set_cons_zero, List.set_cons_succ])) | with_reducible refine st_par ?_
  | with_reducible refine st_gcons ?_ | with_reducible refine st_gnil ?_ | with_reducible refine st_gsub ?_ | with_reducible refine st_sFld ?_
  | ((with_reducible refine' st_gtup ?hq ?hl ?_); (case hq => walk_at "sqT"); (case hl => rfl))
  | ((with_reducible refine' st_setL ?hq ?hl ?_); (case hq => walk_at "hp"); (case hl => first | rfl | exact ix0 | exact ixN_nat (by assumption)); (try simp only [Int.reduceToNat, List.set_cons_zero, List.set_cons_succ]))
  | with_reducible refine st_intI ?_ | with_reducible refine st_abs ?_
  | ((with_reducible refine' st_popAt ?hq ?hk ?hy ?_); (case hq => walk_at "hp"); (case hk => exact seq0); (case hy => rfl))
  | ((with_reducible refine' and_left ?ht ?_); (case ht => walk_at "ty"))
  | with_reducible refine st_lc ?_ | with_reducible refine st_for ?_ | with_reducible refine st_iL ?_ | with_reducible refine st_iT ?_ | with_reducible refine st_iR1 ?_ | with_reducible refine st_iR2 ?_ | with_reducible refine st_iZ ?_
  | ((with_reducible refine' st_refL ?hq ?_); (case hq => walk_at "sqL")) | ((with_reducible refine' st_refT ?hq ?_); (case hq => walk_at "sqT"))
  | ((with_reducible refine' st_rng1 ?hq ?_); (case hq => walk_at "side")) | ((with_reducible refine' st_rng2 ?hq ?_); (case hq => walk_at "side"))
  | ((with_reducible refine' st_zip ?hq ?hr ?_); (case hq => walk_at "sqb"); (case hr => walk_at "sqb"))
  | ((with_reducible refine' st_size ?hw ?_); (case hw => walk_at "line"))
  | ((with_reducible refine' st_sum ?hq ?_); (case hq => walk_at "sqL"))
  | with_reducible refine st_two ?_ | with_reducible refine st_yes ?_ | ((with_reducible refine' st_wipe ?hw ?_); (case hw => rfl))
  | ((with_reducible refine' st_slL ?hq ?_); (case hq => walk_at "sqL"))
  | ((with_reducible refine' st_cat ?hq ?hr ?hl ?_); (case hq => walk_at "hp"); (case hr => walk_at "hp"); (case hl => walk_at "line"))
  | ((with_reducible refine' st_isi ?hk ?he ?_); (case hk => walk_at "kd"); (case he => walk_at "kit"))
  | ((with_reducible refine' st_ins ?hq ?hc ?hn ?hl ?_); (case hq => walk_at "hp"); (case hc => with_reducible assumption); (case hn => with_reducible assumption); (case hl => walk_at "flen"); walk_at "puts")
  | ((with_reducible refine' st_att ?hq ?hc ?hn ?hl ?_); (case hq => walk_at "hp"); (case hc => with_reducible assumption); (case hn => with_reducible assumption); (case hl => walk_at "lk"))
  | ((with_reducible refine' st_mt ?hq ?hl ?_); (case hq => walk_at "hp"); (case hl => walk_at "lk"))
  | ((with_reducible refine' st_extend ?hq ?hr ?hl ?_); (case hq => walk_at "hp"); (case hr => walk_at "hp"); (case hl => walk_at "line"))
  | with_reducible refine st_next ?_ | with_reducible refine st_retN ?_ | (with_reducible refine iteNT ?_) | (with_reducible refine iteNF ?_) | (with_reducible refine iteT ?_) | (with_reducible refine iteF ?_))
local macro_rules | `(tactic| walk_at "side") => `(tactic| first | omega | decide | assumption | exact ⟨by omega, by omega⟩ | exact Or.inr ⟨by omega, by omega⟩ | exact Or.inl ⟨by omega, by omega⟩ | (simp only [List.length_map, List.length_cons, List.length_nil, List.length_append] at *; omega))
local macro_rules | `(tactic| walk_at "hp") => `(tactic| first | assumption | exact upd_same | refine upd_old (by assumption) (by walk_at "hp") | (rw [upd_ne (by first | assumption | exact Ne.symm (by assumption))]; walk_at "hp"))
local macro_rules | `(tactic| walk_at "sqL") => `(tactic| first | assumption | exact SqL.of (by walk_at "hp"))
local macro_rules | `(tactic| walk_at "sqT") => `(tactic| first | assumption | exact SqT.of (by walk_at "hp"))
local macro_rules | `(tactic| walk_at "sqb") => `(tactic| (unfold SqB; first | ((with_reducible change SqL _ _ _ _); walk_at "sqL") | ((with_reducible change SqT _ _ _ _); walk_at "sqT")))
local macro_rules | `(tactic| walk_at "line") => `(tactic| first | assumption | decide | (apply line_of; walk_at "side") | (apply line_lt; walk_at "side"))
local macro_rules | `(tactic| walk_at "ty") => `(tactic| ((with_reducible refine' ty_lst ?hq); (case hq => walk_at "hp")))
local macro_rules | `(tactic| walk_at "at") => `(tactic| with_reducible first | assumption | exact at0 | exact at1 | exact at2 | exact at3 | exact at4 | exact at5 | exact at6 | exact at7 | exact at8)
local macro_rules | `(tactic| walk_at "st") => `(tactic| (repeat walk_at "st1"))
local macro_rules | `(tactic| walk_at "lk") => `(tactic| first | with_reducible assumption | rfl)
local macro_rules | `(tactic| walk_at "kd") => `(tactic| first | exact .base (.int _) | exact .base .non | exact .base (.bl _) | exact .base (.str _) | exact .base (.tup (by walk_at "hp")) | exact .base (.lst (by walk_at "hp")) | exact .base (.dK (by walk_at "hp")) | exact .base (.dT (by walk_at "hp")))
local macro_rules | `(tactic| walk_at "kit") => `(tactic| with_reducible first
  | exact kit_NoneType_bool
  | exact kit_NoneType_int
  | exact kit_NoneType_str
  | exact kit_NoneType_tuple
  | exact kit_NoneType_list
  | exact kit_NoneType_dict
  | exact kit_bool_bool
  | exact kit_bool_int
  | exact kit_bool_str
  | exact kit_bool_tuple
  | exact kit_bool_list
  | exact kit_bool_dict
  | exact kit_int_bool
  | exact kit_int_int
  | exact kit_int_str
  | exact kit_int_tuple
  | exact kit_int_list
  | exact kit_int_dict
  | exact kit_str_bool
  | exact kit_str_int
  | exact kit_str_str
  | exact kit_str_tuple
  | exact kit_str_list
  | exact kit_str_dict
  | exact kit_tuple_bool
  | exact kit_tuple_int
  | exact kit_tuple_str
  | exact kit_tuple_tuple
  | exact kit_tuple_list
  | exact kit_tuple_dict
  | exact kit_list_bool
  | exact kit_list_int
  | exact kit_list_str
  | exact kit_list_tuple
  | exact kit_list_list
  | exact kit_list_dict
  | exact kit_dict_bool
  | exact kit_dict_int
  | exact kit_dict_str
  | exact kit_dict_tuple
  | exact kit_dict_list
  | exact kit_dict_dict)
local macro_rules | `(tactic| walk_at "flen") => `(tactic| decide)
local macro_rules | `(tactic| walk_at "puts") => `(tactic| skip)

local macro_rules | `(tactic| walk_at "st1") => `(tactic| first
  | with_reducible refine st_dc ?_ | with_reducible refine st_dgetS ?_ | with_reducible refine st_dinS ?_ | with_reducible refine st_dninS ?_ | with_reducible refine st_dputS ?_ | with_reducible refine st_newT ?_ | with_reducible refine iteNN ?_ | with_reducible refine iteYN ?_
  | ((with_reducible refine' st_getT ?hq ?hk ?hv ?_); (case hq => walk_at "hp"); (case hk => walk_at "key"); (case hv => with_reducible assumption))
  | ((with_reducible refine' st_inT ?hq ?hk ?_); (case hq => walk_at "hp"); (case hk => walk_at "key"))
  | ((with_reducible refine' st_ninT ?hq ?hk ?_); (case hq => walk_at "hp"); (case hk => walk_at "key"))
  | ((with_reducible refine' st_putT ?hq ?hk ?hl ?_); (case hq => walk_at "hp"); (case hk => walk_at "key"); (case hl => walk_at "line"))
  | ((with_reducible refine' st_cputT ?hq ?hk ?hl ?_); (case hq => walk_at "hp"); (case hk => walk_at "key"); (case hl => walk_at "line"))
  | ((with_reducible refine' st_ixB ?hq ?he ?_); (case hq => first | assumption | exact Or.inl (by walk_at "sqL") | exact Or.inr (by walk_at "sqT")); (case he => walk_at "at")))
local macro_rules | `(tactic| walk_at "key") => `(tactic| with_reducible assumption)

local macro_rules | `(tactic| walk_at "lk") => `(tactic| with_reducible first | assumption | exact DiskF_get_lying | exact DiskF_get_pending | exact DiskF_get_spoils | exact StoreF_get_disk | exact DiskF_no (by decide +kernel) (by decide +kernel) (by decide +kernel) | exact StoreF_no (by decide +kernel))
local macro_rules | `(tactic| walk_at "puts") => `(tactic| try simp only [DiskF_put_lying, DiskF_put_pending, DiskF_put_spoils, StoreF_put_disk, DiskF0_put, DiskF1_put, DiskF2_put, StoreF0_put])
local macro_rules | `(tactic| walk_at "flen") => `(tactic| first | with_reducible assumption | with_reducible (first | exact DiskF_len | exact StoreF_len | exact DiskF0_len | exact DiskF1_len | exact DiskF2_len | exact StoreF0_len) | decide)
section
variable {Z : Ads} {P : Program} {w : World} {K : PySem.W.Frag} {mg : Str → Option Value} {base : Heap}
def spLaw (Tb : List (Addr × Str)) (K : PySem.W.Frag) : Sp := fun vs H Q _ => ∃ (a : Addr) (ns : List Int), vs = [.ref a] ∧ SqL K H a (ns.map V.int) ∧ ns.length ≤ 63 ∧ Tabs Tb H ∧ ∀ H', Q (.bl true) H'
abbrev s_law : Stmt := top 84
theorem sc_law : FnScope ["script", "pot", "disk", "rows", "some", "at", "elder", "seals", "is_gone", "store", "row", "place"] ["script"] (defScope s_law) := ⟨rfl, rfl, rfl, by decide +kernel, rfl, by decide +kernel, by decide +kernel⟩
theorem st_dget2 {td ty tx : TE} {σ : L2.St} {H : Hp} {Q : VK} (q : td σ H fun x H1 => ∃ a, x = .ref a ∧ IsD H1 a ∧ ty σ H1 fun y H2 => tx σ H2 fun z H3 => ∃ o, DGet H3 a y o ∧ Q (o.getD z) H3) : tDGet2 td ty tx σ H Q := q
theorem andV_bl {ta tb : TE} {σ : L2.St} {H : Hp} {Q : VK} (b c : Bool) (ha : ∀ Q : VK, Q (.bl b) H → ta σ H Q) (hb : b = true → ∀ Q : VK, Q (.bl c) H → tb σ H Q) (q : Q (.bl (b && c)) H) : tAndV ta tb σ H Q := by
  refine ha _ ⟨b, rfl, ?_⟩
  cases b with
  | true =>
    rw [if_pos rfl]
    exact hb rfl _ q
  | false =>
    rw [if_neg Bool.false_ne_true]
    exact q
theorem pot_soft {H : Hp} {p g m : Addr} (h : Pot H p g m) : ∀ x ∈ [p, g], ∃ o, H x = some o ∧ Soft o := by
  obtain ⟨⟨gs, ss, t, c, h1, h2, h3, h4⟩, _, _, _⟩ := h
  intro x hx
  simp only [List.mem_cons, List.not_mem_nil, or_false] at hx
  rcases hx with rfl | rfl
  · exact ⟨_, h1, .inl ⟨_, rfl⟩⟩
  · exact ⟨_, h2, .inl ⟨_, rfl⟩⟩
theorem disk_soft {C : Addr} {n : Int} {H : Hp} {d l q : Addr} {ls ps : List PyData} (D : DiskAt C n H d l q ls ps) : ∀ x ∈ [d, l, q], ∃ o, H x = some o ∧ Soft o := by
  obtain ⟨⟨dx, hd⟩, ⟨xl, hl, _⟩, ⟨xq, hq, _⟩, _⟩ := D
  intro x hx
  simp only [List.mem_cons, List.not_mem_nil, or_false] at hx
  rcases hx with rfl | rfl | rfl
  · exact ⟨_, hd, .inr ⟨_, _, _, rfl⟩⟩
  · exact ⟨_, hl, .inl ⟨_, rfl⟩⟩
  · exact ⟨_, hq, .inl ⟨_, rfl⟩⟩
theorem ok_law {oc : Value} {od : Option Addr} {kV doc pm : Value} {an : Option Addr} {c Pt : Addr} {ct : Value} {osl : Array (Option Value)} {f : Addr} {Tb : List (Addr × Str)}
    (lk : K.lookup f = some ⟨oc, od, .func (PySem.W.fnOf "law" "law" (defArgs s_law) (defBody s_law) (defScope s_law) .none kV doc pm an (.ref c) ct), osl⟩) (hcd : PySem.W.codeIn K (.ref c) "law" = true)
    (T : Txt K mg Z) (TE : TxE K Z) (WD : WordDef K mg) (TB : TabB base mg c Pt) (hmT : (Pt, (("law" : Str) ++ ".<locals>.") ++ "<lambda>") ∈ Tb) (huT : ∀ p ∈ Tb, p.1 = Pt → p.2 = (("law" : Str) ++ ".<locals>.") ++ "<lambda>")
    (D_law_pot : Dn P w K mg base "_law_pot" 1 ["script"] (spPot K)) (D_law_any : Dn P w K mg base "_law_any" 2 ["pot", "items"] spAny) (D_law_last : Dn P w K mg base "_law_last" 1 ["rows"] spLLast) (D_law_words : Dn P w K mg base "_law_words" 9 ["store"] (spWords3 Tb Z)) (D_law_written : Dn P w K mg base "_law_written" 14 ["pot", "disk"] (spWritten Tb Z))
    (C_Disk : Cn P w K mg base "Disk" Z.Disk 1 ["self"] (spInit Z.Disk)) (C_Store : Cn P w K mg base "Store" Z.Store 1 ["self", "disk"] (spSInit Z.Store))
    (M_Disk_spoil : Mn P w K mg base Z.Disk "spoil" 3 ["self", "at"] (spSpoil Z.Disk)) (M_Disk_waiting : Mn P w K mg base Z.Disk "waiting" 1 ["self"] (spWaiting Z.Disk)) (M_Disk_words : Mn P w K mg base Z.Disk "words" 1 ["self"] (spWords Z.Disk))
    (M_Store_found : Mn P w K mg base Z.Store "found" 4 ["self"] (spFoundE Z.Store Z.Disk Z.Spoilt)) (M_Store_keep : Mn P w K mg base Z.Store "keep" 13 ["self", "key", "thing"] (spKeepE Z.Store Z.Disk Z.Spoilt)) (M_Store_seal : Mn P w K mg base Z.Store "seal" 13 ["self"] (spSealE Z.Store Z.Disk Z.Spoilt)) :
    FnOk P w K mg base (L2.CX P w) 16 f (PySem.W.fnOf "law" "law" (defArgs s_law) (defBody s_law) (defScope s_law) .none kV doc pm an (.ref c) ct) ["script"] (spLaw Tb K) := by
  have cl := T.cl
  have clS := T.clS
  refine okL lk hcd sc_law (fun vs H Q E h => ?_) (fun A outer s0 H vs Q E hr h => ?_)
  · obtain ⟨a, ns, rfl, _⟩ := h
    rfl
  · obtain ⟨a, ns, rfl, hS, hlen, hT, k⟩ := h
    have hu := u1_of hr
    have hu64 := hr.units
    have hu66 := u66_of hr
    refine ⟨_, [some _, none, none, none, none, none, none, none, none, none, none, none], rfl, (pss_cons (ps_set (i := 1) sc_law.nd rfl (by first | exact Or.inl rfl | exact Or.inr rfl) (pe_d D_law_pot E0 (hr.mono (by first | decide | omega)) (by rfl) passL (pa_cons (pv 0) pa_nil)))
      (pss_cons (ps_set (i := 2) sc_law.nd rfl (by first | exact Or.inl rfl | exact Or.inr rfl) (pe_c0 C_Disk E0 (hr.mono (by first | decide | omega)) (by rfl) passL))
      (pss_cons (ps_set (i := 3) sc_law.nd rfl (by first | exact Or.inl rfl | exact Or.inr rfl) (pe_d D_law_written E0 (hr.mono (by first | decide | omega)) (by rfl) passL (pa_cons (pv 1) (pa_cons (pv 2) pa_nil))))
      (pss_cons (ps_if (PW.pt (pw_or (pt_cmpR op_ne (pe_callB (kLen (K := K)) (by rfl) T.n_len (by decide +kernel) (pa_cons (pe_m0 M_Disk_words E0 (hr.mono (by first | decide | omega)) (pv 2) passL _) pa_nil)) (pe_callB (kLen (K := K)) (by rfl) T.n_len (by decide +kernel) (pa_cons (pv 3) pa_nil)) (by first | exact nomark _ | rfl)) (pw_or1 (pt_cmpR (kNeT hu66 (K := K)) (pe_m0 M_Store_found E0 (hr.mono (by first | decide | omega)) (pe_c C_Store E0 (hr.mono (by first | decide | omega)) (by rfl) passL (pa_cons (pv 2) pa_nil)) passL _) (pe_d D_law_last E0 (hr.mono (by first | decide | omega)) (by rfl) passL (pa_cons (pv 3) pa_nil)) (by first | exact nomark _ | rfl))))) (pss_one (ps_ret pe_bl)) pss_nil)
      (pss_cons (ps_setLc (i := 4) (own := [("at", 5), ("row", 10)]) (g := (gTup K 2 (gCons (gName 5) (gCons (gName 10) gNil)))) (tt := _) rfl sc_law.nd rfl rfl (sw_true rfl rfl rfl (by decide +kernel)) (kEnum (K := K) (by rfl) T.n_enumerate (pa_cons (pv 3) pa_nil)) (blkOk_by (N := ["script", "pot", "disk", "rows", "some", "at", "elder", "seals", "is_gone", "store", "row", "place"]) (sc := defScope s_law) (by decide +kernel)) (fun _ _ _ _ _ => (kTupT (K := K) (n := 2) (pgs_cons (pg_name (i := 5) sc_law.nd rfl (by first | exact Or.inl rfl | exact Or.inr rfl)) (pgs_cons (pg_name (i := 10) sc_law.nd rfl (by first | exact Or.inl rfl | exact Or.inr rfl)) pgs_nil)))) (fun _ _ _ _ _ => (pts_one (pt_cmp (pc_notN (pv 10))))) (fun _ _ _ _ _ => (pv 5)))
      (pss_cons (ps_if (pt_cmpR op_eq (pe_callB (kLen (K := K)) (by rfl) T.n_len (by decide +kernel) (pa_cons (pv 4) pa_nil)) pe_int (by first | exact nomark _ | rfl)) (pss_one (ps_ret (pe_cmpR (kEqT hu66 (K := K)) (pe_m0 M_Store_found E0 (hr.mono (by first | decide | omega)) (pe_c C_Store E0 (hr.mono (by first | decide | omega)) (by rfl) passL (pa_cons (pv 2) pa_nil)) passL _) pe_dnewT (by first | exact nomark _ | rfl)))) pss_nil)
      (pss_cons (ps_par (i := 5) (j := 6) rfl sc_law.nd rfl rfl (by decide) rfl rfl (pa_cons (pe_d D_law_any E0 (hr.mono (by first | decide | omega)) (by rfl) passL (pa_cons (pv 1) (pa_cons (pv 4) pa_nil))) (pa_cons (pe_c C_Store E0 (hr.mono (by first | decide | omega)) (by rfl) passL (pa_cons (pv 2) pa_nil)) pa_nil)) rfl)
      (pss_cons (ps_setLc (i := 7) (own := [("place", 11), ("row", 10)]) (g := (gTup K 2 (gCons (gName 11) (gCons (gName 10) gNil)))) (tt := _) rfl sc_law.nd rfl rfl (sw_true rfl rfl rfl (by decide +kernel)) (kEnum (K := K) (by rfl) T.n_enumerate (pa_cons (pv 3) pa_nil)) (blkOk_by (N := ["script", "pot", "disk", "rows", "some", "at", "elder", "seals", "is_gone", "store", "row", "place"]) (sc := defScope s_law) (by decide +kernel)) (fun _ _ _ _ _ => (kTupT (K := K) (n := 2) (pgs_cons (pg_name (i := 11) sc_law.nd rfl (by first | exact Or.inl rfl | exact Or.inr rfl)) (pgs_cons (pg_name (i := 10) sc_law.nd rfl (by first | exact Or.inl rfl | exact Or.inr rfl)) pgs_nil)))) (fun _ _ _ _ _ => (pts_one (pt_cmp (pc_isN (pv 10))))) (fun _ _ _ _ _ => (pv 11)))
      (pss_cons (ps_set (i := 8) sc_law.nd rfl (by first | exact Or.inl rfl | exact Or.inr rfl) (pe_and (pe_ix (kIxT (K := K)) (pe_ix (kIxL (K := K)) (pv 3) (pv 5) (fun _ _ => rfl)) pe_int (fun _ _ => rfl)) (pe_and (pe_cmpR op_gt (pe_callB (kLen (K := K)) (by rfl) T.n_len (by decide +kernel) (pa_cons (pv 7) pa_nil)) pe_int (by first | exact nomark _ | rfl)) (pe_one (pe_cmpR op_lt (pv 5) (pe_ix (kIxL (K := K)) (pv 7) (pe_un un_neg pe_int) (fun _ _ => rfl)) (by first | exact nomark _ | rfl))))))
      (pss_cons (ps_expr (pe_m M_Disk_spoil E0 (hr.mono (by first | decide | omega)) (pv 2) passL (pa_cons (pv 5) pa_nil) _))
      (pss_cons (ps_set (i := 3) sc_law.nd rfl (by first | exact Or.inl rfl | exact Or.inr rfl) (pe_op op_cat (pe_slice (kSlL (K := K)) (pv 3) po_none (po_some (pv 5))) (pe_slice (kSlL (K := K)) (pv 3) (po_some (pe_op op_add (pv 5) pe_int)) po_none)))
      (pss_cons (ps_if (pt_not (pt_val (pv 8))) (pss_cons (ps_if (PW.pt (pw_or (pt_cmpR (kNeT hu66 (K := K)) (pe_m0 M_Store_found E0 (hr.mono (by first | decide | omega)) (pe_c C_Store E0 (hr.mono (by first | decide | omega)) (by rfl) passL (pa_cons (pv 2) pa_nil)) passL _) (pe_d D_law_last E0 (hr.mono (by first | decide | omega)) (by rfl) passL (pa_cons (pv 3) pa_nil)) (by first | exact nomark _ | rfl)) (pw_or1 (pt_cmpR (kNeT hu66 (K := K)) (pe_m0 M_Store_found E0 (hr.mono (by first | decide | omega)) (pv 6) passL _) (pe_d D_law_last E0 (hr.mono (by first | decide | omega)) (by rfl) passL (pa_cons (pv 3) pa_nil)) (by first | exact nomark _ | rfl))))) (pss_one (ps_ret pe_bl)) pss_nil)
      (pss_cons (ps_expr (pe_m M_Store_keep E0 (hr.mono (by first | decide | omega)) (pv 6) passL (pa_cons (pe_tup (pa_cons pe_str pa_nil)) (pa_cons pe_int pa_nil)) _))
      (pss_cons (ps_expr (pe_m0 M_Store_seal E0 (hr.mono (by first | decide | omega)) (pv 6) passL _))
      (pss_one (ps_ret (pe_cmpR op_eq (pe_dget2 hu (pe_m0 M_Store_found E0 (hr.mono (by first | decide | omega)) (pe_c C_Store E0 (hr.mono (by first | decide | omega)) (by rfl) passL (pa_cons (pv 2) pa_nil)) passL _) (pe_tup (pa_cons pe_str pa_nil)) pe_int ⟨rfl, rfl, rfl, rfl⟩) pe_int (by first | exact nomark _ | rfl))))))) pss_nil)
      (pss_cons (ps_for PassesOwn.never rfl (kPiT (K := K) (pe_tup (pa_cons (pv 6) (pa_cons (pe_c C_Store E0 (hr.mono (by first | decide | omega)) (by rfl) passL (pa_cons (pv 2) pa_nil)) pa_nil)))) (pg_name (i := 9) sc_law.nd rfl (by first | exact Or.inl rfl | exact Or.inr rfl))
      (pss_cons (ps_if (pt_cmpR (kNeD hu64 (K := K)) (pe_d D_law_words E0 (hr.mono (by first | decide | omega)) (by rfl) passL (pa_cons (pv 9) pa_nil)) (pe_op op_rep (pe_lst (pa_cons pe_str pa_nil)) pe_int) (by first | exact nomark _ | rfl)) (pss_one (ps_ret pe_bl)) pss_nil)
      (pss_cons (ps_if (pt_cmpR op_ne (pe_word WD T TE (by rfl) TB (by rfl) (by rfl) hmT huT (hr.mono (by first | decide | omega)) (LamX.lamS_by (sc := defScope s_law) (by decide +kernel)) (fun A' outer' s' H' E' f' c' hr' => (pe_m M_Store_keep E' hr' (pv 9) (passes_call (takes_of rfl rfl rfl rfl) fun _ _ _ _ h => h) (pa_cons (pe_tup (pa_cons pe_str pa_nil)) (pa_cons pe_int pa_nil)) _))) pe_str (by first | exact nomark _ | rfl)) (pss_one (ps_ret pe_bl)) pss_nil)
      (pss_one (ps_if (pt_cmpR op_ne (pe_word WD T TE (by rfl) TB (by rfl) (by rfl) hmT huT (hr.mono (by first | decide | omega)) (LamX.lamS_by (sc := defScope s_law) (by decide +kernel)) (fun A' outer' s' H' E' f' c' hr' => (pe_m0 M_Store_seal E' hr' (pv 9) (passes_call (takes_of rfl rfl rfl rfl) fun _ _ _ _ h => h) _))) pe_str (by first | exact nomark _ | rfl)) (pss_one (ps_ret pe_bl)) pss_nil)))))
      (pss_one (ps_ret (pe_and (pe_cmpR op_eq (pe_callB (kLen (K := K)) (by rfl) T.n_len (by decide +kernel) (pa_cons (pe_m0 M_Disk_words E0 (hr.mono (by first | decide | omega)) (pv 2) passL _) pa_nil)) (pe_callB (kLen (K := K)) (by rfl) T.n_len (by decide +kernel) (pa_cons (pv 3) pa_nil)) (by first | exact nomark _ | rfl)) (pe_one (pe_cmpR op_eq (pe_m0 M_Disk_waiting E0 (hr.mono (by first | decide | omega)) (pv 2) passL _) pe_int (by first | exact nomark _ | rfl))))))))))))))))))), ?_⟩
    clear hu hu66 hu64
    walk_at "st"
    refine ⟨a, ns, rfl, hS, hlen, fun H1 p g m hP f1 hp0 hg0 hm0 => ?_⟩
    walk_at "st"
    intro d dx hd0 hdx0 dxd
    refine ⟨d, dx, rfl, upd_same, fun H2 l q hl0 hq0 D2 f2 => ⟨rfl, ?_⟩⟩
    have F2 := made hd0 hdx0 dxd f2
    have hP2 := hP.keep F2
    have l0 : H1 l = none := fresh_of (fresh_of hl0)
    have q0 : H1 q = none := fresh_of (fresh_of hq0)
    have hT2 := (hT.ext f1.same).ext F2.same
    have n1 := hP.ne hd0
    have n2 := hP.ne l0
    have n3 := hP.ne q0
    walk_at "st"
    refine ⟨p, g, m, d, l, q, rfl, hP2, D2, fun x hx => ?_, hT2, fun H3 q' r xs ls rs hP3 D3 hr3 t3 R hsz ap3 nr3 hT3 => ?_⟩
    · simp only [List.mem_cons, List.not_mem_nil, or_false] at hx
      rcases hx with rfl | rfl | rfl
      · exact ⟨n1.1.symm, n2.1.symm, n3.1.symm⟩
      · exact ⟨n1.2.1.symm, n2.2.1.symm, n3.2.1.symm⟩
      · exact ⟨n1.2.2.symm, n2.2.2.symm, n3.2.2.symm⟩
    clear n1 n2 n3 hT2 q0 l0 hP2 F2 hl0 hq0 D2 f2 dxd hdx0 hd0
    have hrl : rs.length = ls.length := by rw [R.rows, List.length_map]
    have hxl := t3.length
    obtain ⟨dx3, hd3⟩ := D3.ok
    walk_at "st"
    refine ⟨0, d, l, q', ls, [], rfl, D3, fun H4 pw xw _ hpw tw f4 => ?_⟩
    have hlw := tw.length
    have hr4 := f4.same _ _ hr3
    have hd4 := f4.same _ _ hd3
    walk_at "st"
    refine iteDN (fun _ => ?_) (fun h => absurd (by rw [hlw, hxl, hrl]) h)
    walk_at "st"
    intro s1 sx1 hs0 hsx0 sxs
    refine ⟨s1, sx1, d, rfl, upd_same, fun H5 S5 f5 => ⟨rfl, ?_⟩⟩
    have F5 := f4.trans (made hs0 hsx0 sxs f5)
    obtain ⟨sx5, hs5⟩ := S5.ok
    walk_at "st"
    refine ⟨0, s1, d, l, q', ls, [], rfl, S5, D3.keep F5 List.not_mem_nil List.not_mem_nil List.not_mem_nil, by simp; omega, R.tr, (fun _ h => nomatch h), fun hb => no_bad hb, fun _ H6 pf hpf0 tf f6 => ?_⟩
    have F6 := F5.trans f6
    walk_at "st"
    refine ⟨r, xs, rs, rfl, F6.same _ _ hr3, TDs.mono F6.tup _ _ t3, by omega, R.isRows, fun H7 pl _ tl f7 => ?_⟩
    have F7 := F6.trans f7
    have gd : GoodD (tab (live rs)) := by
      rw [← R.tab]
      exact good_tab (wholes_pr R.tr (fun _ h => nomatch h))
    refine ⟨sameT_eq ((R.tab ▸ tf).keep f7 List.not_mem_nil) tl gd, ?_⟩
    have D7 := D3.keep F7 List.not_mem_nil List.not_mem_nil List.not_mem_nil
    have hP7 := hP3.keep F7
    have hr7 := F7.same _ _ hr3
    have hd7 := F7.same _ _ hd3
    have t7 := TDs.mono F7.tup _ _ t3
    have hT7 := hT3.ext F7.same
    walk_at "st"
    clear F7 F6 F5 f7 f6 f5 f4 tl tf hpf0 S5 sxs hsx0 hs0 hs5 hd4 hr4 hpw tw hlw hd3 hT3 hr3 D3 hP3 t3
    refine st_iE ?_
    walk_at "st"
    refine ⟨r, xs, rfl, SqL.of hr7, fun D hD => ?_⟩
    refine lc_it (walk_enum (xs := xs)) (fun i H' => Fr [] H7 H' ∧ H' D = some (.lst (natVs (somesTo rs i)))) ⟨Fr.up hD, upd_same⟩ (fun i H' _ h => SqL.of (h.1.same _ _ hr7)) ?_ ?_
    · rintro j x H8 H9 hj ⟨f8, e8⟩ ⟨t, v1, v2, rfl, ht, rfl, hx, hy⟩
      cases hx
      have hy : xs[j]? = some v2 := hy
      obtain ⟨e, he, te⟩ := TDs.at_ (TDs.mono f8.tup _ _ t7) hy
      have e9 := upd_old (o' := HO.tup [V.int (j : Nat), v2]) ht e8
      have f9 : Fr [] H7 (upd H8 t (.tup [V.int (j : Nat), v2])) := f8.new ht
      have sl := somesTo_len (rs := rs) (n := j)
      walk_at "st"
      rcases R.isRows e (List.mem_of_getElem? he) with rfl | ⟨kd, vd, b, rfl, _⟩
      · cases te
        walk_at "st"
        refine ⟨f9, ?_⟩
        rw [somes_step he, if_pos (show isNon PyData.none = true from rfl), List.append_nil]
        exact e9
      · cases te with
        | @tup a2 zs _ ha2 hT2 =>
        walk_at "st"
        rw [if_pos (by simp)]
        walk_at "st"
        refine ⟨_, e9, line_lt (by rw [List.length_map]; omega), f9.wl e9 (.inr hD), ?_⟩
        rw [upd_same, somes_step he, if_neg (show ¬ isNon (.tuple [kd, vd, .bool b]) = true from Bool.false_ne_true), natVs_snoc]
    · rintro H8 ⟨f8, e8⟩
      walk_at "st"
      have D8 := D7.keep f8 List.not_mem_nil List.not_mem_nil List.not_mem_nil
      have hP8 := hP7.keep f8
      have hr8 := f8.same _ _ hr7
      have hd8 := f8.same _ _ hd7
      have t8 := TDs.mono f8.tup _ _ t7
      have hT8 := hT7.ext f8.same
      have nD := hP7.ne hD
      have sl := somesTo_len (rs := rs) (n := xs.length)
      refine iteD (fun h0 => ?_) (fun h0 => ?_)
      · have e0 : (natVs (somesTo rs xs.length)).length = 0 := by
          have := V.int.inj h0
          omega
        rw [List.length_map, hxl] at e0
        have hn := live_none (somes_nil (List.length_eq_zero_iff.mp e0))
        walk_at "st"
        intro s1 sx1 hs0 hsx0 sxs
        refine ⟨s1, sx1, d, rfl, upd_same, fun H9 S9 f9 => ⟨rfl, ?_⟩⟩
        have F9 := made hs0 hsx0 sxs f9
        obtain ⟨sx9, hs9⟩ := S9.ok
        walk_at "st"
        refine ⟨0, s1, d, l, q', ls, [], rfl, S9, D8.keep F9 List.not_mem_nil List.not_mem_nil List.not_mem_nil, by simp; omega, R.tr, (fun _ h => nomatch h), fun hb => no_bad hb, fun _ H10 pf hpf0 tf f10 => ?_⟩
        rw [R.tab, hn] at tf
        walk_at "st"
        intro u hu
        refine ⟨sameT_eq (tf.keep (Fr.up (o := .dT []) hu) List.not_mem_nil) ⟨[], upd_same, .nil⟩ GoodD.nil, ?_⟩
        walk_at "st"
        exact k _
      · have e0 : 0 < (natVs (somesTo rs xs.length)).length := by
          rcases Nat.eq_zero_or_pos (natVs (somesTo rs xs.length)).length with z | z
          · exact absurd (by rw [z]; rfl) h0
          · exact z
        walk_at "st"
        refine ⟨p, g, m, D, _, rfl, hP8, .inr ⟨e8, nD.1, nD.2.1⟩, e0, by rw [List.length_map]; omega, fun H9 x hx hP9 f9 => ?_⟩
        obtain ⟨j, hj, rfl⟩ := List.mem_map.mp hx
        rw [hxl] at hj
        obtain ⟨e, he, hne⟩ := somes_at hj
        obtain ⟨p1, p2, p3, p4⟩ := ap3 p (by simp)
        obtain ⟨g1, g2, g3, g4⟩ := ap3 g (by simp)
        have D9 := D8.keep f9 (by simpa using ⟨p1.symm, g1.symm⟩) (by simpa using ⟨p2.symm, g2.symm⟩) (by simpa using ⟨p3.symm, g3.symm⟩)
        have hr9 := f9.keep r _ (by simpa using ⟨p4.symm, g4.symm⟩) hr8
        have t9 := TDs.mono f9.tup _ _ t8
        have hT9 := tabs_fr hT8 f9 (pot_soft hP8)
        rcases R.isRows e (List.mem_of_getElem? he) with rfl | ⟨kd, vd, b, rfl, hkd, hsd, hvd⟩
        · exact absurd rfl hne
        walk_at "st"
        intro s1 sx1 hs0 hsx0 sxs
        refine ⟨s1, sx1, d, rfl, upd_same, fun H10 S10 f10 => ⟨rfl, ?_⟩⟩
        have F10 := made hs0 hsx0 sxs f10
        obtain ⟨dx9, hd9⟩ := D9.ok
        obtain ⟨xl9, hl9, _⟩ := D9.lie
        obtain ⟨xq9, hq9, _⟩ := D9.pen
        have sd : s1 ≠ d ∧ s1 ≠ l ∧ s1 ≠ q' := ⟨(ne_of_none hd9 hs0).symm, (ne_of_none hl9 hs0).symm, (ne_of_none hq9 hs0).symm⟩
        clear hd9 hl9 hq9
        have D10 := D9.keep F10 List.not_mem_nil List.not_mem_nil List.not_mem_nil
        have hr10 := F10.same _ _ hr9
        have t10 := TDs.mono F10.tup _ _ t9
        have hT10 := hT9.ext F10.same
        clear F10 f10 sxs hsx0 hs0 hT9 t9 hr9 D9 f9 hP9 hx hT8 t8 hr8 D8 hP8
        walk_at "st"
        refine st_iE ?_
        dsimp only [List.set_cons_zero, List.set_cons_succ]
        walk_at "st"
        refine ⟨r, xs, rfl, SqL.of hr10, fun D2 hD2 => ?_⟩
        refine lc_it (walk_enum (xs := xs)) (fun i H' => Fr [] H10 H' ∧ H' D2 = some (.lst (natVs (nonesTo rs i)))) ⟨Fr.up hD2, upd_same⟩ (fun i H' _ h => SqL.of (h.1.same _ _ hr10)) ?_ ?_
        · rintro i x H11 H12 hi ⟨f11, e11⟩ ⟨t, v1, v2, rfl, ht, rfl, hx, hy⟩
          cases hx
          have hy : xs[i]? = some v2 := hy
          obtain ⟨e, he', te⟩ := TDs.at_ (TDs.mono f11.tup _ _ t10) hy
          have e12 := upd_old (o' := HO.tup [V.int (i : Nat), v2]) ht e11
          have f12 : Fr [] H10 (upd H11 t (.tup [V.int (i : Nat), v2])) := f11.new ht
          have sl := nonesTo_len (rs := rs) (n := i)
          walk_at "st"
          rcases R.isRows e (List.mem_of_getElem? he') with rfl | ⟨kd', vd', b', rfl, _⟩
          · cases te
            walk_at "st"
            refine ⟨_, e12, line_lt (by rw [List.length_map]; omega), f12.wl e12 (.inr hD2), ?_⟩
            rw [upd_same, nones_step he', if_pos (show isNon PyData.none = true from rfl), natVs_snoc]
          · cases te with
            | @tup a2 zs _ ha2 hT2 =>
            walk_at "st"
            rw [if_neg (by simp)]
            refine ⟨f12, ?_⟩
            rw [nones_step he', if_neg (show ¬ isNon (.tuple [kd', vd', .bool b']) = true from Bool.false_ne_true), List.append_nil]
            exact e12
        · rintro H11 ⟨f11, e11⟩
          have hr11 := f11.same _ _ hr10
          have t11 := TDs.mono f11.tup _ _ t10
          rw [hxl] at e11
          have hjl : j < rs.length := (List.getElem?_eq_some_iff.mp he).1
          have hjx : xs[j]? = some xs[j] := List.getElem?_eq_getElem (by omega)
          obtain ⟨e', he', te⟩ := TDs.at_ t11 hjx
          rw [he] at he'
          cases he'
          generalize xs[j] = xj at te hjx
          cases te with
          | @tup a2 zs _ ha2 hT2 =>
          cases hT2 with
          | @cons z1 _ _ _ u1 hT2 =>
          cases hT2 with
          | @cons z2 _ _ _ u2 hT2 =>
          cases hT2 with
          | @cons z3 _ _ _ u3 hT2 =>
          cases hT2
          cases u3
          have hatx : atI xs (j : Int) = some (.ref a2) := atI_nat hjx
          obtain ⟨c, hbad, hc⟩ := gone_c R he hsd
          iterate 3 walk_at "st1"
          refine andV_bl b c (fun Q q => ?_) (fun hb Q q => ?_) ?_
          · walk_at "st"
            exact q
          · rcases hc with ⟨hn, rfl⟩ | ⟨m, hm, rfl⟩
            · rw [hn] at e11
              walk_at "st"
              exact q
            · have hl : 0 < (natVs (nonesTo rs rs.length)).length := by
                cases hq : nonesTo rs rs.length with
                | nil => rw [hq] at hm; exact nomatch hm
                | cons _ _ => simp
              have hat : atI (natVs (nonesTo rs rs.length)) (-1) = some (.int (m : Nat)) := at_last (by rw [List.getLast?_map, hm]; rfl)
              refine andV_bl true (decide (j < m)) (fun Q q => ?_) (fun _ Q q => ?_) (by rw [Bool.true_and]; exact q)
              · walk_at "st"
                rw [decide_eq_true (show (0 : Int) < ((natVs (nonesTo rs rs.length)).length : Nat) by omega)]
                exact q
              · walk_at "st"
                rw [show decide ((j : Int) < (m : Nat)) = decide (j < m) from decide_eq_decide.mpr Int.ofNat_lt]
                exact q
          rw [← hbad]
          have D11 := D10.keep f11 List.not_mem_nil List.not_mem_nil List.not_mem_nil
          have S11 := S10.keep f11 List.not_mem_nil
          have hT11 := hT10.ext f11.same
          clear hT10 t10 hr10 D10 S10 hatx ha2 hjx hbad
          have hjl' : j < ls.length := by omega
          obtain ⟨dx11, hd11⟩ := D11.ok
          walk_at "st"
          refine ⟨0, d, l, q', ls, [], j, rfl, D11, hjl', by omega, fun H12 D12 f12 => ?_⟩
          have S12 := S11.keep f12 (by simpa using ⟨sd.1, sd.2.1⟩)
          have hr12 := f12.keep r _ (by simpa using ⟨nr3.1, nr3.2.1⟩) hr11
          have t12 := TDs.mono f12.tup _ _ t11
          have hT12 := tabs_fr hT11 f12 fun x hx => disk_soft D11 x (by simp at hx ⊢; rcases hx with rfl | rfl <;> simp)
          obtain ⟨dx12, hd12⟩ := D12.ok
          walk_at "st"
          have hc1 := cutV_length xs none (some ((j : Nat) : Int))
          have hc2 := cutV_length xs (some ((j : Int) + 1)) none
          have ec : cutV xs none (some ((j : Nat) : Int)) ++ cutV xs (some ((j : Int) + 1)) none = xs.eraseIdx j := by
            rw [cut_take, show ((j : Int) + 1) = ((j + 1 : Nat) : Int) by omega, cut_drop, List.eraseIdx_eq_take_drop_succ]
          intro v1 hv1
          have hr13 := upd_old (o' := HO.lst (cutV xs none (some ((j : Nat) : Int)))) hv1 hr12
          walk_at "st"
          intro v2 hv2
          walk_at "st"
          intro v3 hv3
          rw [ec]
          have f13 : Fr [] H12 _ := (((Fr.up (o := .lst (cutV xs none (some ((j : Nat) : Int)))) hv1).new (o := .lst (cutV xs (some ((j : Int) + 1)) none)) hv2)).new (o := .lst (xs.eraseIdx j)) hv3
          have t13 := TDs_erase j (TDs.mono f13.tup _ _ t12)
          have hv3' := upd_same (H := upd (upd H12 v1 (.lst (cutV xs none (some ((j : Nat) : Int))))) v2 (.lst (cutV xs (some ((j : Int) + 1)) none))) (a := v3) (o := .lst (xs.eraseIdx j))
          have htr : ∀ e ∈ ls.eraseIdx j, IsTr e := fun e he => R.tr e (mem_erase he)
          have erow : rs.eraseIdx j = (ls.eraseIdx j).map rowOf := by rw [R.rows, map_erase]
          have hle : (ls.eraseIdx j).length ≤ 60 := by rw [List.length_eraseIdx_of_lt hjl']; omega
          have hxe : (xs.eraseIdx j).length = (ls.eraseIdx j).length := by rw [t13.length, erow, List.length_map]
          have hrow : ∀ e ∈ rs.eraseIdx j, IsRow e := fun e he => R.isRows e (mem_erase he)
          have D13 := D12.keep f13 List.not_mem_nil List.not_mem_nil List.not_mem_nil
          have S13 := S12.keep f13 List.not_mem_nil
          have hT13 := hT12.ext f13.same
          have hd13 := f13.same _ _ hd12
          generalize upd (upd (upd H12 v1 (.lst (cutV xs none (some ((j : Nat) : Int))))) v2 (.lst (cutV xs (some ((j : Int) + 1)) none))) v3 (.lst (xs.eraseIdx j)) = H13 at f13 t13 hv3' D13 S13 hT13 hd13 ⊢
          have hsdk : ∀ e ∈ rs.eraseIdx j, e = e := fun _ _ => rfl
          have tbr := tab_rows htr
          rw [← erow] at tbr
          have gd' : GoodD (tab (live (rs.eraseIdx j))) := by
            rw [← tbr]
            exact good_tab (wholes_pr htr (fun _ h => nomatch h))
          clear hsdk hv3 hv2 hr13 hv1 hc1 hc2 ec f13 hT12 t12 hr12 S12 D12 hd12 f12 hT11 S11 D11 hd11
          generalize ls.eraseIdx j = ls' at *
          generalize rs.eraseIdx j = rs' at *
          generalize xs.eraseIdx j = xs' at *
          have hrl2 : rs'.length = ls'.length := by rw [erow, List.length_map]
          have hbN : badN (0 + 1) (wholes ls' []) = bad (wholes ls' []) := badN_of (by omega)
          walk_at "st"
          cases hb : bad (wholes ls' []) with
          | false =>
            rw [hb] at hbN
            walk_at "st"
            intro s2 sx2 hs0 hsx0 sxs
            refine ⟨s2, sx2, d, rfl, upd_same, fun H14 S14 f14 => ⟨rfl, ?_⟩⟩
            have F14 := made hs0 hsx0 sxs f14
            obtain ⟨sx14, hs14⟩ := S14.ok
            walk_at "st"
            refine ⟨0 + 1, s2, d, l, q', ls', [], rfl, S14, D13.keep F14 List.not_mem_nil List.not_mem_nil List.not_mem_nil, by simp; omega, htr, (fun _ h => nomatch h), fun hb' => absurd (hbN.symm.trans hb') (by decide), fun _ H15 pf hpf0 tf f15 => ?_⟩
            have F15 := F14.trans f15
            walk_at "st"
            refine ⟨v3, xs', rs', rfl, F15.same _ _ hv3', TDs.mono F15.tup _ _ t13, by omega, hrow, fun H16 pl _ tl f16 => ?_⟩
            have F16 := F15.trans f16
            refine ⟨sameT_eq ((tbr ▸ tf).keep f16 List.not_mem_nil) tl gd', ?_⟩
            obtain ⟨sx13, hs13⟩ := S13.ok
            have hs16 := F16.same _ _ hs13
            walk_at "st"
            refine ⟨0 + 1, s1, d, l, q', ls', [], rfl, S13.keep F16 List.not_mem_nil, D13.keep F16 List.not_mem_nil List.not_mem_nil List.not_mem_nil, by simp; omega, htr, (fun _ h => nomatch h), fun hb' => absurd (hbN.symm.trans hb') (by decide), fun _ H17 pf2 hpf2 tf2 f17 => ?_⟩
            have F17 := F16.trans f17
            walk_at "st"
            refine ⟨v3, xs', rs', rfl, F17.same _ _ hv3', TDs.mono F17.tup _ _ t13, by omega, hrow, fun H18 pl2 _ tl2 f18 => ?_⟩
            have F18 := F17.trans f18
            refine ⟨sameT_eq ((tbr ▸ tf2).keep f18 List.not_mem_nil) tl2 gd', ?_⟩
            have S18 := S13.keep F18 List.not_mem_nil
            have D18 := D13.keep F18 List.not_mem_nil List.not_mem_nil List.not_mem_nil
            have hs18 := F18.same _ _ hs13
            have hd18 := F18.same _ _ hd13
            walk_at "st"
            intro t ht
            have f19 : Fr [] H18 (upd H18 t (.tup [.str "later"])) := Fr.up ht
            have hs19 := f19.same _ _ hs18
            walk_at "st"
            refine ⟨0 + 1, s1, d, l, q', ls', [], _, _, laterK, .int 1, rfl, S18.keep f19 List.not_mem_nil, D18.keep f19 List.not_mem_nil List.not_mem_nil List.not_mem_nil, by simp; omega, htr, (fun _ h => nomatch h), .tup upd_same (.cons (.str _) .nil), laterKey, laterSeal, .int _, nice_int 10 1,
              fun hb' => absurd (hbN.symm.trans hb') (by decide), fun _ H20 D20 f20 => ?_⟩
            have D20 : DiskAt Z.Disk (0 + 1) H20 d l q' ls' [laterD] := D20
            have S20 := (S18.keep f19 List.not_mem_nil).keep f20 (by simpa using sd.2.2)
            obtain ⟨sx20, hs20⟩ := S20.ok
            have hbS : badN (0 + 1) (wholes ls' [laterD]) = false := by
              rw [badN_of (by omega), wholes_later, bad_snoc laterU, hb]
            have hpr1 : ∀ e ∈ [laterD], IsPr e := fun e he => by
              rw [List.mem_singleton.mp he]
              exact laterU.pr
            walk_at "st"
            refine ⟨0 + 1, s1, d, l, q', ls', [laterD], rfl, S20, D20, by decide, by omega, htr, hpr1, fun hb' => absurd (hbS.symm.trans hb') (by decide), fun _ H21 q2 hq2 D21 f21 => ?_⟩
            obtain ⟨dx21, hd21⟩ := D21.ok
            walk_at "st"
            refine st_dget2 ?_
            walk_at "st"
            intro s3 sx3 hs30 hsx30 sxs3
            refine ⟨s3, sx3, d, rfl, upd_same, fun H22 S22 f22 => ⟨rfl, ?_⟩⟩
            have F22 := made hs30 hsx30 sxs3 f22
            obtain ⟨sx22, hs22⟩ := S22.ok
            walk_at "st"
            refine ⟨0 + 1, s3, d, l, q2, _, [], rfl, S22, D21.keep F22 List.not_mem_nil List.not_mem_nil List.not_mem_nil, ?_, fun e he => ?_, (fun _ h => nomatch h), fun hb' => ?_, fun _ H23 pf3 _ tf3 f23 => ?_⟩
            · simp only [List.length_append, List.length_map, List.length_cons, List.length_nil]
              omega
            · rcases List.mem_append.mp he with he | he
              · exact htr e he
              · obtain ⟨x, hx, rfl⟩ := List.mem_map.mp he
                rcases List.mem_append.mp hx with hx | hx
                · exact trip_tr (hpr1 x hx)
                · rw [List.mem_singleton.mp hx]; exact trip_tr (sealPr _)
            · rw [badN_of (by omega), bad_later] at hb'
              exact nomatch hb'
            obtain ⟨kvs, hk3, tk3⟩ := tf3
            walk_at "st"
            refine ⟨pf3, rfl, .inr ⟨kvs, .inl hk3⟩, ?_⟩
            walk_at "st"
            intro t2 ht2
            walk_at "st"
            refine ⟨_, DGet.t (k := [Sum.inr "later"]) (upd_old ht2 hk3) upd_same, ?_⟩
            rcases KD.look tk3 [Sum.inr "later"] with ⟨n1, _⟩ | ⟨v, dd, l1, l2, tv⟩
            · rw [tab_later] at n1
              exact nomatch n1
            · rw [tab_later] at l1
              cases l1
              cases tv
              rw [l2]
              walk_at "st"
              exact k _
          | true =>
            rw [hb] at hbN
            walk_at "st"
            intro s2 sx2 hs0 hsx0 sxs
            refine ⟨s2, sx2, d, rfl, upd_same, fun H14 S14 f14 => ⟨rfl, ?_⟩⟩
            have F14 := made hs0 hsx0 sxs f14
            walk_at "st"
            intro u hu
            have F15 : Fr [] H13 (upd H14 u (.tup [.ref s1, .ref s2])) := F14.new hu
            have S15 := S13.keep F15 List.not_mem_nil
            have Z15 := S14.keep (Fr.up (o := .tup [.ref s1, .ref s2]) hu) List.not_mem_nil
            have D15 := D13.keep F15 List.not_mem_nil List.not_mem_nil List.not_mem_nil
            have hT15 := hT13.ext F15.same
            have hv15 := F15.same _ _ hv3'
            have hu15 : upd H14 u (.tup [.ref s1, .ref s2]) u = some (.tup [.ref s1, .ref s2]) := upd_same
            generalize upd H14 u (.tup [.ref s1, .ref s2]) = H15 at F15 S15 Z15 D15 hT15 hv15 hu15 ⊢
            walk_at "st"
            have wk : ∀ x ∈ [V.ref s1, V.ref s2], ∃ s, x = .ref s ∧ StoreAt Z.Store H15 s d := fun x hx => by
              simp only [List.mem_cons, List.not_mem_nil, or_false] at hx
              rcases hx with rfl | rfl
              · exact ⟨_, rfl, S15⟩
              · exact ⟨_, rfl, Z15⟩
            refine for_it (walk_tup (xs := [V.ref s1, V.ref s2])) (fun i σ H' => ∃ o9, σ = [some (.ref a), some (.ref p), some (.ref d), some (.ref v3), some (.ref D), some (.int (j : Nat)), some (.ref s1), some (.ref D2), some (.bl true), o9, none, none] ∧ ExtN H15 H' ∧ Tabs Tb H')
              ⟨none, rfl, ExtN.refl _, hT15⟩ (fun i σ H' _ ⟨_, _, e, _⟩ => SqT.of (e _ _ hu15 (fun _ z => nomatch z))) ?_ ?_
            · rintro i x σ H16 H17 hi ⟨o9, rfl, e16, hT16⟩ ⟨rfl, hx⟩
              obtain ⟨s, rfl, Ss⟩ := wk x (List.mem_of_getElem? hx)
              have S16 := Ss.extN e16
              have D16 := D15.extN e16
              walk_at "st"
              refine ⟨0 + 1, s, d, l, q', ls', [], rfl, S16, D16, by simp; omega, htr, (fun _ h => nomatch h), hbN, hT16, fun H18 w e18 hT18 hw => ?_⟩
              walk_at "st"
              intro w1 hw1
              have hS18 : SqL K H18 w [V.str "spoilt", V.str "spoilt", V.str "spoilt"] := SqL.of hw
              refine st_c ?_
              refine ⟨w1, 3, [.str "spoilt"], rfl, rfl, upd_same, by decide, by decide, by decide, fun w2 hw2 => ?_⟩
              have f20 : Fr [] H18 _ := (Fr.up (o := .lst [V.str "spoilt"]) hw1).new (o := .lst (List.replicate (Int.toNat 3) [V.str "spoilt"]).flatten) hw2
              refine ⟨.list [.str "spoilt", .str "spoilt", .str "spoilt"], .list [.str "spoilt", .str "spoilt", .str "spoilt"], .lst (SqL.of (f20.same _ _ hw)) (.cons (.str _) (.cons (.str _) (.cons (.str _) .nil))), .lst (SqL.of upd_same) (.cons (.str _) (.cons (.str _) (.cons (.str _) .nil))), by decide +kernel, by decide +kernel, ?_⟩
              rw [show PyData.eqv (.list [.str "spoilt", .str "spoilt", .str "spoilt"]) (.list [.str "spoilt", .str "spoilt", .str "spoilt"]) = true by decide +kernel]
              have e20 : ExtN H15 _ := (e16.trans e18).trans (extN_fr f20)
              have hT20 := hT18.ext f20.same
              clear f20 hw2 hw1 hS18 hw
              generalize upd (upd H18 w1 (HO.lst [V.str "spoilt"])) w2 (HO.lst (List.replicate (Int.toNat 3) [V.str "spoilt"]).flatten) = H20 at e20 hT20 ⊢
              walk_at "st"
              refine ⟨hT20, fun H21 e21 hT21 => ?_⟩
              have S21 := Ss.extN (e20.trans e21)
              have D21 := D15.extN (e20.trans e21)
              obtain ⟨sx21, hs21⟩ := S21.ok
              unfold TWord
              walk_at "st"
              intro t ht
              have f22 : Fr [] H21 (upd H21 t (.tup [.str "later"])) := Fr.up ht
              have hs22 := f22.same _ _ hs21
              walk_at "st"
              refine ⟨0 + 1, s, d, l, q', ls', [], _, _, laterK, .int 1, rfl, S21.keep f22 List.not_mem_nil, D21.keep f22 List.not_mem_nil List.not_mem_nil List.not_mem_nil, by simp; omega, htr, (fun _ h => nomatch h), .tup upd_same (.cons (.str _) .nil), laterKey, laterSeal, .int _, nice_int 10 1,
                fun _ H23 f23 => ⟨rfl, rfl, ?_⟩, fun h => absurd (hbN.symm.trans h) (by decide)⟩
              have e23 := (e20.trans e21).trans (extN_fr (f22.trans f23))
              have hT23 := (hT21.ext f22.same).ext f23.same
              iterate 3 walk_at "st1"
              refine iteDN (fun _ => ?_) (fun h => absurd rfl h)
              walk_at "st"
              refine ⟨hT23, fun H24 e24 hT24 => ?_⟩
              have S24 := Ss.extN (e23.trans e24)
              have D24 := D15.extN (e23.trans e24)
              obtain ⟨sx24, hs24⟩ := S24.ok
              walk_at "st"
              refine ⟨0 + 1, s, d, l, q', ls', [], rfl, S24, D24, by simp, by omega, htr, (fun _ h => nomatch h),
                fun _ H25 f25 => ⟨rfl, rfl, ?_⟩, fun h => absurd (hbN.symm.trans h) (by decide)⟩
              have e25 := (e23.trans e24).trans (extN_fr f25)
              have hT25 := hT24.ext f25.same
              iterate 3 walk_at "st1"
              refine iteDN (fun _ => ?_) (fun h => absurd rfl h)
              walk_at "st"
              exact ⟨_, rfl, e25, hT25⟩
            · rintro σ H16 ⟨o9, rfl, e16, hT16⟩
              have D16 := D15.extN e16
              have hv16 := e16 _ _ hv15 (fun _ z => nomatch z)
              obtain ⟨dx16, hd16⟩ := D16.ok
              walk_at "st"
              refine ⟨0 + 1, d, l, q', ls', [], rfl, D16, fun H17 pw xw _ hpw tw f17 => ?_⟩
              have hv17 := f17.same _ _ hv16
              have D17 := D16.keep f17 List.not_mem_nil List.not_mem_nil List.not_mem_nil
              have hd17 := f17.same _ _ hd16
              have hlw : xw.length = xs'.length := by rw [tw.length, hxe]
              walk_at "st"
              refine iteD (fun _ => ?_) (fun h => absurd (by rw [hlw]) h)
              walk_at "st"
              refine ⟨0 + 1, d, l, q', ls', [], rfl, D17, ?_⟩
              walk_at "st"
              exact k _
end
end K42

namespace K42
open PySem PySem.Spec PyProof.Rows L2 Hq
theorem all_mk {q : Program} {l : PySem.W.OpenLaw} {w : World} {K : PySem.W.Frag} {h : Heap} {mg : Str → Option Value} {fa : Addr} (X : K.In h) (G : h.Ns mainGlobals mg) (own : OwnTabs q K mg h) (hfa : mg "law" = some (.ref fa))
    {C_Disk : Addr}
    {C_Store : Addr}
    {C_Exchange : Addr}
    {C_RunError : Addr}
    {C_Spoilt : Addr}
    {f_is_integer : Addr} {od_is_integer an_is_integer : Option Addr} {sl_is_integer : Array (Option Value)} {oc_is_integer kV_is_integer dc_is_integer pm_is_integer cd_is_integer ct_is_integer : Value}
    {f_is_between : Addr} {od_is_between an_is_between : Option Addr} {sl_is_between : Array (Option Value)} {oc_is_between kV_is_between dc_is_between pm_is_between cd_is_between ct_is_between : Value}
    {f_is_number : Addr} {od_is_number an_is_number : Option Addr} {sl_is_number : Array (Option Value)} {oc_is_number kV_is_number dc_is_number pm_is_number cd_is_number ct_is_number : Value}
    {f_is_tuple : Addr} {od_is_tuple an_is_tuple : Option Addr} {sl_is_tuple : Array (Option Value)} {oc_is_tuple kV_is_tuple dc_is_tuple pm_is_tuple cd_is_tuple ct_is_tuple : Value}
    {f_is_key : Addr} {od_is_key an_is_key : Option Addr} {sl_is_key : Array (Option Value)} {oc_is_key kV_is_key dc_is_key pm_is_key cd_is_key ct_is_key : Value}
    {f_is_kept : Addr} {od_is_kept an_is_kept : Option Addr} {sl_is_kept : Array (Option Value)} {oc_is_kept kV_is_kept dc_is_kept pm_is_kept cd_is_kept ct_is_kept : Value}
    {f_Disk___init__ : Addr} {od_Disk___init__ an_Disk___init__ : Option Addr} {sl_Disk___init__ : Array (Option Value)} {oc_Disk___init__ kV_Disk___init__ dc_Disk___init__ pm_Disk___init__ cd_Disk___init__ ct_Disk___init__ : Value}
    {f_Disk_write : Addr} {od_Disk_write an_Disk_write : Option Addr} {sl_Disk_write : Array (Option Value)} {oc_Disk_write kV_Disk_write dc_Disk_write pm_Disk_write cd_Disk_write ct_Disk_write : Value}
    {f_Disk_sync : Addr} {od_Disk_sync an_Disk_sync : Option Addr} {sl_Disk_sync : Array (Option Value)} {oc_Disk_sync kV_Disk_sync dc_Disk_sync pm_Disk_sync cd_Disk_sync ct_Disk_sync : Value}
    {f_Disk_fall : Addr} {od_Disk_fall an_Disk_fall : Option Addr} {sl_Disk_fall : Array (Option Value)} {oc_Disk_fall kV_Disk_fall dc_Disk_fall pm_Disk_fall cd_Disk_fall ct_Disk_fall : Value}
    {f_Disk_spoil : Addr} {od_Disk_spoil an_Disk_spoil : Option Addr} {sl_Disk_spoil : Array (Option Value)} {oc_Disk_spoil kV_Disk_spoil dc_Disk_spoil pm_Disk_spoil cd_Disk_spoil ct_Disk_spoil : Value}
    {f_Disk_words : Addr} {od_Disk_words an_Disk_words : Option Addr} {sl_Disk_words : Array (Option Value)} {oc_Disk_words kV_Disk_words dc_Disk_words pm_Disk_words cd_Disk_words ct_Disk_words : Value}
    {f_Disk_waiting : Addr} {od_Disk_waiting an_Disk_waiting : Option Addr} {sl_Disk_waiting : Array (Option Value)} {oc_Disk_waiting kV_Disk_waiting dc_Disk_waiting pm_Disk_waiting cd_Disk_waiting ct_Disk_waiting : Value}
    {f_Disk_wholes : Addr} {od_Disk_wholes an_Disk_wholes : Option Addr} {sl_Disk_wholes : Array (Option Value)} {oc_Disk_wholes kV_Disk_wholes dc_Disk_wholes pm_Disk_wholes cd_Disk_wholes ct_Disk_wholes : Value}
    {f_RunError___init__ : Addr} {od_RunError___init__ an_RunError___init__ : Option Addr} {sl_RunError___init__ : Array (Option Value)} {oc_RunError___init__ kV_RunError___init__ dc_RunError___init__ pm_RunError___init__ cd_RunError___init__ ct_RunError___init__ : Value}
    {f_Store___init__ : Addr} {od_Store___init__ an_Store___init__ : Option Addr} {sl_Store___init__ : Array (Option Value)} {oc_Store___init__ kV_Store___init__ dc_Store___init__ pm_Store___init__ cd_Store___init__ ct_Store___init__ : Value}
    {f_Store_check : Addr} {od_Store_check an_Store_check : Option Addr} {sl_Store_check : Array (Option Value)} {oc_Store_check kV_Store_check dc_Store_check pm_Store_check cd_Store_check ct_Store_check : Value}
    {f_Store_keep : Addr} {od_Store_keep an_Store_keep : Option Addr} {sl_Store_keep : Array (Option Value)} {oc_Store_keep kV_Store_keep dc_Store_keep pm_Store_keep cd_Store_keep ct_Store_keep : Value}
    {f_Store_seal : Addr} {od_Store_seal an_Store_seal : Option Addr} {sl_Store_seal : Array (Option Value)} {oc_Store_seal kV_Store_seal dc_Store_seal pm_Store_seal cd_Store_seal ct_Store_seal : Value}
    {f_Store_found : Addr} {od_Store_found an_Store_found : Option Addr} {sl_Store_found : Array (Option Value)} {oc_Store_found kV_Store_found dc_Store_found pm_Store_found cd_Store_found ct_Store_found : Value}
    {f_Store_row : Addr} {od_Store_row an_Store_row : Option Addr} {sl_Store_row : Array (Option Value)} {oc_Store_row kV_Store_row dc_Store_row pm_Store_row cd_Store_row ct_Store_row : Value}
    {f_Store_picture : Addr} {od_Store_picture an_Store_picture : Option Addr} {sl_Store_picture : Array (Option Value)} {oc_Store_picture kV_Store_picture dc_Store_picture pm_Store_picture cd_Store_picture ct_Store_picture : Value}
    {f_law_pot : Addr} {od_law_pot an_law_pot : Option Addr} {sl_law_pot : Array (Option Value)} {oc_law_pot kV_law_pot dc_law_pot pm_law_pot cd_law_pot ct_law_pot : Value}
    {f_law_draw : Addr} {od_law_draw an_law_draw : Option Addr} {sl_law_draw : Array (Option Value)} {oc_law_draw kV_law_draw dc_law_draw pm_law_draw cd_law_draw ct_law_draw : Value}
    {f_law_any : Addr} {od_law_any an_law_any : Option Addr} {sl_law_any : Array (Option Value)} {oc_law_any kV_law_any dc_law_any pm_law_any cd_law_any ct_law_any : Value}
    {f_law_key : Addr} {od_law_key an_law_key : Option Addr} {sl_law_key : Array (Option Value)} {oc_law_key kV_law_key dc_law_key pm_law_key cd_law_key ct_law_key : Value}
    {f_law_thing : Addr} {od_law_thing an_law_thing : Option Addr} {sl_law_thing : Array (Option Value)} {oc_law_thing kV_law_thing dc_law_thing pm_law_thing cd_law_thing ct_law_thing : Value}
    {f_law_fallen : Addr} {od_law_fallen an_law_fallen : Option Addr} {sl_law_fallen : Array (Option Value)} {oc_law_fallen kV_law_fallen dc_law_fallen pm_law_fallen cd_law_fallen ct_law_fallen : Value}
    {f_law_last : Addr} {od_law_last an_law_last : Option Addr} {sl_law_last : Array (Option Value)} {oc_law_last kV_law_last dc_law_last pm_law_last cd_law_last ct_law_last : Value}
    {f_law_written : Addr} {od_law_written an_law_written : Option Addr} {sl_law_written : Array (Option Value)} {oc_law_written kV_law_written dc_law_written pm_law_written cd_law_written ct_law_written : Value}
    {f_law_word : Addr} {od_law_word an_law_word : Option Addr} {sl_law_word : Array (Option Value)} {oc_law_word kV_law_word dc_law_word pm_law_word cd_law_word ct_law_word : Value}
    {f_law_words : Addr} {od_law_words an_law_words : Option Addr} {sl_law_words : Array (Option Value)} {oc_law_words kV_law_words dc_law_words pm_law_words ct_law_words : Value}
    {f_law : Addr} {od_law an_law : Option Addr} {sl_law : Array (Option Value)} {oc_law kV_law dc_law pm_law ct_law : Value}
    {t_LOST : Tok}
    {t_WHOLE : Tok}
    {t_SEAL : Tok}
    {xnm_Spoilt : _} {xq_Spoilt : _} {xN_Spoilt : _} {xbs_Spoilt : _} {xbm_Spoilt : _} {xsn_Spoilt : _} {xsub_Spoilt : _} {xab_Spoilt : _} {xcol_Spoilt : _} {xdd_Spoilt : _} {xk0_Spoilt : _} {xk1_Spoilt : _} {xk2_Spoilt : _} {xk3_Spoilt : _} {xk5_Spoilt : _}
    {cc_law_words P_law_words : Addr} {te_law_words : Value} {td_law_words : Option Addr} {tv_law_words : Array Value} {ts_law_words : Array (Option Value)}
    {cc_law P_law : Addr} {te_law : Value} {td_law : Option Addr} {tv_law : Array Value} {ts_law : Array (Option Value)}
    (aC_Disk : PySem.W.nsIn K mainGlobals "Disk" = some (some (.ref C_Disk)))
    (pg_Disk : PySem.W.plainGet K C_Disk Str.empty = true)
    (hd_Disk : PySem.W.hasDictIn K C_Disk = true)
    (po_Disk : PySem.W.plainOver K C_Disk = true)
    (sa_Disk : PySem.W.findIn K (.ref C_Disk) "__setattr__" = some (some (.builtin "object.__setattr__")))
    (mk_Disk : PySem.W.makesIn K C_Disk = true)
    (kc_Disk : PySem.W.keepIn K (.ref C_Disk) = true)
    (aC_Store : PySem.W.nsIn K mainGlobals "Store" = some (some (.ref C_Store)))
    (pg_Store : PySem.W.plainGet K C_Store Str.empty = true)
    (hd_Store : PySem.W.hasDictIn K C_Store = true)
    (po_Store : PySem.W.plainOver K C_Store = true)
    (sa_Store : PySem.W.findIn K (.ref C_Store) "__setattr__" = some (some (.builtin "object.__setattr__")))
    (mk_Store : PySem.W.makesIn K C_Store = true)
    (kc_Store : PySem.W.keepIn K (.ref C_Store) = true)
    (aC_Exchange : PySem.W.nsIn K mainGlobals "Exchange" = some (some (.ref C_Exchange)))
    (aC_RunError : PySem.W.nsIn K mainGlobals "RunError" = some (some (.ref C_RunError)))
    (aC_Spoilt : PySem.W.nsIn K mainGlobals "Spoilt" = some (some (.ref C_Spoilt)))
    (a_is_integer : PySem.W.nsIn K mainGlobals "is_integer" = some (some (.ref f_is_integer)))
    (l_is_integer : K.lookup f_is_integer = some ⟨oc_is_integer, od_is_integer, .func (PySem.W.fnOf "is_integer" "is_integer" (defArgs s_is_integer) (defBody s_is_integer) (defScope s_is_integer) .none kV_is_integer dc_is_integer pm_is_integer an_is_integer cd_is_integer ct_is_integer), sl_is_integer⟩)
    (c_is_integer : PySem.W.codeIn K cd_is_integer "is_integer" = true)
    (k_is_integer : PySem.W.keepIn K (.ref f_is_integer) = true)
    (a_is_between : PySem.W.nsIn K mainGlobals "is_between" = some (some (.ref f_is_between)))
    (l_is_between : K.lookup f_is_between = some ⟨oc_is_between, od_is_between, .func (PySem.W.fnOf "is_between" "is_between" (defArgs s_is_between) (defBody s_is_between) (defScope s_is_between) .none kV_is_between dc_is_between pm_is_between an_is_between cd_is_between ct_is_between), sl_is_between⟩)
    (c_is_between : PySem.W.codeIn K cd_is_between "is_between" = true)
    (k_is_between : PySem.W.keepIn K (.ref f_is_between) = true)
    (a_is_number : PySem.W.nsIn K mainGlobals "is_number" = some (some (.ref f_is_number)))
    (l_is_number : K.lookup f_is_number = some ⟨oc_is_number, od_is_number, .func (PySem.W.fnOf "is_number" "is_number" (defArgs s_is_number) (defBody s_is_number) (defScope s_is_number) .none kV_is_number dc_is_number pm_is_number an_is_number cd_is_number ct_is_number), sl_is_number⟩)
    (c_is_number : PySem.W.codeIn K cd_is_number "is_number" = true)
    (k_is_number : PySem.W.keepIn K (.ref f_is_number) = true)
    (a_is_tuple : PySem.W.nsIn K mainGlobals "is_tuple" = some (some (.ref f_is_tuple)))
    (l_is_tuple : K.lookup f_is_tuple = some ⟨oc_is_tuple, od_is_tuple, .func (PySem.W.fnOf "is_tuple" "is_tuple" (defArgs s_is_tuple) (defBody s_is_tuple) (defScope s_is_tuple) .none kV_is_tuple dc_is_tuple pm_is_tuple an_is_tuple cd_is_tuple ct_is_tuple), sl_is_tuple⟩)
    (c_is_tuple : PySem.W.codeIn K cd_is_tuple "is_tuple" = true)
    (k_is_tuple : PySem.W.keepIn K (.ref f_is_tuple) = true)
    (a_is_key : PySem.W.nsIn K mainGlobals "is_key" = some (some (.ref f_is_key)))
    (l_is_key : K.lookup f_is_key = some ⟨oc_is_key, od_is_key, .func (PySem.W.fnOf "is_key" "is_key" (defArgs s_is_key) (defBody s_is_key) (defScope s_is_key) .none kV_is_key dc_is_key pm_is_key an_is_key cd_is_key ct_is_key), sl_is_key⟩)
    (c_is_key : PySem.W.codeIn K cd_is_key "is_key" = true)
    (k_is_key : PySem.W.keepIn K (.ref f_is_key) = true)
    (a_is_kept : PySem.W.nsIn K mainGlobals "is_kept" = some (some (.ref f_is_kept)))
    (l_is_kept : K.lookup f_is_kept = some ⟨oc_is_kept, od_is_kept, .func (PySem.W.fnOf "is_kept" "is_kept" (defArgs s_is_kept) (defBody s_is_kept) (defScope s_is_kept) .none kV_is_kept dc_is_kept pm_is_kept an_is_kept cd_is_kept ct_is_kept), sl_is_kept⟩)
    (c_is_kept : PySem.W.codeIn K cd_is_kept "is_kept" = true)
    (k_is_kept : PySem.W.keepIn K (.ref f_is_kept) = true)
    (a_Disk___init__ : PySem.W.findIn K (.ref C_Disk) "__init__" = some (some (.ref f_Disk___init__)))
    (i_Disk___init__ : PySem.W.isFn K (.ref f_Disk___init__) = true)
    (l_Disk___init__ : K.lookup f_Disk___init__ = some ⟨oc_Disk___init__, od_Disk___init__, .func (PySem.W.fnOf "__init__" "Disk.__init__" (defArgs s_Disk___init__) (defBody s_Disk___init__) (defScope s_Disk___init__) .none kV_Disk___init__ dc_Disk___init__ pm_Disk___init__ an_Disk___init__ cd_Disk___init__ ct_Disk___init__), sl_Disk___init__⟩)
    (c_Disk___init__ : PySem.W.codeIn K cd_Disk___init__ "Disk.__init__" = true)
    (k_Disk___init__ : PySem.W.keepIn K (.ref f_Disk___init__) = true)
    (a_Disk_write : PySem.W.findIn K (.ref C_Disk) "write" = some (some (.ref f_Disk_write)))
    (i_Disk_write : PySem.W.isFn K (.ref f_Disk_write) = true)
    (l_Disk_write : K.lookup f_Disk_write = some ⟨oc_Disk_write, od_Disk_write, .func (PySem.W.fnOf "write" "Disk.write" (defArgs s_Disk_write) (defBody s_Disk_write) (defScope s_Disk_write) .none kV_Disk_write dc_Disk_write pm_Disk_write an_Disk_write cd_Disk_write ct_Disk_write), sl_Disk_write⟩)
    (c_Disk_write : PySem.W.codeIn K cd_Disk_write "Disk.write" = true)
    (k_Disk_write : PySem.W.keepIn K (.ref f_Disk_write) = true)
    (a_Disk_sync : PySem.W.findIn K (.ref C_Disk) "sync" = some (some (.ref f_Disk_sync)))
    (i_Disk_sync : PySem.W.isFn K (.ref f_Disk_sync) = true)
    (l_Disk_sync : K.lookup f_Disk_sync = some ⟨oc_Disk_sync, od_Disk_sync, .func (PySem.W.fnOf "sync" "Disk.sync" (defArgs s_Disk_sync) (defBody s_Disk_sync) (defScope s_Disk_sync) .none kV_Disk_sync dc_Disk_sync pm_Disk_sync an_Disk_sync cd_Disk_sync ct_Disk_sync), sl_Disk_sync⟩)
    (c_Disk_sync : PySem.W.codeIn K cd_Disk_sync "Disk.sync" = true)
    (k_Disk_sync : PySem.W.keepIn K (.ref f_Disk_sync) = true)
    (a_Disk_fall : PySem.W.findIn K (.ref C_Disk) "fall" = some (some (.ref f_Disk_fall)))
    (i_Disk_fall : PySem.W.isFn K (.ref f_Disk_fall) = true)
    (l_Disk_fall : K.lookup f_Disk_fall = some ⟨oc_Disk_fall, od_Disk_fall, .func (PySem.W.fnOf "fall" "Disk.fall" (defArgs s_Disk_fall) (defBody s_Disk_fall) (defScope s_Disk_fall) .none kV_Disk_fall dc_Disk_fall pm_Disk_fall an_Disk_fall cd_Disk_fall ct_Disk_fall), sl_Disk_fall⟩)
    (c_Disk_fall : PySem.W.codeIn K cd_Disk_fall "Disk.fall" = true)
    (k_Disk_fall : PySem.W.keepIn K (.ref f_Disk_fall) = true)
    (a_Disk_spoil : PySem.W.findIn K (.ref C_Disk) "spoil" = some (some (.ref f_Disk_spoil)))
    (i_Disk_spoil : PySem.W.isFn K (.ref f_Disk_spoil) = true)
    (l_Disk_spoil : K.lookup f_Disk_spoil = some ⟨oc_Disk_spoil, od_Disk_spoil, .func (PySem.W.fnOf "spoil" "Disk.spoil" (defArgs s_Disk_spoil) (defBody s_Disk_spoil) (defScope s_Disk_spoil) .none kV_Disk_spoil dc_Disk_spoil pm_Disk_spoil an_Disk_spoil cd_Disk_spoil ct_Disk_spoil), sl_Disk_spoil⟩)
    (c_Disk_spoil : PySem.W.codeIn K cd_Disk_spoil "Disk.spoil" = true)
    (k_Disk_spoil : PySem.W.keepIn K (.ref f_Disk_spoil) = true)
    (a_Disk_words : PySem.W.findIn K (.ref C_Disk) "words" = some (some (.ref f_Disk_words)))
    (i_Disk_words : PySem.W.isFn K (.ref f_Disk_words) = true)
    (l_Disk_words : K.lookup f_Disk_words = some ⟨oc_Disk_words, od_Disk_words, .func (PySem.W.fnOf "words" "Disk.words" (defArgs s_Disk_words) (defBody s_Disk_words) (defScope s_Disk_words) .none kV_Disk_words dc_Disk_words pm_Disk_words an_Disk_words cd_Disk_words ct_Disk_words), sl_Disk_words⟩)
    (c_Disk_words : PySem.W.codeIn K cd_Disk_words "Disk.words" = true)
    (k_Disk_words : PySem.W.keepIn K (.ref f_Disk_words) = true)
    (a_Disk_waiting : PySem.W.findIn K (.ref C_Disk) "waiting" = some (some (.ref f_Disk_waiting)))
    (i_Disk_waiting : PySem.W.isFn K (.ref f_Disk_waiting) = true)
    (l_Disk_waiting : K.lookup f_Disk_waiting = some ⟨oc_Disk_waiting, od_Disk_waiting, .func (PySem.W.fnOf "waiting" "Disk.waiting" (defArgs s_Disk_waiting) (defBody s_Disk_waiting) (defScope s_Disk_waiting) .none kV_Disk_waiting dc_Disk_waiting pm_Disk_waiting an_Disk_waiting cd_Disk_waiting ct_Disk_waiting), sl_Disk_waiting⟩)
    (c_Disk_waiting : PySem.W.codeIn K cd_Disk_waiting "Disk.waiting" = true)
    (k_Disk_waiting : PySem.W.keepIn K (.ref f_Disk_waiting) = true)
    (a_Disk_wholes : PySem.W.findIn K (.ref C_Disk) "wholes" = some (some (.ref f_Disk_wholes)))
    (i_Disk_wholes : PySem.W.isFn K (.ref f_Disk_wholes) = true)
    (l_Disk_wholes : K.lookup f_Disk_wholes = some ⟨oc_Disk_wholes, od_Disk_wholes, .func (PySem.W.fnOf "wholes" "Disk.wholes" (defArgs s_Disk_wholes) (defBody s_Disk_wholes) (defScope s_Disk_wholes) .none kV_Disk_wholes dc_Disk_wholes pm_Disk_wholes an_Disk_wholes cd_Disk_wholes ct_Disk_wholes), sl_Disk_wholes⟩)
    (c_Disk_wholes : PySem.W.codeIn K cd_Disk_wholes "Disk.wholes" = true)
    (k_Disk_wholes : PySem.W.keepIn K (.ref f_Disk_wholes) = true)
    (a_RunError___init__ : PySem.W.findIn K (.ref C_RunError) "__init__" = some (some (.ref f_RunError___init__)))
    (i_RunError___init__ : PySem.W.isFn K (.ref f_RunError___init__) = true)
    (l_RunError___init__ : K.lookup f_RunError___init__ = some ⟨oc_RunError___init__, od_RunError___init__, .func (PySem.W.fnOf "__init__" "RunError.__init__" (defArgs s_RunError___init__) (defBody s_RunError___init__) (defScope s_RunError___init__) .none kV_RunError___init__ dc_RunError___init__ pm_RunError___init__ an_RunError___init__ cd_RunError___init__ ct_RunError___init__), sl_RunError___init__⟩)
    (c_RunError___init__ : PySem.W.codeIn K cd_RunError___init__ "RunError.__init__" = true)
    (k_RunError___init__ : PySem.W.keepIn K (.ref f_RunError___init__) = true)
    (a_Store___init__ : PySem.W.findIn K (.ref C_Store) "__init__" = some (some (.ref f_Store___init__)))
    (i_Store___init__ : PySem.W.isFn K (.ref f_Store___init__) = true)
    (l_Store___init__ : K.lookup f_Store___init__ = some ⟨oc_Store___init__, od_Store___init__, .func (PySem.W.fnOf "__init__" "Store.__init__" (defArgs s_Store___init__) (defBody s_Store___init__) (defScope s_Store___init__) .none kV_Store___init__ dc_Store___init__ pm_Store___init__ an_Store___init__ cd_Store___init__ ct_Store___init__), sl_Store___init__⟩)
    (c_Store___init__ : PySem.W.codeIn K cd_Store___init__ "Store.__init__" = true)
    (k_Store___init__ : PySem.W.keepIn K (.ref f_Store___init__) = true)
    (a_Store_check : PySem.W.findIn K (.ref C_Store) "check" = some (some (.ref f_Store_check)))
    (i_Store_check : PySem.W.isFn K (.ref f_Store_check) = true)
    (l_Store_check : K.lookup f_Store_check = some ⟨oc_Store_check, od_Store_check, .func (PySem.W.fnOf "check" "Store.check" (defArgs s_Store_check) (defBody s_Store_check) (defScope s_Store_check) .none kV_Store_check dc_Store_check pm_Store_check an_Store_check cd_Store_check ct_Store_check), sl_Store_check⟩)
    (c_Store_check : PySem.W.codeIn K cd_Store_check "Store.check" = true)
    (k_Store_check : PySem.W.keepIn K (.ref f_Store_check) = true)
    (a_Store_keep : PySem.W.findIn K (.ref C_Store) "keep" = some (some (.ref f_Store_keep)))
    (i_Store_keep : PySem.W.isFn K (.ref f_Store_keep) = true)
    (l_Store_keep : K.lookup f_Store_keep = some ⟨oc_Store_keep, od_Store_keep, .func (PySem.W.fnOf "keep" "Store.keep" (defArgs s_Store_keep) (defBody s_Store_keep) (defScope s_Store_keep) .none kV_Store_keep dc_Store_keep pm_Store_keep an_Store_keep cd_Store_keep ct_Store_keep), sl_Store_keep⟩)
    (c_Store_keep : PySem.W.codeIn K cd_Store_keep "Store.keep" = true)
    (k_Store_keep : PySem.W.keepIn K (.ref f_Store_keep) = true)
    (a_Store_seal : PySem.W.findIn K (.ref C_Store) "seal" = some (some (.ref f_Store_seal)))
    (i_Store_seal : PySem.W.isFn K (.ref f_Store_seal) = true)
    (l_Store_seal : K.lookup f_Store_seal = some ⟨oc_Store_seal, od_Store_seal, .func (PySem.W.fnOf "seal" "Store.seal" (defArgs s_Store_seal) (defBody s_Store_seal) (defScope s_Store_seal) .none kV_Store_seal dc_Store_seal pm_Store_seal an_Store_seal cd_Store_seal ct_Store_seal), sl_Store_seal⟩)
    (c_Store_seal : PySem.W.codeIn K cd_Store_seal "Store.seal" = true)
    (k_Store_seal : PySem.W.keepIn K (.ref f_Store_seal) = true)
    (a_Store_found : PySem.W.findIn K (.ref C_Store) "found" = some (some (.ref f_Store_found)))
    (i_Store_found : PySem.W.isFn K (.ref f_Store_found) = true)
    (l_Store_found : K.lookup f_Store_found = some ⟨oc_Store_found, od_Store_found, .func (PySem.W.fnOf "found" "Store.found" (defArgs s_Store_found) (defBody s_Store_found) (defScope s_Store_found) .none kV_Store_found dc_Store_found pm_Store_found an_Store_found cd_Store_found ct_Store_found), sl_Store_found⟩)
    (c_Store_found : PySem.W.codeIn K cd_Store_found "Store.found" = true)
    (k_Store_found : PySem.W.keepIn K (.ref f_Store_found) = true)
    (a_Store_row : PySem.W.findIn K (.ref C_Store) "row" = some (some (.ref f_Store_row)))
    (i_Store_row : PySem.W.isFn K (.ref f_Store_row) = true)
    (l_Store_row : K.lookup f_Store_row = some ⟨oc_Store_row, od_Store_row, .func (PySem.W.fnOf "row" "Store.row" (defArgs s_Store_row) (defBody s_Store_row) (defScope s_Store_row) .none kV_Store_row dc_Store_row pm_Store_row an_Store_row cd_Store_row ct_Store_row), sl_Store_row⟩)
    (c_Store_row : PySem.W.codeIn K cd_Store_row "Store.row" = true)
    (k_Store_row : PySem.W.keepIn K (.ref f_Store_row) = true)
    (a_Store_picture : PySem.W.findIn K (.ref C_Store) "picture" = some (some (.ref f_Store_picture)))
    (i_Store_picture : PySem.W.isFn K (.ref f_Store_picture) = true)
    (l_Store_picture : K.lookup f_Store_picture = some ⟨oc_Store_picture, od_Store_picture, .func (PySem.W.fnOf "picture" "Store.picture" (defArgs s_Store_picture) (defBody s_Store_picture) (defScope s_Store_picture) .none kV_Store_picture dc_Store_picture pm_Store_picture an_Store_picture cd_Store_picture ct_Store_picture), sl_Store_picture⟩)
    (c_Store_picture : PySem.W.codeIn K cd_Store_picture "Store.picture" = true)
    (k_Store_picture : PySem.W.keepIn K (.ref f_Store_picture) = true)
    (a_law_pot : PySem.W.nsIn K mainGlobals "_law_pot" = some (some (.ref f_law_pot)))
    (l_law_pot : K.lookup f_law_pot = some ⟨oc_law_pot, od_law_pot, .func (PySem.W.fnOf "_law_pot" "_law_pot" (defArgs s_law_pot) (defBody s_law_pot) (defScope s_law_pot) .none kV_law_pot dc_law_pot pm_law_pot an_law_pot cd_law_pot ct_law_pot), sl_law_pot⟩)
    (c_law_pot : PySem.W.codeIn K cd_law_pot "_law_pot" = true)
    (k_law_pot : PySem.W.keepIn K (.ref f_law_pot) = true)
    (a_law_draw : PySem.W.nsIn K mainGlobals "_law_draw" = some (some (.ref f_law_draw)))
    (l_law_draw : K.lookup f_law_draw = some ⟨oc_law_draw, od_law_draw, .func (PySem.W.fnOf "_law_draw" "_law_draw" (defArgs s_law_draw) (defBody s_law_draw) (defScope s_law_draw) .none kV_law_draw dc_law_draw pm_law_draw an_law_draw cd_law_draw ct_law_draw), sl_law_draw⟩)
    (c_law_draw : PySem.W.codeIn K cd_law_draw "_law_draw" = true)
    (k_law_draw : PySem.W.keepIn K (.ref f_law_draw) = true)
    (a_law_any : PySem.W.nsIn K mainGlobals "_law_any" = some (some (.ref f_law_any)))
    (l_law_any : K.lookup f_law_any = some ⟨oc_law_any, od_law_any, .func (PySem.W.fnOf "_law_any" "_law_any" (defArgs s_law_any) (defBody s_law_any) (defScope s_law_any) .none kV_law_any dc_law_any pm_law_any an_law_any cd_law_any ct_law_any), sl_law_any⟩)
    (c_law_any : PySem.W.codeIn K cd_law_any "_law_any" = true)
    (k_law_any : PySem.W.keepIn K (.ref f_law_any) = true)
    (a_law_key : PySem.W.nsIn K mainGlobals "_law_key" = some (some (.ref f_law_key)))
    (l_law_key : K.lookup f_law_key = some ⟨oc_law_key, od_law_key, .func (PySem.W.fnOf "_law_key" "_law_key" (defArgs s_law_key) (defBody s_law_key) (defScope s_law_key) .none kV_law_key dc_law_key pm_law_key an_law_key cd_law_key ct_law_key), sl_law_key⟩)
    (c_law_key : PySem.W.codeIn K cd_law_key "_law_key" = true)
    (k_law_key : PySem.W.keepIn K (.ref f_law_key) = true)
    (a_law_thing : PySem.W.nsIn K mainGlobals "_law_thing" = some (some (.ref f_law_thing)))
    (l_law_thing : K.lookup f_law_thing = some ⟨oc_law_thing, od_law_thing, .func (PySem.W.fnOf "_law_thing" "_law_thing" (defArgs s_law_thing) (defBody s_law_thing) (defScope s_law_thing) .none kV_law_thing dc_law_thing pm_law_thing an_law_thing cd_law_thing ct_law_thing), sl_law_thing⟩)
    (c_law_thing : PySem.W.codeIn K cd_law_thing "_law_thing" = true)
    (k_law_thing : PySem.W.keepIn K (.ref f_law_thing) = true)
    (a_law_fallen : PySem.W.nsIn K mainGlobals "_law_fallen" = some (some (.ref f_law_fallen)))
    (l_law_fallen : K.lookup f_law_fallen = some ⟨oc_law_fallen, od_law_fallen, .func (PySem.W.fnOf "_law_fallen" "_law_fallen" (defArgs s_law_fallen) (defBody s_law_fallen) (defScope s_law_fallen) .none kV_law_fallen dc_law_fallen pm_law_fallen an_law_fallen cd_law_fallen ct_law_fallen), sl_law_fallen⟩)
    (c_law_fallen : PySem.W.codeIn K cd_law_fallen "_law_fallen" = true)
    (k_law_fallen : PySem.W.keepIn K (.ref f_law_fallen) = true)
    (a_law_last : PySem.W.nsIn K mainGlobals "_law_last" = some (some (.ref f_law_last)))
    (l_law_last : K.lookup f_law_last = some ⟨oc_law_last, od_law_last, .func (PySem.W.fnOf "_law_last" "_law_last" (defArgs s_law_last) (defBody s_law_last) (defScope s_law_last) .none kV_law_last dc_law_last pm_law_last an_law_last cd_law_last ct_law_last), sl_law_last⟩)
    (c_law_last : PySem.W.codeIn K cd_law_last "_law_last" = true)
    (k_law_last : PySem.W.keepIn K (.ref f_law_last) = true)
    (a_law_written : PySem.W.nsIn K mainGlobals "_law_written" = some (some (.ref f_law_written)))
    (l_law_written : K.lookup f_law_written = some ⟨oc_law_written, od_law_written, .func (PySem.W.fnOf "_law_written" "_law_written" (defArgs s_law_written) (defBody s_law_written) (defScope s_law_written) .none kV_law_written dc_law_written pm_law_written an_law_written cd_law_written ct_law_written), sl_law_written⟩)
    (c_law_written : PySem.W.codeIn K cd_law_written "_law_written" = true)
    (k_law_written : PySem.W.keepIn K (.ref f_law_written) = true)
    (a_law_word : PySem.W.nsIn K mainGlobals "_law_word" = some (some (.ref f_law_word)))
    (l_law_word : K.lookup f_law_word = some ⟨oc_law_word, od_law_word, .func (PySem.W.fnOf "_law_word" "_law_word" (defArgs s_law_word) (defBody s_law_word) (defScope s_law_word) .none kV_law_word dc_law_word pm_law_word an_law_word cd_law_word ct_law_word), sl_law_word⟩)
    (c_law_word : PySem.W.codeIn K cd_law_word "_law_word" = true)
    (k_law_word : PySem.W.keepIn K (.ref f_law_word) = true)
    (a_law_words : PySem.W.nsIn K mainGlobals "_law_words" = some (some (.ref f_law_words)))
    (l_law_words : K.lookup f_law_words = some ⟨oc_law_words, od_law_words, .func (PySem.W.fnOf "_law_words" "_law_words" (defArgs s_law_words) (defBody s_law_words) (defScope s_law_words) .none kV_law_words dc_law_words pm_law_words an_law_words (.ref cc_law_words) ct_law_words), sl_law_words⟩)
    (c_law_words : PySem.W.codeIn K (.ref cc_law_words) "_law_words" = true)
    (k_law_words : PySem.W.keepIn K (.ref f_law_words) = true)
    (a_law : PySem.W.nsIn K mainGlobals "law" = some (some (.ref f_law)))
    (l_law : K.lookup f_law = some ⟨oc_law, od_law, .func (PySem.W.fnOf "law" "law" (defArgs s_law) (defBody s_law) (defScope s_law) .none kV_law dc_law pm_law an_law (.ref cc_law) ct_law), sl_law⟩)
    (c_law : PySem.W.codeIn K (.ref cc_law) "law" = true)
    (k_law : PySem.W.keepIn K (.ref f_law) = true)
    (no_Disk_lying : PySem.W.findIn K (.ref C_Disk) "lying" = some none)
    (no_Disk_pending : PySem.W.findIn K (.ref C_Disk) "pending" = some none)
    (no_Disk_spoils : PySem.W.findIn K (.ref C_Disk) "spoils" = some none)
    (no_Store_disk : PySem.W.findIn K (.ref C_Store) "disk" = some none)
    (z_len : PySem.W.nsIn K mainGlobals "len" = some none)
    (z_int : PySem.W.nsIn K mainGlobals "int" = some none)
    (z_bool : PySem.W.nsIn K mainGlobals "bool" = some none)
    (z_str : PySem.W.nsIn K mainGlobals "str" = some none)
    (z_tuple : PySem.W.nsIn K mainGlobals "tuple" = some none)
    (z_list : PySem.W.nsIn K mainGlobals "list" = some none)
    (z_isinstance : PySem.W.nsIn K mainGlobals "isinstance" = some none)
    (z_all : PySem.W.nsIn K mainGlobals "all" = some none)
    (z_abs : PySem.W.nsIn K mainGlobals "abs" = some none)
    (z_sum : PySem.W.nsIn K mainGlobals "sum" = some none)
    (z_range : PySem.W.nsIn K mainGlobals "range" = some none)
    (z_zip : PySem.W.nsIn K mainGlobals "zip" = some none)
    (z_enumerate : PySem.W.nsIn K mainGlobals "enumerate" = some none)
    (z_ValueError : PySem.W.nsIn K mainGlobals "ValueError" = some none)
    (g_LOST : PySem.W.nsIn K mainGlobals "LOST" = some (some (.int 0 t_LOST)))
    (g_WHOLE : PySem.W.nsIn K mainGlobals "WHOLE" = some (some (.int 2 t_WHOLE)))
    (g_SEAL : PySem.W.nsIn K mainGlobals "SEAL" = some (some (.str "seal" t_SEAL)))
    (lo_Spoilt : K.lookup C_Spoilt = some (excClassObj xnm_Spoilt xq_Spoilt C_Spoilt xN_Spoilt xbs_Spoilt xbm_Spoilt true xsn_Spoilt xsub_Spoilt xab_Spoilt xcol_Spoilt xdd_Spoilt xk0_Spoilt xk1_Spoilt xk2_Spoilt xk3_Spoilt xk5_Spoilt "ValueError.__new__"))
    (rv_Spoilt : PySem.HandSPX.refsVE xbm_Spoilt = true)
    (xsa_Spoilt : PySem.W.findIn K (.ref C_Spoilt) "__setattr__" = some (some (.builtin "object.__setattr__")))
    (xbe_Spoilt : PySem.W.subIn K (.ref C_Spoilt) (.type "BaseException") = some true)
    (xty_Spoilt : PySem.W.typeIn K (.ref C_Spoilt) = some (.type "type"))
    (xk_Spoilt : PySem.W.keepIn K (.ref C_Spoilt) = true)
    (xga_Spoilt : PySem.W.findIn K (.ref C_Spoilt) "__getattribute__" = some (some (.builtin "BaseException.__getattribute__")))
    (xgt_Spoilt : PySem.W.findIn K (.ref C_Spoilt) "__getattr__" = some none)
    (xhd_Spoilt : PySem.W.hasDictIn K C_Spoilt = true)
    (xcl_Spoilt : PySem.W.findIn K (.ref C_Spoilt) "__class__" = some (some (.builtin "object.__class__")))
    (xmr_Spoilt : PySem.W.mroIn K C_Spoilt (.type "object") = some true)
    (xsp : PySem.W.specialIn K (.builtin "object.__class__") "__get__" = some (some (.builtin "getset_descriptor.__get__")))
    (xtk : PySem.W.takesIn K (.builtin "object.__class__") = some true)
    (xvV : PySem.W.findCls K (.type "ValueError") (.type "type") "__init__" = some (.val (.builtin "ValueError.__init__")))
    (lc_law_words : K.lookup cc_law_words = some ⟨te_law_words, td_law_words, .fields tv_law_words, ts_law_words⟩)
    (lv_law_words : tv_law_words[11]? = some (.ref P_law_words))
    (lh_law_words : PySem.W.codeHdIn K cc_law_words P_law_words = true)
    (lo_law_words : K.lookup P_law_words = none)
    (lr_law_words : ((recsOf q).any fun e => e.name == ("_law_words" : Str)) = true)
    (lc_law : K.lookup cc_law = some ⟨te_law, td_law, .fields tv_law, ts_law⟩)
    (lv_law : tv_law[11]? = some (.ref P_law))
    (lh_law : PySem.W.codeHdIn K cc_law P_law = true)
    (lo_law : K.lookup P_law = none)
    (lr_law : ((recsOf q).any fun e => e.name == ("law" : Str)) = true)
    (ne_law_words_law : P_law_words ≠ P_law)
    (ei_Spoilt : PySem.W.findIn K (.ref C_Spoilt) "__init__" = some (some (.ref f_RunError___init__)))
    (ty_RunError___init__ : PySem.W.typeIn K (.ref f_RunError___init__) = some (.type "function"))
    (x_em : PySem.W.exmOne K (.ref C_Spoilt) (.ref C_RunError) = some true)
    (x_ki : PySem.W.kitOne K (.ref C_Spoilt) (.ref C_Spoilt) = some true)
    : LamX.LawAtS l w K (L2.CX l.prog w) 16 63 "script" mg fa h := by
  have e := hfa.symm.trans (PySem.W.mg_of X G a_law)
  cases e
  have F_is_integer := fun_mk (st := s_is_integer) l_is_integer c_is_integer k_is_integer
  have b_is_integer := F_is_integer.binds (ps := ["thing"]) fun _ _ _ _ _ _ us hl => match us, hl with | [_], _ => rfl
  have F_is_between := fun_mk (st := s_is_between) l_is_between c_is_between k_is_between
  have b_is_between := F_is_between.binds (ps := ["thing", "least", "most"]) fun _ _ _ _ _ _ us hl => match us, hl with | [_, _, _], _ => rfl
  have F_is_number := fun_mk (st := s_is_number) l_is_number c_is_number k_is_number
  have b_is_number := F_is_number.binds (ps := ["thing"]) fun _ _ _ _ _ _ us hl => match us, hl with | [_], _ => rfl
  have F_is_tuple := fun_mk (st := s_is_tuple) l_is_tuple c_is_tuple k_is_tuple
  have b_is_tuple := F_is_tuple.binds (ps := ["thing", "least", "most"]) fun _ _ _ _ _ _ us hl => match us, hl with | [_, _, _], _ => rfl
  have F_is_key := fun_mk (st := s_is_key) l_is_key c_is_key k_is_key
  have b_is_key := F_is_key.binds (ps := ["thing"]) fun _ _ _ _ _ _ us hl => match us, hl with | [_], _ => rfl
  have F_is_kept := fun_mk (st := s_is_kept) l_is_kept c_is_kept k_is_kept
  have b_is_kept := F_is_kept.binds (ps := ["thing"]) fun _ _ _ _ _ _ us hl => match us, hl with | [_], _ => rfl
  have F_Disk___init__ := fun_mk (st := s_Disk___init__) l_Disk___init__ c_Disk___init__ k_Disk___init__
  have b_Disk___init__ := F_Disk___init__.binds (ps := ["self"]) fun _ _ _ _ _ _ us hl => match us, hl with | [_], _ => rfl
  have F_Disk_write := fun_mk (st := s_Disk_write) l_Disk_write c_Disk_write k_Disk_write
  have b_Disk_write := F_Disk_write.binds (ps := ["self", "key", "thing"]) fun _ _ _ _ _ _ us hl => match us, hl with | [_, _, _], _ => rfl
  have F_Disk_sync := fun_mk (st := s_Disk_sync) l_Disk_sync c_Disk_sync k_Disk_sync
  have b_Disk_sync := F_Disk_sync.binds (ps := ["self"]) fun _ _ _ _ _ _ us hl => match us, hl with | [_], _ => rfl
  have F_Disk_fall := fun_mk (st := s_Disk_fall) l_Disk_fall c_Disk_fall k_Disk_fall
  have b_Disk_fall := F_Disk_fall.binds (ps := ["self", "reached"]) fun _ _ _ _ _ _ us hl => match us, hl with | [_, _], _ => rfl
  have F_Disk_spoil := fun_mk (st := s_Disk_spoil) l_Disk_spoil c_Disk_spoil k_Disk_spoil
  have b_Disk_spoil := F_Disk_spoil.binds (ps := ["self", "at"]) fun _ _ _ _ _ _ us hl => match us, hl with | [_, _], _ => rfl
  have F_Disk_words := fun_mk (st := s_Disk_words) l_Disk_words c_Disk_words k_Disk_words
  have b_Disk_words := F_Disk_words.binds (ps := ["self"]) fun _ _ _ _ _ _ us hl => match us, hl with | [_], _ => rfl
  have F_Disk_waiting := fun_mk (st := s_Disk_waiting) l_Disk_waiting c_Disk_waiting k_Disk_waiting
  have b_Disk_waiting := F_Disk_waiting.binds (ps := ["self"]) fun _ _ _ _ _ _ us hl => match us, hl with | [_], _ => rfl
  have F_Disk_wholes := fun_mk (st := s_Disk_wholes) l_Disk_wholes c_Disk_wholes k_Disk_wholes
  have b_Disk_wholes := F_Disk_wholes.binds (ps := ["self"]) fun _ _ _ _ _ _ us hl => match us, hl with | [_], _ => rfl
  have F_RunError___init__ := fun_mk (st := s_RunError___init__) l_RunError___init__ c_RunError___init__ k_RunError___init__
  have b_RunError___init__ := F_RunError___init__.binds (ps := ["self"]) fun _ _ _ _ _ _ us hl => match us, hl with | [_], _ => rfl
  have F_Store___init__ := fun_mk (st := s_Store___init__) l_Store___init__ c_Store___init__ k_Store___init__
  have b_Store___init__ := F_Store___init__.binds (ps := ["self", "disk"]) fun _ _ _ _ _ _ us hl => match us, hl with | [_, _], _ => rfl
  have F_Store_check := fun_mk (st := s_Store_check) l_Store_check c_Store_check k_Store_check
  have b_Store_check := F_Store_check.binds (ps := ["self"]) fun _ _ _ _ _ _ us hl => match us, hl with | [_], _ => rfl
  have F_Store_keep := fun_mk (st := s_Store_keep) l_Store_keep c_Store_keep k_Store_keep
  have b_Store_keep := F_Store_keep.binds (ps := ["self", "key", "thing"]) fun _ _ _ _ _ _ us hl => match us, hl with | [_, _, _], _ => rfl
  have F_Store_seal := fun_mk (st := s_Store_seal) l_Store_seal c_Store_seal k_Store_seal
  have b_Store_seal := F_Store_seal.binds (ps := ["self"]) fun _ _ _ _ _ _ us hl => match us, hl with | [_], _ => rfl
  have F_Store_found := fun_mk (st := s_Store_found) l_Store_found c_Store_found k_Store_found
  have b_Store_found := F_Store_found.binds (ps := ["self"]) fun _ _ _ _ _ _ us hl => match us, hl with | [_], _ => rfl
  have F_Store_row := fun_mk (st := s_Store_row) l_Store_row c_Store_row k_Store_row
  have b_Store_row := F_Store_row.binds (ps := ["self"]) fun _ _ _ _ _ _ us hl => match us, hl with | [_], _ => rfl
  have F_Store_picture := fun_mk (st := s_Store_picture) l_Store_picture c_Store_picture k_Store_picture
  have b_Store_picture := F_Store_picture.binds (ps := ["self"]) fun _ _ _ _ _ _ us hl => match us, hl with | [_], _ => rfl
  have F_law_pot := fun_mk (st := s_law_pot) l_law_pot c_law_pot k_law_pot
  have b_law_pot := F_law_pot.binds (ps := ["script"]) fun _ _ _ _ _ _ us hl => match us, hl with | [_], _ => rfl
  have F_law_draw := fun_mk (st := s_law_draw) l_law_draw c_law_draw k_law_draw
  have b_law_draw := F_law_draw.binds (ps := ["pot", "many"]) fun _ _ _ _ _ _ us hl => match us, hl with | [_, _], _ => rfl
  have F_law_any := fun_mk (st := s_law_any) l_law_any c_law_any k_law_any
  have b_law_any := F_law_any.binds (ps := ["pot", "items"]) fun _ _ _ _ _ _ us hl => match us, hl with | [_, _], _ => rfl
  have F_law_key := fun_mk (st := s_law_key) l_law_key c_law_key k_law_key
  have b_law_key := F_law_key.binds (ps := ["pot"]) fun _ _ _ _ _ _ us hl => match us, hl with | [_], _ => rfl
  have F_law_thing := fun_mk (st := s_law_thing) l_law_thing c_law_thing k_law_thing
  have b_law_thing := F_law_thing.binds (ps := ["pot", "deep"]) fun _ _ _ _ _ _ us hl => match us, hl with | [_, _], _ => rfl
  have F_law_fallen := fun_mk (st := s_law_fallen) l_law_fallen c_law_fallen k_law_fallen
  have b_law_fallen := F_law_fallen.binds (ps := ["lying", "waiting", "hows"]) fun _ _ _ _ _ _ us hl => match us, hl with | [_, _, _], _ => rfl
  have F_law_last := fun_mk (st := s_law_last) l_law_last c_law_last k_law_last
  have b_law_last := F_law_last.binds (ps := ["rows"]) fun _ _ _ _ _ _ us hl => match us, hl with | [_], _ => rfl
  have F_law_written := fun_mk (st := s_law_written) l_law_written c_law_written k_law_written
  have b_law_written := F_law_written.binds (ps := ["pot", "disk"]) fun _ _ _ _ _ _ us hl => match us, hl with | [_, _], _ => rfl
  have F_law_word := fun_mk (st := s_law_word) l_law_word c_law_word k_law_word
  have b_law_word := F_law_word.binds (ps := ["call"]) fun _ _ _ _ _ _ us hl => match us, hl with | [_], _ => rfl
  have F_law_words := fun_mk (st := s_law_words) l_law_words c_law_words k_law_words
  have o_law_words : h.get? P_law_words = some { cls := .none, data := .fields #[] } := own _ _ lr_law_words (PySem.W.mg_of X G a_law_words) _ _ _ _ _ _ _ _ l_law_words rfl rfl lc_law_words lv_law_words
  have b_law_words := F_law_words.binds (ps := ["store"]) fun _ _ _ _ _ _ us hl => match us, hl with | [_], _ => rfl
  have F_law := fun_mk (st := s_law) l_law c_law k_law
  have o_law : h.get? P_law = some { cls := .none, data := .fields #[] } := own _ _ lr_law (PySem.W.mg_of X G a_law) _ _ _ _ _ _ _ _ l_law rfl rfl lc_law lv_law
  have b_law := F_law.binds (ps := ["script"]) fun _ _ _ _ _ _ us hl => match us, hl with | [_], _ => rfl
  have n_ : ∀ x, PySem.W.nsIn K mainGlobals x = some none → mg x = none := fun x h => PySem.W.mg_none_of X G h
  have T : Txt K mg ⟨C_Disk, C_Store, C_Exchange, C_RunError, C_Spoilt⟩ := ⟨⟨_, PySem.W.mg_of X G aC_Exchange, rfl⟩, ⟨_, PySem.W.mg_of X G g_LOST, ⟨_, rfl⟩⟩, ⟨_, PySem.W.mg_of X G g_WHOLE, ⟨_, rfl⟩⟩, ⟨_, PySem.W.mg_of X G g_SEAL, ⟨_, rfl⟩⟩, ⟨pg_Disk, hd_Disk, po_Disk, sa_Disk⟩, no_Disk_lying, no_Disk_pending, no_Disk_spoils, ⟨pg_Store, hd_Store, po_Store, sa_Store⟩, no_Store_disk,
    n_ _ z_len, n_ _ z_int, n_ _ z_bool, n_ _ z_str, n_ _ z_tuple, n_ _ z_list, n_ _ z_isinstance, n_ _ z_all, n_ _ z_abs, n_ _ z_sum, n_ _ z_range, n_ _ z_zip, n_ _ z_enumerate, n_ _ z_ValueError, xvV, ⟨_, PySem.W.mg_of X G aC_RunError, rfl⟩, ⟨_, PySem.W.mg_of X G aC_Spoilt, rfl⟩⟩
  have hTab : ∀ p ∈ [(cc_law_words, P_law_words), (cc_law, P_law)], h.get? p.2 = some { cls := .none, data := .fields #[] } := fun p hp => by
    rcases List.mem_cons.mp hp with rfl | hp
    · exact o_law_words
    rw [List.mem_singleton.mp hp]
    exact o_law
  have nTab : ∀ p ∈ [(cc_law_words, P_law_words), (cc_law, P_law)], K.lookup p.2 = none := fun p hp => by
    rcases List.mem_cons.mp hp with rfl | hp
    · exact lo_law_words
    rw [List.mem_singleton.mp hp]
    exact lo_law
  have cTab : ∀ p ∈ [(cc_law_words, P_law_words), (cc_law, P_law)], PySem.W.CodeHd h p.1 p.2 := fun p hp => by
    rcases List.mem_cons.mp hp with rfl | hp
    · exact PySem.W.codeHd_of_K X lh_law_words
    rw [List.mem_singleton.mp hp]
    exact PySem.W.codeHd_of_K X lh_law
  refine ⟨PySem.W.fnOf "law" "law" (defArgs s_law) (defBody s_law) (defScope s_law) .none kV_law dc_law pm_law an_law (.ref cc_law) ct_law, [(cc_law_words, P_law_words), (cc_law, P_law)], spLaw [(P_law_words, ((("_law_words" : Str) ++ ".<locals>.") ++ "<lambda>")), (P_law, ((("law" : Str) ++ ".<locals>.") ++ "<lambda>"))] K, hTab, nTab, cTab, fun s v => .of_eq rfl, fun H a ns hl _ hH hS => ⟨a, ns, rfl, hS, hl, ?_, fun _ => rfl⟩, fun base KB GB TB => ?_⟩
  · intro p hp
    rcases List.mem_cons.mp hp with rfl | hp
    · exact LamX.TabS.nil (hH (cc_law_words, P_law_words) tc_m1)
    rw [List.mem_singleton.mp hp]
    exact LamX.TabS.nil (hH (cc_law, P_law) tc_m2)
  have cl := T.cl
  have clS := T.clS
  have TE : TxE K ⟨C_Disk, C_Store, C_Exchange, C_RunError, C_Spoilt⟩ := ⟨⟨xga_Spoilt, xgt_Spoilt, xbe_Spoilt, xhd_Spoilt, xcl_Spoilt, xsp, xtk, xmr_Spoilt⟩, x_em, x_ki⟩
  have WD : WordDef K mg := ⟨_, _, _, _, _, _, _, _, _, _, PySem.W.mg_of X G a_law_word, k_law_word, l_law_word, c_law_word, b_law_word⟩
  have D_is_integer := dn_mk (mg := mg) (base := base) (P := l.prog) (w := w) F_is_integer (PySem.W.mg_of X G a_is_integer) b_is_integer (ok_is_integer F_is_integer T)
  have D_is_between := dn_mk (mg := mg) (base := base) (P := l.prog) (w := w) F_is_between (PySem.W.mg_of X G a_is_between) b_is_between (ok_is_between F_is_between T D_is_integer)
  have D_is_number := dn_mk (mg := mg) (base := base) (P := l.prog) (w := w) F_is_number (PySem.W.mg_of X G a_is_number) b_is_number (ok_is_number F_is_number T D_is_integer)
  have D_is_tuple := dn_mk (mg := mg) (base := base) (P := l.prog) (w := w) F_is_tuple (PySem.W.mg_of X G a_is_tuple) b_is_tuple (ok_is_tuple F_is_tuple T)
  have D_is_key := dn_mk (mg := mg) (base := base) (P := l.prog) (w := w) F_is_key (PySem.W.mg_of X G a_is_key) b_is_key (ok_is_key F_is_key T D_is_number)
  have D_is_kept := dn_mk (mg := mg) (base := base) (P := l.prog) (w := w) F_is_kept (PySem.W.mg_of X G a_is_kept) b_is_kept (fn_rec (k := 0) F_is_kept (PySem.W.mg_of X G a_is_kept) b_is_kept (fun n D => step_is_kept F_is_kept T n D) 10)
  have D_law_draw := dn_mk (mg := mg) (base := base) (P := l.prog) (w := w) F_law_draw (PySem.W.mg_of X G a_law_draw) b_law_draw (ok_law_draw F_law_draw T)
  have D_law_pot := dn_mk (mg := mg) (base := base) (P := l.prog) (w := w) F_law_pot (PySem.W.mg_of X G a_law_pot) b_law_pot (ok_law_pot F_law_pot T)
  have D_law_any := dn_mk (mg := mg) (base := base) (P := l.prog) (w := w) F_law_any (PySem.W.mg_of X G a_law_any) b_law_any (ok_law_any F_law_any T D_law_draw)
  have D_law_key := dn_mk (mg := mg) (base := base) (P := l.prog) (w := w) F_law_key (PySem.W.mg_of X G a_law_key) b_law_key (ok_law_key F_law_key T D_law_draw D_law_any)
  have D_law_thing := dn_mk (mg := mg) (base := base) (P := l.prog) (w := w) F_law_thing (PySem.W.mg_of X G a_law_thing) b_law_thing (fn_rec (k := 2) F_law_thing (PySem.W.mg_of X G a_law_thing) b_law_thing (fun n D => step_law_thing F_law_thing T D_law_draw D_law_any n D) 2)
  have D_law_fallen := dn_mk (mg := mg) (base := base) (P := l.prog) (w := w) F_law_fallen (PySem.W.mg_of X G a_law_fallen) b_law_fallen (ok_law_fallen F_law_fallen T)
  have D_law_last := dn_mk (mg := mg) (base := base) (P := l.prog) (w := w) F_law_last (PySem.W.mg_of X G a_law_last) b_law_last (ok_law_last F_law_last T)
  have En_Spoilt : En l.prog w K mg base "Spoilt" C_Spoilt 1 := ⟨PySem.W.mg_of X G aC_Spoilt, ⟨⟨_, _, _, _, _, _, _, _, _, _, _, _, _, _, _, lo_Spoilt, rv_Spoilt⟩, xsa_Spoilt, xbe_Spoilt, xty_Spoilt, xk_Spoilt⟩, ⟨_, _, ok_RunError_init F_RunError___init__ T, ei_Spoilt, ty_RunError___init__, b_RunError___init__⟩⟩
  have M_Disk_write := mn_mk (mg := mg) (base := base) (P := l.prog) (w := w) cl F_Disk_write ⟨a_Disk_write, i_Disk_write, k_Disk_write⟩ b_Disk_write (ok_Disk_write F_Disk_write T D_is_key D_is_kept)
  have M_Disk_sync := mn_mk (mg := mg) (base := base) (P := l.prog) (w := w) cl F_Disk_sync ⟨a_Disk_sync, i_Disk_sync, k_Disk_sync⟩ b_Disk_sync (ok_Disk_sync F_Disk_sync T)
  have M_Disk_fall := mn_mk (mg := mg) (base := base) (P := l.prog) (w := w) cl F_Disk_fall ⟨a_Disk_fall, i_Disk_fall, k_Disk_fall⟩ b_Disk_fall (ok_Disk_fall F_Disk_fall T D_is_tuple D_is_between)
  have M_Disk_spoil := mn_mk (mg := mg) (base := base) (P := l.prog) (w := w) cl F_Disk_spoil ⟨a_Disk_spoil, i_Disk_spoil, k_Disk_spoil⟩ b_Disk_spoil (ok_Disk_spoil F_Disk_spoil T D_is_between)
  have M_Disk_words := mn_mk (mg := mg) (base := base) (P := l.prog) (w := w) cl F_Disk_words ⟨a_Disk_words, i_Disk_words, k_Disk_words⟩ b_Disk_words (ok_Disk_words F_Disk_words T)
  have M_Disk_waiting := mn_mk (mg := mg) (base := base) (P := l.prog) (w := w) cl F_Disk_waiting ⟨a_Disk_waiting, i_Disk_waiting, k_Disk_waiting⟩ b_Disk_waiting (ok_Disk_waiting F_Disk_waiting T)
  have M_Disk_wholes := mn_mk (mg := mg) (base := base) (P := l.prog) (w := w) cl F_Disk_wholes ⟨a_Disk_wholes, i_Disk_wholes, k_Disk_wholes⟩ b_Disk_wholes (ok_Disk_wholes F_Disk_wholes T)
  have M_Store_check := mn_mk (mg := mg) (base := base) (P := l.prog) (w := w) clS F_Store_check ⟨a_Store_check, i_Store_check, k_Store_check⟩ b_Store_check (ok_Store_check F_Store_check T En_Spoilt M_Disk_wholes)
  have M_Store_keep := mn_mk (mg := mg) (base := base) (P := l.prog) (w := w) clS F_Store_keep ⟨a_Store_keep, i_Store_keep, k_Store_keep⟩ b_Store_keep (ok_Store_keep F_Store_keep T D_is_key D_is_kept M_Store_check M_Disk_write)
  have M_Store_seal := mn_mk (mg := mg) (base := base) (P := l.prog) (w := w) clS F_Store_seal ⟨a_Store_seal, i_Store_seal, k_Store_seal⟩ b_Store_seal (ok_Store_seal F_Store_seal T M_Store_check M_Disk_write M_Disk_wholes M_Disk_sync)
  have M_Store_found := mn_mk (mg := mg) (base := base) (P := l.prog) (w := w) clS F_Store_found ⟨a_Store_found, i_Store_found, k_Store_found⟩ b_Store_found (ok_Store_found F_Store_found T M_Store_check M_Disk_wholes)
  have M_Store_row := mn_mk (mg := mg) (base := base) (P := l.prog) (w := w) clS F_Store_row ⟨a_Store_row, i_Store_row, k_Store_row⟩ b_Store_row (ok_Store_row F_Store_row T M_Store_found)
  have M_Store_picture := mn_mk (mg := mg) (base := base) (P := l.prog) (w := w) clS F_Store_picture ⟨a_Store_picture, i_Store_picture, k_Store_picture⟩ b_Store_picture (ok_Store_picture F_Store_picture T M_Store_found)
  have C_Disk : Cn l.prog w K mg base "Disk" C_Disk 1 ["self"] (spInit C_Disk) := ⟨PySem.W.mg_of X G aC_Disk, _, _, ok_Disk_init F_Disk___init__ T, ⟨mk_Disk, a_Disk___init__, i_Disk___init__, kc_Disk⟩, b_Disk___init__⟩
  have C_Store : Cn l.prog w K mg base "Store" C_Store 1 ["self", "disk"] (spSInit C_Store) := ⟨PySem.W.mg_of X G aC_Store, _, _, ok_Store_init F_Store___init__ T, ⟨mk_Store, a_Store___init__, i_Store___init__, kc_Store⟩, b_Store___init__⟩
  have D_law_written := dn_mk (mg := mg) (base := base) (P := l.prog) (w := w) F_law_written (PySem.W.mg_of X G a_law_written) b_law_written (ok_law_written (Tb := [(P_law_words, ((("_law_words" : Str) ++ ".<locals>.") ++ "<lambda>")), (P_law, ((("law" : Str) ++ ".<locals>.") ++ "<lambda>"))]) F_law_written T D_law_draw D_law_key D_law_thing D_law_fallen C_Store M_Disk_fall M_Store_keep M_Store_seal)
  have D_law_words := dn_mk (mg := mg) (base := base) (P := l.prog) (w := w) F_law_words (PySem.W.mg_of X G a_law_words) b_law_words (ok_law_words (Tb := [(P_law_words, ((("_law_words" : Str) ++ ".<locals>.") ++ "<lambda>")), (P_law, ((("law" : Str) ++ ".<locals>.") ++ "<lambda>"))]) l_law_words c_law_words T TE WD (TB (cc_law_words, P_law_words) tc_m1) tb_m1 (tb_u1 ne_law_words_law) M_Store_found M_Store_row M_Store_picture)
  exact ok_law l_law c_law T TE WD (TB (cc_law, P_law) tc_m2) tb_m2 (tb_u2 ne_law_words_law) D_law_pot D_law_any D_law_last D_law_words D_law_written C_Disk C_Store M_Disk_spoil M_Disk_waiting M_Disk_words M_Store_found M_Store_keep M_Store_seal
theorem walk {l : PySem.W.OpenLaw} {q : Program} {loose : List Str} {XP : (Str → Option Value) → Heap → Prop} {YP : World → Heap → Prop} {d : DefRec} {K : Params → PySem.W.Frag} (hn : l.most = some 63) (hdf : d.params.defaults = [])
    (hY : ∀ (w : World) (h : Heap), YP w h → (K w.params).In h)
    (F : ∀ (w : World) (mg : Str → Option Value) (fa : Addr) (h : Heap), (K w.params).In h → h.Ns mainGlobals mg → mg d.name = some (.ref fa) → OwnTabs q (K w.params) mg h → LamX.LawAtS l w (K w.params) (L2.CX l.prog w) 16 63 "script" mg fa h) :
    PySem.W.WalkO q loose XP YP l.row.toRowW d [] (fun f vs => PySem.call f vs) :=
  walk_ofOwns (n := 63) (k := 16) (x := "script") (CX := fun w => L2.CX l.prog w) hn (by decide) hdf ⟨rfl, by decide, by decide⟩ hY (fun w mg fa h _ KX G hm own => F w mg fa h KX G hm own) fun _ _ _ _ _ z => by
    obtain ⟨_, _, _, _, _, _, _, _, _, _, _, _, z⟩ := z
    exact z.elim
end K42



open PySem PySem.W PyProof.Rows in
set_option maxRecDepth 100000 in
set_option maxHeartbeats 0 in
theorem PySem.Challenge.cw_oneplainrun_k42_whole_spoilt_disks_are_s_holds : PySem.Challenge.rw_oneplainrun_k42_whole_spoilt_disks_are_s.Holds := by
  w_on; o_law; k_head; (case hw => w_witness2)
  k_fill
  refine K42.walk (l := PySem.Challenge.rw_oneplainrun_k42_whole_spoilt_disks_are_s) rfl rfl (fun w h Y => PySem.W.km_in_of Y) ?F
  case F =>
    intro w mg fa h KX G hmg own
    refine' K42.all_mk KX G own hmg ?aC_Disk ?pg_Disk ?hd_Disk ?po_Disk ?sa_Disk ?mk_Disk ?kc_Disk ?aC_Store ?pg_Store ?hd_Store ?po_Store ?sa_Store ?mk_Store ?kc_Store ?aC_Exchange ?aC_RunError ?aC_Spoilt ?a_is_integer ?l_is_integer ?c_is_integer ?k_is_integer ?a_is_between ?l_is_between ?c_is_between ?k_is_between ?a_is_number ?l_is_number ?c_is_number ?k_is_number ?a_is_tuple ?l_is_tuple ?c_is_tuple ?k_is_tuple ?a_is_key ?l_is_key ?c_is_key ?k_is_key ?a_is_kept ?l_is_kept ?c_is_kept ?k_is_kept ?a_Disk___init__ ?i_Disk___init__ ?l_Disk___init__ ?c_Disk___init__ ?k_Disk___init__ ?a_Disk_write ?i_Disk_write ?l_Disk_write ?c_Disk_write ?k_Disk_write ?a_Disk_sync ?i_Disk_sync ?l_Disk_sync ?c_Disk_sync ?k_Disk_sync ?a_Disk_fall ?i_Disk_fall ?l_Disk_fall ?c_Disk_fall ?k_Disk_fall ?a_Disk_spoil ?i_Disk_spoil ?l_Disk_spoil ?c_Disk_spoil ?k_Disk_spoil ?a_Disk_words ?i_Disk_words ?l_Disk_words ?c_Disk_words ?k_Disk_words ?a_Disk_waiting ?i_Disk_waiting ?l_Disk_waiting ?c_Disk_waiting ?k_Disk_waiting ?a_Disk_wholes ?i_Disk_wholes ?l_Disk_wholes ?c_Disk_wholes ?k_Disk_wholes ?a_RunError___init__ ?i_RunError___init__ ?l_RunError___init__ ?c_RunError___init__ ?k_RunError___init__ ?a_Store___init__ ?i_Store___init__ ?l_Store___init__ ?c_Store___init__ ?k_Store___init__ ?a_Store_check ?i_Store_check ?l_Store_check ?c_Store_check ?k_Store_check ?a_Store_keep ?i_Store_keep ?l_Store_keep ?c_Store_keep ?k_Store_keep ?a_Store_seal ?i_Store_seal ?l_Store_seal ?c_Store_seal ?k_Store_seal ?a_Store_found ?i_Store_found ?l_Store_found ?c_Store_found ?k_Store_found ?a_Store_row ?i_Store_row ?l_Store_row ?c_Store_row ?k_Store_row ?a_Store_picture ?i_Store_picture ?l_Store_picture ?c_Store_picture ?k_Store_picture ?a_law_pot ?l_law_pot ?c_law_pot ?k_law_pot ?a_law_draw ?l_law_draw ?c_law_draw ?k_law_draw ?a_law_any ?l_law_any ?c_law_any ?k_law_any ?a_law_key ?l_law_key ?c_law_key ?k_law_key ?a_law_thing ?l_law_thing ?c_law_thing ?k_law_thing ?a_law_fallen ?l_law_fallen ?c_law_fallen ?k_law_fallen ?a_law_last ?l_law_last ?c_law_last ?k_law_last ?a_law_written ?l_law_written ?c_law_written ?k_law_written ?a_law_word ?l_law_word ?c_law_word ?k_law_word ?a_law_words ?l_law_words ?c_law_words ?k_law_words ?a_law ?l_law ?c_law ?k_law ?no_Disk_lying ?no_Disk_pending ?no_Disk_spoils ?no_Store_disk ?z_len ?z_int ?z_bool ?z_str ?z_tuple ?z_list ?z_isinstance ?z_all ?z_abs ?z_sum ?z_range ?z_zip ?z_enumerate ?z_ValueError ?g_LOST ?g_WHOLE ?g_SEAL ?lo_Spoilt ?rv_Spoilt ?xsa_Spoilt ?xbe_Spoilt ?xty_Spoilt ?xk_Spoilt ?xga_Spoilt ?xgt_Spoilt ?xhd_Spoilt ?xcl_Spoilt ?xmr_Spoilt ?xsp ?xtk ?xvV ?lc_law_words ?lv_law_words ?lh_law_words ?lo_law_words ?lr_law_words ?lc_law ?lv_law ?lh_law ?lo_law ?lr_law ?ne_law_words_law ?ei_Spoilt ?ty_RunError___init__ ?x_em ?x_ki
    (case aC_Disk => k_is)
    (case pg_Disk => k_is)
    (case hd_Disk => k_is)
    (case po_Disk => k_is)
    (case sa_Disk => k_is)
    (case mk_Disk => k_is)
    (case kc_Disk => k_is)
    (case aC_Store => k_is)
    (case pg_Store => k_is)
    (case hd_Store => k_is)
    (case po_Store => k_is)
    (case sa_Store => k_is)
    (case mk_Store => k_is)
    (case kc_Store => k_is)
    (case aC_Exchange => k_is)
    (case aC_RunError => k_is)
    (case aC_Spoilt => k_is)
    (case a_is_integer => k_is)
    (case l_is_integer => k_is)
    (case c_is_integer => k_is)
    (case k_is_integer => k_is)
    (case a_is_between => k_is)
    (case l_is_between => k_is)
    (case c_is_between => k_is)
    (case k_is_between => k_is)
    (case a_is_number => k_is)
    (case l_is_number => k_is)
    (case c_is_number => k_is)
    (case k_is_number => k_is)
    (case a_is_tuple => k_is)
    (case l_is_tuple => k_is)
    (case c_is_tuple => k_is)
    (case k_is_tuple => k_is)
    (case a_is_key => k_is)
    (case l_is_key => k_is)
    (case c_is_key => k_is)
    (case k_is_key => k_is)
    (case a_is_kept => k_is)
    (case l_is_kept => k_is)
    (case c_is_kept => k_is)
    (case k_is_kept => k_is)
    (case a_Disk___init__ => k_is)
    (case i_Disk___init__ => k_is)
    (case l_Disk___init__ => k_is)
    (case c_Disk___init__ => k_is)
    (case k_Disk___init__ => k_is)
    (case a_Disk_write => k_is)
    (case i_Disk_write => k_is)
    (case l_Disk_write => k_is)
    (case c_Disk_write => k_is)
    (case k_Disk_write => k_is)
    (case a_Disk_sync => k_is)
    (case i_Disk_sync => k_is)
    (case l_Disk_sync => k_is)
    (case c_Disk_sync => k_is)
    (case k_Disk_sync => k_is)
    (case a_Disk_fall => k_is)
    (case i_Disk_fall => k_is)
    (case l_Disk_fall => k_is)
    (case c_Disk_fall => k_is)
    (case k_Disk_fall => k_is)
    (case a_Disk_spoil => k_is)
    (case i_Disk_spoil => k_is)
    (case l_Disk_spoil => k_is)
    (case c_Disk_spoil => k_is)
    (case k_Disk_spoil => k_is)
    (case a_Disk_words => k_is)
    (case i_Disk_words => k_is)
    (case l_Disk_words => k_is)
    (case c_Disk_words => k_is)
    (case k_Disk_words => k_is)
    (case a_Disk_waiting => k_is)
    (case i_Disk_waiting => k_is)
    (case l_Disk_waiting => k_is)
    (case c_Disk_waiting => k_is)
    (case k_Disk_waiting => k_is)
    (case a_Disk_wholes => k_is)
    (case i_Disk_wholes => k_is)
    (case l_Disk_wholes => k_is)
    (case c_Disk_wholes => k_is)
    (case k_Disk_wholes => k_is)
    (case a_RunError___init__ => k_is)
    (case i_RunError___init__ => k_is)
    (case l_RunError___init__ => k_is)
    (case c_RunError___init__ => k_is)
    (case k_RunError___init__ => k_is)
    (case a_Store___init__ => k_is)
    (case i_Store___init__ => k_is)
    (case l_Store___init__ => k_is)
    (case c_Store___init__ => k_is)
    (case k_Store___init__ => k_is)
    (case a_Store_check => k_is)
    (case i_Store_check => k_is)
    (case l_Store_check => k_is)
    (case c_Store_check => k_is)
    (case k_Store_check => k_is)
    (case a_Store_keep => k_is)
    (case i_Store_keep => k_is)
    (case l_Store_keep => k_is)
    (case c_Store_keep => k_is)
    (case k_Store_keep => k_is)
    (case a_Store_seal => k_is)
    (case i_Store_seal => k_is)
    (case l_Store_seal => k_is)
    (case c_Store_seal => k_is)
    (case k_Store_seal => k_is)
    (case a_Store_found => k_is)
    (case i_Store_found => k_is)
    (case l_Store_found => k_is)
    (case c_Store_found => k_is)
    (case k_Store_found => k_is)
    (case a_Store_row => k_is)
    (case i_Store_row => k_is)
    (case l_Store_row => k_is)
    (case c_Store_row => k_is)
    (case k_Store_row => k_is)
    (case a_Store_picture => k_is)
    (case i_Store_picture => k_is)
    (case l_Store_picture => k_is)
    (case c_Store_picture => k_is)
    (case k_Store_picture => k_is)
    (case a_law_pot => k_is)
    (case l_law_pot => k_is)
    (case c_law_pot => k_is)
    (case k_law_pot => k_is)
    (case a_law_draw => k_is)
    (case l_law_draw => k_is)
    (case c_law_draw => k_is)
    (case k_law_draw => k_is)
    (case a_law_any => k_is)
    (case l_law_any => k_is)
    (case c_law_any => k_is)
    (case k_law_any => k_is)
    (case a_law_key => k_is)
    (case l_law_key => k_is)
    (case c_law_key => k_is)
    (case k_law_key => k_is)
    (case a_law_thing => k_is)
    (case l_law_thing => k_is)
    (case c_law_thing => k_is)
    (case k_law_thing => k_is)
    (case a_law_fallen => k_is)
    (case l_law_fallen => k_is)
    (case c_law_fallen => k_is)
    (case k_law_fallen => k_is)
    (case a_law_last => k_is)
    (case l_law_last => k_is)
    (case c_law_last => k_is)
    (case k_law_last => k_is)
    (case a_law_written => k_is)
    (case l_law_written => k_is)
    (case c_law_written => k_is)
    (case k_law_written => k_is)
    (case a_law_word => k_is)
    (case l_law_word => k_is)
    (case c_law_word => k_is)
    (case k_law_word => k_is)
    (case a_law_words => k_is)
    (case l_law_words => k_is)
    (case c_law_words => k_is)
    (case k_law_words => k_is)
    (case a_law => k_is)
    (case l_law => k_is)
    (case c_law => k_is)
    (case k_law => k_is)
    (case no_Disk_lying => k_is)
    (case no_Disk_pending => k_is)
    (case no_Disk_spoils => k_is)
    (case no_Store_disk => k_is)
    (case z_len => k_is)
    (case z_int => k_is)
    (case z_bool => k_is)
    (case z_str => k_is)
    (case z_tuple => k_is)
    (case z_list => k_is)
    (case z_isinstance => k_is)
    (case z_all => k_is)
    (case z_abs => k_is)
    (case z_sum => k_is)
    (case z_range => k_is)
    (case z_zip => k_is)
    (case z_enumerate => k_is)
    (case z_ValueError => k_is)
    (case g_LOST => k_is)
    (case g_WHOLE => k_is)
    (case g_SEAL => k_is)
    (case lo_Spoilt => k_is)
    (case rv_Spoilt => exact rfl)
    (case xsa_Spoilt => k_is)
    (case xbe_Spoilt => k_is)
    (case xty_Spoilt => k_is)
    (case xk_Spoilt => k_is)
    (case xga_Spoilt => k_is)
    (case xgt_Spoilt => k_is)
    (case xhd_Spoilt => k_is)
    (case xcl_Spoilt => k_is)
    (case xmr_Spoilt => k_is)
    (case xsp => k_is)
    (case xtk => k_is)
    (case xvV => k_is)
    (case lc_law_words => k_is)
    (case lv_law_words => exact rfl)
    (case lh_law_words => kernel_rfl)
    (case lo_law_words => kernel_rfl)
    (case lr_law_words => exact rfl)
    (case lc_law => k_is)
    (case lv_law => exact rfl)
    (case lh_law => kernel_rfl)
    (case lo_law => kernel_rfl)
    (case lr_law => exact rfl)
    (case ne_law_words_law => decide)
    (case ei_Spoilt => k_is)
    (case ty_RunError___init__ => k_is)
    (case x_em => kernel_rfl)
    (case x_ki => kernel_rfl)


