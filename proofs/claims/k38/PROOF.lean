import PyProof.Rows.All
import Wide.All
import OpenK.AllK
import Wide.FinOn
import HandS.ForMost
import HandS.Exc
import HandS.ExcOwn
import HandS.WordsExc
import HandS.IsInst
import HandS.Zip
import HandS.Codes
import HandS.Walk
import KE.GoesZip
import KE.GoesMore
import PySem.Challenge.RW_oneplainrun_k38_whole_disks_through_fall
set_option Elab.async false
set_option linter.all false
set_option maxRecDepth 100000
set_option maxHeartbeats 4000000
/-! P1: bundles of a def, a method, a class; rules with K told; data of tuples; frames -/
namespace Hq
open PySem PySem.Spec PyProof.Rows L2

/-! ### what the module's names hold -/
def GlV (mg : Str → Option Value) (x : Str) (v : V) : Prop := ∃ u, mg x = some u ∧ RelV v u
theorem pe_gl {X : Cx} {x : Str} {v : V} {pos : Pos} (hg : Gl X x) (h : GlV X.mg x v) (hd : (x == ("__debug__" : Str)) = false := by decide) : PE X (.Name x pos) (tC v) := by
  obtain ⟨u, hm, r⟩ := h
  exact pe_glob hg hm r hd
theorem pe_ty (n : String) {X : Cx} {x : Str} {pos : Pos} (hg : Gl X x) (hm : X.mg x = none) (hv : bootBuiltins x = some (.type n)) (hn : x ≠ "__name__" := by decide) (hd : (x == ("__debug__" : Str)) = false := by decide) : PE X (.Name x pos) (tC (.ty n)) :=
  pe_bltn hg hm hv rfl hn hd

/-! ### a def, a method, a class, as callers see them -/
structure Dn (P : Program) (w : World) (K : PySem.W.Frag) (mg : Str → Option Value) (base : Heap) (x : Str) (k : Nat) (ps : List Str) (sp : Sp) : Prop where
  ok : ∃ f fd, FnOk P w K mg base (L2.CX P w) k f fd ps sp ∧ mg x = some (.ref f) ∧ PySem.W.keepIn K (.ref f) = true ∧ Binds K fd ps []
structure Mn (P : Program) (w : World) (K : PySem.W.Frag) (mg : Str → Option Value) (base : Heap) (C : Addr) (m : Str) (k : Nat) (ps : List Str) (sp : Sp) : Prop where
  cl : Cls K C
  ok : ∃ f fd, FnOk P w K mg base (L2.CX P w) k f fd ps sp ∧ Meth K C m f ∧ Binds K fd ps []
structure Cn (P : Program) (w : World) (K : PySem.W.Frag) (mg : Str → Option Value) (base : Heap) (x : Str) (C : Addr) (k : Nat) (ps : List Str) (sp : Sp) : Prop where
  mgC : mg x = some (.ref C)
  ok : ∃ f fd, FnOk P w K mg base (L2.CX P w) k f fd ps sp ∧ Mk K C f ∧ Binds K fd ps []
section
variable {P : Program} {w : World} {K : PySem.W.Frag} {mg : Str → Option Value} {base : Heap} {x : Str} {k j : Nat} {ps : List Str} {sp sp' : Sp} {C : Addr} {m : Str}
theorem Dn.imp (D : Dn P w K mg base x k ps sp) (h : ∀ vs H Q E, sp' vs H Q E → sp vs H Q E) : Dn P w K mg base x k ps sp' := by
  obtain ⟨f, fd, F, a, b, c⟩ := D.ok
  exact ⟨f, fd, F.imp h, a, b, c⟩
theorem Mn.imp (D : Mn P w K mg base C m k ps sp) (h : ∀ vs H Q E, sp' vs H Q E → sp vs H Q E) : Mn P w K mg base C m k ps sp' := by
  obtain ⟨f, fd, F, a, b⟩ := D.ok
  exact ⟨D.cl, f, fd, F.imp h, a, b⟩
theorem Dn.up (D : Dn P w K mg base x j ps sp) (h : j ≤ k) : Dn P w K mg base x k ps sp := by
  obtain ⟨f, fd, F, a, b, c⟩ := D.ok
  exact ⟨f, fd, F.mono h, a, b, c⟩
end
section
variable {X : Cx} {k : Nat} {ps : List Str} {sp : Sp} {C : Addr} {x m : Str} {p pos apos : Pos} {e o : Expr} {es : List Expr} {ta : TE} {t : TA}
theorem pe_d (D : Dn X.prog X.w X.K X.mg X.base x k ps sp) (E : XK) (hr : Room k X.A) (hg : Gl X x) (hx : Passes (L2.CX X.prog X.w) X E) (ha : PA X (e :: es) t) (hdb : (x == ("__debug__" : Str)) = false := by decide)
    (he : starEach (e :: es) X.env = (false, eval e X.env) :: starEach es X.env := by rfl) (hpl : (backTo pos (starEach es X.env)).any (·.1) = false := by rfl) :
    PE X (.Call (.Name x p) (e :: es) [] pos) (tCall sp [] E t) := by
  obtain ⟨f, fd, F, a, b, c⟩ := D.ok
  exact pe_call F hr hg a b c .nil hx ha hdb he hpl
theorem pe_d0 (D : Dn X.prog X.w X.K X.mg X.base x k ps sp) (E : XK) (hr : Room k X.A) (hg : Gl X x) (hx : Passes (L2.CX X.prog X.w) X E) (hdb : (x == ("__debug__" : Str)) = false := by decide) :
    PE X (.Call (.Name x p) [] [] pos) (tCall sp [] E tNil) := by
  obtain ⟨f, fd, F, a, b, c⟩ := D.ok
  exact pe_call0 F hr hg a b c .nil hx hdb
theorem pe_m (D : Mn X.prog X.w X.K X.mg X.base C m k ps sp) (E : XK) (hr : Room k X.A) (he : PE X o ta) (hx : Passes (L2.CX X.prog X.w) X E) (ha : PA X (e :: es) t) (pl : Sem Bool)
    (hst : starEach (e :: es) X.env = (false, eval e X.env) :: starEach es X.env := by rfl) (hpl : (backTo pos (starEach es X.env)).any (·.1) = false := by rfl)
    (ht : eval (.Call (.Attribute o m apos) (e :: es) [] pos) X.env = (do
      let v ← eval o X.env
      standAt apos.atName
      let (g, fs) ← holding [v] (getMethod v m pl)
      callWith pos g fs (backTo pos (starEach (e :: es) X.env)) (backToKw pos (keywordEach [] X.env))) := by rfl) :
    PE X (.Call (.Attribute o m apos) (e :: es) [] pos) (tMeth C m sp [] E ta t) := by
  obtain ⟨f, fd, F, a, b⟩ := D.ok
  exact pe_meth (pl := pl) he D.cl a F hr b .nil hx ha hst hpl ht
theorem pe_m0 (D : Mn X.prog X.w X.K X.mg X.base C m k ps sp) (E : XK) (hr : Room k X.A) (he : PE X o ta) (hx : Passes (L2.CX X.prog X.w) X E) (pl : Sem Bool)
    (ht : eval (.Call (.Attribute o m apos) [] [] pos) X.env = (do
      let v ← eval o X.env
      standAt apos.atName
      let (g, fs) ← holding [v] (getMethod v m pl)
      callWith pos g fs (backTo pos (starEach [] X.env)) (backToKw pos (keywordEach [] X.env))) := by rfl) :
    PE X (.Call (.Attribute o m apos) [] [] pos) (tMeth C m sp [] E ta tNil) := by
  obtain ⟨f, fd, F, a, b⟩ := D.ok
  exact pe_meth0 (pl := pl) he D.cl a F hr b .nil hx ht
theorem pe_c (D : Cn X.prog X.w X.K X.mg X.base x C k ps sp) (E : XK) (hr : Room (k + 1) X.A) (hg : Gl X x) (hx : Passes (L2.CX X.prog X.w) X E) (ha : PA X (e :: es) t) (hdb : (x == ("__debug__" : Str)) = false := by decide)
    (he : starEach (e :: es) X.env = (false, eval e X.env) :: starEach es X.env := by rfl) (hpl : (backTo pos (starEach es X.env)).any (·.1) = false := by rfl) :
    PE X (.Call (.Name x p) (e :: es) [] pos) (tMake C sp [] E t) := by
  obtain ⟨f, fd, F, M, b⟩ := D.ok
  exact pe_make M F hr hg D.mgC b .nil hx ha hdb he hpl
theorem pe_c0 (D : Cn X.prog X.w X.K X.mg X.base x C k ps sp) (E : XK) (hr : Room (k + 1) X.A) (hg : Gl X x) (hx : Passes (L2.CX X.prog X.w) X E) (hdb : (x == ("__debug__" : Str)) = false := by decide) :
    PE X (.Call (.Name x p) [] [] pos) (tMake C sp [] E tNil) := by
  obtain ⟨f, fd, F, M, b⟩ := D.ok
  exact pe_make0 M F hr hg D.mgC b .nil hx hdb
end
theorem dn_mk {P : Program} {w : World} {K : PySem.W.Frag} {mg : Str → Option Value} {base : Heap} {x q : Str} {st : Stmt} {f : Addr} {fd : FuncData} {k : Nat} {ps : List Str} {sp : Sp} (F : Fun K x q st f fd) (hm : mg x = some (.ref f)) (b : Binds K fd ps [])
    (ok : FnOk P w K mg base (L2.CX P w) k f fd ps sp) : Dn P w K mg base x k ps sp := ⟨⟨f, fd, ok, hm, F.kp, b⟩⟩
theorem mn_mk {P : Program} {w : World} {K : PySem.W.Frag} {mg : Str → Option Value} {base : Heap} {C : Addr} {x q : Str} {st : Stmt} {f : Addr} {fd : FuncData} {k : Nat} {ps : List Str} {sp : Sp} (c : Cls K C) (F : Fun K x q st f fd) (m : Meth K C x f) (b : Binds K fd ps [])
    (ok : FnOk P w K mg base (L2.CX P w) k f fd ps sp) : Mn P w K mg base C x k ps sp := ⟨c, f, fd, ok, m, b⟩
/-- what holds of all smaller ones -/
theorem fn_less {P : Program} {w : World} {K : PySem.W.Frag} {mg : Str → Option Value} {base : Heap} {f : Addr} {fd : FuncData} {k n : Nat} {ps : List Str} {sp : Nat → Sp} (h : ∀ m, m < n → FnOk P w K mg base (L2.CX P w) k f fd ps (sp m)) :
    FnOk P w K mg base (L2.CX P w) k f fd ps (fun vs H Q E => ∃ m, m < n ∧ sp m vs H Q E) :=
  ⟨fun vs H Q E ⟨m, hm, q⟩ => (h m hm).len vs H Q E q, fun A outer s H args us vs Q E hr he hb hv ⟨m, hm, q⟩ => (h m hm).run A outer s H args us vs Q E hr he hb hv q⟩
/-- a def that calls itself, by a size -/
theorem fn_rec {P : Program} {w : World} {K : PySem.W.Frag} {mg : Str → Option Value} {base : Heap} {x q : Str} {st : Stmt} {f : Addr} {fd : FuncData} {k : Nat} {ps : List Str} {sp : Nat → Sp} (F : Fun K x q st f fd) (hm : mg x = some (.ref f)) (b : Binds K fd ps [])
    (step : ∀ n, Dn P w K mg base x (k + n) ps (fun vs H Q E => ∃ m, m < n ∧ sp m vs H Q E) → FnOk P w K mg base (L2.CX P w) (k + n + 1) f fd ps (sp n)) : ∀ n, FnOk P w K mg base (L2.CX P w) (k + n + 1) f fd ps (sp n) := by
  intro n
  induction n using Nat.strongRecOn with
  | ind n ih => exact step n (dn_mk F hm b (fn_less fun m hm => (ih m hm).mono (by omega)))
/-- a def's body in which nothing is raised -/
theorem okN {P : Program} {w : World} {K : PySem.W.Frag} {mg : Str → Option Value} {base : Heap} {x qual : Str} {st : Stmt} {f : Addr} {fd : FuncData} {N ps : List Str} {k : Nat} {sp : Sp} (F : Fun K x qual st f fd) (S : FnScope N ps (defScope st))
    (len : ∀ vs H Q E, sp vs H Q E → vs.length = ps.length)
    (hb : ∀ (cdv : Value) (A : Around) (outer : List Env) (s : Shared) (H : Hp) (vs : List V) (Q : VK) (E : XK), Room k (A.deeper (envOfC qual (defScope st) s.heap.objs.size f cdv)) → sp vs H Q E →
      ∃ t σ, L2.start N vs = σ ∧ PSs (cxOf (L2.CX P w) P w K mg base N qual (defScope st) f cdv A outer s H E).nox (defBody st) t ∧ t { nx := fun _ H' => Q .non H', rt := Q } σ H) : FnOk P w K mg base (L2.CX P w) (k + 1) f fd ps sp :=
  F.okX S len fun cdv A outer s H vs Q E hr hs => by
    obtain ⟨t, σ, e, h, q⟩ := hb cdv A outer s H vs Q E hr hs
    cases e
    exact ⟨t, h.nox, q⟩

/-! ### the layer's rules, the written part told by its own letter -/
section
variable {X : Cx} {K : PySem.W.Frag}
theorem kIxL (h : X.K = K := by rfl) : IxR X (rIxL K) := by cases h; exact ix_list
theorem kIxT (h : X.K = K := by rfl) : IxR X (rIxT K) := by cases h; exact ix_tup
theorem kSlL (h : X.K = K := by rfl) : SlR X (rSlL K) := by cases h; exact sl_list
theorem kSlT (h : X.K = K := by rfl) : SlR X (rSlT K) := by cases h; exact sl_tup
theorem kPiL {tg l : Expr} {tl : TE} (hl : PE X l tl) (h : X.K = K := by rfl) : PI X tg l (iList K tl) := by cases h; exact pi_list hl
theorem kPiT {tg l : Expr} {tl : TE} (hl : PE X l tl) (h : X.K = K := by rfl) : PI X tg l (iTup K tl) := by cases h; exact pi_tup hl
theorem kFld {e : Expr} {f : Str} {ta : TE} {pos : Pos} (he : PE X e ta) (hb : attributeBase e f X.env (eval e X.env) = eval e X.env) (h : X.K = K := by rfl) : PE X (.Attribute e f pos) (tFld K ta f) := by
  cases h; exact pe_fld he hb
theorem kSFld {o value : Expr} {f : Str} {ta tv : TE} {pos pos' : Pos} (ha : PE X o ta) (hv : PE X value tv) (hs : swapsWith value (some (.Attribute o f pos')) pos.line X.env = pure false) (h : X.K = K := by rfl) :
    PS X (.Assign [.Attribute o f pos'] value pos) (sFld K ta tv f) := by cases h; exact ps_fld ha hv hs
def rLen (K : PySem.W.Frag) : List V → Hp → VK → Prop := fun xs H Q => ∃ p ys, xs = [.ref p] ∧ (SqL K H p ys ∨ SqT K H p ys) ∧ Q (.int ys.length) H
theorem kLen (h : X.K = K := by rfl) : CallR X (.builtin "len") (rLen K) := by cases h; exact call_len_seq
def rListOf (K : PySem.W.Frag) : List V → Hp → VK → Prop := fun xs H Q => ∃ p ys, xs = [.ref p] ∧ (SqL K H p ys ∨ SqT K H p ys) ∧ ∀ l, H l = none → Q (.ref l) (upd H l (.lst ys))
theorem kListOf (h : X.K = K := by rfl) : CallR X (.type "list") (rListOf K) := by cases h; exact call_list_of
def rTupOf (K : PySem.W.Frag) : List V → Hp → VK → Prop := fun xs H Q => ∃ p ys, xs = [.ref p] ∧ ((SqL K H p ys ∧ ∀ l, H l = none → Q (.ref l) (upd H l (.tup ys))) ∨ (SqT K H p ys ∧ Q (.ref p) H))
theorem kTupOf (h : X.K = K := by rfl) : CallR X (.type "tuple") (rTupOf K) := by cases h; exact call_tuple_of
theorem kSum (hc : X.calm = true := by rfl) (h : X.K = K := by rfl) : CallR X (.builtin "sum") (rSum K) := by cases h; exact cr_sum hc
theorem kAll (hc : X.calm = true := by rfl) (h : X.K = K := by rfl) : CallR X (.builtin "all") (rAll K) := by cases h; exact cr_all hc
theorem kAny (hc : X.calm = true := by rfl) (h : X.K = K := by rfl) : CallR X (.builtin "any") (rAny K) := by cases h; exact cr_any hc
theorem kEqD (hu : X.A.units + 64 < cLine) (h : X.K = K := by rfl) : OpR X (compareOp .Eq) (rEqD K) := by cases h; exact op_eqD hu
theorem kNeD (hu : X.A.units + 64 < cLine) (h : X.K = K := by rfl) : OpR X (compareOp .NotEq) (rNeD K) := by cases h; exact op_neD hu
theorem kIn (h : X.K = K := by rfl) : OpR X (compareOp .In) (rIn K false) := by cases h; exact op_in_seq
theorem kNotIn (h : X.K = K := by rfl) : OpR X (compareOp .NotIn) (rIn K true) := by cases h; exact op_notIn_seq
theorem kTupT {es : List Expr} {k : Nat} {t : TGs} {n : Nat} {pos : Pos} (hp : PGs X es t) (hc : X.calm = true := by rfl) (h : X.K = K := by rfl) (hn : (assignEach es X.env).length = n := by rfl) (hst : (assignEach es X.env).findIdx? (·.1) = none := by rfl) :
    PG X (.Tuple es k pos) (gTup K n t) := by cases h; exact pg_tup hc hp hn hst
theorem kCatT (h : X.K = K := by rfl) : OpR X (binaryOp .Add) (rCatT K) := by cases h; exact op_catT
theorem kIsi (h : X.K = K := by rfl) : CallR X (.builtin "isinstance") (rIsi K) := by cases h; exact call_isi
theorem kIsiT (h : X.K = K := by rfl) : CallR X (.builtin "isinstance") (rIsiT K) := by cases h; exact call_isiT
def tApp (K : PySem.W.Frag) (to te : TE) : TE := tBM K "list" rAppend to (tCons te tNil)
theorem kApp {o e : Expr} {to te : TE} {apos cpos : Pos} (ho : PE X o to) (ha : PE X e te) (hbase : attributeBase o "append" X.env (eval o X.env) = eval o X.env := by rfl)
    (hfew : ((backTo cpos (starEach [e] X.env)).all (fun x => !x.1) && (backToKw cpos (keywordEach [] X.env)).all (fun x => x.1.isSome)
      && decide (([e] : List Expr).length + ([] : List Keyword).length + (if ([] : List Keyword).isEmpty then 0 else 1) < 30)) = true := by rfl)
    (hline : (apos.endLine == cpos.line) = true := by rfl) (hs : starEach [e] X.env = (false, eval e X.env) :: starEach [] X.env := by rfl)
    (h : X.K = K := by rfl) : PE X (.Call (.Attribute o "append" apos) [e] [] cpos) (tApp K to te) := by
  cases h
  exact pe_bm PySem.F.plainAttrs_list PySem.F.slot_list_append PySem.F.type_list_append mt_append ho (pa_cons ha pa_nil hs) hbase hfew hline hs rfl
end

section
variable {X : Cx} {K : PySem.W.Frag}
theorem kBm {T id : String} {o e : Expr} {es : List Expr} {to : TE} {t : TA} {name : Str} {apos cpos : Pos} {r : V → List V → Hp → VK → Prop} (pa : PlainAttrs T) (slot : Slot T name id) (hty : typeOf (.builtin id) = pure (.type "method_descriptor")) (hm : MtR X id r) (ho : PE X o to) (ha : PA X (e :: es) t)
    (hbase : attributeBase o name X.env (eval o X.env) = eval o X.env := by rfl)
    (hfew : ((backTo cpos (starEach (e :: es) X.env)).all (fun x => !x.1) && (backToKw cpos (keywordEach [] X.env)).all (fun x => x.1.isSome)
      && decide ((e :: es : List Expr).length + ([] : List Keyword).length + (if ([] : List Keyword).isEmpty then 0 else 1) < 30)) = true := by rfl)
    (hline : (apos.endLine == cpos.line) = true := by rfl) (hs : starEach (e :: es) X.env = (false, eval e X.env) :: starEach es X.env := by rfl) (hplain : (backTo cpos (starEach es X.env)).any (·.1) = false := by rfl)
    (h : X.K = K := by rfl) : PE X (.Call (.Attribute o name apos) (e :: es) [] cpos) (tBM K T r to t) := by
  cases h
  exact pe_bm pa slot hty hm ho ha hbase hfew hline hs hplain
end
/-! ### data made of tuples: it stands for good -/
mutual
inductive TD (H : Hp) : V → PyData → Prop
  | non : TD H .non .none
  | bl (b : Bool) : TD H (.bl b) (.bool b)
  | int (i : Int) : TD H (.int i) (.int i)
  | str (x : Str) : TD H (.str x) (.str x)
  | tup {a : Addr} {xs : List V} {ds : List PyData} : H a = some (.tup xs) → TDs H xs ds → TD H (.ref a) (.tuple ds)
inductive TDs (H : Hp) : List V → List PyData → Prop
  | nil : TDs H [] []
  | cons {v : V} {vs : List V} {d : PyData} {ds : List PyData} : TD H v d → TDs H vs ds → TDs H (v :: vs) (d :: ds)
end
/-- tuples stay -/
def Tp (H H' : Hp) : Prop := ∀ a xs, H a = some (.tup xs) → H' a = some (.tup xs)
theorem Tp.refl (H : Hp) : Tp H H := fun _ _ h => h
theorem Tp.trans {H H1 H2 : Hp} (a : Tp H H1) (b : Tp H1 H2) : Tp H H2 := fun c o h => b c o (a c o h)
mutual
theorem TD.mono {H H' : Hp} (t : Tp H H') : ∀ (d : PyData) (v : V), TD H v d → TD H' v d
  | .none, _, h => by cases h; exact .non
  | .bool _, _, h => by cases h; exact .bl _
  | .int _, _, h => by cases h; exact .int _
  | .str _, _, h => by cases h; exact .str _
  | .tuple ds, _, h => by
    cases h with
    | tup e q => exact .tup (t _ _ e) (TDs.mono t ds _ q)
  | .list _, _, h => by cases h
  | .dict _, _, h => by cases h
theorem TDs.mono {H H' : Hp} (t : Tp H H') : ∀ (ds : List PyData) (vs : List V), TDs H vs ds → TDs H' vs ds
  | [], _, h => by cases h; exact .nil
  | d :: ds, _, h => by
    cases h with
    | cons h1 h2 => exact .cons (TD.mono t d _ h1) (TDs.mono t ds _ h2)
end
mutual
theorem TD.dp {K : PySem.W.Frag} {H : Hp} : ∀ (d : PyData) (v : V), TD H v d → Dp K H v d
  | .none, _, h => by cases h; exact .non
  | .bool _, _, h => by cases h; exact .bl _
  | .int _, _, h => by cases h; exact .int _
  | .str _, _, h => by cases h; exact .str _
  | .tuple ds, _, h => by
    cases h with
    | tup e q => exact .tup (SqT.of e) (TDs.dp ds _ q)
  | .list _, _, h => by cases h
  | .dict _, _, h => by cases h
theorem TDs.dp {K : PySem.W.Frag} {H : Hp} : ∀ (ds : List PyData) (vs : List V), TDs H vs ds → DpAll K H vs ds
  | [], _, h => by cases h; exact .nil
  | d :: ds, _, h => by
    cases h with
    | cons h1 h2 => exact .cons (TD.dp d _ h1) (TDs.dp ds _ h2)
end
section
variable {H H' : Hp} {vs us : List V} {ds es : List PyData} {v : V} {d : PyData} {i : Nat}
theorem TDs.length (h : TDs H vs ds) : vs.length = ds.length := by
  induction ds generalizing vs with
  | nil => cases h; rfl
  | cons d ds ih =>
    cases h with
    | cons h1 h2 => simp only [List.length_cons, ih h2]
theorem TDs.app (h : TDs H vs ds) (g : TDs H us es) : TDs H (vs ++ us) (ds ++ es) := by
  induction ds generalizing vs with
  | nil => cases h; exact g
  | cons d ds ih =>
    cases h with
    | cons h1 h2 => exact .cons h1 (ih h2)
theorem TDs.snoc (h : TDs H vs ds) (g : TD H v d) : TDs H (vs ++ [v]) (ds ++ [d]) := h.app (.cons g .nil)
theorem TDs.at_ (h : TDs H vs ds) (e : vs[i]? = some v) : ∃ d, ds[i]? = some d ∧ TD H v d := by
  induction ds generalizing vs i with
  | nil => cases h; cases e
  | cons d ds ih =>
    cases h with
    | cons h1 h2 =>
      cases i with
      | zero => cases e; exact ⟨d, rfl, h1⟩
      | succ i =>
        obtain ⟨d, a, b⟩ := ih h2 (by simpa using e)
        exact ⟨d, a, b⟩
theorem TDs.to_ (h : TDs H vs ds) (e : ds[i]? = some d) : ∃ v, vs[i]? = some v ∧ TD H v d := by
  induction ds generalizing vs i with
  | nil => cases e
  | cons d' ds ih =>
    cases h with
    | cons h1 h2 =>
      cases i with
      | zero => cases e; exact ⟨_, rfl, h1⟩
      | succ i =>
        obtain ⟨v, a, b⟩ := ih h2 e
        exact ⟨v, a, b⟩
theorem TDs.take (n : Nat) (h : TDs H vs ds) : TDs H (vs.take n) (ds.take n) := by
  induction ds generalizing vs n with
  | nil => cases h; rw [List.take_nil, List.take_nil]; exact .nil
  | cons d ds ih =>
    cases h with
    | cons h1 h2 =>
      cases n with
      | zero => exact .nil
      | succ n => exact .cons h1 (ih n h2)
theorem TDs.drop (n : Nat) (h : TDs H vs ds) : TDs H (vs.drop n) (ds.drop n) := by
  induction ds generalizing vs n with
  | nil => cases h; rw [List.drop_nil, List.drop_nil]; exact .nil
  | cons d ds ih =>
    cases h with
    | cons h1 h2 =>
      cases n with
      | zero => exact .cons h1 h2
      | succ n => exact ih n h2
end

theorem fresh_ne {H : Hp} {p D : Addr} {o : HO} (h : upd H p o D = none) : D ≠ p := fun z => by
  rw [z, upd_same] at h
  cases h
theorem upd_old {H : Hp} {p b : Addr} {o o' : HO} (hp : H p = none) (hb : H b = some o) : upd H p o' b = some o := by
  rw [upd_ne (ne_of_none hb hp)]
  exact hb
theorem fresh_of {H : Hp} {p D : Addr} {o : HO} (h : upd H p o D = none) : H D = none := by
  rw [upd_ne (fresh_ne h)] at h
  exact h
/-! ### frames -/
/-- all but ms is as it was, tuples are there -/
structure Fr (ms : List Addr) (H H' : Hp) : Prop where
  keep : ∀ b o, b ∉ ms → H b = some o → H' b = some o
  tup : Tp H H'
section
variable {ms ns : List Addr} {H H1 H2 : Hp} {p : Addr} {o o' : HO}
theorem Fr.refl (H : Hp) : Fr ms H H := ⟨fun _ _ _ h => h, Tp.refl H⟩
theorem Fr.trans (a : Fr ms H H1) (b : Fr ms H1 H2) : Fr ms H H2 := ⟨fun c o n h => b.keep c o n (a.keep c o n h), a.tup.trans b.tup⟩
theorem Fr.mono (a : Fr ms H H1) (h : ∀ b, b ∈ ms → b ∈ ns) : Fr ns H H1 := ⟨fun c o n e => a.keep c o (fun z => n (h c z)) e, a.tup⟩
theorem Fr.same (a : Fr [] H H1) : Same H H1 := fun b o e => a.keep b o (List.not_mem_nil) e
theorem Fr.ofSame (s : Same H H1) : Fr ms H H1 := ⟨fun b o _ e => s b o e, fun a xs e => s a _ e⟩
theorem Fr.new (a : Fr ms H H1) (h : H1 p = none) : Fr ms H (upd H1 p o) := by
  refine ⟨fun b u n e => ?_, fun b xs e => ?_⟩
  · have q := a.keep b u n e
    rw [upd_ne (ne_of_none q h)]
    exact q
  · have q := a.tup b xs e
    rw [upd_ne (ne_of_none q h)]
    exact q
theorem Fr.up (h : H p = none) : Fr ms H (upd H p o) := (Fr.refl H).new h
/-- a list, an instance .. is written: it is one of ms, or new -/
theorem Fr.wr (a : Fr ms H H1) (h : H1 p = some o) (m : Mut (some o)) (hp : p ∈ ms ∨ H p = none) : Fr ms H (upd H1 p o') := by
  refine ⟨fun b u n e => ?_, fun b xs e => ?_⟩
  · have ne : b ≠ p := fun z => by
      rcases hp with q | q
      · exact n (z ▸ q)
      · rw [z, q] at e; cases e
    rw [upd_ne ne]
    exact a.keep b u n e
  · have q := a.tup b xs e
    have ne : b ≠ p := fun z => by
      rw [z, h] at q
      cases q
      exact m
    rw [upd_ne ne]
    exact q
theorem Fr.wl {xs : List V} (a : Fr ms H H1) (h : H1 p = some (.lst xs)) (hp : p ∈ ms ∨ H p = none) : Fr ms H (upd H1 p o') := a.wr h trivial hp
theorem Fr.wi {C dx : Addr} {fs : List (Str × V)} (a : Fr ms H H1) (h : H1 p = some (.ins C dx fs)) (hp : p ∈ ms ∨ H p = none) : Fr ms H (upd H1 p o') := a.wr h trivial hp
/-- what was not there ahead may be of ms -/
theorem Fr.cut (a : Fr (ms ++ ns) H H1) (h : ∀ b, b ∈ ns → H b = none) : Fr ms H H1 := by
  refine ⟨fun c o n e => a.keep c o (fun z => ?_) e, a.tup⟩
  rcases List.mem_append.mp z with q | q
  · exact n q
  · rw [h c q] at e
    cases e
theorem Fr.free (a : Fr [] H H1) (h : H1 p = none) : H p = none := a.same.free h
theorem Fr.back (a : Fr ms H H1) (n : p ∉ ms) (h : H1 p = none) : H p = none := by
  cases q : H p with
  | none => rfl
  | some o =>
    rw [a.keep p o n q] at h
    cases h
end
end Hq

/-! P2: readings step by step -/
namespace Hq
open PySem PySem.Spec PyProof.Rows L2
section
variable {σ : L2.St} {H : Hp} {Q : VK} {QT : Bool → Hp → Prop} {QA : List V → Hp → Prop} {D : Ends} {te ta tb tc : TE} {t u : TT} {ts us : TS} {tA tr : TA} {v x y : V} {i : Nat} {n j : Int} {K : PySem.W.Frag} {r r' : R2} {a p C dx : Addr} {fs : List (Str × V)} {f m : Str} {xs ys : List V} {sp : Sp} {E : XK}
theorem st_var (h : σ[i]? = some (some v)) (q : Q v H) : tVar i σ H Q := ⟨v, h, q⟩
theorem st_c (q : Q v H) : tC v σ H Q := q
theorem st_op (q : ta σ H fun x H1 => tb σ H1 fun y H2 => r x y H2 Q) : tOp r ta tb σ H Q := q
theorem st_un {r : V → Hp → VK → Prop} (q : ta σ H fun x H1 => r x H1 Q) : tUn r ta σ H Q := q
theorem st_I {c : Int → Int → Prop} {g : Int → Int → V} (h : c n j) (q : Q (g n j) H) : rI c g (.int n) (.int j) H Q := ⟨n, j, rfl, rfl, h, q⟩
theorem st_I0 {g : Int → Int → V} (q : Q (g n j) H) : rI0 g (.int n) (.int j) H Q := ⟨n, j, rfl, rfl, q⟩
theorem st_U {g : Int → V} (q : Q (g n) H) : rU g (.int n) H Q := ⟨n, rfl, q⟩
theorem st_eq (h : scal x y = true) (q : Q (.bl (decide (x = y))) H) : rEq x y H Q := ⟨h, q⟩
theorem st_ne (h : scal x y = true) (q : Q (.bl (!decide (x = y))) H) : rNe x y H Q := ⟨h, q⟩
theorem st_test (q : te σ H fun x H' => ∃ k, x = .bl k ∧ QT k H') : tTest te σ H QT := q
theorem st_B (q : te σ H fun x H' => ∃ k, x = .bl k ∧ QT k H') : tB te σ H QT := q
theorem st_bl {b : Bool} {R : Bool → Prop} (q : R b) : ∃ k, V.bl b = .bl k ∧ R k := ⟨b, rfl, q⟩
theorem st_isN (q : ta σ H fun x H1 => Q (.bl (decide (x = .non))) H1) : tIsN ta σ H Q := q
theorem st_notN (q : ta σ H fun x H1 => Q (.bl (!decide (x = .non))) H1) : tNotN ta σ H Q := q
theorem st_chain (q : ta σ H fun x H1 => tb σ H1 fun y H2 => r x y H2 fun z H3 => ∃ k, z = .bl k ∧ (if k = true then tc σ H3 fun w' H4 => r' y w' H4 Q else Q (.bl false) H3)) : tChain r r' ta tb tc σ H Q := q
theorem st_and (q : t σ H fun c H1 => if c = true then u σ H1 QT else QT false H1) : tAnd t u σ H QT := q
theorem st_or (q : t σ H fun c H1 => if c = true then QT true H1 else u σ H1 QT) : tOr t u σ H QT := q
theorem st_not (q : t σ H fun c H1 => QT (!c) H1) : tNot t σ H QT := q
theorem st_andV (q : ta σ H fun x H1 => ∃ c, x = .bl c ∧ if c = true then tb σ H1 Q else Q (.bl false) H1) : tAndV ta tb σ H Q := q
theorem st_orV (q : ta σ H fun x H1 => ∃ c, x = .bl c ∧ if c = true then Q (.bl true) H1 else tb σ H1 Q) : tOrV ta tb σ H Q := q
theorem st_notV (q : ta σ H fun x H1 => ∃ c, x = .bl c ∧ Q (.bl (!c)) H1) : tNotV ta σ H Q := q
theorem st_if (q : t σ H fun c H1 => if c = true then ta σ H1 Q else tb σ H1 Q) : tIf t ta tb σ H Q := q
theorem st_CB {r : List V → Hp → VK → Prop} (q : tA σ H fun vs H1 => r vs H1 Q) : tCB r tA σ H Q := q
theorem st_cons (q : te σ H fun x H1 => tr σ H1 fun xs H2 => QA (x :: xs) H2) : tCons te tr σ H QA := q
theorem st_nil (q : QA [] H) : tNil σ H QA := q
theorem st_tup (q : tA σ H fun xs H1 => xs.length ≤ sizeLine ∧ ∀ p, H1 p = none → Q (.ref p) (upd H1 p (.tup xs))) : tTup tA σ H Q := q
theorem st_lst (q : tA σ H fun xs H1 => xs.length ≤ sizeLine ∧ ∀ p, H1 p = none → Q (.ref p) (upd H1 p (.lst xs))) : tLst tA σ H Q := q
theorem st_fld (q : ta σ H fun x H1 => ∃ a C dx fs v, x = .ref a ∧ H1 a = some (.ins C dx fs) ∧ Cls K C ∧ NoAttr K C f ∧ fs.lookup f = some v ∧ Q v H1) : tFld K ta f σ H Q := q
theorem st_call (q : tA σ H fun vs H1 => sp (vs ++ []) H1 Q E) : tCall sp [] E tA σ H Q := q
theorem st_meth (q : ta σ H fun x H1 => ∃ a dx fs, x = .ref a ∧ H1 a = some (.ins C dx fs) ∧ fs.lookup m = none ∧ tA σ H1 fun vs H2 => sp (x :: (vs ++ [])) H2 Q E) : tMeth C m sp [] E ta tA σ H Q := q
theorem st_make (q : tA σ H fun vs H1 => ∀ x dx, H1 x = none → H1 dx = none → dx ≠ x → sp (.ref x :: (vs ++ [])) (upd (upd H1 dx (.own x)) x (.ins C dx [])) (fun v H2 => v = .non ∧ Q (.ref x) H2) E) : tMake C sp [] E tA σ H Q := q
theorem st_sl {r : V → Option Int → Option Int → Hp → VK → Prop} {tl th : TO} (q : te σ H fun x H1 => tl σ H1 fun l H2 => th σ H2 fun u H3 => r x l u H3 Q) : tSl r te tl th σ H Q := q
theorem st_noPart {QO : Option Int → Hp → Prop} (q : QO none H) : tNoPart σ H QO := q
theorem st_part {QO : Option Int → Hp → Prop} (q : te σ H fun x H1 => ∃ i, x = .int i ∧ QO (some i) H1) : tPart te σ H QO := q
theorem st_int {R : Int → Prop} (q : R n) : ∃ i, V.int n = .int i ∧ R i := ⟨n, rfl, q⟩
theorem st_ixL (h : SqL K H p xs) (e : atI xs n = some v) (q : Q v H) : rIxL K (.ref p) (.int n) H Q := ⟨p, xs, n, v, rfl, rfl, h, e, q⟩
theorem st_ixT (h : SqT K H p xs) (e : atI xs n = some v) (q : Q v H) : rIxT K (.ref p) (.int n) H Q := ⟨p, xs, n, v, rfl, rfl, h, e, q⟩
theorem st_bm {T : String} {r : V → List V → Hp → VK → Prop} (q : ta σ H fun x H1 => tyV K T x H1 ∧ tA σ H1 fun xs H2 => r x xs H2 Q) : tBM K T r ta tA σ H Q := q
theorem st_app (q : ta σ H fun x H1 => tyV K "list" x H1 ∧ te σ H1 fun y H2 => rAppend x [y] H2 Q) : tApp K ta te σ H Q := q
theorem ty_lst (h : H p = some (.lst xs)) : tyV K "list" (.ref p) H := .inl ⟨rfl, _, SqL.of h⟩
theorem st_append (h : H p = some (.lst xs)) (l : xs.length < sizeLine) (q : Q .non (upd H p (.lst (xs ++ [v])))) : rAppend (.ref p) [v] H Q := ⟨p, xs, v, rfl, rfl, h, l, q⟩
theorem st_len {n : Nat} (h : SqL K H p xs ∨ SqT K H p xs) (q : Q (.int xs.length) H) : rLen K [.ref p] H Q := ⟨p, xs, rfl, h, q⟩
theorem st_listOf (h : SqL K H p xs ∨ SqT K H p xs) (q : ∀ l, H l = none → Q (.ref l) (upd H l (.lst xs))) : rListOf K [.ref p] H Q := ⟨p, xs, rfl, h, q⟩
theorem st_tupOf (h : SqL K H p xs) (q : ∀ l, H l = none → Q (.ref l) (upd H l (.tup xs))) : rTupOf K [.ref p] H Q := ⟨p, xs, rfl, .inl ⟨h, q⟩⟩
def rIntI : List V → Hp → VK → Prop := fun xs H Q => ∃ i, xs = [.int i] ∧ Q (.int i) H
theorem st_intI (q : Q (.int n) H) : rIntI [.int n] H Q := ⟨n, rfl, q⟩
theorem kInt {X : Cx} : CallR X (.type "int") rIntI := by
  intro pins s σ H xs us Q I r h
  exact call_int1 pins s σ H xs us Q I r (.inl h)
def rAbs : List V → Hp → VK → Prop := fun xs H Q => ∃ i, xs = [.int i] ∧ Q (.int (if i < 0 then -i else i)) H
theorem st_abs (q : Q (.int (if n < 0 then -n else n)) H) : rAbs [.int n] H Q := ⟨n, rfl, q⟩
theorem kAbs {X : Cx} : CallR X (.builtin "abs") rAbs := call_abs
theorem iteNT {A B : Prop} (h : B) : if (!true) = true then A else B := by simpa using h
theorem iteNF {A B : Prop} (h : A) : if (!false) = true then A else B := by simpa using h
theorem iteD {p A B : Prop} [Decidable p] (h1 : p → A) (h2 : ¬ p → B) : if decide p = true then A else B := by
  by_cases h : p
  · rw [if_pos (decide_eq_true h)]
    exact h1 h
  · rw [if_neg (by simpa using h)]
    exact h2 h
theorem iteDN {p A B : Prop} [Decidable p] (h1 : p → A) (h2 : ¬ p → B) : if (!decide p) = true then B else A := by
  by_cases h : p
  · rw [if_neg (by simpa using h)]
    exact h1 h
  · rw [if_pos (by simpa using h)]
    exact h2 h
theorem iteB {b : Bool} {A B : Prop} (h1 : b = true → A) (h2 : b = false → B) : if b = true then A else B := by
  cases b with
  | true => rw [if_pos rfl]; exact h1 rfl
  | false => rw [if_neg Bool.false_ne_true]; exact h2 rfl
theorem at0 {x : V} {xs : List V} : atI (x :: xs) 0 = some x := by
  have h := atI_nat (xs := x :: xs) (j := 0) (v := x) rfl
  exact h
theorem at1 {x y : V} {xs : List V} : atI (x :: y :: xs) 1 = some y := by
  have h := atI_nat (xs := x :: y :: xs) (j := 1) (v := y) rfl
  exact h
theorem at2 {x0 x1 x2 : V} {xs : List V} : atI (x0 :: x1 :: x2 :: xs) 2 = some x2 := by
  have h := atI_nat (xs := x0 :: x1 :: x2 :: xs) (j := 2) (v := x2) rfl
  exact h
theorem at3 {x0 x1 x2 x3 : V} {xs : List V} : atI (x0 :: x1 :: x2 :: x3 :: xs) 3 = some x3 := by
  have h := atI_nat (xs := x0 :: x1 :: x2 :: x3 :: xs) (j := 3) (v := x3) rfl
  exact h
theorem at4 {x0 x1 x2 x3 x4 : V} {xs : List V} : atI (x0 :: x1 :: x2 :: x3 :: x4 :: xs) 4 = some x4 := by
  have h := atI_nat (xs := x0 :: x1 :: x2 :: x3 :: x4 :: xs) (j := 4) (v := x4) rfl
  exact h
theorem at5 {x0 x1 x2 x3 x4 x5 : V} {xs : List V} : atI (x0 :: x1 :: x2 :: x3 :: x4 :: x5 :: xs) 5 = some x5 := by
  have h := atI_nat (xs := x0 :: x1 :: x2 :: x3 :: x4 :: x5 :: xs) (j := 5) (v := x5) rfl
  exact h
theorem at6 {x0 x1 x2 x3 x4 x5 x6 : V} {xs : List V} : atI (x0 :: x1 :: x2 :: x3 :: x4 :: x5 :: x6 :: xs) 6 = some x6 := by
  have h := atI_nat (xs := x0 :: x1 :: x2 :: x3 :: x4 :: x5 :: x6 :: xs) (j := 6) (v := x6) rfl
  exact h
theorem at7 {x0 x1 x2 x3 x4 x5 x6 x7 : V} {xs : List V} : atI (x0 :: x1 :: x2 :: x3 :: x4 :: x5 :: x6 :: x7 :: xs) 7 = some x7 := by
  have h := atI_nat (xs := x0 :: x1 :: x2 :: x3 :: x4 :: x5 :: x6 :: x7 :: xs) (j := 7) (v := x7) rfl
  exact h
theorem at8 {x0 x1 x2 x3 x4 x5 x6 x7 x8 : V} {xs : List V} : atI (x0 :: x1 :: x2 :: x3 :: x4 :: x5 :: x6 :: x7 :: x8 :: xs) 8 = some x8 := by
  have h := atI_nat (xs := x0 :: x1 :: x2 :: x3 :: x4 :: x5 :: x6 :: x7 :: x8 :: xs) (j := 8) (v := x8) rfl
  exact h
theorem ixN_nat {n k : Nat} (h : k < n) : ixN n (k : Int) = some k := by
  unfold ixN
  rw [if_pos (by omega), if_pos (by omega)]
  rfl
theorem ix0 {n : Nat} : ixN (n + 1) 0 = some 0 := ixN_nat (k := 0) (by omega)
theorem seq0 {n : Nat} : PySem.seqIndex? 0 (n + 1) = some 0 := by
  unfold PySem.seqIndex?
  simp
theorem and_left {A B : Prop} (h : A) (q : B) : A ∧ B := ⟨h, q⟩
theorem st_popAt {k : Nat} (h : H p = some (.lst xs)) (hk : PySem.seqIndex? 0 xs.length = some k) (e : xs[k]? = some v) (q : Q v (upd H p (.lst (xs.eraseIdx k)))) : rPopAt (.ref p) [.int 0] H Q :=
  ⟨p, xs, 0, k, v, rfl, rfl, h, by decide, by decide, hk, e, q⟩
theorem at_in {xs : List V} {n : Int} (h0 : 0 ≤ n) (h1 : n < xs.length) : ∃ v, v ∈ xs ∧ atI xs n = some v := by
  obtain ⟨j, e⟩ : ∃ j : Nat, n = (j : Int) := ⟨n.toNat, by omega⟩
  have hj : j < xs.length := by omega
  subst e
  exact ⟨xs[j], List.getElem_mem hj, atI_nat (List.getElem?_eq_getElem hj)⟩
theorem st_popAtN {k : Nat} (hl : xs.length ≤ 1000000) (h : H p = some (.lst xs)) (e : xs[k]? = some v) (q : Q v (upd H p (.lst (xs.eraseIdx k)))) : rPopAt (.ref p) [.int k] H Q := by
  have hk := (List.getElem?_eq_some_iff.mp e).1
  refine ⟨p, xs, k, k, v, rfl, rfl, h, by omega, by omega, ?_, e, q⟩
  unfold PySem.seqIndex?
  have h1 : ¬ ((k : Int) < 0) := by omega
  have h2 : ¬ ((xs.length : Int) ≤ (k : Int)) := by omega
  simp [h1, h2]
  omega
theorem look_cons (f g : Str) (v : V) (fs : List (Str × V)) : List.lookup g ((f, v) :: fs) = if g = f then some v else List.lookup g fs := by
  rw [List.lookup_cons]
  by_cases h : g = f
  · rw [if_pos h, h]; simp
  · rw [if_neg h]
    have : (g == f) = false := by simpa using h
    rw [this]
theorem put_cons (f g : Str) (v w : V) (fs : List (Str × V)) : putF g w ((f, v) :: fs) = if f = g then (f, w) :: fs else (f, v) :: putF g w fs := rfl
theorem put_nil (g : Str) (w : V) : putF g w [] = [(g, w)] := rfl
theorem at_mod {xs : List V} (t : Int) (h : 0 < xs.length) : ∃ j : Nat, j < xs.length ∧ t % (xs.length : Int) = (j : Int) ∧ atI xs (t % (xs.length : Int)) = xs[j]? := by
  have h0 : 0 ≤ t % (xs.length : Int) := Int.emod_nonneg _ (by omega)
  have h1 : t % (xs.length : Int) < xs.length := Int.emod_lt_of_pos _ (by omega)
  obtain ⟨j, e⟩ : ∃ j : Nat, t % (xs.length : Int) = (j : Int) := ⟨(t % (xs.length : Int)).toNat, by omega⟩
  have hj : j < xs.length := by omega
  refine ⟨j, hj, e, ?_⟩
  rw [e, List.getElem?_eq_getElem hj]
  exact atI_nat (List.getElem?_eq_getElem hj)
theorem st_ins {R : Addr → Addr → Addr → List (Str × V) → Prop} (h : H a = some (.ins C dx fs)) (c : Cls K C) (n : NoAttr K C f) (l : fs.length < 1000) (q : R a C dx fs) :
    ∃ a' C' dx' fs', V.ref a = .ref a' ∧ H a' = some (.ins C' dx' fs') ∧ Cls K C' ∧ NoAttr K C' f ∧ fs'.length < 1000 ∧ R a' C' dx' fs' := ⟨a, C, dx, fs, rfl, h, c, n, l, q⟩
theorem st_att {R : V → Prop} (h : H a = some (.ins C dx fs)) (c : Cls K C) (n : NoAttr K C f) (l : fs.lookup f = some v) (q : R v) :
    ∃ a' C' dx' fs' v', V.ref a = .ref a' ∧ H a' = some (.ins C' dx' fs') ∧ Cls K C' ∧ NoAttr K C' f ∧ fs'.lookup f = some v' ∧ R v' := ⟨a, C, dx, fs, v, rfl, h, c, n, l, q⟩
theorem st_mt {R : Addr → Prop} (h : H a = some (.ins C dx fs)) (l : fs.lookup m = none) (q : R a) : ∃ a' dx' fs', V.ref a = .ref a' ∧ H a' = some (.ins C dx' fs') ∧ fs'.lookup m = none ∧ R a' := ⟨a, dx, fs, rfl, h, l, q⟩
theorem st_extend (h : H a = some (.lst xs)) (h2 : H p = some (.lst ys)) (l : xs.length + ys.length ≤ sizeLine) (q : Q .non (upd H a (.lst (xs ++ ys)))) : rExtend (.ref a) [.ref p] H Q := ⟨a, p, xs, ys, rfl, rfl, h, h2, l, q⟩
/-! isinstance against a built-in class -/
theorem st_isi {t n : String} {b : Bool} (h : TyX K H x (.type t)) (e : kitB t n = some b) (q : Q (.bl b) H) : rIsi K [x, .ty n] H Q := ⟨x, .ty n, _, _, b, rfl, .ty n, h, kit_ty e, q⟩
theorem kit_NoneType_bool : kitB "NoneType" "bool" = some false := by decide +kernel
theorem kit_NoneType_int : kitB "NoneType" "int" = some false := by decide +kernel
theorem kit_NoneType_str : kitB "NoneType" "str" = some false := by decide +kernel
theorem kit_NoneType_tuple : kitB "NoneType" "tuple" = some false := by decide +kernel
theorem kit_NoneType_list : kitB "NoneType" "list" = some false := by decide +kernel
theorem kit_NoneType_dict : kitB "NoneType" "dict" = some false := by decide +kernel
theorem kit_bool_bool : kitB "bool" "bool" = some true := by decide +kernel
theorem kit_bool_int : kitB "bool" "int" = some true := by decide +kernel
theorem kit_bool_str : kitB "bool" "str" = some false := by decide +kernel
theorem kit_bool_tuple : kitB "bool" "tuple" = some false := by decide +kernel
theorem kit_bool_list : kitB "bool" "list" = some false := by decide +kernel
theorem kit_bool_dict : kitB "bool" "dict" = some false := by decide +kernel
theorem kit_int_bool : kitB "int" "bool" = some false := by decide +kernel
theorem kit_int_int : kitB "int" "int" = some true := by decide +kernel
theorem kit_int_str : kitB "int" "str" = some false := by decide +kernel
theorem kit_int_tuple : kitB "int" "tuple" = some false := by decide +kernel
theorem kit_int_list : kitB "int" "list" = some false := by decide +kernel
theorem kit_int_dict : kitB "int" "dict" = some false := by decide +kernel
theorem kit_str_bool : kitB "str" "bool" = some false := by decide +kernel
theorem kit_str_int : kitB "str" "int" = some false := by decide +kernel
theorem kit_str_str : kitB "str" "str" = some true := by decide +kernel
theorem kit_str_tuple : kitB "str" "tuple" = some false := by decide +kernel
theorem kit_str_list : kitB "str" "list" = some false := by decide +kernel
theorem kit_str_dict : kitB "str" "dict" = some false := by decide +kernel
theorem kit_tuple_bool : kitB "tuple" "bool" = some false := by decide +kernel
theorem kit_tuple_int : kitB "tuple" "int" = some false := by decide +kernel
theorem kit_tuple_str : kitB "tuple" "str" = some false := by decide +kernel
theorem kit_tuple_tuple : kitB "tuple" "tuple" = some true := by decide +kernel
theorem kit_tuple_list : kitB "tuple" "list" = some false := by decide +kernel
theorem kit_tuple_dict : kitB "tuple" "dict" = some false := by decide +kernel
theorem kit_list_bool : kitB "list" "bool" = some false := by decide +kernel
theorem kit_list_int : kitB "list" "int" = some false := by decide +kernel
theorem kit_list_str : kitB "list" "str" = some false := by decide +kernel
theorem kit_list_tuple : kitB "list" "tuple" = some false := by decide +kernel
theorem kit_list_list : kitB "list" "list" = some true := by decide +kernel
theorem kit_list_dict : kitB "list" "dict" = some false := by decide +kernel
theorem kit_dict_bool : kitB "dict" "bool" = some false := by decide +kernel
theorem kit_dict_int : kitB "dict" "int" = some false := by decide +kernel
theorem kit_dict_str : kitB "dict" "str" = some false := by decide +kernel
theorem kit_dict_tuple : kitB "dict" "tuple" = some false := by decide +kernel
theorem kit_dict_list : kitB "dict" "list" = some false := by decide +kernel
theorem kit_dict_dict : kitB "dict" "dict" = some true := by decide +kernel
/-! statements -/
theorem st_seq (q : ts { D with nx := us D } σ H) : tSeq ts us D σ H := q
theorem st_next (q : D.nx σ H) : tNext D σ H := q
theorem st_drop (q : te σ H fun _ H1 => D.nx σ H1) : tDrop te D σ H := q
theorem st_ret (q : te σ H D.rt) : tRet te D σ H := q
theorem st_retN (q : D.rt .non H) : tRetN D σ H := q
theorem st_ifS {c : TT} (q : c σ H fun b H1 => if b = true then ts D σ H1 else us D σ H1) : tIfS c ts us D σ H := q
theorem st_asg {g : TG} (q : te σ H fun x H1 => g x σ H1 D.nx) : tAsg te g D σ H := q
theorem st_name {QG : L2.St → Hp → Prop} (q : QG (σ.set i (some v)) H) : gName i v σ H QG := q
theorem st_par {j : Nat} (q : tA σ H fun vs H1 => ∃ v w, vs = [v, w] ∧ D.nx ((σ.set i (some v)).set j (some w)) H1) : tPar i j tA D σ H := q
theorem st_gtup {QG : L2.St → Hp → Prop} {k : Nat} {g : TGs} (h : SqT K H a xs) (hl : xs.length = k) (q : g xs σ H QG) : gTup K k g (.ref a) σ H QG := ⟨a, xs, rfl, h, hl, q⟩
theorem st_gcons {QG : L2.St → Hp → Prop} {g : TG} {gs : TGs} (q : g v σ H fun σ' H' => gs xs σ' H' QG) : gCons g gs (v :: xs) σ H QG := ⟨v, xs, rfl, q⟩
theorem st_gnil {QG : L2.St → Hp → Prop} (q : QG σ H) : gNil [] σ H QG := ⟨rfl, q⟩
theorem st_gsub {QG : L2.St → Hp → Prop} {st : TSet} (q : ta σ H fun o H1 => tb σ H1 fun i H2 => st o i v H2 fun H3 => QG σ H3) : gSub ta tb st v σ H QG := q
theorem st_setL {QH : Hp → Prop} {k : Nat} (h : H p = some (.lst xs)) (e : ixN xs.length n = some k) (q : QH (upd H p (.lst (xs.set k v)))) : rSetL (.ref p) (.int n) v H QH := ⟨p, xs, n, k, rfl, rfl, h, e, q⟩
theorem st_sFld {tv : TE} (q : tv σ H fun y H1 => ta σ H1 fun x H2 => ∃ a C dx fs, x = .ref a ∧ H2 a = some (.ins C dx fs) ∧ Cls K C ∧ NoAttr K C f ∧ fs.length < 1000 ∧ D.nx σ (upd H2 a (.ins C dx (putF f y fs)))) : sFld K ta tv f D σ H := q
end
end Hq

/-! P3: zip of two sequences, each a list or a tuple -/
namespace Hq
open PySem PySem.Spec PyProof.Rows L2

/-- tuples: true, lists: false -/
def SqB (b : Bool) (K : PySem.W.Frag) (H : Hp) (a : Addr) (xs : List V) : Prop := match b with
  | true => SqT K H a xs
  | false => SqL K H a xs
def hIter (b : Bool) (h : Heap) (it l : Addr) (i : Nat) : Prop := match b with
  | true => h.IsTupleIter it l i
  | false => h.IsListIter it l i
def hSeq (b : Bool) (h : Heap) (l : Addr) (vs : Array Value) : Prop := match b with
  | true => h.IsTuple l vs
  | false => h.IsList l vs
def itName (b : Bool) : String := match b with
  | true => "tuple_iterator"
  | false => "list_iterator"
abbrev itObj (b : Bool) (l : Addr) : Obj := { cls := .type (itName b), data := .fields #[.ref l, .int 0 0] }
theorem hSeq.push {b : Bool} {h : Heap} {l : Addr} {vs : Array Value} (q : hSeq b h l vs) (o : Obj) : hSeq b (h.push o) l vs := by
  cases b with
  | true => exact Heap.IsTuple.push q o
  | false => exact Heap.IsList.push q o
theorem hSeq.lt {b : Bool} {h : Heap} {l : Addr} {vs : Array Value} (q : hSeq b h l vs) : l < h.objs.size := by
  cases b with
  | true =>
    obtain ⟨o, e, _⟩ := (show h.IsTuple l vs from q)
    exact Heap.lt_size e
  | false =>
    obtain ⟨o, _, e, _⟩ := (show h.IsList l vs from q)
    first | exact Heap.lt_size e | exact Heap.lt_size (by assumption)
theorem hIter.at {b : Bool} {h g : Heap} {it l : Addr} {i : Nat} (q : hIter b h it l i) (k : ∀ o, h.get? it = some o → g.get? it = some o) : hIter b g it l i := by
  cases b with
  | true => exact Heap.IsTupleIter.at q k
  | false => exact Heap.IsListIter.at q k
theorem hIter.obj {b : Bool} {h : Heap} {it l : Addr} {i : Nat} (q : hIter b h it l i) : ∃ o, h.get? it = some o ∧ ∀ v, o.data ≠ .cell v := by
  cases b with
  | true =>
    obtain ⟨o, e, _, d⟩ := (show h.IsTupleIter it l i from q)
    exact ⟨o, e, fun v z => by rw [d] at z; cases z⟩
  | false =>
    obtain ⟨o, e, _, d⟩ := (show h.IsListIter it l i from q)
    exact ⟨o, e, fun v z => by rw [d] at z; cases z⟩
theorem hIter.new (b : Bool) {h : Heap} {it l : Addr} (e : h.get? it = some (itObj b l)) : hIter b h it l 0 := by
  cases b with
  | true => exact ⟨_, e, rfl, rfl⟩
  | false => exact ⟨_, e, rfl, rfl⟩
theorem draws2 (b : Bool) {prog : Program} {w : World} {A : Around} (hh : A.handled = none) (it l : Addr) (ne : l ≠ it) (vs : Array Value) :
    Draws prog w A it [it, l] vs.size (fun i v => vs[i]? = some v) (fun i h => hIter b h it l i ∧ hSeq b h l vs) := by
  cases b with
  | true => exact Draws.tuple hh it l ne vs
  | false => exact Draws.list hh it l ne vs
section
variable {prog : Program} {w : World} {A : Around} {E : Value → Shared → Prop} {s : Shared}
theorem iter2 (b : Bool) {l : Addr} {vs : Array Value} {Q : Value → Shared → Prop} (q : hSeq b s.heap l vs) (h : Q (.ref s.heap.objs.size) { s with heap := s.heap.push (itObj b l) }) :
    wpAny (model prog w) A (pyIter (.ref l)) Q E s := by
  cases b with
  | true => exact wpAny_pyIter_tuple (show s.heap.IsTuple l vs from q) h
  | false => exact wpAny_pyIter_list (show s.heap.IsList l vs from q) h
end
section
variable (b c : Bool)
abbrev zg1 (h : Heap) (l m : Addr) : Heap := h.push (itObj b l)
abbrev zg2 (h : Heap) (l m : Addr) : Heap := (zg1 b h l m).push (itObj c m)
abbrev zg3 (h : Heap) (l m : Addr) : Heap := (zg2 b c h l m).push { cls := .type "tuple", data := .seq #[.ref h.objs.size, .ref (zg1 b h l m).objs.size] }
abbrev zg4 (h : Heap) (l m : Addr) : Heap := (zg3 b c h l m).push { cls := .type "tuple", data := .seq #[.none, .none] }
abbrev zg5 (h : Heap) (l m : Addr) : Heap := (zg4 b c h l m).push { cls := .type "zip", data := .fields #[.none, .bool false, .bool false, .ref (zg2 b c h l m).objs.size, .ref (zg3 b c h l m).objs.size] }
theorem zipNew (l m : Addr) (xs ys : Array Value) :
    Meets (Builtin.«zip.__new__» ⟨[.type "zip", .ref l, .ref m], []⟩) (fun _ R s => hSeq b s.heap l xs ∧ hSeq c s.heap m ys ∧
      R (.ok (.ret (.ref (zg4 b c s.heap l m).objs.size))) { s with heap := zg5 b c s.heap l m }) :=
  .of_wp fun prog w A R s h => by
    obtain ⟨hp, g, d, tk, os⟩ := s
    obtain ⟨q1, q2, h⟩ := h
    have sub := sub_zip
    have q1' : hSeq b (Shared.heap ⟨hp, g, d, tk, os⟩) l xs := q1
    have q2' : hSeq c (Shared.heap ⟨hp.push (itObj b l), g, d, tk, os⟩) m ys := hSeq.push q2 _
    wp_walk using iter2 b q1', iter2 c q2'
    exact ⟨_, rfl, h⟩
variable {prog : Program} {w : World} {A : Around} {E : Value → Shared → Prop} {s : Shared}
theorem zipCall {l m : Addr} {xs ys : Array Value} {Q : Value → Shared → Prop} (q1 : hSeq b s.heap l xs) (q2 : hSeq c s.heap m ys)
    (h : ∀ g, IsZip g (s.heap.objs.size + 4) (s.heap.objs.size + 2) (s.heap.objs.size + 3) .none → IsTupOf2 g (s.heap.objs.size + 2) (.ref s.heap.objs.size) (.ref (s.heap.objs.size + 1)) →
      IsTupOf2 g (s.heap.objs.size + 3) .none .none → hIter b g s.heap.objs.size l 0 → hIter c g (s.heap.objs.size + 1) m 0 →
      (∀ a o, s.heap.get? a = some o → g.get? a = some o) → Q (.ref (s.heap.objs.size + 4)) { s with heap := g }) :
    wpAny (model prog w) A (call (.type "zip") [.ref l, .ref m]) Q E s := by
  refine callType_new F.called_zip (by decide) (F.typeCall_zip_2 _ _) (F.newCall_zip_2 _ _) (fun obj => F.args_object_init_3 obj _ _) F.entry_zip_new (zipNew b c l m xs ys) ⟨q1, q2, ?_⟩
  have n1 : (zg1 b s.heap l m).objs.size = s.heap.objs.size + 1 := Heap.size_push ..
  have n2 : (zg2 b c s.heap l m).objs.size = s.heap.objs.size + 2 := by rw [Heap.size_push, n1]
  have n3 : (zg3 b c s.heap l m).objs.size = s.heap.objs.size + 3 := by rw [Heap.size_push, n2]
  have n4 : (zg4 b c s.heap l m).objs.size = s.heap.objs.size + 4 := by rw [Heap.size_push, n3]
  have up : ∀ a o, s.heap.get? a = some o → (zg5 b c s.heap l m).get? a = some o := fun a o e =>
    Heap.get?_push_of_some _ (Heap.get?_push_of_some _ (Heap.get?_push_of_some _ (Heap.get?_push_of_some _ (Heap.get?_push_of_some _ e))))
  have g5 : (zg5 b c s.heap l m).get? (zg4 b c s.heap l m).objs.size = some _ := Heap.get?_push_size _ rfl
  have g4 : (zg5 b c s.heap l m).get? (zg3 b c s.heap l m).objs.size = some _ := Heap.get?_push_of_some _ (Heap.get?_push_size _ rfl)
  have g3 : (zg5 b c s.heap l m).get? (zg2 b c s.heap l m).objs.size = some _ := Heap.get?_push_of_some _ (Heap.get?_push_of_some _ (Heap.get?_push_size _ rfl))
  have g2 : (zg5 b c s.heap l m).get? (zg1 b s.heap l m).objs.size = some (itObj c m) := Heap.get?_push_of_some _ (Heap.get?_push_of_some _ (Heap.get?_push_of_some _ (Heap.get?_push_size _ (by cases c <;> rfl))))
  have g1 : (zg5 b c s.heap l m).get? s.heap.objs.size = some (itObj b l) :=
    Heap.get?_push_of_some _ (Heap.get?_push_of_some _ (Heap.get?_push_of_some _ (Heap.get?_push_of_some _ (Heap.get?_push_size _ (by cases b <;> rfl)))))
  show _ ∧ _
  rw [n2, n3, n4] at g5
  rw [n1, n2] at g3
  rw [n3] at g4
  rw [n1] at g2
  rw [n4]
  exact ⟨⟨_, g5, rfl⟩, h _ g5 g3 g4 (hIter.new b g1) (hIter.new c g2) up⟩
end
section
variable {X : Cx} {pins : List (Addr × Obj)} {σ : L2.St} {H : Hp} {s : Shared}
theorem Inv_seq (I : Inv X pins σ H s) (b : Bool) {a : Addr} {xs : List V} (h : SqB b X.K H a xs) : ∃ its : List Value, Vals xs its ∧ hSeq b s.heap a its.toArray := by
  cases b with
  | true =>
    obtain ⟨its, r, p, _⟩ := I.tuple h
    exact ⟨its, r, p⟩
  | false =>
    obtain ⟨its, r, p, _⟩ := I.list h
    exact ⟨its, r, p.isList⟩
theorem Inv_seq_inj (I : Inv X pins σ H s) (b : Bool) {a : Addr} {xs ys : List V} (h : SqB b X.K H a xs) (g : SqB b X.K H a ys) : xs = ys := by
  cases b with
  | true => exact I.tuple_inj h g
  | false => exact I.list_inj h g
end
/-- the sequences at a and b as they stand at each turn, the items in new pairs -/
def ItZ (b c : Bool) (K : PySem.W.Frag) (l m : Addr) : It where
  go := fun i H => ∃ xs ys x y, SqB b K H l xs ∧ SqB c K H m ys ∧ xs[i]? = some x ∧ ys[i]? = some y
  yld := fun i H v H' => ∃ T x y, v = .ref T ∧ H T = none ∧ H' = upd H T (.tup [x, y]) ∧ (∀ xs, SqB b K H l xs → xs[i]? = some x) ∧ ∀ ys, SqB c K H m ys → ys[i]? = some y
  stop := fun i H => ∃ xs ys, SqB b K H l xs ∧ SqB c K H m ys ∧ i ≤ xs.length ∧ i ≤ ys.length ∧ (i = xs.length ∨ i = ys.length)
theorem turnZ {P : Program} {w : World} {K : PySem.W.Frag} {elts : List Expr} {kk : Nat} {tpos : Pos} (b c : Bool) {l m z TI TO i1 i2 : Addr} (a1 : TI ≠ z) (a2 : TO ≠ z) (a3 : TI ≠ TO) (a4 : TI ≠ i1) (a5 : TI ≠ i2) (a6 : z ≠ i1) (a7 : z ≠ i2) (a8 : TO ≠ i1) (a9 : TO ≠ i2) (a0 : i1 ≠ i2)
    (lz : l ≠ z) (lt : l ≠ TO) (l1 : l ≠ i1) (l2 : l ≠ i2) (mz : m ≠ z) (mt : m ≠ TO) (m1 : m ≠ i1) (m2 : m ≠ i2) :
    Turn P w K (.Tuple elts kk tpos) (ItZ b c K l m) [z, TI, TO, i1, i2] z (fun i h => IsZip h z TI TO .none ∧ IsTupOf2 h TI (.ref i1) (.ref i2) ∧ (∃ x y, IsTupOf2 h TO x y) ∧ hIter b h i1 l i ∧ hIter c h i2 m i) where
  mem := by simp
  obj := fun i h st d hd => by
    obtain ⟨hz, hI, ⟨x, y, hO⟩, h1, h2⟩ := st
    have hd' : d = z ∨ d = TI ∨ d = TO ∨ d = i1 ∨ d = i2 := by simpa using hd
    rcases hd' with rfl | rfl | rfl | rfl | rfl
    · exact ⟨_, hz, fun v q => nomatch q⟩
    · exact ⟨_, hI, fun v q => nomatch q⟩
    · exact ⟨_, hO, fun v q => nomatch q⟩
    · exact h1.obj
    · exact h2.obj
  keep := fun i h g st k => by
    obtain ⟨hz, hI, ⟨x, y, hO⟩, h1, h2⟩ := st
    exact ⟨k z (by simp) _ hz, k TI (by simp) _ hI, ⟨x, y, k TO (by simp) _ hO⟩, h1.at fun o q => k i1 (by simp) o q, h2.at fun o q => k i2 (by simp) o q⟩
  item := by
    intro X eP ew eK hc i pins s σ H E I hf st hg
    cases eP
    cases ew
    cases eK
    obtain ⟨hz, hI, ⟨x0, y0, hO⟩, h1, h2⟩ := st
    obtain ⟨xs, ys, x, y, qx, qy, hx, hy⟩ := hg
    obtain ⟨its, rv, p⟩ := Inv_seq I b qx
    obtain ⟨jts, rw2, p2⟩ := Inv_seq I c qy
    obtain ⟨u, hu, ru⟩ := rv.get hx
    obtain ⟨v, hv, rv'⟩ := rw2.get hy
    have zl : z < s.heap.objs.size := Heap.lt_size hz
    have hh : X.A.in1.handled = none := I.ok.hd hc
    have S : ZipSep2 z TI TO i1 i2 [i1, l] [i2, m] := ⟨a1, a2, a3, a4, by simp, by simp [a6, lz.symm], by simp [a8, lt.symm], a5, by simp, by simp [a7, mz.symm], by simp [a9, mt.symm], by simp [a0, m1.symm], by simp [a0.symm, l2.symm]⟩
    have b1 : i < its.toArray.size := by
      have := (List.getElem?_eq_some_iff.mp hu).1
      simpa using this
    have b2 : i < jts.toArray.size := by
      have := (List.getElem?_eq_some_iff.mp hv).1
      simpa using this
    refine wpAny_pyNext_zipD2_item S (draws2 b hh i1 l l1 its.toArray) (draws2 c hh i2 m m2 jts.toArray) hz hI hO ⟨h1, p⟩ ⟨h2, p2⟩ b1 b2 fun v1 v2 g tk e1 e2 gz gO s1 s2 gT gs gk => ?_
    have e1' : v1 = u := by
      have := e1.symm.trans (show its.toArray[i]? = some u by simpa using hu)
      simpa using this
    have e2' : v2 = v := by
      have := e2.symm.trans (show jts.toArray[i]? = some v by simpa using hv)
      simpa using this
    subst e1' e2'
    refine ⟨_, rfl, wpAny_letOwnedTupleGo_zip (s := { s with heap := g, toks := tk }) gz fun g2 gz2 sb => ?_⟩
    have gT2 : g2.get? s.heap.objs.size = some { cls := .type "tuple", data := .seq #[v1, v2] } := (sb.2 _ (Nat.ne_of_gt zl)).trans gT
    have new : ObjOk X.prog X.w (upd H s.heap.objs.size (.tup [x, y])) g2 s.heap.objs.size (.tup [x, y]) := ⟨by show 2 ≤ sizeLine; decide, [v1, v2], .cons ru (.cons rv' .nil), ⟨_, gT2, rfl, _, rfl⟩⟩
    have I1 : Inv X pins σ (upd H s.heap.objs.size (.tup [x, y])) { s with heap := g2, toks := tk } :=
      I.turnedNew (t' := tk) (ch := [z, TI, TO, i1, i2]) (fun d o hb q => (sb.2 d (fun q' => hb (by simp [q']))).trans (gk d o (fun q' => hb (by simp [q'])) (fun q' => hb (by simp [q'])) (fun q' => hb (by simp [q'])) (fun q' => hb (by simp [q'])) q)) hf (Nat.le_refl _) new
    refine ⟨.ref s.heap.objs.size, _, I1, rfl, ⟨_, x, y, rfl, I.hok.fresh (Nat.le_refl _), rfl, fun us hl => ?_, fun us hl => ?_⟩, ⟨gz2, ?_, ⟨v1, v2, ?_⟩, ?_, ?_⟩, fun d hd => ?_⟩
    · rw [Inv_seq_inj I b hl qx]; exact hx
    · rw [Inv_seq_inj I c hl qy]; exact hy
    · exact (sb.2 _ a1).trans (gk _ _ a1 a3 a4 a5 hI)
    · exact (sb.2 _ a2).trans gO
    · exact s1.1.at fun o q => (sb.2 _ a6.symm).trans q
    · exact s2.1.at fun o q => (sb.2 _ a7.symm).trans q
    · have lt : d < s.heap.objs.size := by
        have hd' : d = z ∨ d = TI ∨ d = TO ∨ d = i1 ∨ d = i2 := by simpa using hd
        rcases hd' with rfl | rfl | rfl | rfl | rfl
        · exact zl
        · exact Heap.lt_size hI
        · exact Heap.lt_size hO
        · obtain ⟨_, e, _⟩ := h1.obj
          exact Heap.lt_size e
        · obtain ⟨_, e, _⟩ := h2.obj
          exact Heap.lt_size e
      rw [upd_ne (Nat.ne_of_lt lt)]
      exact (hf d hd).1
  done := by
    intro X eP ew eK hc i pins s σ H E I hf st hg
    cases eP
    cases ew
    cases eK
    obtain ⟨hz, hI, ⟨x0, y0, hO⟩, h1, h2⟩ := st
    obtain ⟨xs, ys, qx, qy, le1, le2, hend⟩ := hg
    obtain ⟨its, rv, p⟩ := Inv_seq I b qx
    obtain ⟨jts, rw2, p2⟩ := Inv_seq I c qy
    have n1 := rv.length
    have n2 := rw2.length
    have hh : X.A.in1.handled = none := I.ok.hd hc
    have S : ZipSep2 z TI TO i1 i2 [i1, l] [i2, m] := ⟨a1, a2, a3, a4, by simp, by simp [a6, lz.symm], by simp [a8, lt.symm], a5, by simp, by simp [a7, mz.symm], by simp [a9, mt.symm], by simp [a0, m1.symm], by simp [a0.symm, l2.symm]⟩
    refine wpAny_pyNext_zipD2_end S (draws2 b hh i1 l l1 its.toArray) (draws2 c hh i2 m m2 jts.toArray) hz hI hO ⟨h1, p⟩ ⟨h2, p2⟩ (by simp; omega) (by simp; omega) (by simp; omega) fun g tk gk => ?_
    exact ⟨rfl, I.turnedL (t' := tk) (ch := [z, TI, TO, i1, i2]) (fun d o hb q => gk d o (fun q' => hb (by simp [q'])) (fun q' => hb (by simp [q'])) (fun q' => hb (by simp [q'])) (fun q' => hb (by simp [q'])) q) hf⟩
  self := fun A i s Q E st h => wpAny_pyIter_zip st.1 h
theorem apartN (n l m : Nat) (hl : l < n) (hm : m < n) : n + 2 ≠ n + 4 ∧ n + 3 ≠ n + 4 ∧ n + 2 ≠ n + 3 ∧ n + 2 ≠ n ∧ n + 2 ≠ n + 1 ∧ n + 4 ≠ n ∧ n + 4 ≠ n + 1 ∧ n + 3 ≠ n ∧ n + 3 ≠ n + 1 ∧ n ≠ n + 1 ∧
    l ≠ n + 4 ∧ l ≠ n + 3 ∧ l ≠ n ∧ l ≠ n + 1 ∧ m ≠ n + 4 ∧ m ≠ n + 3 ∧ m ≠ n ∧ m ≠ n + 1 := by omega
theorem geN (n d : Nat) (h : d = n + 4 ∨ d = n + 2 ∨ d = n + 3 ∨ d = n ∨ d = n + 1) : n ≤ d := by omega
def iZ (b c : Bool) (K : PySem.W.Frag) (ta : TA) : TI := fun σ H R => ta σ H fun vs H1 => ∃ l m xs ys, vs = [.ref l, .ref m] ∧ SqB b K H1 l xs ∧ SqB c K H1 m ys ∧ R (ItZ b c K l m) H1
theorem kZip (b c : Bool) {X : Cx} {K : PySem.W.Frag} {e e2 : Expr} {ta : TA} {p pos tpos : Pos} {elts : List Expr} {kk : Nat} (hg : Gl X "zip") (hm : X.mg "zip" = none) (ha : PA X [e, e2] ta) (hK : X.K = K := by rfl)
    (hs : starEach [e, e2] X.env = (false, eval e X.env) :: starEach [e2] X.env := by rfl) (hpl : (backTo pos (starEach [e2] X.env)).any (·.1) = false := by rfl) :
    PI X (.Tuple elts kk tpos) (.Call (.Name "zip" p) [e, e2] [] pos) (iZ b c K ta) := by
  cases hK
  refine ⟨fun pins s σ H R I h => ?_⟩
  refine Call_ (ld_blt I hg hm PyProof.Rows.boot_zip (PyProof.Rows.callWith_type1 (thn (ha.run pos pins s σ H _ I h) ?_) hs hpl))
  rintro us s1 ⟨vs, H1, I1, r1, l, m, xs, ys, rfl, qx, qy, q⟩
  obtain ⟨u1, u2, rfl, e1, e2⟩ := vals2 r1
  cases e1
  cases e2
  obtain ⟨its, rv, p1⟩ := Inv_seq I1 b qx
  obtain ⟨jts, rw2, p2⟩ := Inv_seq I1 c qy
  have ll := p1.lt
  have lm := p2.lt
  refine zipCall b c p1 p2 fun g gz gI gO g1 g2 gk => wpAny_pyIter_zip gz ?_
  have I2 : Inv X pins σ H1 { s1 with heap := g } := I1.kept (t' := s1.toks) gk
  obtain ⟨a1, a2, a3, a4, a5, a6, a7, a8, a9, a0, b1, b2, b3, b4, b5, b6, b7, b8⟩ := apartN s1.heap.objs.size l m ll lm
  refine ⟨s1.heap.objs.size + 4, [s1.heap.objs.size + 4, s1.heap.objs.size + 2, s1.heap.objs.size + 3, s1.heap.objs.size, s1.heap.objs.size + 1], _, _, H1, rfl, I2,
    turnZ b c a1 a2 a3 a4 a5 a6 a7 a8 a9 a0 b1 b2 b3 b4 b5 b6 b7 b8, ⟨gz, gI, ⟨_, _, gO⟩, g1, g2⟩, fun d hd => ?_, q⟩
  have le : s1.heap.objs.size ≤ d := geN _ _ (by simpa using hd)
  exact I1.fpOk le (I1.hok.fresh le)
theorem walkZ {b c : Bool} {K : PySem.W.Frag} {l m : Addr} {xs ys : List V} {n : Nat} (hn : n = min xs.length ys.length) : Walk (ItZ b c K l m) n (fun H => SqB b K H l xs ∧ SqB c K H m ys) (YPair (fun i => xs[i]?) (fun i => ys[i]?)) := by
  cases hn
  refine ⟨fun i H hi q => ?_, fun H q => ⟨xs, ys, q.1, q.2, by omega, by omega, by omega⟩, fun i H v H' hi q y => ?_⟩
  · have h1 : i < xs.length := by omega
    have h2 : i < ys.length := by omega
    exact ⟨xs, ys, xs[i], ys[i], q.1, q.2, by simp [h1], by simp [h2]⟩
  · obtain ⟨T, x, z, h1, h2, h3, h4, h5⟩ := y
    exact ⟨T, x, z, h1, h2, h3, h4 xs q.1, h5 ys q.2⟩
end Hq

/-! P4: what is walked; comprehensions and loops over a walk -/
namespace Hq
open PySem PySem.Spec PyProof.Rows L2
section
variable {σ : L2.St} {H : Hp} {K : PySem.W.Frag} {R : It → Hp → Prop} {tl te : TE} {ta : TA} {tt : TT} {g : TG} {wi : TI} {vs : List Nat} {Q : VK} {D : Ends} {tb : TS} {a l m : Addr} {xs ys : List V} {n i j : Int} {b c : Bool}
theorem st_iL (q : tl σ H fun x H1 => ∃ a, x = .ref a ∧ (∃ xs, SqL K H1 a xs) ∧ R (Itl K a) H1) : iList K tl σ H R := q
theorem st_iT (q : tl σ H fun x H1 => ∃ a, x = .ref a ∧ (∃ xs, SqT K H1 a xs) ∧ R (Itt K a) H1) : iTup K tl σ H R := q
theorem st_refL {R : Addr → Prop} (h : SqL K H a xs) (q : R a) : ∃ a', V.ref a = .ref a' ∧ (∃ xs, SqL K H a' xs) ∧ R a' := ⟨a, rfl, ⟨xs, h⟩, q⟩
theorem st_refT {R : Addr → Prop} (h : SqT K H a xs) (q : R a) : ∃ a', V.ref a = .ref a' ∧ (∃ xs, SqT K H a' xs) ∧ R a' := ⟨a, rfl, ⟨xs, h⟩, q⟩
theorem st_iR1 (q : ta σ H fun vs H1 => ∃ j : Int, vs = [.int j] ∧ -(2 ^ 62) ≤ j ∧ j < 2 ^ 62 ∧ R (Itr 0 j.toNat) H1) : iRng1 ta σ H R := q
theorem st_iR2 (q : ta σ H fun vs H1 => ∃ i j : Int, vs = [.int i, .int j] ∧ (-(2 ^ 62) ≤ i ∧ i < 2 ^ 62 ∧ -(2 ^ 62) ≤ j ∧ j < 2 ^ 62) ∧ R (Itr i (j - i).toNat) H1) : iRng2 ta σ H R := q
theorem st_rng1 {R : Int → Prop} (h : -1000000000 ≤ n ∧ n ≤ 1000000000) (q : R n) : ∃ j : Int, [V.int n] = [.int j] ∧ -(2 ^ 62) ≤ j ∧ j < 2 ^ 62 ∧ R j := ⟨n, rfl, by omega, by omega, q⟩
theorem st_rng2 {R : Int → Int → Prop} (h : (-1000000000 ≤ i ∧ i ≤ 1000000000) ∧ -1000000000 ≤ j ∧ j ≤ 1000000000) (q : R i j) : ∃ i' j' : Int, [V.int i, .int j] = [.int i', .int j'] ∧ (-(2 ^ 62) ≤ i' ∧ i' < 2 ^ 62 ∧ -(2 ^ 62) ≤ j' ∧ j' < 2 ^ 62) ∧ R i' j' :=
  ⟨i, j, rfl, ⟨by omega, by omega, by omega, by omega⟩, q⟩
theorem st_iZ (q : ta σ H fun vs H1 => ∃ l m xs ys, vs = [.ref l, .ref m] ∧ SqB b K H1 l xs ∧ SqB c K H1 m ys ∧ R (ItZ b c K l m) H1) : iZ b c K ta σ H R := q
theorem st_zip {R : Addr → Addr → Prop} (h : SqB b K H l xs) (h2 : SqB c K H m ys) (q : R l m) : ∃ l' m' xs ys, [V.ref l, .ref m] = [.ref l', .ref m'] ∧ SqB b K H l' xs ∧ SqB c K H m' ys ∧ R l' m' := ⟨l, m, xs, ys, rfl, h, h2, q⟩
theorem st_lc (q : wi σ H fun J H1 => ∀ D, H1 D = none → ∃ W : Nat → Nat → Hp → Prop, (∃ m, W 0 m (upd H1 D (.lst []))) ∧ ∀ i m H, W i m H →
  (J.stop i H ∧ Q (.ref D) H) ∨ (J.go i H ∧ ∃ Nx : Hp → Prop, (∀ H', Nx H' → ∃ m', m' < m ∧ W (i + 1) m' H') ∧ ∀ x H', J.yld i H x H' → g x (wipe σ vs) H' fun σ2 H2 => wipe σ2 vs = wipe σ vs ∧ tt σ2 H2 fun b H3 =>
    if b = true then te σ2 H3 fun y H4 => ∃ acc, H4 D = some (.lst acc) ∧ acc.length < sizeLine ∧ Nx (upd H4 D (.lst (acc ++ [y]))) else Nx H3)) : tLc wi g tt te vs σ H Q := q
theorem st_for (q : wi σ H fun J H1 => ∃ W : Nat → Nat → L2.St → Hp → Prop, (∃ m, W 0 m σ H1) ∧ ∀ i m σ H, W i m σ H →
  (J.stop i H ∧ D.nx σ H) ∨ (J.go i H ∧ ∃ N : L2.St → Hp → Prop, (∀ σ' H', N σ' H' → ∃ m', m' < m ∧ W (i + 1) m' σ' H') ∧ ∀ x H', J.yld i H x H' → g x σ H' fun σ2 H2 => tb { D with nx := N, ct := N, bk := D.nx } σ2 H2)) : tFor wi g tb D σ H := q
theorem st_wipe {σ2 : L2.St} {B : Prop} (h : wipe σ2 vs = wipe σ vs) (q : B) : wipe σ2 vs = wipe σ vs ∧ B := ⟨h, q⟩
theorem st_slL {lo hi : Option Int} (h : SqL K H a xs) (q : ∀ p, H p = none → Q (.ref p) (upd H p (.lst (cutV xs lo hi)))) : rSlL K (.ref a) lo hi H Q := ⟨a, xs, rfl, h, q⟩
theorem cut_take (xs : List V) (k : Nat) : cutV xs none (some (k : Int)) = xs.take k := by
  unfold cutV
  rw [HT.sIx_none, HT.sIx_nat, List.drop_zero, Nat.sub_zero]
  by_cases h : k ≤ xs.length
  · rw [Nat.min_eq_left h]
  · rw [Nat.min_eq_right (by omega), List.take_length, List.take_of_length_le (by omega)]
theorem cut_drop (xs : List V) (k : Nat) : cutV xs (some (k : Int)) none = xs.drop k := by
  unfold cutV
  rw [HT.sIx_none, HT.sIx_nat]
  by_cases h : k ≤ xs.length
  · rw [Nat.min_eq_left h, List.take_of_length_le (by simp)]
  · rw [Nat.min_eq_right (by omega), List.drop_length, List.drop_of_length_le (by omega), List.take_nil]
theorem st_cat {zs : List V} (h : H a = some (.lst xs)) (h2 : H l = some (.lst zs)) (hl : xs.length + zs.length ≤ sizeLine) (q : ∀ p, H p = none → Q (.ref p) (upd H p (.lst (xs ++ zs)))) : rCat (.ref a) (.ref l) H Q := ⟨a, l, xs, zs, rfl, rfl, h, h2, hl, q⟩
theorem st_sum {ns : List Int} (h : SqL K H a (ns.map V.int)) (q : Q (.int ns.sum) H) : rSum K [.ref a] H Q := ⟨a, ns, rfl, h, q⟩
theorem st_all {bs : List Bool} (h : SqL K H a (bs.map V.bl)) (q : Q (.bl (bs.all id)) H) : rAll K [.ref a] H Q := ⟨a, bs, rfl, h, q⟩
theorem st_any {bs : List Bool} (h : SqL K H a (bs.map V.bl)) (q : Q (.bl (bs.any id)) H) : rAny K [.ref a] H Q := ⟨a, bs, rfl, h, q⟩
theorem ex_int {ns : List Int} {x : V} (h : x ∈ ns.map V.int) : ∃ n, n ∈ ns ∧ x = .int n := by
  obtain ⟨n, a, b⟩ := List.mem_map.mp h
  exact ⟨n, a, b.symm⟩
theorem line_of {n : Nat} (h : n ≤ 100000) : n ≤ sizeLine := Nat.le_trans h (by decide)
theorem line_lt {n : Nat} (h : n ≤ 100000) : n < sizeLine := Nat.lt_of_le_of_lt h (by decide)
theorem st_size {zs : List V} {B : Prop} (h : zs.length ≤ sizeLine) (q : B) : zs.length ≤ sizeLine ∧ B := ⟨h, q⟩
theorem take_snoc {α : Type} {xs : List α} {i : Nat} {x : α} (h : xs[i]? = some x) : xs.take (i + 1) = xs.take i ++ [x] := by
  rw [List.take_add_one, h]
  rfl
theorem st_two {x y : V} {R : V → V → Prop} (q : R x y) : ∃ v w, [x, y] = [v, w] ∧ R v w := ⟨x, y, rfl, q⟩
theorem st_yes {QT : Bool → Hp → Prop} (q : QT true H) : tYes σ H QT := q
end
section
variable {J : It} {n : Nat} {G : Hp → Prop} {Y : Nat → Hp → V → Hp → Prop} {g : TG} {tt : TT} {te : TE} {vs : List Nat} {σ : L2.St} {H1 : Hp} {D : Addr} {Qd : Hp → Prop}
/-- a comprehension that changes nothing: f tells what becomes of an item -/
theorem lc_pure {xs : List V} (f : V → Option V) (w : Walk J xs.length G (YAt xs)) (hG : ∀ o, G (upd H1 D o)) (hl : xs.length < sizeLine)
    (hs : ∀ x acc, x ∈ xs → acc.length < sizeLine → ∀ Nx : Hp → Prop, Nx (upd H1 D (.lst (acc ++ (f x).toList))) → g x (wipe σ vs) (upd H1 D (.lst acc)) fun σ2 H2 => wipe σ2 vs = wipe σ vs ∧ tt σ2 H2 fun b H3 =>
      if b = true then te σ2 H3 fun y H4 => ∃ acc, H4 D = some (.lst acc) ∧ acc.length < sizeLine ∧ Nx (upd H4 D (.lst (acc ++ [y]))) else Nx H3)
    (hd : Qd (upd H1 D (.lst (xs.filterMap f)))) :
    ∃ W : Nat → Nat → Hp → Prop, (∃ m, W 0 m (upd H1 D (.lst []))) ∧ ∀ i m H, W i m H →
      (J.stop i H ∧ Qd H) ∨ (J.go i H ∧ ∃ Nx : Hp → Prop, (∀ H', Nx H' → ∃ m', m' < m ∧ W (i + 1) m' H') ∧ ∀ x H', J.yld i H x H' → g x (wipe σ vs) H' fun σ2 H2 => wipe σ2 vs = wipe σ vs ∧ tt σ2 H2 fun b H3 =>
        if b = true then te σ2 H3 fun y H4 => ∃ acc, H4 D = some (.lst acc) ∧ acc.length < sizeLine ∧ Nx (upd H4 D (.lst (acc ++ [y]))) else Nx H3) := by
  refine lc_it w (fun i H => H = upd H1 D (.lst ((xs.take i).filterMap f))) (by simp) (fun i H hi e => by rw [e]; exact hG _) (fun i x H H' hi e y => ?_) (fun H e => ?_)
  · obtain ⟨e2, hx⟩ := y
    subst e2
    rw [e]
    have hlen : ((xs.take i).filterMap f).length < sizeLine := by
      have h1 := List.length_filterMap_le f (xs.take i)
      have h2 : (xs.take i).length ≤ xs.length := by rw [List.length_take]; exact Nat.min_le_right _ _
      exact Nat.lt_of_le_of_lt (Nat.le_trans h1 h2) hl
    refine hs x _ (List.mem_of_getElem? hx) hlen _ ?_
    have e3 : xs.take (i + 1) = xs.take i ++ [x] := by
      rw [List.take_add_one, hx]
      rfl
    have e4 : List.filterMap f [x] = (f x).toList := by
      cases hf : f x with
      | none => rw [List.filterMap_cons_none hf]; rfl
      | some z => rw [List.filterMap_cons_some hf]; rfl
    rw [e3, List.filterMap_append, e4]
  · rw [e, List.take_length]
    exact hd
theorem fm_ints (f : Int → Option Int) (F : V → Option V) (h : ∀ n, F (.int n) = (f n).map V.int) : ∀ ns : List Int, (ns.map V.int).filterMap F = (ns.filterMap f).map V.int
  | [] => rfl
  | n :: ns => by
    rw [List.map_cons]
    cases e : f n with
    | none => rw [List.filterMap_cons_none (by rw [h, e]; rfl), List.filterMap_cons_none e, fm_ints f F h ns]
    | some z => rw [List.filterMap_cons_some (b := V.int z) (by rw [h, e]; rfl), List.filterMap_cons_some e, fm_ints f F h ns, List.map_cons]
theorem lc_ints {ns : List Int} (f : Int → Option Int) (w : Walk J (ns.map V.int).length G (YAt (ns.map V.int))) (hG : ∀ o, G (upd H1 D o)) (hl : ns.length < sizeLine)
    (hs : ∀ x acc, x ∈ ns → acc.length < sizeLine → ∀ Nx : Hp → Prop, Nx (upd H1 D (.lst (acc ++ ((f x).map V.int).toList))) → g (.int x) (wipe σ vs) (upd H1 D (.lst acc)) fun σ2 H2 => wipe σ2 vs = wipe σ vs ∧ tt σ2 H2 fun b H3 =>
      if b = true then te σ2 H3 fun y H4 => ∃ acc, H4 D = some (.lst acc) ∧ acc.length < sizeLine ∧ Nx (upd H4 D (.lst (acc ++ [y]))) else Nx H3)
    (hd : Qd (upd H1 D (.lst ((ns.filterMap f).map V.int)))) :
    ∃ W : Nat → Nat → Hp → Prop, (∃ m, W 0 m (upd H1 D (.lst []))) ∧ ∀ i m H, W i m H →
      (J.stop i H ∧ Qd H) ∨ (J.go i H ∧ ∃ Nx : Hp → Prop, (∀ H', Nx H' → ∃ m', m' < m ∧ W (i + 1) m' H') ∧ ∀ x H', J.yld i H x H' → g x (wipe σ vs) H' fun σ2 H2 => wipe σ2 vs = wipe σ vs ∧ tt σ2 H2 fun b H3 =>
        if b = true then te σ2 H3 fun y H4 => ∃ acc, H4 D = some (.lst acc) ∧ acc.length < sizeLine ∧ Nx (upd H4 D (.lst (acc ++ [y]))) else Nx H3) := by
  refine lc_pure (fun x => match x with | .int n => (f n).map V.int | _ => none) w hG (by simpa using hl) (fun x acc hx ha Nx hN => ?_) ?_
  · obtain ⟨n, hn, rfl⟩ := ex_int hx
    exact hs n acc hn ha Nx hN
  · rw [fm_ints f _ (fun n => rfl)]
    exact hd
end
end Hq

namespace K38
open PySem PySem.Spec PyProof.Rows L2 Hq
local macro_rules | `(tactic| walk_at "st1") => `(tactic| first
  | with_reducible refine st_seq ?_ | with_reducible refine st_ret ?_ | with_reducible refine st_ifS ?_ | with_reducible refine st_asg ?_ | with_reducible refine st_drop ?_
  | ((with_reducible refine' st_var ?hv ?_); (case hv => rfl)) | with_reducible refine st_c ?_ | with_reducible refine st_op ?_ | with_reducible refine st_un ?_
  | with_reducible refine st_I0 ?_ | with_reducible refine st_U ?_ | ((with_reducible refine' st_I ?hc ?_); (case hc => walk_at "side"))
  | ((with_reducible refine' st_eq ?hs ?_); (case hs => rfl)) | ((with_reducible refine' st_ne ?hs ?_); (case hs => rfl))
  | with_reducible refine st_test ?_ | with_reducible refine st_B ?_ | with_reducible refine st_bl ?_ | with_reducible refine st_isN ?_ | with_reducible refine st_notN ?_
  | with_reducible refine st_chain ?_ | with_reducible refine st_and ?_ | with_reducible refine st_or ?_ | with_reducible refine st_not ?_
  | with_reducible refine st_andV ?_ | with_reducible refine st_orV ?_ | with_reducible refine st_notV ?_ | with_reducible refine st_if ?_
  | with_reducible refine st_CB ?_ | with_reducible refine st_cons ?_ | with_reducible refine st_nil ?_ | with_reducible refine st_fld ?_
  | ((with_reducible refine st_tup ?_)) | ((with_reducible refine st_lst ?_))
  | with_reducible refine st_call ?_ | with_reducible refine st_meth ?_ | with_reducible refine st_make ?_
  | with_reducible refine st_sl ?_ | with_reducible refine st_noPart ?_ | with_reducible refine st_part ?_ | with_reducible refine st_int ?_
  | ((with_reducible refine' st_ixL ?hq ?he ?_); (case hq => walk_at "sqL"); (case he => walk_at "at"))
  | ((with_reducible refine' st_ixT ?hq ?he ?_); (case hq => walk_at "sqT"); (case he => walk_at "at"))
  | with_reducible refine st_bm ?_ | with_reducible refine st_app ?_
  | ((with_reducible refine' st_append ?hq ?hl ?_); (case hq => walk_at "hp"); (case hl => walk_at "line"))
  | ((with_reducible refine' st_len (n := 0) ?hq ?_); (case hq => first | exact Or.inl (by walk_at "sqL") | exact Or.inr (by walk_at "sqT")))
  | ((with_reducible refine' st_listOf ?hq ?_); (case hq => first | exact Or.inl (by walk_at "sqL") | exact Or.inr (by walk_at "sqT")))
  | ((with_reducible refine st_name ?_); (try dsimp only [List.set_cons_zero, List.set_cons_succ])) | with_reducible refine st_par ?_
  | with_reducible refine st_gcons ?_ | with_reducible refine st_gnil ?_ | with_reducible refine st_gsub ?_ | with_reducible refine st_sFld ?_
  | ((with_reducible refine' st_gtup ?hq ?hl ?_); (case hq => walk_at "sqT"); (case hl => rfl))
  | ((with_reducible refine' st_setL ?hq ?hl ?_); (case hq => walk_at "hp"); (case hl => first | rfl | exact ix0 | exact ixN_nat (by assumption)); (try simp only [Int.reduceToNat, List.set_cons_zero, List.set_cons_succ]))
  | with_reducible refine st_intI ?_ | with_reducible refine st_abs ?_
  | ((with_reducible refine' st_popAt ?hq ?hk ?hy ?_); (case hq => walk_at "hp"); (case hk => exact seq0); (case hy => rfl))
  | ((with_reducible refine' and_left ?ht ?_); (case ht => walk_at "ty"))
  | with_reducible refine st_lc ?_ | with_reducible refine st_for ?_ | with_reducible refine st_iL ?_ | with_reducible refine st_iT ?_ | with_reducible refine st_iR1 ?_ | with_reducible refine st_iR2 ?_ | with_reducible refine st_iZ ?_
  | ((with_reducible refine' st_refL ?hq ?_); (case hq => walk_at "sqL")) | ((with_reducible refine' st_refT ?hq ?_); (case hq => walk_at "sqT"))
  | ((with_reducible refine' st_rng1 ?hq ?_); (case hq => walk_at "side")) | ((with_reducible refine' st_rng2 ?hq ?_); (case hq => walk_at "side"))
  | ((with_reducible refine' st_zip ?hq ?hr ?_); (case hq => walk_at "sqb"); (case hr => walk_at "sqb"))
  | ((with_reducible refine' st_size ?hw ?_); (case hw => walk_at "line"))
  | ((with_reducible refine' st_sum ?hq ?_); (case hq => walk_at "sqL"))
  | with_reducible refine st_two ?_ | with_reducible refine st_yes ?_ | ((with_reducible refine' st_wipe ?hw ?_); (case hw => rfl))
  | ((with_reducible refine' st_slL ?hq ?_); (case hq => walk_at "sqL"))
  | ((with_reducible refine' st_cat ?hq ?hr ?hl ?_); (case hq => walk_at "hp"); (case hr => walk_at "hp"); (case hl => walk_at "line"))
  | ((with_reducible refine' st_isi ?hk ?he ?_); (case hk => walk_at "kd"); (case he => walk_at "kit"))
  | ((with_reducible refine' st_ins ?hq ?hc ?hn ?hl ?_); (case hq => walk_at "hp"); (case hc => with_reducible assumption); (case hn => with_reducible assumption); (case hl => walk_at "flen"); walk_at "puts")
  | ((with_reducible refine' st_att ?hq ?hc ?hn ?hl ?_); (case hq => walk_at "hp"); (case hc => with_reducible assumption); (case hn => with_reducible assumption); (case hl => walk_at "lk"))
  | ((with_reducible refine' st_mt ?hq ?hl ?_); (case hq => walk_at "hp"); (case hl => walk_at "lk"))
  | ((with_reducible refine' st_extend ?hq ?hr ?hl ?_); (case hq => walk_at "hp"); (case hr => walk_at "hp"); (case hl => walk_at "line"))
  | with_reducible refine st_next ?_ | with_reducible refine st_retN ?_ | (with_reducible refine iteNT ?_) | (with_reducible refine iteNF ?_) | (with_reducible refine iteT ?_) | (with_reducible refine iteF ?_))
local macro_rules | `(tactic| walk_at "side") => `(tactic| first | omega | decide | assumption | exact ⟨by omega, by omega⟩ | exact Or.inr ⟨by omega, by omega⟩ | exact Or.inl ⟨by omega, by omega⟩ | (simp only [List.length_map, List.length_cons, List.length_nil, List.length_append] at *; omega))
local macro_rules | `(tactic| walk_at "hp") => `(tactic| first | assumption | exact upd_same | refine upd_old (by assumption) (by walk_at "hp") | (rw [upd_ne (by first | assumption | exact Ne.symm (by assumption))]; walk_at "hp"))
local macro_rules | `(tactic| walk_at "sqL") => `(tactic| first | assumption | exact SqL.of (by walk_at "hp"))
local macro_rules | `(tactic| walk_at "sqT") => `(tactic| first | assumption | exact SqT.of (by walk_at "hp"))
local macro_rules | `(tactic| walk_at "sqb") => `(tactic| (unfold SqB; first | ((with_reducible change SqL _ _ _ _); walk_at "sqL") | ((with_reducible change SqT _ _ _ _); walk_at "sqT")))
local macro_rules | `(tactic| walk_at "line") => `(tactic| first | assumption | decide | (apply line_of; walk_at "side") | (apply line_lt; walk_at "side"))
local macro_rules | `(tactic| walk_at "ty") => `(tactic| first | with_reducible exact ty_lst (by walk_at "hp"))
local macro_rules | `(tactic| walk_at "at") => `(tactic| with_reducible first | assumption | exact at0 | exact at1 | exact at2 | exact at3 | exact at4 | exact at5 | exact at6 | exact at7 | exact at8)
local macro_rules | `(tactic| walk_at "st") => `(tactic| (repeat walk_at "st1"))
local macro_rules | `(tactic| walk_at "lk") => `(tactic| first | with_reducible assumption | rfl)
local macro_rules | `(tactic| walk_at "kd") => `(tactic| first | exact .base (.int _) | exact .base .non | exact .base (.bl _) | exact .base (.str _) | exact .base (.tup (by walk_at "hp")) | exact .base (.lst (by walk_at "hp")) | exact .base (.dK (by walk_at "hp")) | exact .base (.dT (by walk_at "hp")))
local macro_rules | `(tactic| walk_at "kit") => `(tactic| with_reducible first
  | exact kit_NoneType_bool
  | exact kit_NoneType_int
  | exact kit_NoneType_str
  | exact kit_NoneType_tuple
  | exact kit_NoneType_list
  | exact kit_NoneType_dict
  | exact kit_bool_bool
  | exact kit_bool_int
  | exact kit_bool_str
  | exact kit_bool_tuple
  | exact kit_bool_list
  | exact kit_bool_dict
  | exact kit_int_bool
  | exact kit_int_int
  | exact kit_int_str
  | exact kit_int_tuple
  | exact kit_int_list
  | exact kit_int_dict
  | exact kit_str_bool
  | exact kit_str_int
  | exact kit_str_str
  | exact kit_str_tuple
  | exact kit_str_list
  | exact kit_str_dict
  | exact kit_tuple_bool
  | exact kit_tuple_int
  | exact kit_tuple_str
  | exact kit_tuple_tuple
  | exact kit_tuple_list
  | exact kit_tuple_dict
  | exact kit_list_bool
  | exact kit_list_int
  | exact kit_list_str
  | exact kit_list_tuple
  | exact kit_list_list
  | exact kit_list_dict
  | exact kit_dict_bool
  | exact kit_dict_int
  | exact kit_dict_str
  | exact kit_dict_tuple
  | exact kit_dict_list
  | exact kit_dict_dict)
local macro_rules | `(tactic| walk_at "flen") => `(tactic| decide)
local macro_rules | `(tactic| walk_at "puts") => `(tactic| skip)

def top (i : Nat) : Stmt := PySem.Challenge.pw_oneplainrun_k38_whole_disks_through_fall.main.body.getD i (.Pass ⟨0, 0, 0, 0⟩)
/-- where the classes stand -/
structure Ads where
  Disk : Addr
  Exchange : Addr
structure Txt (K : PySem.W.Frag) (mg : Str → Option Value) (Z : Ads) : Prop where
  g_Exchange : GlV mg "Exchange" (.ref Z.Exchange)
  g_LOST : GlV mg "LOST" (.int 0)
  g_WHOLE : GlV mg "WHOLE" (.int 2)
  cl : Cls K Z.Disk
  aL : NoAttr K Z.Disk "lying"
  aP : NoAttr K Z.Disk "pending"
  aS : NoAttr K Z.Disk "spoils"
  n_len : mg "len" = none
  n_int : mg "int" = none
  n_bool : mg "bool" = none
  n_str : mg "str" = none
  n_tuple : mg "tuple" = none
  n_list : mg "list" = none
  n_isinstance : mg "isinstance" = none
  n_all : mg "all" = none
  n_abs : mg "abs" = none
  n_sum : mg "sum" = none
  n_range : mg "range" = none
  n_zip : mg "zip" = none
section
variable {Z : Ads} {P : Program} {w : World} {K : PySem.W.Frag} {mg : Str → Option Value} {base : Heap}
/-! ### kinds of values -/
def spIsInteger (K : PySem.W.Frag) : Sp := fun vs H Q _ => ∃ (i : Int), vs = [.int i] ∧ Q (.bl true) H
abbrev s_is_integer : Stmt := top 5
theorem sc_is_integer : FnScope ["thing"] ["thing"] (defScope s_is_integer) := ⟨rfl, rfl, rfl, by decide +kernel, rfl, by decide +kernel, by decide +kernel⟩
theorem ok_is_integer {f : Addr} {fd : FuncData} (F : Fun K "is_integer" "is_integer" s_is_integer f fd) (T : Txt K mg Z) : FnOk P w K mg base (L2.CX P w) 1 f fd ["thing"] (spIsInteger K) := by
  refine okN F sc_is_integer (fun vs H Q E h => ?_) (fun cdv A outer s H vs Q E hr h => ?_)
  · obtain ⟨i, rfl, _⟩ := h
    rfl
  · obtain ⟨i, rfl, k⟩ := h
    refine ⟨_, [some _], rfl, (pss_one (ps_ret (pe_and (pe_callB (kIsi (K := K)) (by rfl) T.n_isinstance (by decide +kernel) (pa_cons (pv 0) (pa_cons (pe_ty "int" (by rfl) T.n_int (by decide +kernel)) pa_nil))) (pe_one (pe_not (pe_callB (kIsi (K := K)) (by rfl) T.n_isinstance (by decide +kernel) (pa_cons (pv 0) (pa_cons (pe_ty "bool" (by rfl) T.n_bool (by decide +kernel)) pa_nil)))))))), ?_⟩
    walk_at "st"
    exact k
/-- what the law draws from: its own list at p, the great ones at g, the small ones at s -/
structure Pot (H : Hp) (p g s : Addr) : Prop where
  ok : ∃ (gs ss : List Int) (t c : Int), H p = some (.lst [.ref g, .ref s, .int t, .int c]) ∧ H g = some (.lst (gs.map V.int)) ∧ H s = some (.lst (ss.map V.int)) ∧ 0 < ss.length
  pg : p ≠ g
  ps : p ≠ s
  gs : g ≠ s
theorem Pot.keep {H H' : Hp} {p g s : Addr} {ms : List Addr} (h : Pot H p g s) (f : Fr ms H H') (hp : p ∉ ms := by simp) (hg : g ∉ ms := by simp) (hs : s ∉ ms := by simp) : Pot H' p g s := by
  obtain ⟨⟨gs, ss, t, c, h1, h2, h3, h4⟩, a, b, d⟩ := h
  exact ⟨⟨gs, ss, t, c, f.keep _ _ hp h1, f.keep _ _ hg h2, f.keep _ _ hs h3, h4⟩, a, b, d⟩
theorem Pot.ne {H : Hp} {p g s D : Addr} (h : Pot H p g s) (hn : H D = none) : D ≠ p ∧ D ≠ g ∧ D ≠ s := by
  obtain ⟨⟨gs, ss, t, c, h1, h2, h3, h4⟩, _, _, _⟩ := h
  exact ⟨(ne_of_none h1 hn).symm, (ne_of_none h2 hn).symm, (ne_of_none h3 hn).symm⟩
theorem Pot.up {H : Hp} {p g s D : Addr} {o : HO} (h : Pot H p g s) (hn : H D = none) : Pot (upd H D o) p g s := h.keep (ms := []) (Fr.up hn)
theorem Pot.wr {H : Hp} {p g s D : Addr} {o : HO} {xs : List V} (h : Pot H p g s) (hD : H D = some (.lst xs)) (n : D ≠ p ∧ D ≠ g ∧ D ≠ s) : Pot (upd H D o) p g s :=
  h.keep (ms := [D]) ((Fr.refl H).wl hD (.inl (by simp))) (by simpa using n.1.symm) (by simpa using n.2.1.symm) (by simpa using n.2.2.symm)
def spDraw : Sp := fun vs H Q _ => ∃ (p g s : Addr) (many : Int), vs = [.ref p, .int many] ∧ Pot H p g s ∧ 0 < many ∧ many < 1000000 ∧ ∀ H' n, 0 ≤ n → n < many → Pot H' p g s → Fr [p, g] H H' → Q (.int n) H'
abbrev s_law_draw : Stmt := top 70
theorem sc_law_draw : FnScope ["pot", "many", "turn", "number", "place", "seed"] ["pot", "many"] (defScope s_law_draw) := ⟨rfl, rfl, rfl, by decide +kernel, rfl, by decide +kernel, by decide +kernel⟩
theorem cut1 (x : V) (xs : List V) : (x :: xs).eraseIdx 0 = xs := rfl
theorem ok_law_draw {f : Addr} {fd : FuncData} (F : Fun K "_law_draw" "_law_draw" s_law_draw f fd) (T : Txt K mg Z) : FnOk P w K mg base (L2.CX P w) 1 f fd ["pot", "many"] spDraw := by
  refine okN F sc_law_draw (fun vs H Q E h => ?_) (fun cdv A outer s0 H vs Q E hr h => ?_)
  · obtain ⟨p, g, s, many, rfl, _⟩ := h
    rfl
  · obtain ⟨p, g, s, many, rfl, ⟨⟨gs, ss, t, c, hp, hg, hs, hss⟩, pg, ps, gs'⟩, m0, m1, k⟩ := h
    refine ⟨_, [some _, some _, none, none, none, none], rfl, (pss_cons (ps_set (i := 2) sc_law_draw.nd rfl (by first | exact Or.inl rfl | exact Or.inr rfl) (pe_ix (kIxL (K := K)) (pv 0) pe_int (fun _ _ => rfl)))
      (pss_cons (ps_asg (pe_op op_add (pv 2) pe_int) (pg_sub (pv 0) pe_int set_list))
      (pss_cons (ps_if (pt_cmpR op_gt (pe_callB (kLen (K := K)) (by rfl) T.n_len (by decide +kernel) (pa_cons (pe_ix (kIxL (K := K)) (pv 0) pe_int (fun _ _ => rfl)) pa_nil)) pe_int (by first | exact nomark _ | rfl)) (pss_cons (ps_set (i := 3) sc_law_draw.nd rfl (by first | exact Or.inl rfl | exact Or.inr rfl) (pe_ix (kIxL (K := K)) (pe_ix (kIxL (K := K)) (pv 0) pe_int (fun _ _ => rfl)) pe_int (fun _ _ => rfl)))
      (pss_cons (ps_asg (pe_op op_fdiv (pv 3) (pv 1)) (pg_sub (pe_ix (kIxL (K := K)) (pv 0) pe_int (fun _ _ => rfl)) pe_int set_list))
      (pss_cons (ps_if (pt_cmpR op_lt (pv 3) (pv 1) (by first | exact nomark _ | rfl)) (pss_one (ps_expr (kBm (K := K) PySem.F.plainAttrs_list PySem.F.slot_list_pop PySem.F.type_list_pop mt_popAt (pe_ix (kIxL (K := K)) (pv 0) pe_int (fun _ _ => rfl)) (pa_cons pe_int pa_nil)))) pss_nil)
      (pss_one (ps_ret (pe_op op_mod (pe_callTy kInt (by rfl) T.n_int (by decide +kernel) (pa_cons (pv 3) pa_nil)) (pv 1))))))) pss_nil)
      (pss_cons (ps_set (i := 4) sc_law_draw.nd rfl (by first | exact Or.inl rfl | exact Or.inr rfl) (pe_op op_mod (pe_callTy kInt (by rfl) T.n_int (by decide +kernel) (pa_cons (pv 2) pa_nil)) (pe_callB (kLen (K := K)) (by rfl) T.n_len (by decide +kernel) (pa_cons (pe_ix (kIxL (K := K)) (pv 0) pe_int (fun _ _ => rfl)) pa_nil))))
      (pss_cons (ps_set (i := 5) sc_law_draw.nd rfl (by first | exact Or.inl rfl | exact Or.inr rfl) (pe_op op_add (pe_op op_add (pe_op op_mul (pe_ix (kIxL (K := K)) (pe_ix (kIxL (K := K)) (pv 0) pe_int (fun _ _ => rfl)) (pv 4) (fun _ _ => rfl)) pe_int) (pe_op op_mul pe_int (pv 2))) (pe_op op_mul (pe_ix (kIxL (K := K)) (pv 0) pe_int (fun _ _ => rfl)) pe_int)))
      (pss_cons (ps_set (i := 3) sc_law_draw.nd rfl (by first | exact Or.inl rfl | exact Or.inr rfl) (pe_op op_mod (pe_callTy kInt (by rfl) T.n_int (by decide +kernel) (pa_cons (pe_op op_add (pe_op op_mul (pv 5) pe_int) pe_int) pa_nil)) pe_int))
      (pss_cons (ps_set (i := 3) sc_law_draw.nd rfl (by first | exact Or.inl rfl | exact Or.inr rfl) (pe_op op_mod (pe_callTy kInt (by rfl) T.n_int (by decide +kernel) (pa_cons (pe_op op_mul (pv 3) (pe_op op_add (pe_op op_fdiv (pv 3) pe_int) pe_int)) pa_nil)) pe_int))
      (pss_cons (ps_set (i := 3) sc_law_draw.nd rfl (by first | exact Or.inl rfl | exact Or.inr rfl) (pe_op op_mod (pe_callTy kInt (by rfl) T.n_int (by decide +kernel) (pa_cons (pe_op op_add (pe_op op_mul (pv 3) (pe_op op_add (pe_op op_fdiv (pv 3) pe_int) pe_int)) (pv 2)) pa_nil)) pe_int))
      (pss_one (ps_ret (pe_op op_mod (pe_callTy kInt (by rfl) T.n_int (by decide +kernel) (pa_cons (pe_op op_fdiv (pv 3) pe_int) pa_nil)) (pv 1)))))))))))), ?_⟩
    walk_at "st"
    have f1 : Fr [p, g] H (upd H p (.lst [.ref g, .ref s, .int (t + 1), .int c])) := (Fr.refl H).wl hp (.inl (by simp))
    refine iteD (fun h0 => ?_) (fun h0 => ?_)
    · obtain ⟨n0, gs, rfl⟩ : ∃ n r, gs = n :: r := by
        cases gs with
        | nil => exact absurd h0 (by simp)
        | cons n r => exact ⟨n, r, rfl⟩
      rw [List.map_cons] at hg
      walk_at "st"
      have hm : ∀ n : Int, 0 ≤ n % many ∧ n % many < many := fun n => ⟨Int.emod_nonneg _ (by omega), Int.emod_lt_of_pos _ m0⟩
      refine iteD (fun h1 => ?_) (fun h1 => ?_)
      · walk_at "st"
        refine k _ _ (hm _).1 (hm _).2 ⟨⟨gs, ss, t + 1, c, ?_, ?_, ?_, hss⟩, pg, ps, gs'⟩ ?_
        · walk_at "hp"
        · walk_at "hp"
        · walk_at "hp"
        · exact (f1.wl (p := g) (by walk_at "hp") (.inl (by simp))).wl (p := g) (by walk_at "hp") (.inl (by simp))
      · walk_at "st"
        refine k _ _ (hm _).1 (hm _).2 ⟨⟨n0 / many :: gs, ss, t + 1, c, ?_, ?_, ?_, hss⟩, pg, ps, gs'⟩ ?_
        · walk_at "hp"
        · walk_at "hp"
        · walk_at "hp"
        · exact f1.wl (p := g) (by walk_at "hp") (.inl (by simp))
    · have hm : ∀ n : Int, 0 ≤ n % many ∧ n % many < many := fun n => ⟨Int.emod_nonneg _ (by omega), Int.emod_lt_of_pos _ m0⟩
      obtain ⟨j, hj, ej, hat⟩ := at_mod (xs := ss.map V.int) t (by simpa using hss)
      have hat : atI (ss.map V.int) (t % ((ss.map V.int).length : Int)) = some (.int (ss.getD j 0)) := by
        rw [hat]
        rw [List.length_map] at hj
        simp [hj]
      walk_at "st"
      exact k _ _ (hm _).1 (hm _).2 ⟨⟨gs, ss, t + 1, c, upd_same, (by walk_at "hp"), (by walk_at "hp"), hss⟩, pg, ps, gs'⟩ f1
def spPot (K : PySem.W.Frag) : Sp := fun vs H Q _ => ∃ (a : Addr) (ns : List Int), vs = [.ref a] ∧ SqL K H a (ns.map V.int) ∧ ns.length ≤ 63 ∧ ∀ H' p g s, Pot H' p g s → Fr [] H H' → H p = none → H g = none → H s = none → Q (.ref p) H'
abbrev s_law_pot : Stmt := top 69
theorem sc_law_pot : FnScope ["script", "cells", "greats", "smalls", "item"] ["script"] (defScope s_law_pot) := ⟨rfl, rfl, rfl, by decide +kernel, rfl, by decide +kernel, by decide +kernel⟩
theorem ok_law_pot {f : Addr} {fd : FuncData} (F : Fun K "_law_pot" "_law_pot" s_law_pot f fd) (T : Txt K mg Z) : FnOk P w K mg base (L2.CX P w) 1 f fd ["script"] (spPot K) := by
  refine okN F sc_law_pot (fun vs H Q E h => ?_) (fun cdv A outer s0 H vs Q E hr h => ?_)
  · obtain ⟨a, ns, rfl, _⟩ := h
    rfl
  · obtain ⟨a, ns, rfl, hS, hlen, k⟩ := h
    refine ⟨_, [some _, none, none, none, none], rfl, (pss_cons (ps_setLc (i := 1) (own := [("item", 4)]) (g := (gName 4)) (tt := tYes) rfl sc_law_pot.nd rfl rfl (sw_true rfl rfl rfl (by decide +kernel)) (kPiL (K := K) (pe_slice (kSlL (K := K)) (pv 0) po_none (po_some pe_int))) (blkOk_by (N := ["script", "cells", "greats", "smalls", "item"]) (sc := defScope s_law_pot) (by decide +kernel)) (fun _ _ _ _ _ => (pg_name (i := 4) sc_law_pot.nd rfl (by first | exact Or.inl rfl | exact Or.inr rfl))) (fun _ _ _ _ _ => pts_nil) (fun _ _ _ _ _ => (pe_callTy kInt (by rfl) T.n_int (by decide +kernel) (pa_cons (pv 4) pa_nil))))
      (pss_cons (ps_setLc (i := 2) (own := [("item", 4)]) (g := (gName 4)) (tt := _) rfl sc_law_pot.nd rfl rfl (sw_true rfl rfl rfl (by decide +kernel)) (kPiL (K := K) (pv 1)) (blkOk_by (N := ["script", "cells", "greats", "smalls", "item"]) (sc := defScope s_law_pot) (by decide +kernel)) (fun _ _ _ _ _ => (pg_name (i := 4) sc_law_pot.nd rfl (by first | exact Or.inl rfl | exact Or.inr rfl))) (fun _ _ _ _ _ => (pts_one (pt_cmpR op_ge (pe_callB kAbs (by rfl) T.n_abs (by decide +kernel) (pa_cons (pv 4) pa_nil)) (pe_op op_pow pe_int pe_int) (by first | exact nomark _ | rfl)))) (fun _ _ _ _ _ => (pe_callB kAbs (by rfl) T.n_abs (by decide +kernel) (pa_cons (pv 4) pa_nil))))
      (pss_cons (ps_set (i := 3) sc_law_pot.nd rfl (by first | exact Or.inl rfl | exact Or.inr rfl) (pe_op op_cat (pe_lc (own := [("item", 4)]) (g := (gName 4)) (tt := _) rfl sc_law_pot.nd (kPiL (K := K) (pv 1)) (blkOk_by (N := ["script", "cells", "greats", "smalls", "item"]) (sc := defScope s_law_pot) (by decide +kernel)) (fun _ _ _ _ _ => (pg_name (i := 4) sc_law_pot.nd rfl (by first | exact Or.inl rfl | exact Or.inr rfl))) (fun _ _ _ _ _ => (pts_one (pt_cmpR op_lt (pe_callB kAbs (by rfl) T.n_abs (by decide +kernel) (pa_cons (pv 4) pa_nil)) (pe_op op_pow pe_int pe_int) (by first | exact nomark _ | rfl)))) (fun _ _ _ _ _ => (pe_op op_mod (pe_callTy kInt (by rfl) T.n_int (by decide +kernel) (pa_cons (pv 4) pa_nil)) pe_int))) (pe_lst (pa_cons (pe_op op_add (pe_callB (kLen (K := K)) (by rfl) T.n_len (by decide +kernel) (pa_cons (pv 1) pa_nil)) pe_int) pa_nil))))
      (pss_one (ps_ret (pe_lst (pa_cons (pv 2) (pa_cons (pv 3) (pa_cons pe_int (pa_cons (pe_op op_mod (pe_callTy kInt (by rfl) T.n_int (by decide +kernel) (pa_cons (pe_callB (kSum (K := K)) (by rfl) T.n_sum (by decide +kernel) (pa_cons (pv 3) pa_nil)) pa_nil)) pe_int) pa_nil)))))))))), ?_⟩
    walk_at "st"
    intro p1 hp1
    walk_at "st"
    intro D1 hD1
    have ecut : cutV (ns.map V.int) none (some 63) = ns.map V.int := by
      have e := cut_take (ns.map V.int) 63
      rw [List.take_of_length_le (by simpa using hlen)] at e
      exact e
    rw [ecut] at hD1 ⊢
    refine lc_ints some (walk_list (xs := ns.map V.int)) (fun o => SqL.of (by walk_at "hp")) (line_lt (by omega)) (fun n acc hn hacc Nx hN => ?_) ?_
    · walk_at "st"
      exact ⟨acc, upd_same, hacc, by rw [upd_upd]; exact hN⟩
    rw [List.filterMap_some]
    walk_at "st"
    intro D2 hD2
    refine lc_ints (fun n => if (10 : Int) ^ (18 : Int).toNat ≤ (if n < 0 then -n else n) then some (if n < 0 then -n else n) else none) (walk_list (xs := ns.map V.int)) (fun o => SqL.of (by walk_at "hp")) (line_lt (by omega)) (fun n acc hn hacc Nx hN => ?_) ?_
    · walk_at "st"
      refine iteD (fun h => ?_) (fun h => ?_)
      · walk_at "st"
        rw [if_pos h] at hN
        exact ⟨acc, upd_same, hacc, by rw [upd_upd]; exact hN⟩
      · rw [if_neg h] at hN
        simpa using hN
    generalize List.filterMap _ ns = gs
    walk_at "st"
    intro D3 hD3
    refine lc_ints (fun n => if (if n < 0 then -n else n) < (10 : Int) ^ (18 : Int).toNat then some (n % 1000000007) else none) (walk_list (xs := ns.map V.int)) (fun o => SqL.of (by walk_at "hp")) (line_lt (by omega)) (fun n acc hn hacc Nx hN => ?_) ?_
    · walk_at "st"
      refine iteD (fun h => ?_) (fun h => ?_)
      · walk_at "st"
        rw [if_pos h] at hN
        exact ⟨acc, upd_same, hacc, by rw [upd_upd]; exact hN⟩
      · rw [if_neg h] at hN
        simpa using hN
    have hl3 := List.length_filterMap_le (fun n : Int => if (if n < 0 then -n else n) < (10 : Int) ^ (18 : Int).toNat then some (n % 1000000007) else none) ns
    generalize List.filterMap _ ns = ss at hl3 ⊢
    walk_at "st"
    intro p4 hp4
    walk_at "st"
    intro p5 hp5
    have ess : ss.map V.int ++ [V.int (((ns.map V.int).length : Int) + 1)] = (ss ++ [((ns.map V.int).length : Int) + 1]).map V.int := by rw [List.map_append]; rfl
    rw [ess]
    generalize ess2 : ss ++ [((ns.map V.int).length : Int) + 1] = ss2
    walk_at "st"
    intro p6 hp6
    walk_at "st"
    have F1 : Fr [] H _ := (Fr.refl H).new (o := .lst (ns.map V.int)) hp1
    have F2 := F1.new (o := .lst (ns.map V.int)) hD1
    have F3 := F2.new (o := .lst (gs.map V.int)) hD2
    have F4 := F3.new (o := .lst (ss.map V.int)) hD3
    have F5 := F4.new (o := .lst [V.int (((ns.map V.int).length : Int) + 1)]) hp4
    have F6 := F5.new (o := .lst (ss2.map V.int)) hp5
    have F7 := F6.new (o := .lst [V.ref D2, V.ref p5, V.int 0, V.int (ss2.sum % 999983)]) hp6
    refine k _ p6 D2 p5 ⟨⟨gs, ss2, 0, _, upd_same, (by walk_at "hp"), (by walk_at "hp"), ?_⟩, ?_, ?_, ?_⟩ F7 (F6.free hp6) (F2.free hD2) (F5.free hp5)
    · rw [← ess2]
      simp
    · exact (ne_of_none (b := p6) (show _ = some (HO.lst (gs.map V.int)) by walk_at "hp") hp6).symm
    · exact (ne_of_none (b := p6) (show _ = some (HO.lst (ss2.map V.int)) by walk_at "hp") hp6).symm
    · exact ne_of_none (b := p5) (show _ = some (HO.lst (gs.map V.int)) by walk_at "hp") hp5
end
end K38

namespace K38
open PySem PySem.Spec PyProof.Rows L2 Hq
local macro_rules | `(tactic| walk_at "st1") => `(tactic| first
  | with_reducible refine st_seq ?_ | with_reducible refine st_ret ?_ | with_reducible refine st_ifS ?_ | with_reducible refine st_asg ?_ | with_reducible refine st_drop ?_
  | ((with_reducible refine' st_var ?hv ?_); (case hv => rfl)) | with_reducible refine st_c ?_ | with_reducible refine st_op ?_ | with_reducible refine st_un ?_
  | with_reducible refine st_I0 ?_ | with_reducible refine st_U ?_ | ((with_reducible refine' st_I ?hc ?_); (case hc => walk_at "side"))
  | ((with_reducible refine' st_eq ?hs ?_); (case hs => rfl)) | ((with_reducible refine' st_ne ?hs ?_); (case hs => rfl))
  | with_reducible refine st_test ?_ | with_reducible refine st_B ?_ | with_reducible refine st_bl ?_ | with_reducible refine st_isN ?_ | with_reducible refine st_notN ?_
  | with_reducible refine st_chain ?_ | with_reducible refine st_and ?_ | with_reducible refine st_or ?_ | with_reducible refine st_not ?_
  | with_reducible refine st_andV ?_ | with_reducible refine st_orV ?_ | with_reducible refine st_notV ?_ | with_reducible refine st_if ?_
  | with_reducible refine st_CB ?_ | with_reducible refine st_cons ?_ | with_reducible refine st_nil ?_ | with_reducible refine st_fld ?_
  | ((with_reducible refine st_tup ?_)) | ((with_reducible refine st_lst ?_))
  | with_reducible refine st_call ?_ | with_reducible refine st_meth ?_ | with_reducible refine st_make ?_
  | with_reducible refine st_sl ?_ | with_reducible refine st_noPart ?_ | with_reducible refine st_part ?_ | with_reducible refine st_int ?_
  | ((with_reducible refine' st_ixL ?hq ?he ?_); (case hq => walk_at "sqL"); (case he => walk_at "at"))
  | ((with_reducible refine' st_ixT ?hq ?he ?_); (case hq => walk_at "sqT"); (case he => walk_at "at"))
  | with_reducible refine st_bm ?_ | with_reducible refine st_app ?_
  | ((with_reducible refine' st_append ?hq ?hl ?_); (case hq => walk_at "hp"); (case hl => walk_at "line"))
  | ((with_reducible refine' st_len (n := 0) ?hq ?_); (case hq => first | exact Or.inl (by walk_at "sqL") | exact Or.inr (by walk_at "sqT")))
  | ((with_reducible refine' st_listOf ?hq ?_); (case hq => first | exact Or.inl (by walk_at "sqL") | exact Or.inr (by walk_at "sqT")))
  | ((with_reducible refine st_name ?_); (try dsimp only [List.set_cons_zero, List.set_cons_succ])) | with_reducible refine st_par ?_
  | with_reducible refine st_gcons ?_ | with_reducible refine st_gnil ?_ | with_reducible refine st_gsub ?_ | with_reducible refine st_sFld ?_
  | ((with_reducible refine' st_gtup ?hq ?hl ?_); (case hq => walk_at "sqT"); (case hl => rfl))
  | ((with_reducible refine' st_setL ?hq ?hl ?_); (case hq => walk_at "hp"); (case hl => first | rfl | exact ix0 | exact ixN_nat (by assumption)); (try simp only [Int.reduceToNat, List.set_cons_zero, List.set_cons_succ]))
  | with_reducible refine st_intI ?_ | with_reducible refine st_abs ?_
  | ((with_reducible refine' st_popAt ?hq ?hk ?hy ?_); (case hq => walk_at "hp"); (case hk => exact seq0); (case hy => rfl))
  | ((with_reducible refine' and_left ?ht ?_); (case ht => walk_at "ty"))
  | with_reducible refine st_lc ?_ | with_reducible refine st_for ?_ | with_reducible refine st_iL ?_ | with_reducible refine st_iT ?_ | with_reducible refine st_iR1 ?_ | with_reducible refine st_iR2 ?_ | with_reducible refine st_iZ ?_
  | ((with_reducible refine' st_refL ?hq ?_); (case hq => walk_at "sqL")) | ((with_reducible refine' st_refT ?hq ?_); (case hq => walk_at "sqT"))
  | ((with_reducible refine' st_rng1 ?hq ?_); (case hq => walk_at "side")) | ((with_reducible refine' st_rng2 ?hq ?_); (case hq => walk_at "side"))
  | ((with_reducible refine' st_zip ?hq ?hr ?_); (case hq => walk_at "sqb"); (case hr => walk_at "sqb"))
  | ((with_reducible refine' st_size ?hw ?_); (case hw => walk_at "line"))
  | ((with_reducible refine' st_sum ?hq ?_); (case hq => walk_at "sqL"))
  | with_reducible refine st_two ?_ | with_reducible refine st_yes ?_ | ((with_reducible refine' st_wipe ?hw ?_); (case hw => rfl))
  | ((with_reducible refine' st_slL ?hq ?_); (case hq => walk_at "sqL"))
  | ((with_reducible refine' st_cat ?hq ?hr ?hl ?_); (case hq => walk_at "hp"); (case hr => walk_at "hp"); (case hl => walk_at "line"))
  | ((with_reducible refine' st_isi ?hk ?he ?_); (case hk => walk_at "kd"); (case he => walk_at "kit"))
  | ((with_reducible refine' st_ins ?hq ?hc ?hn ?hl ?_); (case hq => walk_at "hp"); (case hc => with_reducible assumption); (case hn => with_reducible assumption); (case hl => walk_at "flen"); walk_at "puts")
  | ((with_reducible refine' st_att ?hq ?hc ?hn ?hl ?_); (case hq => walk_at "hp"); (case hc => with_reducible assumption); (case hn => with_reducible assumption); (case hl => walk_at "lk"))
  | ((with_reducible refine' st_mt ?hq ?hl ?_); (case hq => walk_at "hp"); (case hl => walk_at "lk"))
  | ((with_reducible refine' st_extend ?hq ?hr ?hl ?_); (case hq => walk_at "hp"); (case hr => walk_at "hp"); (case hl => walk_at "line"))
  | with_reducible refine st_next ?_ | with_reducible refine st_retN ?_ | (with_reducible refine iteNT ?_) | (with_reducible refine iteNF ?_) | (with_reducible refine iteT ?_) | (with_reducible refine iteF ?_))
local macro_rules | `(tactic| walk_at "side") => `(tactic| first | omega | decide | assumption | exact ⟨by omega, by omega⟩ | exact Or.inr ⟨by omega, by omega⟩ | exact Or.inl ⟨by omega, by omega⟩ | (simp only [List.length_map, List.length_cons, List.length_nil, List.length_append] at *; omega))
local macro_rules | `(tactic| walk_at "hp") => `(tactic| first | assumption | exact upd_same | refine upd_old (by assumption) (by walk_at "hp") | (rw [upd_ne (by first | assumption | exact Ne.symm (by assumption))]; walk_at "hp"))
local macro_rules | `(tactic| walk_at "sqL") => `(tactic| first | assumption | exact SqL.of (by walk_at "hp"))
local macro_rules | `(tactic| walk_at "sqT") => `(tactic| first | assumption | exact SqT.of (by walk_at "hp"))
local macro_rules | `(tactic| walk_at "sqb") => `(tactic| (unfold SqB; first | ((with_reducible change SqL _ _ _ _); walk_at "sqL") | ((with_reducible change SqT _ _ _ _); walk_at "sqT")))
local macro_rules | `(tactic| walk_at "line") => `(tactic| first | assumption | decide | (apply line_of; walk_at "side") | (apply line_lt; walk_at "side"))
local macro_rules | `(tactic| walk_at "ty") => `(tactic| first | with_reducible exact ty_lst (by walk_at "hp"))
local macro_rules | `(tactic| walk_at "at") => `(tactic| with_reducible first | assumption | exact at0 | exact at1 | exact at2 | exact at3 | exact at4 | exact at5 | exact at6 | exact at7 | exact at8)
local macro_rules | `(tactic| walk_at "st") => `(tactic| (repeat walk_at "st1"))
local macro_rules | `(tactic| walk_at "lk") => `(tactic| first | with_reducible assumption | rfl)
local macro_rules | `(tactic| walk_at "kd") => `(tactic| first | exact .base (.int _) | exact .base .non | exact .base (.bl _) | exact .base (.str _) | exact .base (.tup (by walk_at "hp")) | exact .base (.lst (by walk_at "hp")) | exact .base (.dK (by walk_at "hp")) | exact .base (.dT (by walk_at "hp")))
local macro_rules | `(tactic| walk_at "kit") => `(tactic| with_reducible first
  | exact kit_NoneType_bool
  | exact kit_NoneType_int
  | exact kit_NoneType_str
  | exact kit_NoneType_tuple
  | exact kit_NoneType_list
  | exact kit_NoneType_dict
  | exact kit_bool_bool
  | exact kit_bool_int
  | exact kit_bool_str
  | exact kit_bool_tuple
  | exact kit_bool_list
  | exact kit_bool_dict
  | exact kit_int_bool
  | exact kit_int_int
  | exact kit_int_str
  | exact kit_int_tuple
  | exact kit_int_list
  | exact kit_int_dict
  | exact kit_str_bool
  | exact kit_str_int
  | exact kit_str_str
  | exact kit_str_tuple
  | exact kit_str_list
  | exact kit_str_dict
  | exact kit_tuple_bool
  | exact kit_tuple_int
  | exact kit_tuple_str
  | exact kit_tuple_tuple
  | exact kit_tuple_list
  | exact kit_tuple_dict
  | exact kit_list_bool
  | exact kit_list_int
  | exact kit_list_str
  | exact kit_list_tuple
  | exact kit_list_list
  | exact kit_list_dict
  | exact kit_dict_bool
  | exact kit_dict_int
  | exact kit_dict_str
  | exact kit_dict_tuple
  | exact kit_dict_list
  | exact kit_dict_dict)
local macro_rules | `(tactic| walk_at "flen") => `(tactic| decide)
local macro_rules | `(tactic| walk_at "puts") => `(tactic| skip)

section
variable {Z : Ads} {P : Program} {w : World} {K : PySem.W.Frag} {mg : Str → Option Value} {base : Heap}
def spAny : Sp := fun vs H Q _ => ∃ (p g s q : Addr) (xs : List V), vs = [.ref p, .ref q] ∧ Pot H p g s ∧ H q = some (.tup xs) ∧ 0 < xs.length ∧ xs.length < 1000 ∧ ∀ H' x, x ∈ xs → Pot H' p g s → Fr [p, g] H H' → Q x H'
abbrev s_law_any : Stmt := top 71
theorem sc_law_any : FnScope ["pot", "items"] ["pot", "items"] (defScope s_law_any) := ⟨rfl, rfl, rfl, by decide +kernel, rfl, by decide +kernel, by decide +kernel⟩
theorem ok_law_any {f : Addr} {fd : FuncData} (F : Fun K "_law_any" "_law_any" s_law_any f fd) (T : Txt K mg Z) (D_law_draw : Dn P w K mg base "_law_draw" 1 ["pot", "many"] spDraw) : FnOk P w K mg base (L2.CX P w) 2 f fd ["pot", "items"] spAny := by
  refine okN F sc_law_any (fun vs H Q E h => ?_) (fun cdv A outer s0 H vs Q E hr h => ?_)
  · obtain ⟨p, g, s, q, xs, rfl, _⟩ := h
    rfl
  · obtain ⟨p, g, s, q, xs, rfl, hP, hq, h0, h1, k⟩ := h
    refine ⟨_, [some _, some _], rfl, (pss_one (ps_ret (pe_ix (kIxT (K := K)) (pv 1) (pe_d D_law_draw E0 (hr.mono (by first | decide | omega)) (by rfl) passL (pa_cons (pv 0) (pa_cons (pe_callB (kLen (K := K)) (by rfl) T.n_len (by decide +kernel) (pa_cons (pv 1) pa_nil)) pa_nil))) (fun _ _ => rfl)))), ?_⟩
    walk_at "st"
    refine ⟨p, g, s, _, rfl, hP, by omega, by omega, fun H1 n n0 n1 hP1 fr => ?_⟩
    have hq1 := fr.tup _ _ hq
    obtain ⟨v, hv, hat⟩ := at_in n0 n1
    walk_at "st"
    exact k _ _ hv hP1 fr
/-! ### data -/
mutual
def wid : PyData → Bool
  | .tuple xs => decide (xs.length ≤ 1000) && widAll xs
  | _ => true
def widAll : List PyData → Bool
  | [] => true
  | x :: xs => wid x && widAll xs
end
structure Nice (n : Nat) (d : PyData) : Prop where
  lay : d.canLay0 = true
  dep : d.depth ≤ n
  wide : wid d = true
def KPart (d : PyData) : Prop := (∃ x, d = .str x ∧ PySem.PyData.strOk x = true) ∨ ∃ n, 0 ≤ n ∧ d = .int n
def KeyD (d : PyData) : Prop := ∃ ds, d = .tuple ds ∧ 0 < ds.length ∧ ds.length ≤ 3 ∧ ∀ e ∈ ds, KPart e
def keyVals : List V := [.str "a", .str "item", .str "x y", .str "", .int 0, .int 1, .int 2, .int (10 ^ (12 : Int).toNat)]
theorem keyVal_td (H : Hp) {v : V} (h : v ∈ keyVals) : ∃ d, TD H v d ∧ KPart d := by
  simp only [keyVals, List.mem_cons, List.not_mem_nil, or_false] at h
  rcases h with rfl | rfl | rfl | rfl | rfl | rfl | rfl | rfl
  · exact ⟨_, .str _, .inl ⟨_, rfl, by decide +kernel⟩⟩
  · exact ⟨_, .str _, .inl ⟨_, rfl, by decide +kernel⟩⟩
  · exact ⟨_, .str _, .inl ⟨_, rfl, by decide +kernel⟩⟩
  · exact ⟨_, .str _, .inl ⟨_, rfl, by decide +kernel⟩⟩
  · exact ⟨_, .int _, .inr ⟨_, by decide, rfl⟩⟩
  · exact ⟨_, .int _, .inr ⟨_, by decide, rfl⟩⟩
  · exact ⟨_, .int _, .inr ⟨_, by decide, rfl⟩⟩
  · exact ⟨_, .int _, .inr ⟨_, by decide, rfl⟩⟩
theorem keyVals_td (H : Hp) : ∀ xs : List V, (∀ x ∈ xs, x ∈ keyVals) → ∃ ds, TDs H xs ds ∧ ∀ e ∈ ds, KPart e
  | [], _ => ⟨[], .nil, fun _ h => nomatch h⟩
  | x :: xs, h => by
    obtain ⟨d, a, b⟩ := keyVal_td H (h x (by simp))
    obtain ⟨ds, a2, b2⟩ := keyVals_td H xs fun y hy => h y (by simp [hy])
    refine ⟨d :: ds, .cons a a2, fun e he => ?_⟩
    rcases List.mem_cons.mp he with rfl | he
    · exact b
    · exact b2 e he
def spKey : Sp := fun vs H Q _ => ∃ (p g s : Addr), vs = [.ref p] ∧ Pot H p g s ∧ ∀ H' v d, TD H' v d → KeyD d → Pot H' p g s → Fr [p, g] H H' → Q v H'
abbrev s_law_key : Stmt := top 73
theorem sc_law_key : FnScope ["pot", "parts", "turn"] ["pot"] (defScope s_law_key) := ⟨rfl, rfl, rfl, by decide +kernel, rfl, by decide +kernel, by decide +kernel⟩
theorem ok_law_key {f : Addr} {fd : FuncData} (F : Fun K "_law_key" "_law_key" s_law_key f fd) (T : Txt K mg Z) (D_law_draw : Dn P w K mg base "_law_draw" 1 ["pot", "many"] spDraw) (D_law_any : Dn P w K mg base "_law_any" 2 ["pot", "items"] spAny) : FnOk P w K mg base (L2.CX P w) 3 f fd ["pot"] spKey := by
  refine okN F sc_law_key (fun vs H Q E h => ?_) (fun cdv A outer s0 H vs Q E hr h => ?_)
  · obtain ⟨p, g, s, rfl, _⟩ := h
    rfl
  · obtain ⟨p, g, s, rfl, hP, k⟩ := h
    refine ⟨_, [some _, none, none], rfl, (pss_cons (ps_setLc (i := 1) (own := [("turn", 2)]) (g := (gName 2)) (tt := tYes) rfl sc_law_key.nd rfl rfl (sw_true rfl rfl rfl (by decide +kernel)) (pi_range1 (by rfl) T.n_range (pa_cons (pe_op op_add pe_int (pe_d D_law_draw E0 (hr.mono (by first | decide | omega)) (by rfl) passL (pa_cons (pv 0) (pa_cons pe_int pa_nil)))) pa_nil)) (blkOk_by (N := ["pot", "parts", "turn"]) (sc := defScope s_law_key) (by decide +kernel)) (fun _ _ _ _ _ => (pg_name (i := 2) sc_law_key.nd rfl (by first | exact Or.inl rfl | exact Or.inr rfl))) (fun _ _ _ _ _ => pts_nil) (fun _ _ _ _ _ => (pe_d D_law_any E0 (hr.mono (by first | decide | omega)) (by rfl) passL (pa_cons (pv 0) (pa_cons (pe_tup (pa_cons pe_str (pa_cons pe_str (pa_cons pe_str (pa_cons pe_str (pa_cons pe_int (pa_cons pe_int (pa_cons pe_int (pa_cons (pe_op op_pow pe_int pe_int) pa_nil))))))))) pa_nil)))))
      (pss_one (ps_ret (pe_callTy (kTupOf (K := K)) (by rfl) T.n_tuple (by decide +kernel) (pa_cons (pv 1) pa_nil))))), ?_⟩
    walk_at "st"
    refine ⟨p, g, s, _, rfl, hP, by omega, by omega, fun H1 n n0 n1 hP1 fr => ?_⟩
    walk_at "st"
    intro D hD
    have nD := hP1.ne hD
    have D0 : H D = none := fr.back (by simpa using ⟨nD.1, nD.2.1⟩) hD
    refine lc_it walk_range (fun i H' => ∃ acc, H' D = some (.lst acc) ∧ Fr [p, g] H H' ∧ Pot H' p g s ∧ acc.length = i ∧ ∀ x ∈ acc, x ∈ keyVals) ⟨[], upd_same, fr.new hD, hP1.up hD, rfl, fun _ h => nomatch h⟩ (fun _ _ _ _ => trivial) ?_ ?_
    · rintro i x H2 H3 hi ⟨acc, h1, h2, h3, h4, h5⟩ ⟨rfl, rfl⟩
      walk_at "st"
      intro q hq
      walk_at "st"
      refine ⟨p, g, s, q, keyVals, rfl, h3.up hq, upd_same, by decide, by decide, fun H4 x hx hP4 f4 => ?_⟩
      have e4 : H4 D = some (.lst acc) := f4.keep D _ (by simpa using ⟨nD.1, nD.2.1⟩) (upd_old hq h1)
      refine ⟨acc, e4, line_lt (by omega), acc ++ [x], upd_same, ((h2.new hq).trans f4).wl e4 (.inr D0), hP4.wr e4 nD, by simp [h4], fun y hy => ?_⟩
      rcases List.mem_append.mp hy with hy | hy
      · exact h5 y hy
      · rw [List.mem_singleton.mp hy]; exact hx
    · rintro H2 ⟨acc, h1, h2, h3, h4, h5⟩
      walk_at "st"
      refine st_tupOf (SqL.of h1) fun q hq => ?_
      walk_at "st"
      obtain ⟨ds, a, b⟩ := keyVals_td (upd H2 q (.tup acc)) acc h5
      refine k _ _ _ (.tup upd_same a) ⟨ds, rfl, ?_, ?_, b⟩ (h3.up hq) (h2.new hq)
      · rw [← a.length]; omega
      · rw [← a.length]; omega
theorem nice_all {n : Nat} : ∀ ds : List PyData, (∀ d ∈ ds, Nice n d) → PyData.canLayAll0 ds = true ∧ PyData.depthAll ds ≤ n ∧ widAll ds = true
  | [], _ => ⟨rfl, Nat.zero_le _, rfl⟩
  | d :: ds, h => by
    obtain ⟨a, b, c⟩ := h d (by simp)
    obtain ⟨a2, b2, c2⟩ := nice_all ds fun e he => h e (by simp [he])
    simp only [PyData.canLayAll0, PyData.depthAll, widAll, a, a2, c, c2, Bool.and_self, true_and, and_true]
    omega
theorem nice_tup {n : Nat} {ds : List PyData} (h : ∀ d ∈ ds, Nice n d) (hl : ds.length ≤ 1000) : Nice (n + 1) (.tuple ds) := by
  obtain ⟨a, b, c⟩ := nice_all ds h
  refine ⟨?_, ?_, ?_⟩
  · simpa only [PyData.canLay0] using a
  · simp only [PyData.depth]
    omega
  · simp only [wid, c, decide_eq_true hl, Bool.and_self]
theorem nice_mem {n : Nat} : ∀ {ds : List PyData} {d : PyData}, PyData.canLayAll0 ds = true → PyData.depthAll ds ≤ n → widAll ds = true → d ∈ ds → Nice n d
  | e :: ds, d, h1, h2, h3, hm => by
    simp only [PyData.canLayAll0, Bool.and_eq_true] at h1
    simp only [PyData.depthAll] at h2
    simp only [widAll, Bool.and_eq_true] at h3
    rcases List.mem_cons.mp hm with rfl | hm
    · exact ⟨h1.1, by omega, h3.1⟩
    · exact nice_mem h1.2 (by omega) h3.2 hm
theorem Nice.mono {n m : Nat} {d : PyData} (h : Nice n d) (l : n ≤ m) : Nice m d := ⟨h.1, Nat.le_trans h.2 l, h.3⟩
theorem Nice.sub {n : Nat} {ds : List PyData} {d : PyData} (h : Nice n (.tuple ds)) (hm : d ∈ ds) : 0 < n ∧ Nice (n - 1) d ∧ ds.length ≤ 1000 := by
  obtain ⟨h1, h2, h3⟩ := h
  simp only [PyData.canLay0] at h1
  simp only [PyData.depth] at h2
  simp only [wid, Bool.and_eq_true, decide_eq_true_eq] at h3
  exact ⟨by omega, nice_mem h1 (by omega) h3.2 hm, h3.1⟩
theorem Nice.len {n : Nat} {ds : List PyData} (h : Nice n (.tuple ds)) : ds.length ≤ 1000 := by
  have h3 := h.3
  simp only [wid, Bool.and_eq_true, decide_eq_true_eq] at h3
  exact h3.1
def thingVals : List V := [.int 0, .int (-7), .str "word", .non, .bl true, .int (10 ^ (20 : Int).toNat)]
def otherVals : List V := [.str "", .str "two\nlines", .bl false]
theorem thing_td (H : Hp) {v : V} (h : v ∈ thingVals ++ otherVals) : ∃ d, TD H v d ∧ Nice 0 d := by
  simp only [thingVals, otherVals, List.cons_append, List.nil_append, List.mem_cons, List.not_mem_nil, or_false] at h
  rcases h with rfl | rfl | rfl | rfl | rfl | rfl | rfl | rfl | rfl
  · exact ⟨_, .int _, rfl, Nat.zero_le _, rfl⟩
  · exact ⟨_, .int _, rfl, Nat.zero_le _, rfl⟩
  · exact ⟨_, .str _, by decide +kernel, Nat.zero_le _, rfl⟩
  · exact ⟨_, .non, rfl, Nat.zero_le _, rfl⟩
  · exact ⟨_, .bl _, rfl, Nat.zero_le _, rfl⟩
  · exact ⟨_, .int _, rfl, Nat.zero_le _, rfl⟩
  · exact ⟨_, .str _, by decide +kernel, Nat.zero_le _, rfl⟩
  · exact ⟨_, .str _, by decide +kernel, Nat.zero_le _, rfl⟩
  · exact ⟨_, .bl _, rfl, Nat.zero_le _, rfl⟩
def spThing (n : Nat) : Sp := fun vs H Q _ => ∃ (p g s : Addr), vs = [.ref p, .int n] ∧ Pot H p g s ∧ ∀ H' v d, TD H' v d → Nice n d → Pot H' p g s → Fr [p, g] H H' → Q v H'
abbrev s_law_thing : Stmt := top 74
theorem sc_law_thing : FnScope ["pot", "deep", "kind", "turn"] ["pot", "deep"] (defScope s_law_thing) := ⟨rfl, rfl, rfl, by decide +kernel, rfl, by decide +kernel, by decide +kernel⟩
theorem step_law_thing {f : Addr} {fd : FuncData} (F : Fun K "_law_thing" "_law_thing" s_law_thing f fd) (T : Txt K mg Z) (D_law_draw : Dn P w K mg base "_law_draw" 1 ["pot", "many"] spDraw) (D_law_any : Dn P w K mg base "_law_any" 2 ["pot", "items"] spAny)
    (n : Nat) (D_law_thing : Dn P w K mg base "_law_thing" (2 + n) ["pot", "deep"] (fun vs H Q E => ∃ m, m < n ∧ spThing m vs H Q E)) : FnOk P w K mg base (L2.CX P w) (2 + n + 1) f fd ["pot", "deep"] (spThing n) := by
  refine okN F sc_law_thing (fun vs H Q E h => ?_) (fun cdv A outer s0 H vs Q E hr h => ?_)
  · obtain ⟨p, g, s, rfl, _⟩ := h
    rfl
  · obtain ⟨p, g, s, rfl, hP, k⟩ := h
    refine ⟨_, [some _, some _, none, none], rfl, (pss_cons (ps_set (i := 2) sc_law_thing.nd rfl (by first | exact Or.inl rfl | exact Or.inr rfl) (pe_d D_law_draw E0 (hr.mono (by first | decide | omega)) (by rfl) passL (pa_cons (pv 0) (pa_cons pe_int pa_nil))))
      (pss_cons (ps_if (PW.pt (pw_and (pt_cmpR op_gt (pv 2) pe_int (by first | exact nomark _ | rfl)) (pw_and1 (pt_cmpR op_gt (pv 1) pe_int (by first | exact nomark _ | rfl))))) (pss_one (ps_ret (pe_callTy (kTupOf (K := K)) (by rfl) T.n_tuple (by decide +kernel) (pa_cons (pe_lc (own := [("turn", 3)]) (g := (gName 3)) (tt := tYes) rfl sc_law_thing.nd (pi_range1 (by rfl) T.n_range (pa_cons (pe_d D_law_draw E0 (hr.mono (by first | decide | omega)) (by rfl) passL (pa_cons (pv 0) (pa_cons pe_int pa_nil))) pa_nil)) (blkOk_by (N := ["pot", "deep", "kind", "turn"]) (sc := defScope s_law_thing) (by decide +kernel)) (fun _ _ _ _ _ => (pg_name (i := 3) sc_law_thing.nd rfl (by first | exact Or.inl rfl | exact Or.inr rfl))) (fun _ _ _ _ _ => pts_nil) (fun _ _ _ _ _ => (pe_d D_law_thing E0 (hr.mono (by first | decide | omega)) (by rfl) passL (pa_cons (pv 0) (pa_cons (pe_op op_sub (pv 1) pe_int) pa_nil))))) pa_nil)))) pss_nil)
      (pss_one (ps_ret (pe_ifExp (pt_cmpR op_lt (pv 2) pe_int (by first | exact nomark _ | rfl)) (pe_ix (kIxT (K := K)) (pe_tup (pa_cons pe_int (pa_cons (pe_un un_neg pe_int) (pa_cons pe_str (pa_cons pe_non (pa_cons pe_bl (pa_cons (pe_op op_pow pe_int pe_int) pa_nil))))))) (pv 2) (fun _ _ => rfl)) (pe_d D_law_any E0 (hr.mono (by first | decide | omega)) (by rfl) passL (pa_cons (pv 0) (pa_cons (pe_tup (pa_cons pe_str (pa_cons pe_str (pa_cons pe_bl pa_nil)))) pa_nil)))))))), ?_⟩
    walk_at "st"
    refine ⟨p, g, s, _, rfl, hP, by omega, by omega, fun H1 kind k0 k1 hP1 f1 => ?_⟩
    walk_at "st"
    refine iteD (fun h5 => ?_) (fun h5 => ?_)
    · walk_at "st"
      refine iteD (fun hd => ?_) (fun hd => ?_)
      · walk_at "st"
        refine ⟨p, g, s, _, rfl, hP1, by omega, by omega, fun H2 many m0 m1 hP2 f2 => ?_⟩
        walk_at "st"
        intro D hD
        have f12 := f1.trans f2
        have nD := hP2.ne hD
        have D0 : H D = none := f12.back (by simpa using ⟨nD.1, nD.2.1⟩) hD
        obtain ⟨m, rfl⟩ : ∃ m, n = m + 1 := ⟨n - 1, by omega⟩
        refine lc_it walk_range (fun i H' => ∃ acc ds, H' D = some (.lst acc) ∧ Fr [p, g] H H' ∧ Pot H' p g s ∧ acc.length = i ∧ TDs H' acc ds ∧ ∀ d ∈ ds, Nice m d) ⟨[], [], upd_same, f12.new hD, hP2.up hD, rfl, .nil, fun _ h => nomatch h⟩ (fun _ _ _ _ => trivial) ?_ ?_
        · rintro i x H3 H4 hi ⟨acc, ds, h1, h2, h3, h4, hT, hN⟩ ⟨rfl, rfl⟩
          walk_at "st"
          refine ⟨m, Nat.lt_succ_self m, p, g, s, ?_, h3, fun H5 v d hv hd2 hP5 f5 => ?_⟩
          · have e : (((m + 1 : Nat) : Int) - 1) = (m : Int) := by omega
            rw [e]
            rfl
          have e5 : H5 D = some (.lst acc) := f5.keep D _ (by simpa using ⟨nD.1, nD.2.1⟩) h1
          have f6 : Fr [D] H5 (upd H5 D (.lst (acc ++ [v]))) := (Fr.refl H5).wl e5 (.inl (by simp))
          refine ⟨acc, e5, line_lt (by omega), acc ++ [v], ds ++ [d], upd_same, (h2.trans f5).wl e5 (.inr D0), hP5.wr e5 nD, by simp [h4], ?_, fun y hy => ?_⟩
          · exact TDs.mono f6.tup _ _ (TDs.snoc (TDs.mono f5.tup _ _ hT) hv)
          · rcases List.mem_append.mp hy with hy | hy
            · exact hN y hy
            · rw [List.mem_singleton.mp hy]; exact hd2
        · rintro H3 ⟨acc, ds, h1, h2, h3, h4, hT, hN⟩
          walk_at "st"
          refine st_tupOf (SqL.of h1) fun q hq => ?_
          exact k _ _ _ (.tup upd_same (TDs.mono (Fr.up (ms := []) hq).tup _ _ hT)) (nice_tup hN (by rw [← hT.length]; omega)) (h3.up hq) (h2.new hq)
      · walk_at "st"
        refine iteD (fun h6 => ?_) (fun h6 => ?_)
        · walk_at "st"
          intro q hq
          obtain ⟨v, hv, hat⟩ := at_in (xs := [V.int 0, V.int (-7), V.str "word", V.non, V.bl true, V.int (10 ^ (20 : Int).toNat)]) k0 (by show kind < 6; exact h6)
          walk_at "st"
          obtain ⟨d, a, b⟩ := thing_td _ (List.mem_append_left _ hv)
          exact k _ v d a (b.mono (Nat.zero_le _)) (hP1.up hq) (f1.new hq)
        · walk_at "st"
          intro q hq
          walk_at "st"
          refine ⟨p, g, s, q, otherVals, rfl, hP1.up hq, upd_same, by decide, by decide, fun H2 v hv hP2 f2 => ?_⟩
          obtain ⟨d, a, b⟩ := thing_td H2 (List.mem_append_right _ hv)
          exact k _ v d a (b.mono (Nat.zero_le _)) hP2 ((f1.new hq).trans f2)
    · walk_at "st"
      refine iteD (fun h6 => ?_) (fun h6 => ?_)
      · walk_at "st"
        intro q hq
        obtain ⟨v, hv, hat⟩ := at_in (xs := [V.int 0, V.int (-7), V.str "word", V.non, V.bl true, V.int (10 ^ (20 : Int).toNat)]) k0 (by show kind < 6; exact h6)
        walk_at "st"
        obtain ⟨d, a, b⟩ := thing_td _ (List.mem_append_left _ hv)
        exact k _ v d a (b.mono (Nat.zero_le _)) (hP1.up hq) (f1.new hq)
      · walk_at "st"
        intro q hq
        walk_at "st"
        refine ⟨p, g, s, q, otherVals, rfl, hP1.up hq, upd_same, by decide, by decide, fun H2 v hv hP2 f2 => ?_⟩
        obtain ⟨d, a, b⟩ := thing_td H2 (List.mem_append_right _ hv)
        exact k _ v d a (b.mono (Nat.zero_le _)) hP2 ((f1.new hq).trans f2)
end
end K38

namespace K38
open PySem PySem.Spec PyProof.Rows L2 Hq
local macro_rules | `(tactic| walk_at "st1") => `(tactic| first
  | with_reducible refine st_seq ?_ | with_reducible refine st_ret ?_ | with_reducible refine st_ifS ?_ | with_reducible refine st_asg ?_ | with_reducible refine st_drop ?_
  | ((with_reducible refine' st_var ?hv ?_); (case hv => rfl)) | with_reducible refine st_c ?_ | with_reducible refine st_op ?_ | with_reducible refine st_un ?_
  | with_reducible refine st_I0 ?_ | with_reducible refine st_U ?_ | ((with_reducible refine' st_I ?hc ?_); (case hc => walk_at "side"))
  | ((with_reducible refine' st_eq ?hs ?_); (case hs => rfl)) | ((with_reducible refine' st_ne ?hs ?_); (case hs => rfl))
  | with_reducible refine st_test ?_ | with_reducible refine st_B ?_ | with_reducible refine st_bl ?_ | with_reducible refine st_isN ?_ | with_reducible refine st_notN ?_
  | with_reducible refine st_chain ?_ | with_reducible refine st_and ?_ | with_reducible refine st_or ?_ | with_reducible refine st_not ?_
  | with_reducible refine st_andV ?_ | with_reducible refine st_orV ?_ | with_reducible refine st_notV ?_ | with_reducible refine st_if ?_
  | with_reducible refine st_CB ?_ | with_reducible refine st_cons ?_ | with_reducible refine st_nil ?_ | with_reducible refine st_fld ?_
  | ((with_reducible refine st_tup ?_)) | ((with_reducible refine st_lst ?_))
  | with_reducible refine st_call ?_ | with_reducible refine st_meth ?_ | with_reducible refine st_make ?_
  | with_reducible refine st_sl ?_ | with_reducible refine st_noPart ?_ | with_reducible refine st_part ?_ | with_reducible refine st_int ?_
  | ((with_reducible refine' st_ixL ?hq ?he ?_); (case hq => walk_at "sqL"); (case he => walk_at "at"))
  | ((with_reducible refine' st_ixT ?hq ?he ?_); (case hq => walk_at "sqT"); (case he => walk_at "at"))
  | with_reducible refine st_bm ?_ | with_reducible refine st_app ?_
  | ((with_reducible refine' st_append ?hq ?hl ?_); (case hq => walk_at "hp"); (case hl => walk_at "line"))
  | ((with_reducible refine' st_len (n := 0) ?hq ?_); (case hq => first | exact Or.inl (by walk_at "sqL") | exact Or.inr (by walk_at "sqT")))
  | ((with_reducible refine' st_listOf ?hq ?_); (case hq => first | exact Or.inl (by walk_at "sqL") | exact Or.inr (by walk_at "sqT")))
  | ((with_reducible refine st_name ?_); (try dsimp only [List.set_cons_zero, List.set_cons_succ])) | with_reducible refine st_par ?_
  | with_reducible refine st_gcons ?_ | with_reducible refine st_gnil ?_ | with_reducible refine st_gsub ?_ | with_reducible refine st_sFld ?_
  | ((with_reducible refine' st_gtup ?hq ?hl ?_); (case hq => walk_at "sqT"); (case hl => rfl))
  | ((with_reducible refine' st_setL ?hq ?hl ?_); (case hq => walk_at "hp"); (case hl => first | rfl | exact ix0 | exact ixN_nat (by assumption)); (try simp only [Int.reduceToNat, List.set_cons_zero, List.set_cons_succ]))
  | with_reducible refine st_intI ?_ | with_reducible refine st_abs ?_
  | ((with_reducible refine' st_popAt ?hq ?hk ?hy ?_); (case hq => walk_at "hp"); (case hk => exact seq0); (case hy => rfl))
  | ((with_reducible refine' and_left ?ht ?_); (case ht => walk_at "ty"))
  | with_reducible refine st_lc ?_ | with_reducible refine st_for ?_ | with_reducible refine st_iL ?_ | with_reducible refine st_iT ?_ | with_reducible refine st_iR1 ?_ | with_reducible refine st_iR2 ?_ | with_reducible refine st_iZ ?_
  | ((with_reducible refine' st_refL ?hq ?_); (case hq => walk_at "sqL")) | ((with_reducible refine' st_refT ?hq ?_); (case hq => walk_at "sqT"))
  | ((with_reducible refine' st_rng1 ?hq ?_); (case hq => walk_at "side")) | ((with_reducible refine' st_rng2 ?hq ?_); (case hq => walk_at "side"))
  | ((with_reducible refine' st_zip ?hq ?hr ?_); (case hq => walk_at "sqb"); (case hr => walk_at "sqb"))
  | ((with_reducible refine' st_size ?hw ?_); (case hw => walk_at "line"))
  | ((with_reducible refine' st_sum ?hq ?_); (case hq => walk_at "sqL"))
  | with_reducible refine st_two ?_ | with_reducible refine st_yes ?_ | ((with_reducible refine' st_wipe ?hw ?_); (case hw => rfl))
  | ((with_reducible refine' st_slL ?hq ?_); (case hq => walk_at "sqL"))
  | ((with_reducible refine' st_cat ?hq ?hr ?hl ?_); (case hq => walk_at "hp"); (case hr => walk_at "hp"); (case hl => walk_at "line"))
  | ((with_reducible refine' st_isi ?hk ?he ?_); (case hk => walk_at "kd"); (case he => walk_at "kit"))
  | ((with_reducible refine' st_ins ?hq ?hc ?hn ?hl ?_); (case hq => walk_at "hp"); (case hc => with_reducible assumption); (case hn => with_reducible assumption); (case hl => walk_at "flen"); walk_at "puts")
  | ((with_reducible refine' st_att ?hq ?hc ?hn ?hl ?_); (case hq => walk_at "hp"); (case hc => with_reducible assumption); (case hn => with_reducible assumption); (case hl => walk_at "lk"))
  | ((with_reducible refine' st_mt ?hq ?hl ?_); (case hq => walk_at "hp"); (case hl => walk_at "lk"))
  | ((with_reducible refine' st_extend ?hq ?hr ?hl ?_); (case hq => walk_at "hp"); (case hr => walk_at "hp"); (case hl => walk_at "line"))
  | with_reducible refine st_next ?_ | with_reducible refine st_retN ?_ | (with_reducible refine iteNT ?_) | (with_reducible refine iteNF ?_) | (with_reducible refine iteT ?_) | (with_reducible refine iteF ?_))
local macro_rules | `(tactic| walk_at "side") => `(tactic| first | omega | decide | assumption | exact ⟨by omega, by omega⟩ | exact Or.inr ⟨by omega, by omega⟩ | exact Or.inl ⟨by omega, by omega⟩ | (simp only [List.length_map, List.length_cons, List.length_nil, List.length_append] at *; omega))
local macro_rules | `(tactic| walk_at "hp") => `(tactic| first | assumption | exact upd_same | refine upd_old (by assumption) (by walk_at "hp") | (rw [upd_ne (by first | assumption | exact Ne.symm (by assumption))]; walk_at "hp"))
local macro_rules | `(tactic| walk_at "sqL") => `(tactic| first | assumption | exact SqL.of (by walk_at "hp"))
local macro_rules | `(tactic| walk_at "sqT") => `(tactic| first | assumption | exact SqT.of (by walk_at "hp"))
local macro_rules | `(tactic| walk_at "sqb") => `(tactic| (unfold SqB; first | ((with_reducible change SqL _ _ _ _); walk_at "sqL") | ((with_reducible change SqT _ _ _ _); walk_at "sqT")))
local macro_rules | `(tactic| walk_at "line") => `(tactic| first | assumption | decide | (apply line_of; walk_at "side") | (apply line_lt; walk_at "side"))
local macro_rules | `(tactic| walk_at "ty") => `(tactic| first | with_reducible exact ty_lst (by walk_at "hp"))
local macro_rules | `(tactic| walk_at "at") => `(tactic| with_reducible first | assumption | exact at0 | exact at1 | exact at2 | exact at3 | exact at4 | exact at5 | exact at6 | exact at7 | exact at8)
local macro_rules | `(tactic| walk_at "st") => `(tactic| (repeat walk_at "st1"))
local macro_rules | `(tactic| walk_at "lk") => `(tactic| first | with_reducible assumption | rfl)
local macro_rules | `(tactic| walk_at "kd") => `(tactic| first | exact .base (.int _) | exact .base .non | exact .base (.bl _) | exact .base (.str _) | exact .base (.tup (by walk_at "hp")) | exact .base (.lst (by walk_at "hp")) | exact .base (.dK (by walk_at "hp")) | exact .base (.dT (by walk_at "hp")))
local macro_rules | `(tactic| walk_at "kit") => `(tactic| with_reducible first
  | exact kit_NoneType_bool
  | exact kit_NoneType_int
  | exact kit_NoneType_str
  | exact kit_NoneType_tuple
  | exact kit_NoneType_list
  | exact kit_NoneType_dict
  | exact kit_bool_bool
  | exact kit_bool_int
  | exact kit_bool_str
  | exact kit_bool_tuple
  | exact kit_bool_list
  | exact kit_bool_dict
  | exact kit_int_bool
  | exact kit_int_int
  | exact kit_int_str
  | exact kit_int_tuple
  | exact kit_int_list
  | exact kit_int_dict
  | exact kit_str_bool
  | exact kit_str_int
  | exact kit_str_str
  | exact kit_str_tuple
  | exact kit_str_list
  | exact kit_str_dict
  | exact kit_tuple_bool
  | exact kit_tuple_int
  | exact kit_tuple_str
  | exact kit_tuple_tuple
  | exact kit_tuple_list
  | exact kit_tuple_dict
  | exact kit_list_bool
  | exact kit_list_int
  | exact kit_list_str
  | exact kit_list_tuple
  | exact kit_list_list
  | exact kit_list_dict
  | exact kit_dict_bool
  | exact kit_dict_int
  | exact kit_dict_str
  | exact kit_dict_tuple
  | exact kit_dict_list
  | exact kit_dict_dict)
local macro_rules | `(tactic| walk_at "flen") => `(tactic| decide)
local macro_rules | `(tactic| walk_at "puts") => `(tactic| skip)

section
variable {Z : Ads} {P : Program} {w : World} {K : PySem.W.Frag} {mg : Str → Option Value} {base : Heap}
/-! ### the program's small judges -/
def spTuple : Sp := fun vs H Q _ => ∃ (a : Addr) (xs : List V) (l m : Int), vs = [.ref a, .int l, .int m] ∧ H a = some (.tup xs) ∧ xs.length ≤ 100000 ∧ Q (.bl (decide (l ≤ (xs.length : Int)) && decide ((xs.length : Int) ≤ m))) H
abbrev s_is_tuple : Stmt := top 10
theorem sc_is_tuple : FnScope ["thing", "least", "most"] ["thing", "least", "most"] (defScope s_is_tuple) := ⟨rfl, rfl, rfl, by decide +kernel, rfl, by decide +kernel, by decide +kernel⟩
theorem ok_is_tuple {f : Addr} {fd : FuncData} (F : Fun K "is_tuple" "is_tuple" s_is_tuple f fd) (T : Txt K mg Z) : FnOk P w K mg base (L2.CX P w) 1 f fd ["thing", "least", "most"] spTuple := by
  refine okN F sc_is_tuple (fun vs H Q E h => ?_) (fun cdv A outer s0 H vs Q E hr h => ?_)
  · obtain ⟨a, xs, l, m, rfl, _⟩ := h
    rfl
  · obtain ⟨a, xs, l, m, rfl, ha, hl, k⟩ := h
    refine ⟨_, [some _, some _, some _], rfl, (pss_one (ps_ret (pe_and (pe_callB (kIsi (K := K)) (by rfl) T.n_isinstance (by decide +kernel) (pa_cons (pv 0) (pa_cons (pe_ty "tuple" (by rfl) T.n_tuple (by decide +kernel)) pa_nil))) (pe_one (pe_chain op_le op_le (pv 1) (pe_callB (kLen (K := K)) (by rfl) T.n_len (by decide +kernel) (pa_cons (pv 0) pa_nil)) (pv 2)))))), ?_⟩
    walk_at "st"
    refine iteD (fun h => ?_) (fun h => ?_)
    · walk_at "st"
      rw [decide_eq_true h, Bool.true_and] at k
      exact k
    · rw [decide_eq_false h, Bool.false_and] at k
      exact k
def spBetween : Sp := fun vs H Q _ => ∃ (i l m : Int), vs = [.int i, .int l, .int m] ∧ Q (.bl (decide (l ≤ i) && decide (i ≤ m))) H
abbrev s_is_between : Stmt := top 6
theorem sc_is_between : FnScope ["thing", "least", "most"] ["thing", "least", "most"] (defScope s_is_between) := ⟨rfl, rfl, rfl, by decide +kernel, rfl, by decide +kernel, by decide +kernel⟩
theorem ok_is_between {f : Addr} {fd : FuncData} (F : Fun K "is_between" "is_between" s_is_between f fd) (T : Txt K mg Z) (D_is_integer : Dn P w K mg base "is_integer" 1 ["thing"] (spIsInteger K)) : FnOk P w K mg base (L2.CX P w) 2 f fd ["thing", "least", "most"] spBetween := by
  refine okN F sc_is_between (fun vs H Q E h => ?_) (fun cdv A outer s0 H vs Q E hr h => ?_)
  · obtain ⟨i, l, m, rfl, _⟩ := h
    rfl
  · obtain ⟨i, l, m, rfl, k⟩ := h
    refine ⟨_, [some _, some _, some _], rfl, (pss_one (ps_ret (pe_and (pe_d D_is_integer E0 (hr.mono (by first | decide | omega)) (by rfl) passL (pa_cons (pv 0) pa_nil)) (pe_one (pe_chain op_le op_le (pv 1) (pv 0) (pv 2)))))), ?_⟩
    walk_at "st"
    refine ⟨i, rfl, ?_⟩
    walk_at "st"
    refine iteD (fun h => ?_) (fun h => ?_)
    · walk_at "st"
      rw [decide_eq_true h, Bool.true_and] at k
      exact k
    · rw [decide_eq_false h, Bool.false_and] at k
      exact k
def spNumber : Sp := fun vs H Q _ => ∃ (i : Int), vs = [.int i] ∧ Q (.bl (decide (0 ≤ i))) H
abbrev s_is_number : Stmt := top 7
theorem sc_is_number : FnScope ["thing"] ["thing"] (defScope s_is_number) := ⟨rfl, rfl, rfl, by decide +kernel, rfl, by decide +kernel, by decide +kernel⟩
theorem ok_is_number {f : Addr} {fd : FuncData} (F : Fun K "is_number" "is_number" s_is_number f fd) (T : Txt K mg Z) (D_is_integer : Dn P w K mg base "is_integer" 1 ["thing"] (spIsInteger K)) : FnOk P w K mg base (L2.CX P w) 2 f fd ["thing"] spNumber := by
  refine okN F sc_is_number (fun vs H Q E h => ?_) (fun cdv A outer s0 H vs Q E hr h => ?_)
  · obtain ⟨i, rfl, _⟩ := h
    rfl
  · obtain ⟨i, rfl, k⟩ := h
    refine ⟨_, [some _], rfl, (pss_one (ps_ret (pe_and (pe_d D_is_integer E0 (hr.mono (by first | decide | omega)) (by rfl) passL (pa_cons (pv 0) pa_nil)) (pe_one (pe_cmpR op_ge (pv 0) pe_int (by first | exact nomark _ | rfl)))))), ?_⟩
    walk_at "st"
    refine ⟨i, rfl, ?_⟩
    walk_at "st"
    exact k
def spIsKey : Sp := fun vs H Q _ => ∃ (v : V) (d : PyData), vs = [v] ∧ TD H v d ∧ KeyD d ∧ ∀ H', Fr [] H H' → Q (.bl true) H'
abbrev s_is_key : Stmt := top 65
theorem sc_is_key : FnScope ["thing", "part"] ["thing"] (defScope s_is_key) := ⟨rfl, rfl, rfl, by decide +kernel, rfl, by decide +kernel, by decide +kernel⟩
theorem ok_is_key {f : Addr} {fd : FuncData} (F : Fun K "is_key" "is_key" s_is_key f fd) (T : Txt K mg Z) (D_is_number : Dn P w K mg base "is_number" 2 ["thing"] spNumber) : FnOk P w K mg base (L2.CX P w) 3 f fd ["thing"] spIsKey := by
  refine okN F sc_is_key (fun vs H Q E h => ?_) (fun cdv A outer s0 H vs Q E hr h => ?_)
  · obtain ⟨v, d, rfl, _⟩ := h
    rfl
  · obtain ⟨v, d, rfl, hv, ⟨ds, rfl, h0, h3, hk⟩, k⟩ := h
    cases hv with
    | @tup a xs _ ha hT =>
    have hl := hT.length
    refine ⟨_, [some _, none], rfl, (pss_cons (ps_if (PW.pt (pw_or (pt_not (pt_val (pe_callB (kIsi (K := K)) (by rfl) T.n_isinstance (by decide +kernel) (pa_cons (pv 0) (pa_cons (pe_ty "tuple" (by rfl) T.n_tuple (by decide +kernel)) pa_nil))))) (pw_or1 (pt_cmpR op_eq (pe_callB (kLen (K := K)) (by rfl) T.n_len (by decide +kernel) (pa_cons (pv 0) pa_nil)) pe_int (by first | exact nomark _ | rfl))))) (pss_one (ps_ret pe_bl)) pss_nil)
      (pss_one (ps_ret (pe_callB (kAll (K := K)) (by rfl) T.n_all (by decide +kernel) (pa_cons (pe_lc (own := [("part", 1)]) (g := (gName 1)) (tt := tYes) rfl sc_is_key.nd (kPiT (K := K) (pv 0)) (blkOk_by (N := ["thing", "part"]) (sc := defScope s_is_key) (by decide +kernel)) (fun _ _ _ _ _ => (pg_name (i := 1) sc_is_key.nd rfl (by first | exact Or.inl rfl | exact Or.inr rfl))) (fun _ _ _ _ _ => pts_nil) (fun _ _ _ _ _ => (pe_or (pe_callB (kIsi (K := K)) (by rfl) T.n_isinstance (by decide +kernel) (pa_cons (pv 1) (pa_cons (pe_ty "str" (by rfl) T.n_str (by decide +kernel)) pa_nil))) (pe_one (pe_d D_is_number E0 (hr.mono (by first | decide | omega)) (by rfl) passL (pa_cons (pv 1) pa_nil)))))) pa_nil))))), ?_⟩
    walk_at "st"
    have hx : (xs.length : Int) ≠ 0 := by omega
    refine iteD (fun h => absurd h (by simpa using hx)) (fun h => ?_)
    walk_at "st"
    intro D hD
    refine lc_it (walk_tup (xs := xs)) (fun i H' => Fr [] H H' ∧ H' D = some (.lst ((List.replicate i true).map V.bl))) ⟨Fr.up hD, upd_same⟩ (fun i H' _ h => SqT.of (h.1.tup _ _ ha)) ?_ ?_
    · rintro i x H1 H2 hi ⟨f1, e1⟩ ⟨rfl, hx⟩
      obtain ⟨d, hd, td⟩ := TDs.at_ (TDs.mono f1.tup _ _ hT) hx
      have fin : ∀ H3, H3 = H2 → ∃ acc, H3 D = some (.lst acc) ∧ acc.length < sizeLine ∧ Fr [] H (upd H3 D (.lst (acc ++ [V.bl true]))) ∧ (upd H3 D (.lst (acc ++ [V.bl true]))) D = some (.lst ((List.replicate (i + 1) true).map V.bl)) := fun H3 e => by
        rw [e]
        refine ⟨_, e1, line_lt (by simp; omega), f1.wl e1 (.inr hD), ?_⟩
        rw [upd_same, List.replicate_succ', List.map_append]
        rfl
      rcases hk d (List.mem_of_getElem? hd) with ⟨z, rfl, _⟩ | ⟨n, hn, rfl⟩
      · cases td
        walk_at "st"
        exact fin _ rfl
      · cases td
        walk_at "st"
        refine ⟨n, rfl, ?_⟩
        rw [decide_eq_true hn]
        exact fin _ rfl
    · rintro H1 ⟨f1, e1⟩
      walk_at "st"
      refine st_all (SqL.of e1) ?_
      rw [show (List.replicate xs.length true).all id = true by simp]
      exact k _ f1
def spKept (n : Nat) : Sp := fun vs H Q _ => ∃ (v : V) (d : PyData), vs = [v] ∧ TD H v d ∧ Nice n d ∧ ∀ H', Fr [] H H' → Q (.bl true) H'
theorem isi3 {H : Hp} {x : V} {tp CE : Addr} {Q : VK} {t : String} (h : H tp = some (.tup [.ty "int", .ty "str", .ref CE])) (hk : TyX K H x (.type t)) (ht : t = "int" ∨ t = "bool" ∨ t = "str") (q : Q (.bl true) H) : rIsiT K [x, .ref tp] H Q := by
  refine ⟨x, tp, _, .type t, [.type "int", .type "str", .ref CE], true, rfl, h, .cons (.ty _) (.cons (.ty _) (.cons (.own _) .nil)), hk, ?_, q⟩
  rcases ht with rfl | rfl | rfl
  · exact kitAny_cons (b := true) (kit_ty kit_int_int) (fun h => nomatch h) fun _ => rfl
  · exact kitAny_cons (b := true) (kit_ty kit_bool_int) (fun h => nomatch h) fun _ => rfl
  · exact kitAny_cons (b := false) (kit_ty kit_str_int) (fun _ => kitAny_cons (b := true) (kit_ty kit_str_str) (fun h => nomatch h) fun _ => rfl) (fun h => nomatch h)
abbrev s_is_kept : Stmt := top 66
theorem sc_is_kept : FnScope ["thing", "part"] ["thing"] (defScope s_is_kept) := ⟨rfl, rfl, rfl, by decide +kernel, rfl, by decide +kernel, by decide +kernel⟩
theorem step_is_kept {f : Addr} {fd : FuncData} (F : Fun K "is_kept" "is_kept" s_is_kept f fd) (T : Txt K mg Z) (n : Nat)
    (D_is_kept : Dn P w K mg base "is_kept" (0 + n) ["thing"] (fun vs H Q E => ∃ m, m < n ∧ spKept m vs H Q E)) : FnOk P w K mg base (L2.CX P w) (0 + n + 1) f fd ["thing"] (spKept n) := by
  refine okN F sc_is_kept (fun vs H Q E h => ?_) (fun cdv A outer s0 H vs Q E hr h => ?_)
  · obtain ⟨v, d, rfl, _⟩ := h
    rfl
  · obtain ⟨v, d, rfl, hv, hN, k⟩ := h
    refine ⟨_, [some _, none], rfl, (pss_cons (ps_if (pt_val (pe_callB (kIsi (K := K)) (by rfl) T.n_isinstance (by decide +kernel) (pa_cons (pv 0) (pa_cons (pe_ty "tuple" (by rfl) T.n_tuple (by decide +kernel)) pa_nil)))) (pss_one (ps_ret (pe_callB (kAll (K := K)) (by rfl) T.n_all (by decide +kernel) (pa_cons (pe_lc (own := [("part", 1)]) (g := (gName 1)) (tt := tYes) rfl sc_is_kept.nd (kPiT (K := K) (pv 0)) (blkOk_by (N := ["thing", "part"]) (sc := defScope s_is_kept) (by decide +kernel)) (fun _ _ _ _ _ => (pg_name (i := 1) sc_is_kept.nd rfl (by first | exact Or.inl rfl | exact Or.inr rfl))) (fun _ _ _ _ _ => pts_nil) (fun _ _ _ _ _ => (pe_d D_is_kept E0 (hr.mono (by first | decide | omega)) (by rfl) passL (pa_cons (pv 1) pa_nil)))) pa_nil)))) pss_nil)
      (pss_one (ps_ret (pe_or (pe_cmp (pc_isN (pv 0))) (pe_one (pe_callB (kIsiT (K := K)) (by rfl) T.n_isinstance (by decide +kernel) (pa_cons (pv 0) (pa_cons (pe_tup (pa_cons (pe_ty "int" (by rfl) T.n_int (by decide +kernel)) (pa_cons (pe_ty "str" (by rfl) T.n_str (by decide +kernel)) (pa_cons (pe_gl (by rfl) T.g_Exchange) pa_nil)))) pa_nil)))))))), ?_⟩
    cases hv with
    | non =>
      walk_at "st"
      exact k _ (Fr.refl H)
    | bl b =>
      walk_at "st"
      rw [if_neg (by simp)]
      walk_at "st"
      intro t ht
      walk_at "st"
      exact isi3 upd_same (t := "bool") (by walk_at "kd") (by simp) (k _ (Fr.up ht))
    | int i =>
      walk_at "st"
      rw [if_neg (by simp)]
      walk_at "st"
      intro t ht
      walk_at "st"
      exact isi3 upd_same (t := "int") (by walk_at "kd") (by simp) (k _ (Fr.up ht))
    | str x =>
      walk_at "st"
      rw [if_neg (by simp)]
      walk_at "st"
      intro t ht
      walk_at "st"
      exact isi3 upd_same (t := "str") (by walk_at "kd") (by simp) (k _ (Fr.up ht))
    | @tup a xs ds ha hT =>
      walk_at "st"
      intro D hD
      have hsz := hN.len
      have hl := hT.length
      refine lc_it (walk_tup (xs := xs)) (fun i H' => Fr [] H H' ∧ H' D = some (.lst ((List.replicate i true).map V.bl))) ⟨Fr.up hD, upd_same⟩ (fun i H' _ h => SqT.of (h.1.tup _ _ ha)) ?_ ?_
      · rintro i x H1 H2 hi ⟨f1, e1⟩ ⟨rfl, hx⟩
        obtain ⟨d, hd, td⟩ := TDs.at_ (TDs.mono f1.tup _ _ hT) hx
        walk_at "st"
        obtain ⟨n0, hNd, _⟩ := hN.sub (List.mem_of_getElem? hd)
        refine ⟨n - 1, by omega, x, d, rfl, td, hNd, fun H3 f3 => ?_⟩
        have e3 := f3.keep _ _ List.not_mem_nil e1
        refine ⟨_, e3, ?_, (f1.trans f3).wl e3 (.inr hD), ?_⟩
        · rw [List.length_map, List.length_replicate]
          exact line_lt (by omega)
        · rw [upd_same, List.replicate_succ', List.map_append]
          rfl
      · rintro H1 ⟨f1, e1⟩
        walk_at "st"
        refine st_all (SqL.of e1) ?_
        rw [show (List.replicate xs.length true).all id = true by simp]
        exact k _ f1
end
end K38

namespace K38
open PySem PySem.Spec PyProof.Rows L2 Hq
local macro_rules | `(tactic| walk_at "st1") => `(tactic| first
  | with_reducible refine st_seq ?_ | with_reducible refine st_ret ?_ | with_reducible refine st_ifS ?_ | with_reducible refine st_asg ?_ | with_reducible refine st_drop ?_
  | ((with_reducible refine' st_var ?hv ?_); (case hv => rfl)) | with_reducible refine st_c ?_ | with_reducible refine st_op ?_ | with_reducible refine st_un ?_
  | with_reducible refine st_I0 ?_ | with_reducible refine st_U ?_ | ((with_reducible refine' st_I ?hc ?_); (case hc => walk_at "side"))
  | ((with_reducible refine' st_eq ?hs ?_); (case hs => rfl)) | ((with_reducible refine' st_ne ?hs ?_); (case hs => rfl))
  | with_reducible refine st_test ?_ | with_reducible refine st_B ?_ | with_reducible refine st_bl ?_ | with_reducible refine st_isN ?_ | with_reducible refine st_notN ?_
  | with_reducible refine st_chain ?_ | with_reducible refine st_and ?_ | with_reducible refine st_or ?_ | with_reducible refine st_not ?_
  | with_reducible refine st_andV ?_ | with_reducible refine st_orV ?_ | with_reducible refine st_notV ?_ | with_reducible refine st_if ?_
  | with_reducible refine st_CB ?_ | with_reducible refine st_cons ?_ | with_reducible refine st_nil ?_ | with_reducible refine st_fld ?_
  | ((with_reducible refine st_tup ?_)) | ((with_reducible refine st_lst ?_))
  | with_reducible refine st_call ?_ | with_reducible refine st_meth ?_ | with_reducible refine st_make ?_
  | with_reducible refine st_sl ?_ | with_reducible refine st_noPart ?_ | with_reducible refine st_part ?_ | with_reducible refine st_int ?_
  | ((with_reducible refine' st_ixL ?hq ?he ?_); (case hq => walk_at "sqL"); (case he => walk_at "at"))
  | ((with_reducible refine' st_ixT ?hq ?he ?_); (case hq => walk_at "sqT"); (case he => walk_at "at"))
  | with_reducible refine st_bm ?_ | with_reducible refine st_app ?_
  | ((with_reducible refine' st_append ?hq ?hl ?_); (case hq => walk_at "hp"); (case hl => walk_at "line"))
  | ((with_reducible refine' st_len (n := 0) ?hq ?_); (case hq => first | exact Or.inl (by walk_at "sqL") | exact Or.inr (by walk_at "sqT")))
  | ((with_reducible refine' st_listOf ?hq ?_); (case hq => first | exact Or.inl (by walk_at "sqL") | exact Or.inr (by walk_at "sqT")))
  | ((with_reducible refine st_name ?_); (try dsimp only [List.set_cons_zero, List.set_cons_succ])) | with_reducible refine st_par ?_
  | with_reducible refine st_gcons ?_ | with_reducible refine st_gnil ?_ | with_reducible refine st_gsub ?_ | with_reducible refine st_sFld ?_
  | ((with_reducible refine' st_gtup ?hq ?hl ?_); (case hq => walk_at "sqT"); (case hl => rfl))
  | ((with_reducible refine' st_setL ?hq ?hl ?_); (case hq => walk_at "hp"); (case hl => first | rfl | exact ix0 | exact ixN_nat (by assumption)); (try simp only [Int.reduceToNat, List.set_cons_zero, List.set_cons_succ]))
  | with_reducible refine st_intI ?_ | with_reducible refine st_abs ?_
  | ((with_reducible refine' st_popAt ?hq ?hk ?hy ?_); (case hq => walk_at "hp"); (case hk => exact seq0); (case hy => rfl))
  | ((with_reducible refine' and_left ?ht ?_); (case ht => walk_at "ty"))
  | with_reducible refine st_lc ?_ | with_reducible refine st_for ?_ | with_reducible refine st_iL ?_ | with_reducible refine st_iT ?_ | with_reducible refine st_iR1 ?_ | with_reducible refine st_iR2 ?_ | with_reducible refine st_iZ ?_
  | ((with_reducible refine' st_refL ?hq ?_); (case hq => walk_at "sqL")) | ((with_reducible refine' st_refT ?hq ?_); (case hq => walk_at "sqT"))
  | ((with_reducible refine' st_rng1 ?hq ?_); (case hq => walk_at "side")) | ((with_reducible refine' st_rng2 ?hq ?_); (case hq => walk_at "side"))
  | ((with_reducible refine' st_zip ?hq ?hr ?_); (case hq => walk_at "sqb"); (case hr => walk_at "sqb"))
  | ((with_reducible refine' st_size ?hw ?_); (case hw => walk_at "line"))
  | ((with_reducible refine' st_sum ?hq ?_); (case hq => walk_at "sqL"))
  | with_reducible refine st_two ?_ | with_reducible refine st_yes ?_ | ((with_reducible refine' st_wipe ?hw ?_); (case hw => rfl))
  | ((with_reducible refine' st_slL ?hq ?_); (case hq => walk_at "sqL"))
  | ((with_reducible refine' st_cat ?hq ?hr ?hl ?_); (case hq => walk_at "hp"); (case hr => walk_at "hp"); (case hl => walk_at "line"))
  | ((with_reducible refine' st_isi ?hk ?he ?_); (case hk => walk_at "kd"); (case he => walk_at "kit"))
  | ((with_reducible refine' st_ins ?hq ?hc ?hn ?hl ?_); (case hq => walk_at "hp"); (case hc => with_reducible assumption); (case hn => with_reducible assumption); (case hl => walk_at "flen"); walk_at "puts")
  | ((with_reducible refine' st_att ?hq ?hc ?hn ?hl ?_); (case hq => walk_at "hp"); (case hc => with_reducible assumption); (case hn => with_reducible assumption); (case hl => walk_at "lk"))
  | ((with_reducible refine' st_mt ?hq ?hl ?_); (case hq => walk_at "hp"); (case hl => walk_at "lk"))
  | ((with_reducible refine' st_extend ?hq ?hr ?hl ?_); (case hq => walk_at "hp"); (case hr => walk_at "hp"); (case hl => walk_at "line"))
  | with_reducible refine st_next ?_ | with_reducible refine st_retN ?_ | (with_reducible refine iteNT ?_) | (with_reducible refine iteNF ?_) | (with_reducible refine iteT ?_) | (with_reducible refine iteF ?_))
local macro_rules | `(tactic| walk_at "side") => `(tactic| first | omega | decide | assumption | exact ⟨by omega, by omega⟩ | exact Or.inr ⟨by omega, by omega⟩ | exact Or.inl ⟨by omega, by omega⟩ | (simp only [List.length_map, List.length_cons, List.length_nil, List.length_append] at *; omega))
local macro_rules | `(tactic| walk_at "hp") => `(tactic| first | assumption | exact upd_same | refine upd_old (by assumption) (by walk_at "hp") | (rw [upd_ne (by first | assumption | exact Ne.symm (by assumption))]; walk_at "hp"))
local macro_rules | `(tactic| walk_at "sqL") => `(tactic| first | assumption | exact SqL.of (by walk_at "hp"))
local macro_rules | `(tactic| walk_at "sqT") => `(tactic| first | assumption | exact SqT.of (by walk_at "hp"))
local macro_rules | `(tactic| walk_at "sqb") => `(tactic| (unfold SqB; first | ((with_reducible change SqL _ _ _ _); walk_at "sqL") | ((with_reducible change SqT _ _ _ _); walk_at "sqT")))
local macro_rules | `(tactic| walk_at "line") => `(tactic| first | assumption | decide | (apply line_of; walk_at "side") | (apply line_lt; walk_at "side"))
local macro_rules | `(tactic| walk_at "ty") => `(tactic| first | with_reducible exact ty_lst (by walk_at "hp"))
local macro_rules | `(tactic| walk_at "at") => `(tactic| with_reducible first | assumption | exact at0 | exact at1 | exact at2 | exact at3 | exact at4 | exact at5 | exact at6 | exact at7 | exact at8)
local macro_rules | `(tactic| walk_at "st") => `(tactic| (repeat walk_at "st1"))
local macro_rules | `(tactic| walk_at "lk") => `(tactic| first | with_reducible assumption | rfl)
local macro_rules | `(tactic| walk_at "kd") => `(tactic| first | exact .base (.int _) | exact .base .non | exact .base (.bl _) | exact .base (.str _) | exact .base (.tup (by walk_at "hp")) | exact .base (.lst (by walk_at "hp")) | exact .base (.dK (by walk_at "hp")) | exact .base (.dT (by walk_at "hp")))
local macro_rules | `(tactic| walk_at "kit") => `(tactic| with_reducible first
  | exact kit_NoneType_bool
  | exact kit_NoneType_int
  | exact kit_NoneType_str
  | exact kit_NoneType_tuple
  | exact kit_NoneType_list
  | exact kit_NoneType_dict
  | exact kit_bool_bool
  | exact kit_bool_int
  | exact kit_bool_str
  | exact kit_bool_tuple
  | exact kit_bool_list
  | exact kit_bool_dict
  | exact kit_int_bool
  | exact kit_int_int
  | exact kit_int_str
  | exact kit_int_tuple
  | exact kit_int_list
  | exact kit_int_dict
  | exact kit_str_bool
  | exact kit_str_int
  | exact kit_str_str
  | exact kit_str_tuple
  | exact kit_str_list
  | exact kit_str_dict
  | exact kit_tuple_bool
  | exact kit_tuple_int
  | exact kit_tuple_str
  | exact kit_tuple_tuple
  | exact kit_tuple_list
  | exact kit_tuple_dict
  | exact kit_list_bool
  | exact kit_list_int
  | exact kit_list_str
  | exact kit_list_tuple
  | exact kit_list_list
  | exact kit_list_dict
  | exact kit_dict_bool
  | exact kit_dict_int
  | exact kit_dict_str
  | exact kit_dict_tuple
  | exact kit_dict_list
  | exact kit_dict_dict)
local macro_rules | `(tactic| walk_at "flen") => `(tactic| decide)
local macro_rules | `(tactic| walk_at "puts") => `(tactic| skip)

section
variable {Z : Ads} {P : Program} {w : World} {K : PySem.W.Frag} {mg : Str → Option Value} {base : Heap}
/-! ### a disk -/
theorem Disk_ne_lying_pending : ¬ (("lying" : Str) = "pending") := by decide +kernel
theorem Disk_ne_lying_spoils : ¬ (("lying" : Str) = "spoils") := by decide +kernel
theorem Disk_ne_pending_lying : ¬ (("pending" : Str) = "lying") := by decide +kernel
theorem Disk_ne_pending_spoils : ¬ (("pending" : Str) = "spoils") := by decide +kernel
theorem Disk_ne_spoils_lying : ¬ (("spoils" : Str) = "lying") := by decide +kernel
theorem Disk_ne_spoils_pending : ¬ (("spoils" : Str) = "pending") := by decide +kernel
def DiskF0 : List (Str × V) := []
def DiskF1 (v0 : V) : List (Str × V) := [("lying", v0)]
def DiskF2 (v0 v1 : V) : List (Str × V) := [("lying", v0), ("pending", v1)]
def DiskF (v0 v1 v2 : V) : List (Str × V) := [("lying", v0), ("pending", v1), ("spoils", v2)]
theorem DiskF0_len : (DiskF0 ).length < 1000 := by unfold DiskF0; show 0 < 1000; decide
theorem DiskF0_put {v0 : V} : putF "lying" v0 (DiskF0 ) = DiskF1 v0 := by unfold DiskF0 DiskF1; rw [put_nil]
theorem DiskF1_len {v0 : V} : (DiskF1 v0).length < 1000 := by unfold DiskF1; show 1 < 1000; decide
theorem DiskF1_put {v0 v1 : V} : putF "pending" v1 (DiskF1 v0) = DiskF2 v0 v1 := by unfold DiskF1 DiskF2; rw [put_cons, if_neg Disk_ne_lying_pending, put_nil]
theorem DiskF2_len {v0 v1 : V} : (DiskF2 v0 v1).length < 1000 := by unfold DiskF2; show 2 < 1000; decide
theorem DiskF2_put {v0 v1 v2 : V} : putF "spoils" v2 (DiskF2 v0 v1) = DiskF v0 v1 v2 := by unfold DiskF2 DiskF; rw [put_cons, if_neg Disk_ne_lying_spoils, put_cons, if_neg Disk_ne_pending_spoils, put_nil]
theorem DiskF_len {v0 v1 v2 : V} : (DiskF v0 v1 v2).length < 1000 := by unfold DiskF; show 3 < 1000; decide
theorem DiskF_get_lying {v0 v1 v2 : V} : List.lookup ("lying" : Str) (DiskF v0 v1 v2) = some v0 := by unfold DiskF; rw [look_cons, if_pos rfl]
theorem DiskF_put_lying {v0 v1 v2 w : V} : putF "lying" w (DiskF v0 v1 v2) = DiskF w v1 v2 := by unfold DiskF; rw [put_cons, if_pos rfl]
theorem DiskF_get_pending {v0 v1 v2 : V} : List.lookup ("pending" : Str) (DiskF v0 v1 v2) = some v1 := by unfold DiskF; rw [look_cons, if_neg Disk_ne_pending_lying, look_cons, if_pos rfl]
theorem DiskF_put_pending {v0 v1 v2 w : V} : putF "pending" w (DiskF v0 v1 v2) = DiskF v0 w v2 := by unfold DiskF; rw [put_cons, if_neg Disk_ne_lying_pending, put_cons, if_pos rfl]
theorem DiskF_get_spoils {v0 v1 v2 : V} : List.lookup ("spoils" : Str) (DiskF v0 v1 v2) = some v2 := by unfold DiskF; rw [look_cons, if_neg Disk_ne_spoils_lying, look_cons, if_neg Disk_ne_spoils_pending, look_cons, if_pos rfl]
theorem DiskF_put_spoils {v0 v1 v2 w : V} : putF "spoils" w (DiskF v0 v1 v2) = DiskF v0 v1 w := by unfold DiskF; rw [put_cons, if_neg Disk_ne_lying_spoils, put_cons, if_neg Disk_ne_pending_spoils, put_cons, if_pos rfl]
theorem DiskF_no {v0 v1 v2 : V} {m : Str} (h0 : ¬ m = "lying") (h1 : ¬ m = "pending") (h2 : ¬ m = "spoils") : List.lookup m (DiskF v0 v1 v2) = none := by unfold DiskF; rw [look_cons, if_neg h0, look_cons, if_neg h1, look_cons, if_neg h2]; rfl
local macro_rules | `(tactic| walk_at "lk") => `(tactic| with_reducible first | assumption | exact DiskF_get_lying | exact DiskF_get_pending | exact DiskF_get_spoils | exact DiskF_no (by decide +kernel) (by decide +kernel) (by decide +kernel))
local macro_rules | `(tactic| walk_at "puts") => `(tactic| try simp only [DiskF_put_lying, DiskF_put_pending, DiskF_put_spoils, DiskF0_put, DiskF1_put, DiskF2_put])
local macro_rules | `(tactic| walk_at "flen") => `(tactic| first | with_reducible assumption | with_reducible (first | exact DiskF_len | exact DiskF0_len | exact DiskF1_len | exact DiskF2_len) | decide)
/-- a disk's list at l, what waits at q -/
structure DiskAt (C : Addr) (H : Hp) (d l q : Addr) (ls ps : List PyData) : Prop where
  ok : ∃ dx n, H d = some (.ins C dx (DiskF (.ref l) (.ref q) (.int n)))
  lie : ∃ xs, H l = some (.lst xs) ∧ TDs H xs ls
  pen : ∃ xs, H q = some (.lst xs) ∧ TDs H xs ps
  lq : l ≠ q
def spInit (C : Addr) : Sp := fun vs H Q _ => ∃ (d dx : Addr), vs = [.ref d] ∧ H d = some (.ins C dx DiskF0) ∧ ∀ H' l q, H l = none → H q = none → DiskAt C H' d l q [] [] → Fr [d] H H' → Q .non H'
abbrev s_Disk___init__ : Stmt := inClass (top 67) 0
theorem sc_Disk___init__ : FnScope ["self"] ["self"] (defScope s_Disk___init__) := ⟨rfl, rfl, rfl, by decide +kernel, rfl, by decide +kernel, by decide +kernel⟩
theorem ok_Disk_init {f : Addr} {fd : FuncData} (F : Fun K "__init__" "Disk.__init__" s_Disk___init__ f fd) (T : Txt K mg Z) : FnOk P w K mg base (L2.CX P w) 1 f fd ["self"] (spInit Z.Disk) := by
  have cl := T.cl
  have aL := T.aL
  have aP := T.aP
  have aS := T.aS
  refine okN F sc_Disk___init__ (fun vs H Q E h => ?_) (fun cdv A outer s0 H vs Q E hr h => ?_)
  · obtain ⟨d, dx, rfl, _⟩ := h
    rfl
  · obtain ⟨d, dx, rfl, hd, k⟩ := h
    refine ⟨_, [some _], rfl, (pss_cons (kSFld (K := K) (pv 0) (pe_lst pa_nil) rfl)
      (pss_cons (kSFld (K := K) (pv 0) (pe_lst pa_nil) rfl)
      (pss_one (kSFld (K := K) (pv 0) pe_int rfl)))), ?_⟩
    walk_at "st"
    intro l hl
    have dl : d ≠ l := ne_of_none hd hl
    walk_at "st"
    intro q hq
    have nd : q ≠ d := fresh_ne hq
    have hq2 := fresh_of (fresh_of hq)
    have nl : q ≠ l := fresh_ne (fresh_of hq)
    walk_at "st"
    refine k _ l q hl hq2 ⟨⟨dx, _, upd_same⟩, ⟨[], (by walk_at "hp"), .nil⟩, ⟨[], (by walk_at "hp"), .nil⟩, nl.symm⟩ ?_
    exact (((((Fr.refl H).new hl).wi (by walk_at "hp") (.inl (by simp))).new hq).wi (by walk_at "hp") (.inl (by simp))).wi upd_same (.inl (by simp))
/-- a key and a thing wait -/
def spWrite (C : Addr) : Sp := fun vs H Q _ => ∃ (d l q : Addr) (ls ps : List PyData) (k v : V) (kd vd : PyData), vs = [.ref d, k, v] ∧ DiskAt C H d l q ls ps ∧ ps.length ≤ 1000 ∧ TD H k kd ∧ KeyD kd ∧ TD H v vd ∧ Nice 10 vd ∧
  ∀ H', DiskAt C H' d l q ls (ps ++ [.tuple [kd, vd]]) → Fr [q] H H' → Q .non H'
abbrev s_Disk_write : Stmt := inClass (top 67) 1
theorem sc_Disk_write : FnScope ["self", "key", "thing"] ["self", "key", "thing"] (defScope s_Disk_write) := ⟨rfl, rfl, rfl, by decide +kernel, rfl, by decide +kernel, by decide +kernel⟩
theorem ok_Disk_write {f : Addr} {fd : FuncData} (F : Fun K "write" "Disk.write" s_Disk_write f fd) (T : Txt K mg Z) (D_is_key : Dn P w K mg base "is_key" 3 ["thing"] spIsKey) (D_is_kept : Dn P w K mg base "is_kept" 11 ["thing"] (spKept 10)) :
    FnOk P w K mg base (L2.CX P w) 12 f fd ["self", "key", "thing"] (spWrite Z.Disk) := by
  have cl := T.cl
  have aL := T.aL
  have aP := T.aP
  have aS := T.aS
  refine okN F sc_Disk_write (fun vs H Q E h => ?_) (fun cdv A outer s0 H vs Q E hr h => ?_)
  · obtain ⟨d, l, q, ls, ps, k, v, kd, vd, rfl, _⟩ := h
    rfl
  · obtain ⟨d, l, q, ls, ps, kk, v, kd, vd, rfl, ⟨⟨dx, n, hd⟩, ⟨xs, hl, tl⟩, ⟨ys, hq, tq⟩, lq⟩, hps, tk, hk, tv, hv, k⟩ := h
    refine ⟨_, [some _, some _, some _], rfl, (pss_cons (ps_if (pt_not (pt_val (pe_d D_is_key E0 (hr.mono (by first | decide | omega)) (by rfl) passL (pa_cons (pv 1) pa_nil)))) (pss_one ps_never) pss_nil)
      (pss_cons (ps_if (pt_not (pt_val (pe_d D_is_kept E0 (hr.mono (by first | decide | omega)) (by rfl) passL (pa_cons (pv 2) pa_nil)))) (pss_one ps_never) pss_nil)
      (pss_one (ps_expr (kApp (K := K) (kFld (K := K) (pv 0) rfl) (pe_tup (pa_cons (pv 1) (pa_cons (pv 2) pa_nil)))))))), ?_⟩
    walk_at "st"
    refine ⟨kk, kd, rfl, tk, hk, fun H1 f1 => ?_⟩
    walk_at "st"
    refine ⟨v, vd, rfl, TD.mono f1.tup _ _ tv, hv, fun H2 f2 => ?_⟩
    have f12 := f1.trans f2
    have hd2 := f12.same _ _ hd
    have hl2 := f12.same _ _ hl
    have hq2 := f12.same _ _ hq
    have hny := tq.length
    walk_at "st"
    intro t ht
    walk_at "st"
    have g1 : Fr [q] H _ := (f12.mono (ns := [q]) (by simp)).new (o := .tup [kk, v]) ht
    have g2 := g1.wl (p := q) (o' := .lst (ys ++ [.ref t])) (by walk_at "hp") (.inl (by simp))
    have dq : d ≠ q := ne_of hd hq (by intro z; cases z)
    refine k _ ⟨⟨dx, n, by walk_at "hp"⟩, ⟨xs, by walk_at "hp", TDs.mono g2.tup _ _ tl⟩, ⟨ys ++ [.ref t], upd_same, TDs.snoc (TDs.mono g2.tup _ _ tq) (.tup ?_ (.cons (TD.mono g2.tup _ _ tk) (.cons (TD.mono g2.tup _ _ tv) .nil)))⟩, lq⟩ g2
    rw [upd_ne]
    · exact upd_same
    · exact ne_of (H := upd H2 t (.tup [kk, v])) upd_same (by walk_at "hp" : upd H2 t (.tup [kk, v]) q = some (.lst ys)) (by intro z; cases z)
def trip : PyData → PyData
  | .tuple [k, v] => .tuple [k, v, .bool true]
  | d => d
def IsPr (d : PyData) : Prop := ∃ k v, d = .tuple [k, v] ∧ KeyD k ∧ Nice 10 v
def spSync (C : Addr) : Sp := fun vs H Q _ => ∃ (d l q : Addr) (ls ps : List PyData), vs = [.ref d] ∧ DiskAt C H d l q ls ps ∧ ps.length ≤ 1000 ∧ ls.length ≤ 1000 ∧ (∀ e ∈ ps, IsPr e) ∧
  ∀ H' q', H q' = none → DiskAt C H' d l q' (ls ++ ps.map trip) [] → Fr [d, l] H H' → Q .non H'
abbrev s_Disk_sync : Stmt := inClass (top 67) 2
theorem sc_Disk_sync : FnScope ["self", "key", "thing"] ["self"] (defScope s_Disk_sync) := ⟨rfl, rfl, rfl, by decide +kernel, rfl, by decide +kernel, by decide +kernel⟩
theorem ok_Disk_sync {f : Addr} {fd : FuncData} (F : Fun K "sync" "Disk.sync" s_Disk_sync f fd) (T : Txt K mg Z) : FnOk P w K mg base (L2.CX P w) 1 f fd ["self"] (spSync Z.Disk) := by
  have cl := T.cl
  have aL := T.aL
  have aP := T.aP
  have aS := T.aS
  refine okN F sc_Disk_sync (fun vs H Q E h => ?_) (fun cdv A outer s0 H vs Q E hr h => ?_)
  · obtain ⟨d, l, q, ls, ps, rfl, _⟩ := h
    rfl
  · obtain ⟨d, l, q, ls, ps, rfl, ⟨⟨dx, n, hd⟩, ⟨xs, hl, tl⟩, ⟨ys, hq, tq⟩, lq⟩, hps, hls, hpr, k⟩ := h
    have hny := tq.length
    have hnx := tl.length
    refine ⟨_, [some _, none, none], rfl, (pss_cons (ps_expr (kBm (K := K) PySem.F.plainAttrs_list PySem.F.slot_list_extend PySem.F.type_list_extend mt_extend (kFld (K := K) (pv 0) rfl) (pa_cons (pe_lc (own := [("key", 1), ("thing", 2)]) (g := (gTup K 2 (gCons (gName 1) (gCons (gName 2) gNil)))) (tt := tYes) rfl sc_Disk_sync.nd (kPiL (K := K) (kFld (K := K) (pv 0) rfl)) (blkOk_by (N := ["self", "key", "thing"]) (sc := defScope s_Disk_sync) (by decide +kernel)) (fun _ _ _ _ _ => (kTupT (K := K) (n := 2) (pgs_cons (pg_name (i := 1) sc_Disk_sync.nd rfl (by first | exact Or.inl rfl | exact Or.inr rfl)) (pgs_cons (pg_name (i := 2) sc_Disk_sync.nd rfl (by first | exact Or.inl rfl | exact Or.inr rfl)) pgs_nil)))) (fun _ _ _ _ _ => pts_nil) (fun _ _ _ _ _ => (pe_tup (pa_cons (pv 1) (pa_cons (pv 2) (pa_cons pe_bl pa_nil)))))) pa_nil)))
      (pss_one (kSFld (K := K) (pv 0) (pe_lst pa_nil) rfl))), ?_⟩
    walk_at "st"
    intro D hD
    refine lc_it (walk_list (xs := ys)) (fun i H' => Fr [] H H' ∧ ∃ acc, H' D = some (.lst acc) ∧ acc.length = i ∧ TDs H' acc ((ps.take i).map trip)) ⟨Fr.up hD, [], upd_same, rfl, .nil⟩ (fun i H' _ h => SqL.of (h.1.same _ _ hq)) ?_ ?_
    · rintro i x H1 H2 hi ⟨f1, acc, e1, ea, ta⟩ ⟨rfl, hx⟩
      obtain ⟨e, he, te⟩ := TDs.at_ (TDs.mono f1.tup _ _ tq) hx
      obtain ⟨kd, vd, rfl, _, _⟩ := hpr e (List.mem_of_getElem? he)
      cases te with
      | @tup a zs _ ha hT =>
      cases hT with
      | @cons z1 _ _ _ t1 hT =>
      cases hT with
      | @cons z2 _ _ _ t2 hT =>
      cases hT
      walk_at "st"
      intro t ht
      have e2 := upd_old (o' := HO.tup [z1, z2, V.bl true]) ht e1
      have f2 := f1.new (o := .tup [z1, z2, V.bl true]) ht
      have f3 := f2.wl (o' := .lst (acc ++ [.ref t])) e2 (.inr hD)
      have gT : Tp H2 (upd (upd H2 t (.tup [z1, z2, V.bl true])) D (.lst (acc ++ [.ref t]))) := ((Fr.up (ms := [D]) ht).wl e2 (.inl (by simp))).tup
      refine ⟨acc, e2, line_lt (by omega), f3, acc ++ [.ref t], upd_same, by simp [ea], ?_⟩
      rw [take_snoc he, List.map_append]
      refine TDs.snoc (TDs.mono gT _ _ ta) (.tup ?_ (.cons (TD.mono gT _ _ t1) (.cons (TD.mono gT _ _ t2) (.cons (.bl _) .nil))))
      rw [upd_ne (ne_of (H := upd H2 t (.tup [z1, z2, V.bl true])) upd_same e2 (by intro z; cases z))]
      exact upd_same
    · rintro H1 ⟨f1, acc, e1, ea, ta⟩
      have hd1 := f1.same _ _ hd
      have hl1 := f1.same _ _ hl
      have dl : d ≠ l := ne_of hd hl (by intro z; cases z)
      have Dd : D ≠ d := (ne_of_none hd hD).symm
      have Dl : D ≠ l := (ne_of_none hl hD).symm
      walk_at "st"
      intro q' hq'
      walk_at "st"
      have n1 : q' ≠ l := fresh_ne hq'
      have h1q := fresh_of hq'
      have n2 : q' ≠ d := (ne_of_none hd1 h1q).symm
      have g1 : Fr [d, l] H _ := ((((f1.mono (ns := [d, l]) (by simp)).wl (o' := .lst (xs ++ acc)) hl1 (.inl (by simp))).new (o := .lst []) hq').wi (o' := .ins Z.Disk dx (DiskF (.ref l) (.ref q') (.int n))) (by walk_at "hp") (.inl (by simp)))
      have g2 : Tp H1 _ := (((Fr.refl (ms := [d, l]) H1).wl (o' := .lst (xs ++ acc)) hl1 (.inl (by simp))).new (o := .lst []) hq').wi (o' := .ins Z.Disk dx (DiskF (.ref l) (.ref q') (.int n))) (by walk_at "hp") (.inl (by simp)) |>.tup
      refine k _ q' (f1.free h1q) ⟨⟨dx, n, upd_same⟩, ⟨xs ++ acc, ?_, ?_⟩, ⟨[], ?_, .nil⟩, n1.symm⟩ g1
      · walk_at "hp"
      · refine TDs.app (TDs.mono g1.tup _ _ tl) ?_
        rw [List.take_of_length_le (by omega)] at ta
        exact TDs.mono g2 _ _ ta
      · walk_at "hp"
end
end K38

namespace K38
open PySem PySem.Spec PyProof.Rows L2 Hq
local macro_rules | `(tactic| walk_at "st1") => `(tactic| first
  | with_reducible refine st_seq ?_ | with_reducible refine st_ret ?_ | with_reducible refine st_ifS ?_ | with_reducible refine st_asg ?_ | with_reducible refine st_drop ?_
  | ((with_reducible refine' st_var ?hv ?_); (case hv => rfl)) | with_reducible refine st_c ?_ | with_reducible refine st_op ?_ | with_reducible refine st_un ?_
  | with_reducible refine st_I0 ?_ | with_reducible refine st_U ?_ | ((with_reducible refine' st_I ?hc ?_); (case hc => walk_at "side"))
  | ((with_reducible refine' st_eq ?hs ?_); (case hs => rfl)) | ((with_reducible refine' st_ne ?hs ?_); (case hs => rfl))
  | with_reducible refine st_test ?_ | with_reducible refine st_B ?_ | with_reducible refine st_bl ?_ | with_reducible refine st_isN ?_ | with_reducible refine st_notN ?_
  | with_reducible refine st_chain ?_ | with_reducible refine st_and ?_ | with_reducible refine st_or ?_ | with_reducible refine st_not ?_
  | with_reducible refine st_andV ?_ | with_reducible refine st_orV ?_ | with_reducible refine st_notV ?_ | with_reducible refine st_if ?_
  | with_reducible refine st_CB ?_ | with_reducible refine st_cons ?_ | with_reducible refine st_nil ?_ | with_reducible refine st_fld ?_
  | ((with_reducible refine st_tup ?_)) | ((with_reducible refine st_lst ?_))
  | with_reducible refine st_call ?_ | with_reducible refine st_meth ?_ | with_reducible refine st_make ?_
  | with_reducible refine st_sl ?_ | with_reducible refine st_noPart ?_ | with_reducible refine st_part ?_ | with_reducible refine st_int ?_
  | ((with_reducible refine' st_ixL ?hq ?he ?_); (case hq => walk_at "sqL"); (case he => walk_at "at"))
  | ((with_reducible refine' st_ixT ?hq ?he ?_); (case hq => walk_at "sqT"); (case he => walk_at "at"))
  | with_reducible refine st_bm ?_ | with_reducible refine st_app ?_
  | ((with_reducible refine' st_append ?hq ?hl ?_); (case hq => walk_at "hp"); (case hl => walk_at "line"))
  | ((with_reducible refine' st_len (n := 0) ?hq ?_); (case hq => first | exact Or.inl (by walk_at "sqL") | exact Or.inr (by walk_at "sqT")))
  | ((with_reducible refine' st_listOf ?hq ?_); (case hq => first | exact Or.inl (by walk_at "sqL") | exact Or.inr (by walk_at "sqT")))
  | ((with_reducible refine st_name ?_); (try dsimp only [List.set_cons_zero, List.set_cons_succ])) | with_reducible refine st_par ?_
  | with_reducible refine st_gcons ?_ | with_reducible refine st_gnil ?_ | with_reducible refine st_gsub ?_ | with_reducible refine st_sFld ?_
  | ((with_reducible refine' st_gtup ?hq ?hl ?_); (case hq => walk_at "sqT"); (case hl => rfl))
  | ((with_reducible refine' st_setL ?hq ?hl ?_); (case hq => walk_at "hp"); (case hl => first | rfl | exact ix0 | exact ixN_nat (by assumption)); (try simp only [Int.reduceToNat, List.set_cons_zero, List.set_cons_succ]))
  | with_reducible refine st_intI ?_ | with_reducible refine st_abs ?_
  | ((with_reducible refine' st_popAt ?hq ?hk ?hy ?_); (case hq => walk_at "hp"); (case hk => exact seq0); (case hy => rfl))
  | ((with_reducible refine' and_left ?ht ?_); (case ht => walk_at "ty"))
  | with_reducible refine st_lc ?_ | with_reducible refine st_for ?_ | with_reducible refine st_iL ?_ | with_reducible refine st_iT ?_ | with_reducible refine st_iR1 ?_ | with_reducible refine st_iR2 ?_ | with_reducible refine st_iZ ?_
  | ((with_reducible refine' st_refL ?hq ?_); (case hq => walk_at "sqL")) | ((with_reducible refine' st_refT ?hq ?_); (case hq => walk_at "sqT"))
  | ((with_reducible refine' st_rng1 ?hq ?_); (case hq => walk_at "side")) | ((with_reducible refine' st_rng2 ?hq ?_); (case hq => walk_at "side"))
  | ((with_reducible refine' st_zip ?hq ?hr ?_); (case hq => walk_at "sqb"); (case hr => walk_at "sqb"))
  | ((with_reducible refine' st_size ?hw ?_); (case hw => walk_at "line"))
  | ((with_reducible refine' st_sum ?hq ?_); (case hq => walk_at "sqL"))
  | with_reducible refine st_two ?_ | with_reducible refine st_yes ?_ | ((with_reducible refine' st_wipe ?hw ?_); (case hw => rfl))
  | ((with_reducible refine' st_slL ?hq ?_); (case hq => walk_at "sqL"))
  | ((with_reducible refine' st_cat ?hq ?hr ?hl ?_); (case hq => walk_at "hp"); (case hr => walk_at "hp"); (case hl => walk_at "line"))
  | ((with_reducible refine' st_isi ?hk ?he ?_); (case hk => walk_at "kd"); (case he => walk_at "kit"))
  | ((with_reducible refine' st_ins ?hq ?hc ?hn ?hl ?_); (case hq => walk_at "hp"); (case hc => with_reducible assumption); (case hn => with_reducible assumption); (case hl => walk_at "flen"); walk_at "puts")
  | ((with_reducible refine' st_att ?hq ?hc ?hn ?hl ?_); (case hq => walk_at "hp"); (case hc => with_reducible assumption); (case hn => with_reducible assumption); (case hl => walk_at "lk"))
  | ((with_reducible refine' st_mt ?hq ?hl ?_); (case hq => walk_at "hp"); (case hl => walk_at "lk"))
  | ((with_reducible refine' st_extend ?hq ?hr ?hl ?_); (case hq => walk_at "hp"); (case hr => walk_at "hp"); (case hl => walk_at "line"))
  | with_reducible refine st_next ?_ | with_reducible refine st_retN ?_ | (with_reducible refine iteNT ?_) | (with_reducible refine iteNF ?_) | (with_reducible refine iteT ?_) | (with_reducible refine iteF ?_))
local macro_rules | `(tactic| walk_at "side") => `(tactic| first | omega | decide | assumption | exact ⟨by omega, by omega⟩ | exact Or.inr ⟨by omega, by omega⟩ | exact Or.inl ⟨by omega, by omega⟩ | (simp only [List.length_map, List.length_cons, List.length_nil, List.length_append] at *; omega))
local macro_rules | `(tactic| walk_at "hp") => `(tactic| first | assumption | exact upd_same | refine upd_old (by assumption) (by walk_at "hp") | (rw [upd_ne (by first | assumption | exact Ne.symm (by assumption))]; walk_at "hp"))
local macro_rules | `(tactic| walk_at "sqL") => `(tactic| first | assumption | exact SqL.of (by walk_at "hp"))
local macro_rules | `(tactic| walk_at "sqT") => `(tactic| first | assumption | exact SqT.of (by walk_at "hp"))
local macro_rules | `(tactic| walk_at "sqb") => `(tactic| (unfold SqB; first | ((with_reducible change SqL _ _ _ _); walk_at "sqL") | ((with_reducible change SqT _ _ _ _); walk_at "sqT")))
local macro_rules | `(tactic| walk_at "line") => `(tactic| first | assumption | decide | (apply line_of; walk_at "side") | (apply line_lt; walk_at "side"))
local macro_rules | `(tactic| walk_at "ty") => `(tactic| first | with_reducible exact ty_lst (by walk_at "hp"))
local macro_rules | `(tactic| walk_at "at") => `(tactic| with_reducible first | assumption | exact at0 | exact at1 | exact at2 | exact at3 | exact at4 | exact at5 | exact at6 | exact at7 | exact at8)
local macro_rules | `(tactic| walk_at "st") => `(tactic| (repeat walk_at "st1"))
local macro_rules | `(tactic| walk_at "lk") => `(tactic| first | with_reducible assumption | rfl)
local macro_rules | `(tactic| walk_at "kd") => `(tactic| first | exact .base (.int _) | exact .base .non | exact .base (.bl _) | exact .base (.str _) | exact .base (.tup (by walk_at "hp")) | exact .base (.lst (by walk_at "hp")) | exact .base (.dK (by walk_at "hp")) | exact .base (.dT (by walk_at "hp")))
local macro_rules | `(tactic| walk_at "kit") => `(tactic| with_reducible first
  | exact kit_NoneType_bool
  | exact kit_NoneType_int
  | exact kit_NoneType_str
  | exact kit_NoneType_tuple
  | exact kit_NoneType_list
  | exact kit_NoneType_dict
  | exact kit_bool_bool
  | exact kit_bool_int
  | exact kit_bool_str
  | exact kit_bool_tuple
  | exact kit_bool_list
  | exact kit_bool_dict
  | exact kit_int_bool
  | exact kit_int_int
  | exact kit_int_str
  | exact kit_int_tuple
  | exact kit_int_list
  | exact kit_int_dict
  | exact kit_str_bool
  | exact kit_str_int
  | exact kit_str_str
  | exact kit_str_tuple
  | exact kit_str_list
  | exact kit_str_dict
  | exact kit_tuple_bool
  | exact kit_tuple_int
  | exact kit_tuple_str
  | exact kit_tuple_tuple
  | exact kit_tuple_list
  | exact kit_tuple_dict
  | exact kit_list_bool
  | exact kit_list_int
  | exact kit_list_str
  | exact kit_list_tuple
  | exact kit_list_list
  | exact kit_list_dict
  | exact kit_dict_bool
  | exact kit_dict_int
  | exact kit_dict_str
  | exact kit_dict_tuple
  | exact kit_dict_list
  | exact kit_dict_dict)
local macro_rules | `(tactic| walk_at "flen") => `(tactic| decide)
local macro_rules | `(tactic| walk_at "puts") => `(tactic| skip)

local macro_rules | `(tactic| walk_at "lk") => `(tactic| with_reducible first | assumption | exact DiskF_get_lying | exact DiskF_get_pending | exact DiskF_get_spoils | exact DiskF_no (by decide +kernel) (by decide +kernel) (by decide +kernel))
local macro_rules | `(tactic| walk_at "puts") => `(tactic| try simp only [DiskF_put_lying, DiskF_put_pending, DiskF_put_spoils, DiskF0_put, DiskF1_put, DiskF2_put])
local macro_rules | `(tactic| walk_at "flen") => `(tactic| first | with_reducible assumption | with_reducible (first | exact DiskF_len | exact DiskF0_len | exact DiskF1_len | exact DiskF2_len) | decide)
section
variable {Z : Ads} {P : Program} {w : World} {K : PySem.W.Frag} {mg : Str → Option Value} {base : Heap}
def fell (p : PyData) (h : Int) : List PyData := match p with
  | .tuple [k, v] => if h = 0 then [] else if h = 2 then [.tuple [k, v, .bool true]] else [.tuple [k, .none, .bool false]]
  | _ => []
def fallen (ps : List PyData) (hs : List Int) : List PyData := (ps.zip hs).flatMap fun x => fell x.1 x.2
theorem fallen_cons (p : PyData) (ps : List PyData) (h : Int) (hs : List Int) : fallen (p :: ps) (h :: hs) = fell p h ++ fallen ps hs := by simp [fallen]
theorem fallen_snoc : ∀ {i : Nat} {ps : List PyData} {hs : List Int} {p : PyData} {h : Int}, ps[i]? = some p → hs[i]? = some h → fallen (ps.take (i + 1)) (hs.take (i + 1)) = fallen (ps.take i) (hs.take i) ++ fell p h
  | _, [], _, _, _, hp, _ => by simp at hp
  | _, _, [], _, _, _, hh => by simp at hh
  | 0, p' :: ps, h' :: hs, p, h, hp, hh => by
    simp only [List.getElem?_cons_zero, Option.some.injEq] at hp hh
    subst hp hh
    simp [fallen]
  | i + 1, p' :: ps, h' :: hs, p, h, hp, hh => by
    simp only [List.getElem?_cons_succ] at hp hh
    rw [List.take_succ_cons, List.take_succ_cons, fallen_cons, fallen_snoc hp hh, List.take_succ_cons, List.take_succ_cons, fallen_cons, List.append_assoc]
theorem fallen_len {ps : List PyData} {hs : List Int} : (fallen ps hs).length ≤ ps.length := by
  unfold fallen
  induction ps generalizing hs with
  | nil => simp
  | cons p ps ih =>
    cases hs with
    | nil => simp
    | cons h hs =>
      simp only [List.zip_cons_cons, List.flatMap_cons, List.length_append, List.length_cons]
      have := ih (hs := hs)
      have : (fell p h).length ≤ 1 := by
        unfold fell
        split
        · split
          · simp
          · split <;> simp
        · simp
      omega
def spFall (C : Addr) : Sp := fun vs H Q _ => ∃ (d l q r : Addr) (ls ps : List PyData) (hs : List Int), vs = [.ref d, .ref r] ∧ DiskAt C H d l q ls ps ∧ H r = some (.tup (hs.map V.int)) ∧ hs.length = ps.length ∧ (∀ h ∈ hs, 0 ≤ h ∧ h ≤ 2) ∧ ps.length ≤ 1000 ∧ ls.length ≤ 1000 ∧ (∀ e ∈ ps, IsPr e) ∧
  ∀ H' q', H q' = none → DiskAt C H' d l q' (ls ++ fallen ps hs) [] → Fr [d, l] H H' → Q .non H'
abbrev s_Disk_fall : Stmt := inClass (top 67) 3
theorem sc_Disk_fall : FnScope ["self", "reached", "one", "word"] ["self", "reached"] (defScope s_Disk_fall) := ⟨rfl, rfl, rfl, by decide +kernel, rfl, by decide +kernel, by decide +kernel⟩
theorem ok_Disk_fall {f : Addr} {fd : FuncData} (F : Fun K "fall" "Disk.fall" s_Disk_fall f fd) (T : Txt K mg Z) (D_is_tuple : Dn P w K mg base "is_tuple" 1 ["thing", "least", "most"] spTuple) (D_is_between : Dn P w K mg base "is_between" 2 ["thing", "least", "most"] spBetween) :
    FnOk P w K mg base (L2.CX P w) 3 f fd ["self", "reached"] (spFall Z.Disk) := by
  have cl := T.cl
  have aL := T.aL
  have aP := T.aP
  have aS := T.aS
  refine okN F sc_Disk_fall (fun vs H Q E h => ?_) (fun cdv A outer s0 H vs Q E hr h => ?_)
  · obtain ⟨d, l, q, r, ls, ps, hs, rfl, _⟩ := h
    rfl
  · obtain ⟨d, l, q, r, ls, ps, hs, rfl, ⟨⟨dx, n, hd⟩, ⟨xs, hl, tl⟩, ⟨ys, hq, tq⟩, lq⟩, hR, hlen, hbd, hps, hls, hpr, k⟩ := h
    have hny := tq.length
    have hnx := tl.length
    refine ⟨_, [some _, some _, none, none], rfl, (pss_cons (ps_if (pt_not (pt_val (pe_d D_is_tuple E0 (hr.mono (by first | decide | omega)) (by rfl) passL (pa_cons (pv 1) (pa_cons (pe_callB (kLen (K := K)) (by rfl) T.n_len (by decide +kernel) (pa_cons (kFld (K := K) (pv 0) rfl) pa_nil)) (pa_cons (pe_callB (kLen (K := K)) (by rfl) T.n_len (by decide +kernel) (pa_cons (kFld (K := K) (pv 0) rfl) pa_nil)) pa_nil)))))) (pss_one ps_never) pss_nil)
      (pss_cons (ps_if (pt_not (pt_val (pe_callB (kAll (K := K)) (by rfl) T.n_all (by decide +kernel) (pa_cons (pe_lc (own := [("one", 2)]) (g := (gName 2)) (tt := tYes) rfl sc_Disk_fall.nd (kPiT (K := K) (pv 1)) (blkOk_by (N := ["self", "reached", "one", "word"]) (sc := defScope s_Disk_fall) (by decide +kernel)) (fun _ _ _ _ _ => (pg_name (i := 2) sc_Disk_fall.nd rfl (by first | exact Or.inl rfl | exact Or.inr rfl))) (fun _ _ _ _ _ => pts_nil) (fun _ _ _ _ _ => (pe_d D_is_between E0 (hr.mono (by first | decide | omega)) (by rfl) passL (pa_cons (pv 2) (pa_cons (pe_gl (by rfl) T.g_LOST) (pa_cons (pe_gl (by rfl) T.g_WHOLE) pa_nil)))))) pa_nil)))) (pss_one ps_never) pss_nil)
      (pss_cons (ps_for PassesOwn.never rfl (kZip true false (K := K) (by rfl) T.n_zip (pa_cons (pv 1) (pa_cons (kFld (K := K) (pv 0) rfl) pa_nil))) (kTupT (K := K) (n := 2) (pgs_cons (pg_name (i := 2) sc_Disk_fall.nd rfl (by first | exact Or.inl rfl | exact Or.inr rfl)) (pgs_cons (pg_name (i := 3) sc_Disk_fall.nd rfl (by first | exact Or.inl rfl | exact Or.inr rfl)) pgs_nil)))
      (pss_one (ps_if (pt_cmpR op_ne (pv 2) (pe_gl (by rfl) T.g_LOST) (by first | exact nomark _ | rfl)) (pss_one (ps_expr (kApp (K := K) (kFld (K := K) (pv 0) rfl) (pe_tup (pa_cons (pe_ix (kIxT (K := K)) (pv 3) pe_int (fun _ _ => rfl)) (pa_cons (pe_ifExp (pt_cmpR op_eq (pv 2) (pe_gl (by rfl) T.g_WHOLE) (by first | exact nomark _ | rfl)) (pe_ix (kIxT (K := K)) (pv 3) pe_int (fun _ _ => rfl)) pe_non) (pa_cons (pe_cmpR op_eq (pv 2) (pe_gl (by rfl) T.g_WHOLE) (by first | exact nomark _ | rfl)) pa_nil))))))) pss_nil)))
      (pss_one (kSFld (K := K) (pv 0) (pe_lst pa_nil) rfl))))), ?_⟩
    walk_at "st"
    refine ⟨r, _, _, _, rfl, hR, by rw [List.length_map]; omega, ?_⟩
    have e1 : (decide (((ys.length : Nat) : Int) ≤ (((hs.map V.int).length : Nat) : Int)) && decide ((((hs.map V.int).length : Nat) : Int) ≤ ((ys.length : Nat) : Int))) = true := by
      rw [List.length_map, hlen, hny]; simp
    rw [e1]
    walk_at "st"
    intro D hD
    refine lc_it (walk_tup (xs := hs.map V.int)) (fun i H' => Fr [] H H' ∧ H' D = some (.lst ((List.replicate i true).map V.bl))) ⟨Fr.up hD, upd_same⟩ (fun i H' _ h => SqT.of (h.1.tup _ _ hR)) ?_ ?_
    · rintro i x H1 H2 hi ⟨f1, e1⟩ ⟨rfl, hx⟩
      rw [List.getElem?_map] at hx
      obtain ⟨h, hh, rfl⟩ := Option.map_eq_some_iff.mp hx
      obtain ⟨b0, b2⟩ := hbd h (List.mem_of_getElem? hh)
      rw [List.length_map] at hi
      walk_at "st"
      refine ⟨h, 0, 2, rfl, ?_⟩
      rw [decide_eq_true b0, decide_eq_true b2]
      refine ⟨_, e1, line_lt (by simp; omega), f1.wl e1 (.inr hD), ?_⟩
      rw [upd_same, List.replicate_succ', List.map_append]
      rfl
    · rintro H1 ⟨f1, e1⟩
      walk_at "st"
      refine st_all (SqL.of e1) ?_
      rw [show (List.replicate (hs.map V.int).length true).all id = true by simp]
      have hd1 := f1.same _ _ hd
      have hl1 := f1.same _ _ hl
      have hq1 := f1.same _ _ hq
      have hR1 := f1.same _ _ hR
      walk_at "st"
      refine for_it (walkZ (b := true) (c := false) (xs := hs.map V.int) (ys := ys) (n := ps.length) (by rw [List.length_map]; omega))
        (fun i σ H' => ∃ acc o1 o2, σ = [some (.ref d), some (.ref r), o1, o2] ∧ Fr [l] H H' ∧ H' l = some (.lst (xs ++ acc)) ∧ acc.length ≤ i ∧ TDs H' acc (fallen (ps.take i) (hs.take i)))
        ⟨[], none, none, rfl, f1.mono (by simp), by rw [List.append_nil]; exact hl1, Nat.le_refl _, .nil⟩ (fun i σ H' _ ⟨acc, o1, o2, _, g, _⟩ => ⟨SqT.of (g.tup _ _ hR), SqL.of (g.keep _ _ (by simpa using lq.symm) hq)⟩) ?_ ?_
      · rintro i x σ H2 H3 hi ⟨acc, o1, o2, rfl, g, e2, ea, ta⟩ ⟨t, v1, v2, rfl, ht, rfl, hx, hy⟩
        have hx : (hs.map V.int)[i]? = some v1 := hx
        have hy : ys[i]? = some v2 := hy
        rw [List.getElem?_map] at hx
        obtain ⟨h, hh, rfl⟩ := Option.map_eq_some_iff.mp hx
        have g1 := g.new (o := .tup [V.int h, v2]) ht
        obtain ⟨e, he, te⟩ := TDs.at_ (TDs.mono g1.tup _ _ tq) hy
        obtain ⟨kd, vd, rfl, _, _⟩ := hpr e (List.mem_of_getElem? he)
        cases te with
        | @tup a zs _ ha hT =>
        cases hT with
        | @cons z1 _ _ _ t1 hT =>
        cases hT with
        | @cons z2 _ _ _ t2 hT =>
        cases hT
        have e3 := upd_old (o' := HO.tup [V.int h, .ref a]) ht e2
        have hd3 := g1.keep _ _ (by simpa using (ne_of hd hl (by intro z; cases z) : d ≠ l)) hd
        have hT0 : Tp H2 (upd H2 t (.tup [V.int h, .ref a])) := (Fr.up (ms := []) ht).tup
        have fin : ∀ (H4 : Hp) (u : Addr) (z : List V) (zd : List PyData), upd H2 t (.tup [V.int h, .ref a]) u = none → H4 = upd (upd (upd H2 t (.tup [V.int h, .ref a])) u (.tup z)) l (.lst ((xs ++ acc) ++ [.ref u])) → TDs (upd H2 t (.tup [V.int h, .ref a])) z zd → fell (.tuple [kd, vd]) h = [.tuple zd] →
            ∃ acc' o1' o2', [some (V.ref d), some (V.ref r), some (V.int h), some (V.ref a)] = [some (.ref d), some (.ref r), o1', o2'] ∧ Fr [l] H H4 ∧ H4 l = some (.lst (xs ++ acc')) ∧ acc'.length ≤ i + 1 ∧ TDs H4 acc' (fallen (ps.take (i + 1)) (hs.take (i + 1))) := by
          intro H4 u z zd hu eH tz ef
          have e5 := upd_old (o' := HO.tup z) hu e3
          have gT : Tp (upd H2 t (.tup [V.int h, .ref a])) H4 := by
            rw [eH]
            exact ((Fr.up (ms := [l]) hu).wl e5 (.inl (by simp))).tup
          refine ⟨acc ++ [.ref u], _, _, rfl, ?_, ?_, by simp; omega, ?_⟩
          · rw [eH]
            exact (g1.new hu).wl e5 (.inl (by simp))
          · rw [eH, upd_same, List.append_assoc]
          · rw [fallen_snoc he hh, ef]
            refine TDs.snoc (TDs.mono (hT0.trans gT) _ _ ta) (.tup ?_ (TDs.mono gT _ _ tz))
            rw [eH, upd_ne (ne_of (H := upd (upd H2 t (.tup [V.int h, .ref a])) u (.tup z)) upd_same e5 (by intro z; cases z))]
            exact upd_same
        have hlim : (xs ++ acc).length ≤ 100000 := by rw [List.length_append]; omega
        walk_at "st"
        refine iteDN (fun h0 => ?_) (fun h0 => ?_)
        · cases h0
          refine ⟨acc, _, _, rfl, g1, e3, by omega, ?_⟩
          rw [fallen_snoc he hh]
          simp only [fell, if_pos, List.append_nil]
          exact TDs.mono hT0 _ _ ta
        · have n0 : h ≠ 0 := fun z => h0 (by rw [z])
          walk_at "st"
          refine iteD (fun h2 => ?_) (fun h2 => ?_)
          · have h2' : h = 2 := V.int.inj h2
            walk_at "st"
            rw [decide_eq_true h2]
            walk_at "st"
            intro u hu
            walk_at "st"
            exact fin _ u _ _ hu rfl (.cons t1 (.cons t2 (.cons (.bl true) .nil))) (by simp only [fell, if_neg n0, if_pos h2'])
          · have h2' : ¬ h = 2 := fun z => h2 (by rw [z])
            walk_at "st"
            rw [decide_eq_false h2]
            walk_at "st"
            intro u hu
            walk_at "st"
            exact fin _ u _ _ hu rfl (.cons t1 (.cons .non (.cons (.bl false) .nil))) (by simp only [fell, if_neg n0, if_neg h2'])
      · rintro σ H2 ⟨acc, o1, o2, rfl, g, e2, ea, ta⟩
        have dl : d ≠ l := ne_of hd hl (by intro z; cases z)
        have hd2 := g.keep _ _ (by simpa using dl) hd
        walk_at "st"
        intro q' hq'
        walk_at "st"
        have n1 : q' ≠ l := (ne_of_none e2 hq').symm
        have n2 : q' ≠ d := (ne_of_none hd2 hq').symm
        have gd := (g.mono (ns := [d, l]) (by simp)).new (o := .lst []) hq'
        have g1 := gd.wi (o' := .ins Z.Disk dx (DiskF (.ref l) (.ref q') (.int n))) (upd_old hq' hd2) (.inl (by simp))
        have g2 : Tp H2 _ := ((Fr.up (ms := [d, l]) (o := .lst []) hq').wi (o' := .ins Z.Disk dx (DiskF (.ref l) (.ref q') (.int n))) (upd_old hq' hd2) (.inl (by simp))).tup
        have t2 : hs.take ps.length = hs := List.take_of_length_le (by omega)
        rw [List.take_length, t2] at ta
        exact k _ q' (g.back (by simpa using n1) hq') ⟨⟨dx, n, upd_same⟩, ⟨xs ++ acc, by walk_at "hp", TDs.app (TDs.mono g1.tup _ _ tl) (TDs.mono g2 _ _ ta)⟩, ⟨[], by walk_at "hp", .nil⟩, n1.symm⟩ g1
def spWords (C : Addr) : Sp := fun vs H Q _ => ∃ (d l q : Addr) (ls ps : List PyData), vs = [.ref d] ∧ DiskAt C H d l q ls ps ∧ ∀ H' p xs, H p = none → H' p = some (.lst xs) → TDs H' xs ls → Fr [] H H' → Q (.ref p) H'
abbrev s_Disk_words : Stmt := inClass (top 67) 4
theorem sc_Disk_words : FnScope ["self"] ["self"] (defScope s_Disk_words) := ⟨rfl, rfl, rfl, by decide +kernel, rfl, by decide +kernel, by decide +kernel⟩
theorem ok_Disk_words {f : Addr} {fd : FuncData} (F : Fun K "words" "Disk.words" s_Disk_words f fd) (T : Txt K mg Z) : FnOk P w K mg base (L2.CX P w) 1 f fd ["self"] (spWords Z.Disk) := by
  have cl := T.cl
  have aL := T.aL
  refine okN F sc_Disk_words (fun vs H Q E h => ?_) (fun cdv A outer s0 H vs Q E hr h => ?_)
  · obtain ⟨d, l, q, ls, ps, rfl, _⟩ := h
    rfl
  · obtain ⟨d, l, q, ls, ps, rfl, ⟨⟨dx, n, hd⟩, ⟨xs, hl, tl⟩, _, _⟩, k⟩ := h
    refine ⟨_, [some _], rfl, (pss_one (ps_ret (pe_callTy (kListOf (K := K)) (by rfl) T.n_list (by decide +kernel) (pa_cons (kFld (K := K) (pv 0) rfl) pa_nil)))), ?_⟩
    walk_at "st"
    intro p hp
    exact k _ p xs hp upd_same (TDs.mono (Fr.up (ms := []) hp).tup _ _ tl) (Fr.up hp)
def spWaiting (C : Addr) : Sp := fun vs H Q _ => ∃ (d l q : Addr) (ls ps : List PyData), vs = [.ref d] ∧ DiskAt C H d l q ls ps ∧ Q (.int ps.length) H
abbrev s_Disk_waiting : Stmt := inClass (top 67) 5
theorem sc_Disk_waiting : FnScope ["self"] ["self"] (defScope s_Disk_waiting) := ⟨rfl, rfl, rfl, by decide +kernel, rfl, by decide +kernel, by decide +kernel⟩
theorem ok_Disk_waiting {f : Addr} {fd : FuncData} (F : Fun K "waiting" "Disk.waiting" s_Disk_waiting f fd) (T : Txt K mg Z) : FnOk P w K mg base (L2.CX P w) 1 f fd ["self"] (spWaiting Z.Disk) := by
  have cl := T.cl
  have aP := T.aP
  refine okN F sc_Disk_waiting (fun vs H Q E h => ?_) (fun cdv A outer s0 H vs Q E hr h => ?_)
  · obtain ⟨d, l, q, ls, ps, rfl, _⟩ := h
    rfl
  · obtain ⟨d, l, q, ls, ps, rfl, ⟨⟨dx, n, hd⟩, _, ⟨ys, hq, tq⟩, _⟩, k⟩ := h
    refine ⟨_, [some _], rfl, (pss_one (ps_ret (pe_callB (kLen (K := K)) (by rfl) T.n_len (by decide +kernel) (pa_cons (kFld (K := K) (pv 0) rfl) pa_nil)))), ?_⟩
    walk_at "st"
    rw [tq.length]
    exact k
def spSpoil (C : Addr) : Sp := fun vs H Q _ => ∃ (d l q : Addr) (ls ps : List PyData) (i : Nat), vs = [.ref d, .int i] ∧ DiskAt C H d l q ls ps ∧ i < ls.length ∧ ls.length ≤ 1000 ∧ ∀ H', DiskAt C H' d l q (ls.eraseIdx i) ps → Fr [d, l] H H' → Q .non H'
abbrev s_Disk_spoil : Stmt := inClass (top 67) 6
theorem sc_Disk_spoil : FnScope ["self", "at"] ["self", "at"] (defScope s_Disk_spoil) := ⟨rfl, rfl, rfl, by decide +kernel, rfl, by decide +kernel, by decide +kernel⟩
theorem TDs_erase {H : Hp} {vs : List V} {ds : List PyData} (i : Nat) (h : TDs H vs ds) : TDs H (vs.eraseIdx i) (ds.eraseIdx i) := by
  rw [List.eraseIdx_eq_take_drop_succ, List.eraseIdx_eq_take_drop_succ]
  exact (h.take i).app (h.drop (i + 1))
theorem ok_Disk_spoil {f : Addr} {fd : FuncData} (F : Fun K "spoil" "Disk.spoil" s_Disk_spoil f fd) (T : Txt K mg Z) (D_is_between : Dn P w K mg base "is_between" 2 ["thing", "least", "most"] spBetween) : FnOk P w K mg base (L2.CX P w) 3 f fd ["self", "at"] (spSpoil Z.Disk) := by
  have cl := T.cl
  have aL := T.aL
  have aP := T.aP
  have aS := T.aS
  refine okN F sc_Disk_spoil (fun vs H Q E h => ?_) (fun cdv A outer s0 H vs Q E hr h => ?_)
  · obtain ⟨d, l, q, ls, ps, i, rfl, _⟩ := h
    rfl
  · obtain ⟨d, l, q, ls, ps, i, rfl, ⟨⟨dx, n, hd⟩, ⟨xs, hl, tl⟩, ⟨ys, hq, tq⟩, lq⟩, hi, hls, k⟩ := h
    have hnx := tl.length
    have dl : d ≠ l := ne_of hd hl (by intro z; cases z)
    have dq : d ≠ q := ne_of hd hq (by intro z; cases z)
    refine ⟨_, [some _, some _], rfl, (pss_cons (ps_if (pt_not (pt_val (pe_d D_is_between E0 (hr.mono (by first | decide | omega)) (by rfl) passL (pa_cons (pv 1) (pa_cons pe_int (pa_cons (pe_op op_sub (pe_callB (kLen (K := K)) (by rfl) T.n_len (by decide +kernel) (pa_cons (kFld (K := K) (pv 0) rfl) pa_nil)) pe_int) pa_nil)))))) (pss_one ps_never) pss_nil)
      (pss_cons (ps_expr (kBm (K := K) PySem.F.plainAttrs_list PySem.F.slot_list_pop PySem.F.type_list_pop mt_popAt (kFld (K := K) (pv 0) rfl) (pa_cons (pv 1) pa_nil)))
      (pss_one (kSFld (K := K) (pv 0) (pe_op op_add (kFld (K := K) (pv 0) rfl) pe_int) rfl)))), ?_⟩
    walk_at "st"
    refine ⟨i, 0, _, rfl, ?_⟩
    rw [decide_eq_true (by omega), decide_eq_true (by omega), Bool.and_self]
    walk_at "st"
    refine st_popAtN (k := i) (by omega) hl (List.getElem?_eq_getElem (by omega)) ?_
    walk_at "st"
    have g1 : Fr [d, l] H _ := ((Fr.refl H).wl (o' := .lst (xs.eraseIdx i)) hl (.inl (by simp))).wi (o' := .ins Z.Disk dx (DiskF (.ref l) (.ref q) (.int (n + 1)))) (by walk_at "hp") (.inl (by simp))
    exact k _ ⟨⟨dx, _, upd_same⟩, ⟨_, by walk_at "hp", TDs.mono g1.tup _ _ (TDs_erase i tl)⟩, ⟨ys, by walk_at "hp", TDs.mono g1.tup _ _ tq⟩, lq⟩ g1
def spCopy (C : Addr) : Sp := fun vs H Q _ => ∃ (d l q : Addr) (ls ps : List PyData), vs = [.ref d] ∧ DiskAt C H d l q ls ps ∧ ∀ H' d' l' q', H d' = none → H l' = none → H q' = none → DiskAt C H' d' l' q' ls ps → Fr [] H H' → Q (.ref d') H'
abbrev s_Disk_copy : Stmt := inClass (top 67) 7
theorem sc_Disk_copy : FnScope ["self", "other"] ["self"] (defScope s_Disk_copy) := ⟨rfl, rfl, rfl, by decide +kernel, rfl, by decide +kernel, by decide +kernel⟩
theorem ok_Disk_copy {f : Addr} {fd : FuncData} (F : Fun K "copy" "Disk.copy" s_Disk_copy f fd) (T : Txt K mg Z) (C_Disk : Cn P w K mg base "Disk" Z.Disk 1 ["self"] (spInit Z.Disk)) : FnOk P w K mg base (L2.CX P w) 3 f fd ["self"] (spCopy Z.Disk) := by
  have cl := T.cl
  have aL := T.aL
  have aP := T.aP
  have aS := T.aS
  refine okN F sc_Disk_copy (fun vs H Q E h => ?_) (fun cdv A outer s0 H vs Q E hr h => ?_)
  · obtain ⟨d, l, q, ls, ps, rfl, _⟩ := h
    rfl
  · obtain ⟨d, l, q, ls, ps, rfl, ⟨⟨dx, n, hd⟩, ⟨xs, hl, tl⟩, ⟨ys, hq, tq⟩, lq⟩, k⟩ := h
    refine ⟨_, [some _, none], rfl, (pss_cons (ps_set (i := 1) sc_Disk_copy.nd rfl (by first | exact Or.inl rfl | exact Or.inr rfl) (pe_c0 C_Disk E0 (hr.mono (by first | decide | omega)) (by rfl) passL))
      (pss_cons (kSFld (K := K) (pv 1) (pe_callTy (kListOf (K := K)) (by rfl) T.n_list (by decide +kernel) (pa_cons (kFld (K := K) (pv 0) rfl) pa_nil)) rfl)
      (pss_cons (kSFld (K := K) (pv 1) (pe_callTy (kListOf (K := K)) (by rfl) T.n_list (by decide +kernel) (pa_cons (kFld (K := K) (pv 0) rfl) pa_nil)) rfl)
      (pss_cons (kSFld (K := K) (pv 1) (kFld (K := K) (pv 0) rfl) rfl)
      (pss_one (ps_ret (pv 1))))))), ?_⟩
    walk_at "st"
    intro x dx2 hx hdx2 dxx
    have f1 : Fr [] H _ := ((Fr.refl H).new (o := .own x) hdx2).new (o := .ins Z.Disk dx2 []) (by rw [upd_ne dxx.symm]; exact hx)
    refine ⟨x, dx2, rfl, upd_same, fun H2 l2 q2 hl2 hq2 D2 f2 => ⟨rfl, ?_⟩⟩
    obtain ⟨⟨dx3, n3, hd3⟩, ⟨as, hl3, _⟩, ⟨bs, hq3, _⟩, lq3⟩ := D2
    have f3 : Fr [] H H2 := (f1.mono (ns := [] ++ [x]) (by simp)).trans (f2.mono (by simp)) |>.cut (fun b hb => by rw [List.mem_singleton.mp hb]; exact hx)
    have hd4 := f3.same _ _ hd
    have hl4 := f3.same _ _ hl
    have hq4 := f3.same _ _ hq
    have xd : x ≠ d := (ne_of_none hd hx).symm
    have xl : x ≠ l := (ne_of_none hl hx).symm
    have xq : x ≠ q := (ne_of_none hq hx).symm
    walk_at "st"
    intro l3 hl3n
    have l3x : l3 ≠ x := (ne_of_none hd3 hl3n).symm
    walk_at "st"
    intro q3 hq3n
    have q3x : q3 ≠ x := fresh_ne hq3n
    have q3n := fresh_of hq3n
    have q3l : q3 ≠ l3 := fresh_ne q3n
    walk_at "st"
    have g0 : Fr [x] H2 _ := ((Fr.up (o := .lst xs) hl3n).wi (o' := .ins Z.Disk dx3 (DiskF (.ref l3) (.ref q2) (.int n3))) (p := x) (by walk_at "hp") (.inl (by simp))).new (o := .lst ys) hq3n
    have g1 := g0.wi (o' := .ins Z.Disk dx3 (DiskF (.ref l3) (.ref q3) (.int n3))) (p := x) (by walk_at "hp") (.inl (by simp))
    have g2 := g1.wi (o' := .ins Z.Disk dx3 (DiskF (.ref l3) (.ref q3) (.int n))) (p := x) (by walk_at "hp") (.inl (by simp))
    have g3 : Fr [] H _ := (((f3.mono (ns := [] ++ [x]) (by simp)).trans (g2.mono (ns := [] ++ [x]) (by simp))).cut (fun b hb => by rw [List.mem_singleton.mp hb]; exact hx))
    have q3f : H2 q3 = none := fresh_of q3n
    exact k _ x l3 q3 hx (f3.free hl3n) (f3.free q3f) ⟨⟨dx3, n, upd_same⟩, ⟨xs, by walk_at "hp", TDs.mono g3.tup _ _ tl⟩, ⟨ys, by walk_at "hp", TDs.mono g3.tup _ _ tq⟩, q3l.symm⟩ g3
end
end K38

namespace K38
open PySem PySem.Spec PyProof.Rows L2 Hq
local macro_rules | `(tactic| walk_at "st1") => `(tactic| first
  | with_reducible refine st_seq ?_ | with_reducible refine st_ret ?_ | with_reducible refine st_ifS ?_ | with_reducible refine st_asg ?_ | with_reducible refine st_drop ?_
  | ((with_reducible refine' st_var ?hv ?_); (case hv => rfl)) | with_reducible refine st_c ?_ | with_reducible refine st_op ?_ | with_reducible refine st_un ?_
  | with_reducible refine st_I0 ?_ | with_reducible refine st_U ?_ | ((with_reducible refine' st_I ?hc ?_); (case hc => walk_at "side"))
  | ((with_reducible refine' st_eq ?hs ?_); (case hs => rfl)) | ((with_reducible refine' st_ne ?hs ?_); (case hs => rfl))
  | with_reducible refine st_test ?_ | with_reducible refine st_B ?_ | with_reducible refine st_bl ?_ | with_reducible refine st_isN ?_ | with_reducible refine st_notN ?_
  | with_reducible refine st_chain ?_ | with_reducible refine st_and ?_ | with_reducible refine st_or ?_ | with_reducible refine st_not ?_
  | with_reducible refine st_andV ?_ | with_reducible refine st_orV ?_ | with_reducible refine st_notV ?_ | with_reducible refine st_if ?_
  | with_reducible refine st_CB ?_ | with_reducible refine st_cons ?_ | with_reducible refine st_nil ?_ | with_reducible refine st_fld ?_
  | ((with_reducible refine st_tup ?_)) | ((with_reducible refine st_lst ?_))
  | with_reducible refine st_call ?_ | with_reducible refine st_meth ?_ | with_reducible refine st_make ?_
  | with_reducible refine st_sl ?_ | with_reducible refine st_noPart ?_ | with_reducible refine st_part ?_ | with_reducible refine st_int ?_
  | ((with_reducible refine' st_ixL ?hq ?he ?_); (case hq => walk_at "sqL"); (case he => walk_at "at"))
  | ((with_reducible refine' st_ixT ?hq ?he ?_); (case hq => walk_at "sqT"); (case he => walk_at "at"))
  | with_reducible refine st_bm ?_ | with_reducible refine st_app ?_
  | ((with_reducible refine' st_append ?hq ?hl ?_); (case hq => walk_at "hp"); (case hl => walk_at "line"))
  | ((with_reducible refine' st_len (n := 0) ?hq ?_); (case hq => first | exact Or.inl (by walk_at "sqL") | exact Or.inr (by walk_at "sqT")))
  | ((with_reducible refine' st_listOf ?hq ?_); (case hq => first | exact Or.inl (by walk_at "sqL") | exact Or.inr (by walk_at "sqT")))
  | ((with_reducible refine st_name ?_); (try dsimp only [List.set_cons_zero, List.set_cons_succ])) | with_reducible refine st_par ?_
  | with_reducible refine st_gcons ?_ | with_reducible refine st_gnil ?_ | with_reducible refine st_gsub ?_ | with_reducible refine st_sFld ?_
  | ((with_reducible refine' st_gtup ?hq ?hl ?_); (case hq => walk_at "sqT"); (case hl => rfl))
  | ((with_reducible refine' st_setL ?hq ?hl ?_); (case hq => walk_at "hp"); (case hl => first | rfl | exact ix0 | exact ixN_nat (by assumption)); (try simp only [Int.reduceToNat, List.set_cons_zero, List.set_cons_succ]))
  | with_reducible refine st_intI ?_ | with_reducible refine st_abs ?_
  | ((with_reducible refine' st_popAt ?hq ?hk ?hy ?_); (case hq => walk_at "hp"); (case hk => exact seq0); (case hy => rfl))
  | ((with_reducible refine' and_left ?ht ?_); (case ht => walk_at "ty"))
  | with_reducible refine st_lc ?_ | with_reducible refine st_for ?_ | with_reducible refine st_iL ?_ | with_reducible refine st_iT ?_ | with_reducible refine st_iR1 ?_ | with_reducible refine st_iR2 ?_ | with_reducible refine st_iZ ?_
  | ((with_reducible refine' st_refL ?hq ?_); (case hq => walk_at "sqL")) | ((with_reducible refine' st_refT ?hq ?_); (case hq => walk_at "sqT"))
  | ((with_reducible refine' st_rng1 ?hq ?_); (case hq => walk_at "side")) | ((with_reducible refine' st_rng2 ?hq ?_); (case hq => walk_at "side"))
  | ((with_reducible refine' st_zip ?hq ?hr ?_); (case hq => walk_at "sqb"); (case hr => walk_at "sqb"))
  | ((with_reducible refine' st_size ?hw ?_); (case hw => walk_at "line"))
  | ((with_reducible refine' st_sum ?hq ?_); (case hq => walk_at "sqL"))
  | with_reducible refine st_two ?_ | with_reducible refine st_yes ?_ | ((with_reducible refine' st_wipe ?hw ?_); (case hw => rfl))
  | ((with_reducible refine' st_slL ?hq ?_); (case hq => walk_at "sqL"))
  | ((with_reducible refine' st_cat ?hq ?hr ?hl ?_); (case hq => walk_at "hp"); (case hr => walk_at "hp"); (case hl => walk_at "line"))
  | ((with_reducible refine' st_isi ?hk ?he ?_); (case hk => walk_at "kd"); (case he => walk_at "kit"))
  | ((with_reducible refine' st_ins ?hq ?hc ?hn ?hl ?_); (case hq => walk_at "hp"); (case hc => with_reducible assumption); (case hn => with_reducible assumption); (case hl => walk_at "flen"); walk_at "puts")
  | ((with_reducible refine' st_att ?hq ?hc ?hn ?hl ?_); (case hq => walk_at "hp"); (case hc => with_reducible assumption); (case hn => with_reducible assumption); (case hl => walk_at "lk"))
  | ((with_reducible refine' st_mt ?hq ?hl ?_); (case hq => walk_at "hp"); (case hl => walk_at "lk"))
  | ((with_reducible refine' st_extend ?hq ?hr ?hl ?_); (case hq => walk_at "hp"); (case hr => walk_at "hp"); (case hl => walk_at "line"))
  | with_reducible refine st_next ?_ | with_reducible refine st_retN ?_ | (with_reducible refine iteNT ?_) | (with_reducible refine iteNF ?_) | (with_reducible refine iteT ?_) | (with_reducible refine iteF ?_))
local macro_rules | `(tactic| walk_at "side") => `(tactic| first | omega | decide | assumption | exact ⟨by omega, by omega⟩ | exact Or.inr ⟨by omega, by omega⟩ | exact Or.inl ⟨by omega, by omega⟩ | (simp only [List.length_map, List.length_cons, List.length_nil, List.length_append] at *; omega))
local macro_rules | `(tactic| walk_at "hp") => `(tactic| first | assumption | exact upd_same | refine upd_old (by assumption) (by walk_at "hp") | (rw [upd_ne (by first | assumption | exact Ne.symm (by assumption))]; walk_at "hp"))
local macro_rules | `(tactic| walk_at "sqL") => `(tactic| first | assumption | exact SqL.of (by walk_at "hp"))
local macro_rules | `(tactic| walk_at "sqT") => `(tactic| first | assumption | exact SqT.of (by walk_at "hp"))
local macro_rules | `(tactic| walk_at "sqb") => `(tactic| (unfold SqB; first | ((with_reducible change SqL _ _ _ _); walk_at "sqL") | ((with_reducible change SqT _ _ _ _); walk_at "sqT")))
local macro_rules | `(tactic| walk_at "line") => `(tactic| first | assumption | decide | (apply line_of; walk_at "side") | (apply line_lt; walk_at "side"))
local macro_rules | `(tactic| walk_at "ty") => `(tactic| first | with_reducible exact ty_lst (by walk_at "hp"))
local macro_rules | `(tactic| walk_at "at") => `(tactic| with_reducible first | assumption | exact at0 | exact at1 | exact at2 | exact at3 | exact at4 | exact at5 | exact at6 | exact at7 | exact at8)
local macro_rules | `(tactic| walk_at "st") => `(tactic| (repeat walk_at "st1"))
local macro_rules | `(tactic| walk_at "lk") => `(tactic| first | with_reducible assumption | rfl)
local macro_rules | `(tactic| walk_at "kd") => `(tactic| first | exact .base (.int _) | exact .base .non | exact .base (.bl _) | exact .base (.str _) | exact .base (.tup (by walk_at "hp")) | exact .base (.lst (by walk_at "hp")) | exact .base (.dK (by walk_at "hp")) | exact .base (.dT (by walk_at "hp")))
local macro_rules | `(tactic| walk_at "kit") => `(tactic| with_reducible first
  | exact kit_NoneType_bool
  | exact kit_NoneType_int
  | exact kit_NoneType_str
  | exact kit_NoneType_tuple
  | exact kit_NoneType_list
  | exact kit_NoneType_dict
  | exact kit_bool_bool
  | exact kit_bool_int
  | exact kit_bool_str
  | exact kit_bool_tuple
  | exact kit_bool_list
  | exact kit_bool_dict
  | exact kit_int_bool
  | exact kit_int_int
  | exact kit_int_str
  | exact kit_int_tuple
  | exact kit_int_list
  | exact kit_int_dict
  | exact kit_str_bool
  | exact kit_str_int
  | exact kit_str_str
  | exact kit_str_tuple
  | exact kit_str_list
  | exact kit_str_dict
  | exact kit_tuple_bool
  | exact kit_tuple_int
  | exact kit_tuple_str
  | exact kit_tuple_tuple
  | exact kit_tuple_list
  | exact kit_tuple_dict
  | exact kit_list_bool
  | exact kit_list_int
  | exact kit_list_str
  | exact kit_list_tuple
  | exact kit_list_list
  | exact kit_list_dict
  | exact kit_dict_bool
  | exact kit_dict_int
  | exact kit_dict_str
  | exact kit_dict_tuple
  | exact kit_dict_list
  | exact kit_dict_dict)
local macro_rules | `(tactic| walk_at "flen") => `(tactic| decide)
local macro_rules | `(tactic| walk_at "puts") => `(tactic| skip)

local macro_rules | `(tactic| walk_at "lk") => `(tactic| with_reducible first | assumption | exact DiskF_get_lying | exact DiskF_get_pending | exact DiskF_get_spoils | exact DiskF_no (by decide +kernel) (by decide +kernel) (by decide +kernel))
local macro_rules | `(tactic| walk_at "puts") => `(tactic| try simp only [DiskF_put_lying, DiskF_put_pending, DiskF_put_spoils, DiskF0_put, DiskF1_put, DiskF2_put])
local macro_rules | `(tactic| walk_at "flen") => `(tactic| first | with_reducible assumption | with_reducible (first | exact DiskF_len | exact DiskF0_len | exact DiskF1_len | exact DiskF2_len) | decide)
section
variable {Z : Ads} {P : Program} {w : World} {K : PySem.W.Frag} {mg : Str → Option Value} {base : Heap}
def spFallen : Sp := fun vs H Q _ => ∃ (a b r : Addr) (xs ys : List V) (ls ps : List PyData) (hs : List Int), vs = [.ref a, .ref b, .ref r] ∧ H a = some (.lst xs) ∧ TDs H xs ls ∧ H b = some (.lst ys) ∧ TDs H ys ps ∧ H r = some (.tup (hs.map V.int)) ∧ hs.length = ps.length ∧ (∀ h ∈ hs, 0 ≤ h ∧ h ≤ 2) ∧
  ps.length ≤ 1000 ∧ ls.length ≤ 1000 ∧ (∀ e ∈ ps, IsPr e) ∧ ∀ H' u zs, H u = none → H' u = some (.lst zs) → TDs H' zs (ls ++ fallen ps hs) → Fr [] H H' → Q (.ref u) H'
abbrev s_law_fallen : Stmt := top 75
theorem sc_law_fallen : FnScope ["lying", "waiting", "hows", "found", "key", "thing", "one"] ["lying", "waiting", "hows"] (defScope s_law_fallen) := ⟨rfl, rfl, rfl, by decide +kernel, rfl, by decide +kernel, by decide +kernel⟩
theorem ok_law_fallen {f : Addr} {fd : FuncData} (F : Fun K "_law_fallen" "_law_fallen" s_law_fallen f fd) (T : Txt K mg Z) : FnOk P w K mg base (L2.CX P w) 1 f fd ["lying", "waiting", "hows"] spFallen := by
  refine okN F sc_law_fallen (fun vs H Q E h => ?_) (fun cdv A outer s0 H vs Q E hr h => ?_)
  · obtain ⟨a, b, r, xs, ys, ls, ps, hs, rfl, _⟩ := h
    rfl
  · obtain ⟨a, b, r, xs, ys, ls, ps, hs, rfl, hl, tl, hq, tq, hR, hlen, hbd, hps, hls, hpr, k⟩ := h
    have hny := tq.length
    have hnx := tl.length
    refine ⟨_, [some _, some _, some _, none, none, none, none], rfl, (pss_cons (ps_set (i := 3) sc_law_fallen.nd rfl (by first | exact Or.inl rfl | exact Or.inr rfl) (pe_callTy (kListOf (K := K)) (by rfl) T.n_list (by decide +kernel) (pa_cons (pv 0) pa_nil)))
      (pss_cons (ps_for PassesOwn.never rfl (kZip false true (K := K) (by rfl) T.n_zip (pa_cons (pv 1) (pa_cons (pv 2) pa_nil))) (kTupT (K := K) (n := 2) (pgs_cons (kTupT (K := K) (n := 2) (pgs_cons (pg_name (i := 4) sc_law_fallen.nd rfl (by first | exact Or.inl rfl | exact Or.inr rfl)) (pgs_cons (pg_name (i := 5) sc_law_fallen.nd rfl (by first | exact Or.inl rfl | exact Or.inr rfl)) pgs_nil))) (pgs_cons (pg_name (i := 6) sc_law_fallen.nd rfl (by first | exact Or.inl rfl | exact Or.inr rfl)) pgs_nil)))
      (pss_one (ps_if (pt_cmpR op_eq (pv 6) pe_int (by first | exact nomark _ | rfl)) (pss_one (ps_expr (kApp (K := K) (pv 3) (pe_tup (pa_cons (pv 4) (pa_cons (pv 5) (pa_cons pe_bl pa_nil))))))) (pss_one (ps_if (pt_cmpR op_eq (pv 6) pe_int (by first | exact nomark _ | rfl)) (pss_one (ps_expr (kApp (K := K) (pv 3) (pe_tup (pa_cons (pv 4) (pa_cons pe_non (pa_cons pe_bl pa_nil))))))) pss_nil)))))
      (pss_one (ps_ret (pv 3))))), ?_⟩
    walk_at "st"
    intro u hu
    have f1 : Fr [] H (upd H u (.lst xs)) := Fr.up hu
    have hq1 := f1.same _ _ hq
    have hR1 := f1.same _ _ hR
    walk_at "st"
    refine for_it (walkZ (b := false) (c := true) (xs := ys) (ys := hs.map V.int) (n := ps.length) (by rw [List.length_map]; omega))
      (fun i σ H' => ∃ acc o1 o2 o3, σ = [some (.ref a), some (.ref b), some (.ref r), some (.ref u), o1, o2, o3] ∧ Fr [] H H' ∧ H' u = some (.lst (xs ++ acc)) ∧ acc.length ≤ i ∧ TDs H' acc (fallen (ps.take i) (hs.take i)))
      ⟨[], none, none, none, rfl, f1, by rw [List.append_nil]; exact upd_same, Nat.le_refl _, .nil⟩ (fun i σ H' _ ⟨acc, o1, o2, o3, _, g, _⟩ => ⟨SqL.of (g.same _ _ hq), SqT.of (g.tup _ _ hR)⟩) ?_ ?_
    · rintro i x σ H2 H3 hi ⟨acc, o1, o2, o3, rfl, g, e2, ea, ta⟩ ⟨t, v1, v2, rfl, ht, rfl, hx, hy⟩
      have hx : ys[i]? = some v1 := hx
      have hy : (hs.map V.int)[i]? = some v2 := hy
      rw [List.getElem?_map] at hy
      obtain ⟨h, hh, rfl⟩ := Option.map_eq_some_iff.mp hy
      obtain ⟨b0, b2⟩ := hbd h (List.mem_of_getElem? hh)
      have g1 := g.new (o := .tup [v1, V.int h]) ht
      obtain ⟨e, he, te⟩ := TDs.at_ (TDs.mono g1.tup _ _ tq) hx
      obtain ⟨kd, vd, rfl, _, _⟩ := hpr e (List.mem_of_getElem? he)
      cases te with
      | @tup c zs _ ha hT =>
      cases hT with
      | @cons z1 _ _ _ t1 hT =>
      cases hT with
      | @cons z2 _ _ _ t2 hT =>
      cases hT
      have e3 := upd_old (o' := HO.tup [V.ref c, V.int h]) ht e2
      have hT0 : Tp H2 (upd H2 t (.tup [V.ref c, V.int h])) := (Fr.up (ms := []) ht).tup
      have fin : ∀ (H4 : Hp) (u' : Addr) (z : List V) (zd : List PyData), upd H2 t (.tup [V.ref c, V.int h]) u' = none → H4 = upd (upd (upd H2 t (.tup [V.ref c, V.int h])) u' (.tup z)) u (.lst ((xs ++ acc) ++ [.ref u'])) → TDs (upd H2 t (.tup [V.ref c, V.int h])) z zd → fell (.tuple [kd, vd]) h = [.tuple zd] →
          ∃ acc' o1' o2' o3', [some (V.ref a), some (V.ref b), some (V.ref r), some (V.ref u), some z1, some z2, some (V.int h)] = [some (.ref a), some (.ref b), some (.ref r), some (.ref u), o1', o2', o3'] ∧ Fr [] H H4 ∧ H4 u = some (.lst (xs ++ acc')) ∧ acc'.length ≤ i + 1 ∧ TDs H4 acc' (fallen (ps.take (i + 1)) (hs.take (i + 1))) := by
        intro H4 u' z zd hu' eH tz ef
        have e5 := upd_old (o' := HO.tup z) hu' e3
        have gT : Tp (upd H2 t (.tup [V.ref c, V.int h])) H4 := by
          rw [eH]
          exact ((Fr.up (ms := [u]) hu').wl e5 (.inl (by simp))).tup
        refine ⟨acc ++ [.ref u'], _, _, _, rfl, ?_, ?_, by simp; omega, ?_⟩
        · rw [eH]
          exact (g1.new hu').wl e5 (.inr hu)
        · rw [eH, upd_same, List.append_assoc]
        · rw [fallen_snoc he hh, ef]
          refine TDs.snoc (TDs.mono (hT0.trans gT) _ _ ta) (.tup ?_ (TDs.mono gT _ _ tz))
          rw [eH, upd_ne (ne_of (H := upd (upd H2 t (.tup [V.ref c, V.int h])) u' (.tup z)) upd_same e5 (by intro z; cases z))]
          exact upd_same
      have hlim : (xs ++ acc).length ≤ 100000 := by rw [List.length_append]; omega
      walk_at "st"
      refine iteD (fun h2 => ?_) (fun h2 => ?_)
      · have h2' : h = 2 := V.int.inj h2
        have n0 : ¬ h = 0 := by omega
        walk_at "st"
        intro u' hu'
        walk_at "st"
        exact fin _ u' _ _ hu' rfl (.cons t1 (.cons t2 (.cons (.bl true) .nil))) (by simp only [fell, if_neg n0, if_pos h2'])
      · have h2' : ¬ h = 2 := fun z => h2 (by rw [z])
        walk_at "st"
        refine iteD (fun h1 => ?_) (fun h1 => ?_)
        · have h1' : h = 1 := V.int.inj h1
          have n0 : ¬ h = 0 := by omega
          walk_at "st"
          intro u' hu'
          walk_at "st"
          exact fin _ u' _ _ hu' rfl (.cons t1 (.cons .non (.cons (.bl false) .nil))) (by simp only [fell, if_neg n0, if_neg h2'])
        · have h1' : ¬ h = 1 := fun z => h1 (by rw [z])
          have n0 : h = 0 := by omega
          walk_at "st"
          refine ⟨acc, _, _, _, rfl, g1, e3, by omega, ?_⟩
          have ef : fell (.tuple [kd, vd]) h = [] := by simp only [fell, if_pos n0]
          rw [fallen_snoc he hh, ef, List.append_nil]
          exact TDs.mono hT0 _ _ ta
    · rintro σ H2 ⟨acc, o1, o2, o3, rfl, g, e2, ea, ta⟩
      walk_at "st"
      have t2 : hs.take ps.length = hs := List.take_of_length_le (by omega)
      rw [List.take_length, t2] at ta
      exact k _ u _ hu e2 (TDs.app (TDs.mono g.tup _ _ tl) ta) g
/-! ### what the law asks of a disk and its own rows -/
structure OkL (e : PyData) : Prop where
  ok : ∃ k v b, e = .tuple [k, v, .bool b]
  lay : e.canLay0 = true
  dep : e.depth ≤ 20
theorem okl_all : ∀ {ls : List PyData}, (∀ e ∈ ls, OkL e) → PyData.canLayAll0 ls = true ∧ PyData.depthAll ls ≤ 20
  | [], _ => ⟨rfl, Nat.zero_le _⟩
  | d :: ds, h => by
    obtain ⟨_, a, b⟩ := h d (by simp)
    obtain ⟨a2, b2⟩ := okl_all fun e he => h e (List.mem_cons_of_mem _ he)
    simp only [PyData.canLayAll0, PyData.depthAll, a, a2, Bool.and_self, true_and]
    omega
theorem okl_shaped {ls : List PyData} (h : ∀ e ∈ ls, OkL e) : SeqAt.shaped (.list ls) = true := by
  obtain ⟨a, b⟩ := okl_all h
  have h1 : PyData.canLay0 (.list ls) = true := by simpa only [PyData.canLay0] using a
  have h2 : PyData.depth (.list ls) ≤ 64 := by
    simp only [PyData.depth]
    omega
  unfold SeqAt.shaped
  rw [h1, decide_eq_true h2]
  rfl
theorem okl_refl {ls : List PyData} (h : ∀ e ∈ ls, OkL e) : PyData.eqv (.list ls) (.list ls) = true := by
  refine SeqAt.eqv_refl _ ?_
  have := (okl_all h).1
  simpa only [PyData.canLay0] using this
theorem KPart.nice {d : PyData} (h : KPart d) : d.canLay0 = true ∧ d.depth = 0 := by
  rcases h with ⟨x, rfl, hx⟩ | ⟨n, _, rfl⟩
  · exact ⟨hx, rfl⟩
  · exact ⟨rfl, rfl⟩
theorem kparts_all : ∀ {ds : List PyData}, (∀ e ∈ ds, KPart e) → PyData.canLayAll0 ds = true ∧ PyData.depthAll ds = 0
  | [], _ => ⟨rfl, rfl⟩
  | d :: ds, h => by
    obtain ⟨a, b⟩ := (h d (by simp)).nice
    obtain ⟨a2, b2⟩ := kparts_all fun e he => h e (List.mem_cons_of_mem _ he)
    simp only [PyData.canLayAll0, PyData.depthAll, a, a2, b, b2, Bool.and_self, true_and]
    omega
theorem KeyD.nice {d : PyData} (h : KeyD d) : d.canLay0 = true ∧ d.depth ≤ 1 := by
  obtain ⟨ds, rfl, _, _, hk⟩ := h
  obtain ⟨a, b⟩ := kparts_all hk
  refine ⟨by simpa only [PyData.canLay0] using a, ?_⟩
  simp only [PyData.depth, b]
  omega
theorem okl_mk {k v : PyData} {b : Bool} (hk : KeyD k) (hv : v.canLay0 = true ∧ v.depth ≤ 10) : OkL (.tuple [k, v, .bool b]) := by
  obtain ⟨a, c⟩ := hk.nice
  refine ⟨⟨k, v, b, rfl⟩, ?_, ?_⟩
  · simp only [PyData.canLay0, PyData.canLayAll0, a, hv.1, Bool.and_self]
  · simp only [PyData.depth, PyData.depthAll]
    have := hv.2
    omega
theorem okl_trip {e : PyData} (h : IsPr e) : OkL (trip e) := by
  obtain ⟨k, v, rfl, hk, hv⟩ := h
  exact okl_mk hk ⟨hv.lay, hv.dep⟩
theorem okl_fell {e z : PyData} {h : Int} (he : IsPr e) (hz : z ∈ fell e h) : OkL z := by
  obtain ⟨k, v, rfl, hk, hv⟩ := he
  replace hz : z ∈ (if h = 0 then [] else if h = 2 then [PyData.tuple [k, v, .bool true]] else [PyData.tuple [k, .none, .bool false]]) := hz
  by_cases h0 : h = 0
  · rw [if_pos h0] at hz; cases hz
  · rw [if_neg h0] at hz
    by_cases h2 : h = 2
    · rw [if_pos h2] at hz
      rw [List.mem_singleton.mp hz]
      exact okl_mk hk ⟨hv.lay, hv.dep⟩
    · rw [if_neg h2] at hz
      rw [List.mem_singleton.mp hz]
      exact okl_mk hk ⟨rfl, Nat.zero_le _⟩
theorem okl_fallen {ps : List PyData} {hs : List Int} (h : ∀ e ∈ ps, IsPr e) : ∀ z ∈ fallen ps hs, OkL z := by
  intro z hz
  unfold fallen at hz
  obtain ⟨x, hx, hm⟩ := List.mem_flatMap.mp hz
  exact okl_fell (h x.1 (List.of_mem_zip hx).1) hm
structure DM (C : Addr) (H : Hp) (d m l q a b : Addr) (ls ps : List PyData) : Prop where
  disk : DiskAt C H d l q ls ps
  mod : H m = some (.lst [.ref a, .ref b])
  mL : ∃ xs, H a = some (.lst xs) ∧ TDs H xs ls
  mP : ∃ xs, H b = some (.lst xs) ∧ TDs H xs ps
  ne : l ≠ m ∧ l ≠ a ∧ l ≠ b ∧ q ≠ m ∧ q ≠ a ∧ q ≠ b ∧ m ≠ a ∧ m ≠ b
  prs : ∀ e ∈ ps, IsPr e
  lay : ∀ e ∈ ls, OkL e
theorem DiskAt.keep {C : Addr} {H H' : Hp} {d l q : Addr} {ls ps : List PyData} {ms : List Addr} (D : DiskAt C H d l q ls ps) (f : Fr ms H H') (nd : d ∉ ms) (nl : l ∉ ms) (nq : q ∉ ms) : DiskAt C H' d l q ls ps := by
  obtain ⟨⟨dx, n, hd⟩, ⟨xs, hl, tl⟩, ⟨ys, hq, tq⟩, lq⟩ := D
  exact ⟨⟨dx, n, f.keep _ _ nd hd⟩, ⟨xs, f.keep _ _ nl hl, TDs.mono f.tup _ _ tl⟩, ⟨ys, f.keep _ _ nq hq, TDs.mono f.tup _ _ tq⟩, lq⟩
theorem DM.keep {C : Addr} {H H' : Hp} {d m l q a b : Addr} {ls ps : List PyData} {ms : List Addr} (D : DM C H d m l q a b ls ps) (f : Fr ms H H') (h : ∀ x ∈ [d, m, l, q, a, b], x ∉ ms) : DM C H' d m l q a b ls ps := by
  obtain ⟨D, hm, ⟨xs, ha, ta⟩, ⟨ys, hb, tb⟩, ne, pr, ly⟩ := D
  exact ⟨D.keep f (h d (by simp)) (h l (by simp)) (h q (by simp)), f.keep _ _ (h m (by simp)) hm, ⟨xs, f.keep _ _ (h a (by simp)) ha, TDs.mono f.tup _ _ ta⟩, ⟨ys, f.keep _ _ (h b (by simp)) hb, TDs.mono f.tup _ _ tb⟩, ne, pr, ly⟩
def spIsSo (C : Addr) : Sp := fun vs H Q _ => ∃ (d m l q a b : Addr) (ls ps : List PyData), vs = [.ref d, .ref m] ∧ DM C H d m l q a b ls ps ∧ ls.length ≤ 1000 ∧ ∀ H', Fr [] H H' → Q (.bl true) H'
abbrev s_law_is_so : Stmt := top 77
theorem sc_law_is_so : FnScope ["disk", "model", "told", "word"] ["disk", "model"] (defScope s_law_is_so) := ⟨rfl, rfl, rfl, by decide +kernel, rfl, by decide +kernel, by decide +kernel⟩
theorem ok_law_is_so {f : Addr} {fd : FuncData} (F : Fun K "_law_is_so" "_law_is_so" s_law_is_so f fd) (T : Txt K mg Z) (M_Disk_words : Mn P w K mg base Z.Disk "words" 1 ["self"] (spWords Z.Disk)) (M_Disk_waiting : Mn P w K mg base Z.Disk "waiting" 1 ["self"] (spWaiting Z.Disk)) :
    FnOk P w K mg base (L2.CX P w) 2 f fd ["disk", "model"] (spIsSo Z.Disk) := by
  refine okN F sc_law_is_so (fun vs H Q E h => ?_) (fun cdv A outer s0 H vs Q E hr h => ?_)
  · obtain ⟨d, m, l, q, a, b, ls, ps, rfl, _⟩ := h
    rfl
  · obtain ⟨d, m, l, q, a, b, ls, ps, rfl, D, hls, k⟩ := h
    have D0 := D
    obtain ⟨DD, hm, ⟨xs, ha, ta⟩, ⟨ys, hb, tb⟩, ne, pr, ly⟩ := D
    obtain ⟨⟨dx, n, hd⟩, _, _, _⟩ := id DD
    have hu64 := hr.units
    refine ⟨_, [some _, some _, none, none], rfl, (pss_cons (ps_set (i := 2) sc_law_is_so.nd rfl (by first | exact Or.inl rfl | exact Or.inr rfl) (pe_m0 M_Disk_words E0 (hr.mono (by first | decide | omega)) (pv 0) passL _))
      (pss_cons (ps_if (PW.pt (pw_or (pt_cmpR (kNeD hu64 (K := K)) (pv 2) (pe_ix (kIxL (K := K)) (pv 1) pe_int (fun _ _ => rfl)) (by first | exact nomark _ | rfl)) (pw_or1 (pt_cmpR op_ne (pe_m0 M_Disk_waiting E0 (hr.mono (by first | decide | omega)) (pv 0) passL _) (pe_callB (kLen (K := K)) (by rfl) T.n_len (by decide +kernel) (pa_cons (pe_ix (kIxL (K := K)) (pv 1) pe_int (fun _ _ => rfl)) pa_nil)) (by first | exact nomark _ | rfl))))) (pss_one (ps_ret pe_bl)) pss_nil)
      (pss_cons (ps_if (pt_not (pt_val (pe_callB (kAll (K := K)) (by rfl) T.n_all (by decide +kernel) (pa_cons (pe_lc (own := [("word", 3)]) (g := (gName 3)) (tt := tYes) rfl sc_law_is_so.nd (kPiL (K := K) (pv 2)) (blkOk_by (N := ["disk", "model", "told", "word"]) (sc := defScope s_law_is_so) (by decide +kernel)) (fun _ _ _ _ _ => (pg_name (i := 3) sc_law_is_so.nd rfl (by first | exact Or.inl rfl | exact Or.inr rfl))) (fun _ _ _ _ _ => pts_nil) (fun _ _ _ _ _ => (pe_and (pe_callB (kIsi (K := K)) (by rfl) T.n_isinstance (by decide +kernel) (pa_cons (pv 3) (pa_cons (pe_ty "tuple" (by rfl) T.n_tuple (by decide +kernel)) pa_nil))) (pe_one (pe_cmpR (kIn (K := K)) (pe_ix (kIxT (K := K)) (pv 3) pe_int (fun _ _ => rfl)) (pe_tup (pa_cons pe_bl (pa_cons pe_bl pa_nil))) (by first | exact nomark _ | rfl)))))) pa_nil)))) (pss_one (ps_ret pe_bl)) pss_nil)
      (pss_cons (ps_expr (kApp (K := K) (pv 2) pe_int))
      (pss_one (ps_ret (pe_cmpR (kEqD hu64 (K := K)) (pe_m0 M_Disk_words E0 (hr.mono (by first | decide | omega)) (pv 0) passL _) (pe_ix (kIxL (K := K)) (pv 1) pe_int (fun _ _ => rfl)) (by first | exact nomark _ | rfl)))))))), ?_⟩
    walk_at "st"
    refine ⟨d, l, q, ls, ps, rfl, DD, fun H1 p xs1 hp0 hp1 t1 f1 => ?_⟩
    have hm1 := f1.same _ _ hm
    have ha1 := f1.same _ _ ha
    have hb1 := f1.same _ _ hb
    have hd1 := f1.same _ _ hd
    have D1 := D0.keep f1 (fun _ _ => List.not_mem_nil)
    have ta1 := TDs.mono f1.tup _ _ ta
    have hnx := t1.length
    have hny := tb.length
    walk_at "st"
    refine ⟨.list ls, .list ls, .lst (SqL.of hp1) (TDs.dp _ _ t1), .lst (SqL.of ha1) (TDs.dp _ _ ta1), okl_shaped ly, okl_shaped ly, ?_⟩
    rw [okl_refl ly]
    walk_at "st"
    refine ⟨d, l, q, ls, ps, rfl, D1.disk, ?_⟩
    walk_at "st"
    rw [hny, decide_eq_true rfl]
    walk_at "st"
    intro D hD
    refine lc_it (walk_list (xs := xs1)) (fun i H' => Fr [] H1 H' ∧ H' D = some (.lst ((List.replicate i true).map V.bl))) ⟨Fr.up hD, upd_same⟩ (fun i H' _ h => SqL.of (h.1.same _ _ hp1)) ?_ ?_
    · rintro i x H2 H3 hi ⟨f2, e2⟩ ⟨rfl, hx⟩
      obtain ⟨e, he, te⟩ := TDs.at_ (TDs.mono f2.tup _ _ t1) hx
      obtain ⟨⟨kd, vd, bb, rfl⟩, _, _⟩ := ly e (List.mem_of_getElem? he)
      cases te with
      | @tup c zs _ hc hT =>
      cases hT with
      | @cons z1 _ _ _ t1 hT =>
      cases hT with
      | @cons z2 _ _ _ t2 hT =>
      cases hT with
      | @cons z3 _ _ _ t3 hT =>
      cases hT
      cases t3
      walk_at "st"
      intro u hu
      walk_at "st"
      refine ⟨u, [.bl true, .bl false], rfl, .inr (SqT.of upd_same), rfl, rfl, ?_⟩
      have ein : (if false = true then !inV (V.bl bb) [.bl true, .bl false] else inV (V.bl bb) [.bl true, .bl false]) = true := by cases bb <;> rfl
      rw [ein]
      have e3 := upd_old (o' := HO.tup [V.bl true, V.bl false]) hu e2
      refine ⟨_, e3, line_lt (by simp; omega), (f2.new hu).wl e3 (.inr hD), ?_⟩
      rw [upd_same, List.replicate_succ', List.map_append]
      rfl
    · rintro H2 ⟨f2, e2⟩
      walk_at "st"
      refine st_all (SqL.of e2) ?_
      rw [show (List.replicate xs1.length true).all id = true by simp]
      have hp2 := f2.same _ _ hp1
      walk_at "st"
      have f3 : Fr [] H (upd H2 p (.lst (xs1 ++ [V.int 0]))) := (f1.trans f2).wl hp2 (.inr hp0)
      have D3 := D0.keep f3 (fun _ _ => List.not_mem_nil)
      have hd3 := f3.same _ _ hd
      walk_at "st"
      refine ⟨d, l, q, ls, ps, rfl, D3.disk, fun H4 p4 xs4 hp4 hp4' t4 f4 => ?_⟩
      have f5 := f3.trans f4
      have hm5 := f5.same _ _ hm
      have ha5 := f5.same _ _ ha
      walk_at "st"
      refine ⟨.list ls, .list ls, .lst (SqL.of hp4') (TDs.dp _ _ t4), .lst (SqL.of ha5) (TDs.dp _ _ (TDs.mono f5.tup _ _ ta)), okl_shaped ly, okl_shaped ly, ?_⟩
      rw [okl_refl ly]
      exact k _ f5
def spDeed (C : Addr) : Sp := fun vs H Q _ => ∃ (p g s d m l q a b : Addr) (ls ps : List PyData), vs = [.ref p, .ref d, .ref m] ∧ Pot H p g s ∧ DM C H d m l q a b ls ps ∧ ls.length + ps.length ≤ 500 ∧ (∀ x ∈ [p, g, s], x ∉ [d, m, l, q, a, b]) ∧
  ∀ H' q' a' b' ls' ps', Pot H' p g s → DM C H' d m l q' a' b' ls' ps' → ls'.length + ps'.length ≤ ls.length + ps.length + 1 → (q' = q ∨ H q' = none) → (a' = a ∨ H a' = none) → (b' = b ∨ H b' = none) → Fr [p, g, d, m, l, q] H H' → Q (.bl true) H'
abbrev s_law_deed : Stmt := top 76
theorem sc_law_deed : FnScope ["pot", "disk", "model", "kind", "key", "thing", "at", "hows", "word"] ["pot", "disk", "model"] (defScope s_law_deed) := ⟨rfl, rfl, rfl, by decide +kernel, rfl, by decide +kernel, by decide +kernel⟩
theorem ok_law_deed {f : Addr} {fd : FuncData} (F : Fun K "_law_deed" "_law_deed" s_law_deed f fd) (T : Txt K mg Z) (D_law_draw : Dn P w K mg base "_law_draw" 1 ["pot", "many"] spDraw) (D_law_key : Dn P w K mg base "_law_key" 3 ["pot"] spKey)
    (D_law_thing : Dn P w K mg base "_law_thing" 6 ["pot", "deep"] (spThing 3)) (D_law_fallen : Dn P w K mg base "_law_fallen" 1 ["lying", "waiting", "hows"] spFallen) (M_Disk_write : Mn P w K mg base Z.Disk "write" 12 ["self", "key", "thing"] (spWrite Z.Disk))
    (M_Disk_sync : Mn P w K mg base Z.Disk "sync" 1 ["self"] (spSync Z.Disk)) (M_Disk_spoil : Mn P w K mg base Z.Disk "spoil" 3 ["self", "at"] (spSpoil Z.Disk)) (M_Disk_fall : Mn P w K mg base Z.Disk "fall" 3 ["self", "reached"] (spFall Z.Disk)) :
    FnOk P w K mg base (L2.CX P w) 13 f fd ["pot", "disk", "model"] (spDeed Z.Disk) := by
  refine okN F sc_law_deed (fun vs H Q E h => ?_) (fun cdv A outer s0 H vs Q E hr h => ?_)
  · obtain ⟨p, g, s, d, m, l, q, a, b, ls, ps, rfl, _⟩ := h
    rfl
  · obtain ⟨p, g, s, d, m, l, q, a, b, ls, ps, rfl, hP, D, hsz, hdis, k⟩ := h
    have hny : ∀ y ∈ [d, m, l, q, a, b], y ≠ p ∧ y ≠ g ∧ y ≠ s := fun y hy => ⟨fun z => hdis p (by simp) (z ▸ hy), fun z => hdis g (by simp) (z ▸ hy), fun z => hdis s (by simp) (z ▸ hy)⟩
    have hnpg : ∀ y ∈ [d, m, l, q, a, b], y ∉ [p, g] := fun y hy => by
      have := hny y hy
      simp [this.1, this.2.1]
    have npm := hny m (by simp)
    refine ⟨_, [some _, some _, some _, none, none, none, none, none, none], rfl, (pss_cons (ps_set (i := 3) sc_law_deed.nd rfl (by first | exact Or.inl rfl | exact Or.inr rfl) (pe_d D_law_draw E0 (hr.mono (by first | decide | omega)) (by rfl) passL (pa_cons (pv 0) (pa_cons pe_int pa_nil))))
      (pss_cons (ps_if (pt_cmpR op_lt (pv 3) pe_int (by first | exact nomark _ | rfl)) (pss_cons (ps_par (i := 4) (j := 5) rfl sc_law_deed.nd rfl rfl (by decide) rfl rfl (pa_cons (pe_d D_law_key E0 (hr.mono (by first | decide | omega)) (by rfl) passL (pa_cons (pv 0) pa_nil)) (pa_cons (pe_d D_law_thing E0 (hr.mono (by first | decide | omega)) (by rfl) passL (pa_cons (pv 0) (pa_cons pe_int pa_nil))) pa_nil)) rfl)
      (pss_cons (ps_asg (pe_op op_cat (pe_ix (kIxL (K := K)) (pv 2) pe_int (fun _ _ => rfl)) (pe_lst (pa_cons (pe_tup (pa_cons (pv 4) (pa_cons (pv 5) pa_nil))) pa_nil))) (pg_sub (pv 2) pe_int set_list))
      (pss_one (ps_ret (pe_cmp (pc_isN (pe_m M_Disk_write E0 (hr.mono (by first | decide | omega)) (pv 1) passL (pa_cons (pv 4) (pa_cons (pv 5) pa_nil)) _))))))) pss_nil)
      (pss_cons (ps_if (pt_cmpR op_eq (pv 3) pe_int (by first | exact nomark _ | rfl)) (pss_cons (ps_asg (pe_op op_cat (pe_ix (kIxL (K := K)) (pv 2) pe_int (fun _ _ => rfl)) (pe_lc (own := [("key", 4), ("thing", 5)]) (g := (gTup K 2 (gCons (gName 4) (gCons (gName 5) gNil)))) (tt := tYes) rfl sc_law_deed.nd (kPiL (K := K) (pe_ix (kIxL (K := K)) (pv 2) pe_int (fun _ _ => rfl))) (blkOk_by (N := ["pot", "disk", "model", "kind", "key", "thing", "at", "hows", "word"]) (sc := defScope s_law_deed) (by decide +kernel)) (fun _ _ _ _ _ => (kTupT (K := K) (n := 2) (pgs_cons (pg_name (i := 4) sc_law_deed.nd rfl (by first | exact Or.inl rfl | exact Or.inr rfl)) (pgs_cons (pg_name (i := 5) sc_law_deed.nd rfl (by first | exact Or.inl rfl | exact Or.inr rfl)) pgs_nil)))) (fun _ _ _ _ _ => pts_nil) (fun _ _ _ _ _ => (pe_tup (pa_cons (pv 4) (pa_cons (pv 5) (pa_cons pe_bl pa_nil))))))) (pg_sub (pv 2) pe_int set_list))
      (pss_cons (ps_asg (pe_lst pa_nil) (pg_sub (pv 2) pe_int set_list))
      (pss_one (ps_ret (pe_cmp (pc_isN (pe_m0 M_Disk_sync E0 (hr.mono (by first | decide | omega)) (pv 1) passL _))))))) pss_nil)
      (pss_cons (ps_if (PW.pt (pw_and (pt_cmpR op_eq (pv 3) pe_int (by first | exact nomark _ | rfl)) (pw_and1 (pt_cmpR op_gt (pe_callB (kLen (K := K)) (by rfl) T.n_len (by decide +kernel) (pa_cons (pe_ix (kIxL (K := K)) (pv 2) pe_int (fun _ _ => rfl)) pa_nil)) pe_int (by first | exact nomark _ | rfl))))) (pss_cons (ps_set (i := 6) sc_law_deed.nd rfl (by first | exact Or.inl rfl | exact Or.inr rfl) (pe_d D_law_draw E0 (hr.mono (by first | decide | omega)) (by rfl) passL (pa_cons (pv 0) (pa_cons (pe_callB (kLen (K := K)) (by rfl) T.n_len (by decide +kernel) (pa_cons (pe_ix (kIxL (K := K)) (pv 2) pe_int (fun _ _ => rfl)) pa_nil)) pa_nil))))
      (pss_cons (ps_asg (pe_op op_cat (pe_slice (kSlL (K := K)) (pe_ix (kIxL (K := K)) (pv 2) pe_int (fun _ _ => rfl)) po_none (po_some (pv 6))) (pe_slice (kSlL (K := K)) (pe_ix (kIxL (K := K)) (pv 2) pe_int (fun _ _ => rfl)) (po_some (pe_op op_add (pv 6) pe_int)) po_none)) (pg_sub (pv 2) pe_int set_list))
      (pss_one (ps_ret (pe_cmp (pc_isN (pe_m M_Disk_spoil E0 (hr.mono (by first | decide | omega)) (pv 1) passL (pa_cons (pv 6) pa_nil) _))))))) pss_nil)
      (pss_cons (ps_if (pt_cmpR op_gt (pv 3) pe_int (by first | exact nomark _ | rfl)) (pss_cons (ps_set (i := 7) sc_law_deed.nd rfl (by first | exact Or.inl rfl | exact Or.inr rfl) (pe_callTy (kTupOf (K := K)) (by rfl) T.n_tuple (by decide +kernel) (pa_cons (pe_lc (own := [("word", 8)]) (g := (gName 8)) (tt := tYes) rfl sc_law_deed.nd (kPiL (K := K) (pe_ix (kIxL (K := K)) (pv 2) pe_int (fun _ _ => rfl))) (blkOk_by (N := ["pot", "disk", "model", "kind", "key", "thing", "at", "hows", "word"]) (sc := defScope s_law_deed) (by decide +kernel)) (fun _ _ _ _ _ => (pg_name (i := 8) sc_law_deed.nd rfl (by first | exact Or.inl rfl | exact Or.inr rfl))) (fun _ _ _ _ _ => pts_nil) (fun _ _ _ _ _ => (pe_d D_law_draw E0 (hr.mono (by first | decide | omega)) (by rfl) passL (pa_cons (pv 0) (pa_cons pe_int pa_nil))))) pa_nil)))
      (pss_cons (ps_asg (pe_d D_law_fallen E0 (hr.mono (by first | decide | omega)) (by rfl) passL (pa_cons (pe_ix (kIxL (K := K)) (pv 2) pe_int (fun _ _ => rfl)) (pa_cons (pe_ix (kIxL (K := K)) (pv 2) pe_int (fun _ _ => rfl)) (pa_cons (pv 7) pa_nil)))) (pg_sub (pv 2) pe_int set_list))
      (pss_cons (ps_asg (pe_lst pa_nil) (pg_sub (pv 2) pe_int set_list))
      (pss_one (ps_ret (pe_cmp (pc_isN (pe_m M_Disk_fall E0 (hr.mono (by first | decide | omega)) (pv 1) passL (pa_cons (pv 7) pa_nil) _)))))))) pss_nil)
      (pss_one (ps_ret pe_bl))))))), ?_⟩
    walk_at "st"
    refine ⟨p, g, s, _, rfl, hP, by omega, by omega, fun H1 kind k0 k1 hP1 f1 => ?_⟩
    walk_at "st"
    refine iteD (fun h4 => ?_) (fun h4 => ?_)
    · walk_at "st"
      refine ⟨p, g, s, rfl, hP1, fun H2 kv kd tk hk hP2 f2 => ?_⟩
      walk_at "st"
      refine ⟨p, g, s, rfl, hP2, fun H3 tv td tt ht hP3 f3 => ?_⟩
      have f13 := (f1.trans f2).trans f3
      have D3 := D.keep f13 hnpg
      have tk3 := TD.mono f3.tup _ _ tk
      obtain ⟨DD, hm, ⟨xs, ha, ta⟩, ⟨ys, hb, tb⟩, ⟨lm, la, lb, qm, qa, qb, ma, mb⟩, pr, ly⟩ := D3
      obtain ⟨⟨dx, n, hd⟩, _, _, _⟩ := id DD
      have dm : d ≠ m := ne_of hd hm (by intro z; cases z)
      have hny2 := tb.length
      walk_at "st"
      intro t ht0
      walk_at "st"
      intro u hu0
      walk_at "st"
      intro v hv0
      walk_at "st"
      have hv3 : H3 v = none := fresh_of (fresh_of hv0)
      have f4 : Fr [m] H3 _ := ((((Fr.refl H3).new (o := .tup [kv, tv]) ht0).new (o := .lst [V.ref t]) hu0).new (o := .lst (ys ++ [V.ref t])) hv0).wl (p := m) (o' := .lst [V.ref a, V.ref v]) (by walk_at "hp") (.inl (by simp))
      have hpm4 : Pot _ p g s := hP3.keep f4 (by simpa using npm.1.symm) (by simpa using npm.2.1.symm) (by simpa using npm.2.2.symm)
      obtain ⟨_, ⟨xl, hl3, _⟩, ⟨yq, hq3, _⟩, lq⟩ := id DD
      have vl : v ≠ l := (ne_of_none hl3 hv3).symm
      have vq : v ≠ q := (ne_of_none hq3 hv3).symm
      have vm : v ≠ m := (ne_of_none hm hv3).symm
      have va : v ≠ a := (ne_of_none ha hv3).symm
      have vpg := hP3.ne hv3
      refine ⟨d, l, q, ls, ps, kv, tv, kd, td, rfl, DD.keep f4 (by simpa using dm) (by simpa using lm) (by simpa using qm), by omega, TD.mono f4.tup _ _ tk3, hk, TD.mono f4.tup _ _ tt, ht.mono (by omega), fun H5 D5 f5 => ?_⟩
      have e0 : decide (V.non = V.non) = true := decide_eq_true rfl
      show Q (V.bl (decide (V.non = V.non))) H5
      rw [e0]
      have nq := hny q (by simp)
      have g5 : Fr [p, g, d, m, l, q] H H5 := ((f13.mono (by simp)).trans (f4.mono (by simp))).trans (f5.mono (by simp))
      have f45 := f4.tup.trans f5.tup
      have tt3 : TD _ (V.ref t) (.tuple [kd, td]) := .tup (show upd (upd (upd (upd H3 t (.tup [kv, tv])) u (.lst [V.ref t])) v (.lst (ys ++ [V.ref t]))) m (.lst [V.ref a, V.ref v]) t = some (.tup [kv, tv]) from by
        have tm : t ≠ m := (ne_of_none hm ht0).symm
        walk_at "hp") (.cons (TD.mono f4.tup _ _ tk3) (.cons (TD.mono f4.tup _ _ tt) .nil))
      refine k H5 q a v ls (ps ++ [.tuple [kd, td]]) (hpm4.keep f5 (by simpa using nq.1.symm) (by simpa using nq.2.1.symm) (by simpa using nq.2.2.symm)) ⟨D5, f5.keep _ _ (by simpa using qm.symm) upd_same, ⟨xs, f5.keep _ _ (by simpa using qa.symm) (f4.keep _ _ (by simpa using ma.symm) ha), TDs.mono f45 _ _ ta⟩,
        ⟨ys ++ [V.ref t], f5.keep _ _ (by simpa using vq) (by walk_at "hp"), TDs.snoc (TDs.mono f45 _ _ tb) (TD.mono f5.tup _ _ tt3)⟩, ⟨lm, la, vl.symm, qm, qa, vq.symm, ma, vm.symm⟩, ?_, ly⟩ (by simp; omega) (.inl rfl) (.inl rfl) (.inr (f13.back (by simp [vpg.1, vpg.2.1]) hv3)) g5
      intro e he
      rcases List.mem_append.mp he with he | he
      · exact pr e he
      · rw [List.mem_singleton.mp he]
        exact ⟨kd, td, rfl, hk, ht.mono (by omega)⟩
    · have D1 := D.keep f1 hnpg
      obtain ⟨DD, hm, ⟨xs, ha, ta⟩, ⟨ys, hb, tb⟩, ⟨lm, la, lb, qm, qa, qb, ma, mb⟩, pr, ly⟩ := D1
      obtain ⟨⟨dx, n, hd⟩, ⟨xl, hl, _⟩, ⟨yq, hq, _⟩, lq⟩ := id DD
      have dm : d ≠ m := ne_of hd hm (by intro z; cases z)
      have hny2 := tb.length
      have hnx2 := ta.length
      walk_at "st"
      refine iteD (fun h4' => ?_) (fun h4' => ?_)
      · walk_at "st"
        intro D hD
        refine lc_it (walk_list (xs := ys)) (fun i H' => Fr [] H1 H' ∧ ∃ acc, H' D = some (.lst acc) ∧ acc.length = i ∧ TDs H' acc ((ps.take i).map trip)) ⟨Fr.up hD, [], upd_same, rfl, .nil⟩ (fun i H' _ h => SqL.of (h.1.same _ _ hb)) ?_ ?_
        · rintro i x H2 H3 hi ⟨f2, acc, e1, ea, ta2⟩ ⟨rfl, hx⟩
          obtain ⟨e, he, te⟩ := TDs.at_ (TDs.mono f2.tup _ _ tb) hx
          obtain ⟨kd, vd, rfl, _, _⟩ := pr e (List.mem_of_getElem? he)
          cases te with
          | @tup c zs _ hc hT =>
          cases hT with
          | @cons z1 _ _ _ t1 hT =>
          cases hT with
          | @cons z2 _ _ _ t2 hT =>
          cases hT
          walk_at "st"
          intro t ht
          have e2 := upd_old (o' := HO.tup [z1, z2, V.bl true]) ht e1
          have f3 := (f2.new (o := .tup [z1, z2, V.bl true]) ht).wl (o' := .lst (acc ++ [.ref t])) e2 (.inr hD)
          have gT : Tp H3 (upd (upd H3 t (.tup [z1, z2, V.bl true])) D (.lst (acc ++ [.ref t]))) := ((Fr.up (ms := [D]) ht).wl e2 (.inl (by simp))).tup
          refine ⟨acc, e2, line_lt (by omega), f3, acc ++ [.ref t], upd_same, by simp [ea], ?_⟩
          rw [take_snoc he, List.map_append]
          refine TDs.snoc (TDs.mono gT _ _ ta2) (.tup ?_ (.cons (TD.mono gT _ _ t1) (.cons (TD.mono gT _ _ t2) (.cons (.bl _) .nil))))
          rw [upd_ne (ne_of (H := upd H3 t (.tup [z1, z2, V.bl true])) upd_same e2 (by intro z; cases z))]
          exact upd_same
        · rintro H2 ⟨f2, acc, e1, ea, ta2⟩
          rw [List.take_of_length_le (by omega)] at ta2
          have hm2 := f2.same _ _ hm
          have ha2 := f2.same _ _ ha
          have hb2 := f2.same _ _ hb
          have hd2 := f2.same _ _ hd
          walk_at "st"
          intro v hv0
          walk_at "st"
          intro u hu0
          have hv1 : H1 v = none := f2.free hv0
          have hu2 : H2 u = none := by
            have um : u ≠ m := fresh_ne hu0
            rw [upd_ne um] at hu0
            exact fresh_of hu0
          have hu1 : H1 u = none := f2.free hu2
          have um : u ≠ m := fresh_ne hu0
          have uv : u ≠ v := by
            rw [upd_ne um] at hu0
            exact fresh_ne hu0
          have vm : v ≠ m := (ne_of_none hm hv1).symm
          walk_at "st"
          have f4 : Fr [m] H2 _ := ((((Fr.refl H2).new (o := .lst (xs ++ acc)) hv0).wl (p := m) (o' := .lst [V.ref v, V.ref b]) (by walk_at "hp") (.inl (by simp))).new (o := .lst []) hu0).wl (p := m) (o' := .lst [V.ref v, V.ref u]) (by walk_at "hp") (.inl (by simp))
          have f24 := (f2.mono (ns := [m]) (by simp)).trans f4
          have hP4 : Pot _ p g s := hP1.keep f24 (by simpa using npm.1.symm) (by simpa using npm.2.1.symm) (by simpa using npm.2.2.symm)
          refine ⟨d, l, q, ls, ps, rfl, DD.keep f24 (by simpa using dm) (by simpa using lm) (by simpa using qm), by omega, by omega, pr, fun H5 q' hq' D5 f5 => ?_⟩
          show Q (V.bl (decide (V.non = V.non))) H5
          rw [decide_eq_true (rfl : V.non = V.non)]
          have nd := hny d (by simp)
          have nl := hny l (by simp)
          have g5 : Fr [p, g, d, m, l, q] H H5 := ((f1.mono (by simp)).trans (f24.mono (by simp))).trans (f5.mono (by simp))
          have vd : v ≠ d := (ne_of_none hd hv1).symm
          have vl : v ≠ l := (ne_of_none hl hv1).symm
          have ud : u ≠ d := (ne_of_none hd hu1).symm
          have ul : u ≠ l := (ne_of_none hl hu1).symm
          have hv5 := f5.keep v (.lst (xs ++ acc)) (by simp [vd, vl]) (by walk_at "hp")
          have hu5 := f5.keep u (.lst []) (by simp [ud, ul]) (by walk_at "hp")
          have hm5 := f5.keep m (.lst [V.ref v, V.ref u]) (by simp [dm.symm, lm.symm]) (by walk_at "hp")
          have q'm : q' ≠ m := fun z => by rw [z, upd_same] at hq'; cases hq'
          have q'v : q' ≠ v := fun z => by
            rw [z, upd_ne vm, upd_ne uv.symm, upd_ne vm, upd_same] at hq'
            cases hq'
          have q'u : q' ≠ u := fun z => by
            rw [z, upd_ne um, upd_same] at hq'
            cases hq'
          have q'1 : H1 q' = none := f2.free (by
            rw [upd_ne q'm, upd_ne q'u, upd_ne q'm, upd_ne q'v] at hq'
            exact hq')
          have nv := hP1.ne hv1
          have nu := hP1.ne hu1
          have nq' := hP1.ne q'1
          have gT : Tp H2 H5 := f4.tup.trans f5.tup
          refine k H5 q' v u (ls ++ ps.map trip) [] (hP4.keep f5 (by simp [nd.1.symm, nl.1.symm]) (by simp [nd.2.1.symm, nl.2.1.symm]) (by simp [nd.2.2.symm, nl.2.2.symm])) ⟨D5, hm5, ⟨xs ++ acc, hv5, TDs.app (TDs.mono (f24.tup.trans f5.tup) _ _ ta) (TDs.mono gT _ _ ta2)⟩, ⟨[], hu5, .nil⟩, ⟨lm, vl.symm, ul.symm, q'm, q'v, q'u, vm.symm, um.symm⟩, (fun _ h => nomatch h), ?_⟩
            (by simp) (.inr (f1.back (by simp [nq'.1, nq'.2.1]) q'1)) (.inr (f1.back (by simp [nv.1, nv.2.1]) hv1)) (.inr (f1.back (by simp [nu.1, nu.2.1]) hu1)) g5
          intro e he
          rcases List.mem_append.mp he with he | he
          · exact ly e he
          · obtain ⟨e', he', rfl⟩ := List.mem_map.mp he
            exact okl_trip (pr e' he')
      · walk_at "st"
        refine iteD (fun h5 => ?_) (fun h5 => ?_)
        · walk_at "st"
          refine iteD (fun hx => ?_) (fun hx => ?_)
          · walk_at "st"
            refine ⟨p, g, s, _, rfl, hP1, by omega, by omega, fun H2 at_ a0 a1 hP2 f2 => ?_⟩
            obtain ⟨j, rfl⟩ : ∃ j : Nat, at_ = (j : Int) := ⟨at_.toNat, by omega⟩
            have hj : j < xs.length := by omega
            have hm2 := f2.keep _ _ (hnpg m (by simp)) hm
            have ha2 := f2.keep _ _ (hnpg a (by simp)) ha
            have hb2 := f2.keep _ _ (hnpg b (by simp)) hb
            have hd2 := f2.keep _ _ (hnpg d (by simp)) hd
            have hl2 := f2.keep _ _ (hnpg l (by simp)) hl
            have hq2 := f2.keep _ _ (hnpg q (by simp)) hq
            walk_at "st"
            intro v1 hv1
            walk_at "st"
            intro v2 hv2
            walk_at "st"
            have hc1 := cutV_length xs none (some ((j : Nat) : Int))
            have hc2 := cutV_length xs (some ((j : Int) + 1)) none
            walk_at "st"
            have ec : cutV xs none (some ((j : Nat) : Int)) ++ cutV xs (some ((j : Int) + 1)) none = xs.eraseIdx j := by
              rw [cut_take, show ((j : Int) + 1) = ((j + 1 : Nat) : Int) by omega, cut_drop, List.eraseIdx_eq_take_drop_succ]
            rw [ec]
            intro v hv0
            have hv2' : H2 v = none := fresh_of (fresh_of hv0)
            have vm : v ≠ m := (ne_of_none hm2 hv2').symm
            have vl : v ≠ l := (ne_of_none hl2 hv2').symm
            have vq : v ≠ q := (ne_of_none hq2 hv2').symm
            have vb : v ≠ b := (ne_of_none hb2 hv2').symm
            have vd : v ≠ d := (ne_of_none hd2 hv2').symm
            walk_at "st"
            have f4 : Fr [m] H2 _ := ((((Fr.refl H2).new (o := .lst (cutV xs none (some ((j : Nat) : Int)))) hv1).new (o := .lst (cutV xs (some ((j : Int) + 1)) none)) hv2).new (o := .lst (xs.eraseIdx j)) hv0).wl (p := m) (o' := .lst [V.ref v, V.ref b]) (by walk_at "hp") (.inl (by simp))
            have f24 : Fr [p, g, m] H1 _ := (f2.mono (by simp)).trans (f4.mono (by simp))
            have hP4 : Pot _ p g s := hP2.keep f4 (by simpa using npm.1.symm) (by simpa using npm.2.1.symm) (by simpa using npm.2.2.symm)
            have D2 := DD.keep f2 (hnpg d (by simp)) (hnpg l (by simp)) (hnpg q (by simp))
            refine ⟨d, l, q, ls, ps, j, rfl, D2.keep f4 (by simpa using dm) (by simpa using lm) (by simpa using qm), by omega, by omega, fun H5 D5 f5 => ?_⟩
            show Q (V.bl (decide (V.non = V.non))) H5
            rw [decide_eq_true (rfl : V.non = V.non)]
            have nd := hny d (by simp)
            have nl := hny l (by simp)
            have nv := hP2.ne hv2'
            have g5 : Fr [p, g, d, m, l, q] H H5 := ((f1.mono (by simp)).trans (f24.mono (by simp +contextual))).trans (f5.mono (by simp))
            have hv5 := f5.keep v (.lst (xs.eraseIdx j)) (by simp [vd, vl]) (by walk_at "hp")
            have hm5 := f5.keep m (.lst [V.ref v, V.ref b]) (by simp [dm.symm, lm.symm]) (by walk_at "hp")
            have bd : b ≠ d := ne_of hb hd (by intro z; cases z)
            have hb5 := f5.keep b (.lst ys) (by simp [bd, lb.symm]) (f4.keep _ _ (by simpa using mb.symm) hb2)
            have gT : Tp H1 H5 := f24.tup.trans f5.tup
            refine k H5 q v b (ls.eraseIdx j) ps (hP4.keep f5 (by simp [nd.1.symm, nl.1.symm]) (by simp [nd.2.1.symm, nl.2.1.symm]) (by simp [nd.2.2.symm, nl.2.2.symm])) ⟨D5, hm5, ⟨_, hv5, TDs.mono gT _ _ (TDs_erase j ta)⟩, ⟨ys, hb5, TDs.mono gT _ _ tb⟩, ⟨lm, vl.symm, lb, qm, vq.symm, qb, vm.symm, mb⟩, pr, fun e he => ly e (List.mem_of_mem_eraseIdx he)⟩
              (by have := len_erase ls j; omega) (.inl rfl) (.inr ((f1.trans f2).back (by simp [nv.1, nv.2.1]) hv2')) (.inl rfl) g5
          · have h5' : kind = 5 := V.int.inj h5
            walk_at "st"
            refine iteD (fun h6 => absurd h6 (by omega)) (fun h6 => ?_)
            walk_at "st"
            exact k H1 q a b ls ps hP1 (D.keep f1 hnpg) (by omega) (.inl rfl) (.inl rfl) (.inl rfl) (f1.mono (by simp))
        · walk_at "st"
          refine iteD (fun h6 => ?_) (fun h6 => ?_)
          · walk_at "st"
            intro D hD
            have nD := hP1.ne hD
            have D0 : H1 D = none := hD
            refine lc_it (walk_list (xs := ys)) (fun i H' => ∃ hs : List Int, H' D = some (.lst (hs.map V.int)) ∧ Fr [p, g] H1 H' ∧ Pot H' p g s ∧ hs.length = i ∧ ∀ h ∈ hs, 0 ≤ h ∧ h ≤ 2) ⟨[], upd_same, Fr.up hD, hP1.up hD, rfl, fun _ h => nomatch h⟩ (fun i H' _ ⟨_, _, f, _⟩ => SqL.of (f.keep _ _ (hnpg b (by simp)) hb)) ?_ ?_
            · rintro i x H2 H3 hi ⟨hs, e1, g1, hP2, el, hb2⟩ ⟨rfl, hx⟩
              walk_at "st"
              refine ⟨p, g, s, _, rfl, hP2, by omega, by omega, fun H4 n n0 n1 hP4 f4 => ?_⟩
              have e4 : H4 D = some (.lst (hs.map V.int)) := f4.keep D _ (by simpa using ⟨nD.1, nD.2.1⟩) e1
              refine ⟨_, e4, line_lt (by rw [List.length_map]; omega), hs ++ [n], ?_, (g1.trans f4).wl e4 (.inr hD), hP4.wr e4 nD, by simp [el], fun y hy => ?_⟩
              · rw [upd_same, List.map_append]
                rfl
              · rcases List.mem_append.mp hy with hy | hy
                · exact hb2 y hy
                · rw [List.mem_singleton.mp hy]; omega
            · rintro H2 ⟨hs, e1, g1, hP2, el, hb2⟩
              walk_at "st"
              refine st_tupOf (SqL.of e1) fun r hr0 => ?_
              have hm2 := g1.keep _ _ (hnpg m (by simp)) hm
              have ha2 := g1.keep _ _ (hnpg a (by simp)) ha
              have hb2' := g1.keep _ _ (hnpg b (by simp)) hb
              have hd2 := g1.keep _ _ (hnpg d (by simp)) hd
              have hl2 := g1.keep _ _ (hnpg l (by simp)) hl
              have hq2 := g1.keep _ _ (hnpg q (by simp)) hq
              have g2 : Fr [p, g] H1 _ := g1.new (o := .tup (hs.map V.int)) hr0
              have hP3 : Pot _ p g s := hP2.up (o := .tup (hs.map V.int)) hr0
              walk_at "st"
              refine ⟨a, b, r, xs, ys, ls, ps, hs, rfl, by walk_at "hp", TDs.mono g2.tup _ _ ta, by walk_at "hp", TDs.mono g2.tup _ _ tb, upd_same, by omega, hb2, by omega, by omega, pr, fun H4 v zs hv0 hv4 tz f4 => ?_⟩
              have g4 : Fr [p, g] H1 H4 := g2.trans (f4.mono (by simp))
              have hm4 := g4.keep _ _ (hnpg m (by simp)) hm
              have hd4 := g4.keep _ _ (hnpg d (by simp)) hd
              have hl4 := g4.keep _ _ (hnpg l (by simp)) hl
              have hq4 := g4.keep _ _ (hnpg q (by simp)) hq
              have hr4 := f4.same _ _ (show upd H2 r (HO.tup (hs.map V.int)) r = some (HO.tup (hs.map V.int)) from upd_same)
              have hv1 : H2 v = none := fresh_of hv0
              have vm : v ≠ m := (ne_of_none hm2 hv1).symm
              have vl : v ≠ l := (ne_of_none hl2 hv1).symm
              have vq : v ≠ q := (ne_of_none hq2 hv1).symm
              have vd : v ≠ d := (ne_of_none hd2 hv1).symm
              have rm : r ≠ m := (ne_of_none hm2 hr0).symm
              walk_at "st"
              intro u hu0
              have um : u ≠ m := fresh_ne hu0
              have hu4 : H4 u = none := fresh_of hu0
              have ul : u ≠ l := (ne_of_none hl4 hu4).symm
              have uq : u ≠ q := (ne_of_none hq4 hu4).symm
              have ud : u ≠ d := (ne_of_none hd4 hu4).symm
              have uv : u ≠ v := (ne_of_none hv4 hu4).symm
              walk_at "st"
              have f5 : Fr [m] H4 _ := (((Fr.refl H4).wl (p := m) (o' := .lst [V.ref v, V.ref b]) hm4 (.inl (by simp))).new (o := .lst []) hu0).wl (p := m) (o' := .lst [V.ref v, V.ref u]) (by walk_at "hp") (.inl (by simp))
              have g5 : Fr [p, g, m] H1 _ := (g4.mono (by simp)).trans (f5.mono (by simp))
              have hP4 : Pot _ p g s := (hP3.keep f4 (by simp) (by simp) (by simp)).keep f5 (by simpa using npm.1.symm) (by simpa using npm.2.1.symm) (by simpa using npm.2.2.symm)
              have D4 := (DD.keep g4 (hnpg d (by simp)) (hnpg l (by simp)) (hnpg q (by simp))).keep f5 (by simpa using dm) (by simpa using lm) (by simpa using qm)
              refine ⟨d, l, q, r, ls, ps, hs, rfl, D4, f5.keep _ _ (by simpa using rm) hr4, by omega, hb2, by omega, by omega, pr, fun H6 q' hq' D6 f6 => ?_⟩
              show Q (V.bl (decide (V.non = V.non))) H6
              rw [decide_eq_true (rfl : V.non = V.non)]
              have nd := hny d (by simp)
              have nl := hny l (by simp)
              have nv := hP2.ne hv1
              have hP4' := hP3.keep f4 (by simp) (by simp) (by simp)
              have nu := hP4'.ne hu4
              have g6 : Fr [p, g, d, m, l, q] H H6 := ((f1.mono (by simp)).trans (g5.mono (by simp +contextual))).trans (f6.mono (by simp))
              have hv6 := f6.keep v (.lst zs) (by simp [vd, vl]) (by walk_at "hp")
              have hu6 := f6.keep u (.lst []) (by simp [ud, ul]) (by walk_at "hp")
              have hm6 := f6.keep m (.lst [V.ref v, V.ref u]) (by simp [dm.symm, lm.symm]) (by walk_at "hp")
              have q'm : q' ≠ m := fun z => by rw [z, upd_same] at hq'; cases hq'
              have q'u : q' ≠ u := fun z => by
                rw [z, upd_ne um, upd_same] at hq'
                cases hq'
              have q'4 : H4 q' = none := by
                rw [upd_ne q'm, upd_ne q'u, upd_ne q'm] at hq'
                exact hq'
              have q'v : q' ≠ v := (ne_of_none hv4 q'4).symm
              have nq' := hP4'.ne q'4
              have gT : Tp H4 H6 := f5.tup.trans f6.tup
              have g14 := (f1.trans g4)
              have b1 : (fallen ps hs).length ≤ ps.length := fallen_len
              refine k H6 q' v u (ls ++ fallen ps hs) [] (hP4.keep f6 (by simp [nd.1.symm, nl.1.symm]) (by simp [nd.2.1.symm, nl.2.1.symm]) (by simp [nd.2.2.symm, nl.2.2.symm])) ⟨D6, hm6, ⟨zs, hv6, TDs.mono gT _ _ tz⟩, ⟨[], hu6, .nil⟩, ⟨lm, vl.symm, ul.symm, q'm, q'v, q'u, vm.symm, um.symm⟩, (fun _ h => nomatch h), ?_⟩
                (by simp; omega) (.inr (g14.back (by simp [nq'.1, nq'.2.1]) q'4)) (.inr ((f1.trans g1).back (by simp [nv.1, nv.2.1]) hv1)) (.inr (g14.back (by simp [nu.1, nu.2.1]) hu4)) g6
              intro e he
              rcases List.mem_append.mp he with he | he
              · exact ly e he
              · exact okl_fallen pr e he
          · walk_at "st"
            exact k H1 q a b ls ps hP1 (D.keep f1 hnpg) (by omega) (.inl rfl) (.inl rfl) (.inl rfl) (f1.mono (by simp))
end
end K38

namespace K38
open PySem PySem.Spec PyProof.Rows L2 Hq
local macro_rules | `(tactic| walk_at "st1") => `(tactic| first
  | with_reducible refine st_seq ?_ | with_reducible refine st_ret ?_ | with_reducible refine st_ifS ?_ | with_reducible refine st_asg ?_ | with_reducible refine st_drop ?_
  | ((with_reducible refine' st_var ?hv ?_); (case hv => rfl)) | with_reducible refine st_c ?_ | with_reducible refine st_op ?_ | with_reducible refine st_un ?_
  | with_reducible refine st_I0 ?_ | with_reducible refine st_U ?_ | ((with_reducible refine' st_I ?hc ?_); (case hc => walk_at "side"))
  | ((with_reducible refine' st_eq ?hs ?_); (case hs => rfl)) | ((with_reducible refine' st_ne ?hs ?_); (case hs => rfl))
  | with_reducible refine st_test ?_ | with_reducible refine st_B ?_ | with_reducible refine st_bl ?_ | with_reducible refine st_isN ?_ | with_reducible refine st_notN ?_
  | with_reducible refine st_chain ?_ | with_reducible refine st_and ?_ | with_reducible refine st_or ?_ | with_reducible refine st_not ?_
  | with_reducible refine st_andV ?_ | with_reducible refine st_orV ?_ | with_reducible refine st_notV ?_ | with_reducible refine st_if ?_
  | with_reducible refine st_CB ?_ | with_reducible refine st_cons ?_ | with_reducible refine st_nil ?_ | with_reducible refine st_fld ?_
  | ((with_reducible refine st_tup ?_)) | ((with_reducible refine st_lst ?_))
  | with_reducible refine st_call ?_ | with_reducible refine st_meth ?_ | with_reducible refine st_make ?_
  | with_reducible refine st_sl ?_ | with_reducible refine st_noPart ?_ | with_reducible refine st_part ?_ | with_reducible refine st_int ?_
  | ((with_reducible refine' st_ixL ?hq ?he ?_); (case hq => walk_at "sqL"); (case he => walk_at "at"))
  | ((with_reducible refine' st_ixT ?hq ?he ?_); (case hq => walk_at "sqT"); (case he => walk_at "at"))
  | with_reducible refine st_bm ?_ | with_reducible refine st_app ?_
  | ((with_reducible refine' st_append ?hq ?hl ?_); (case hq => walk_at "hp"); (case hl => walk_at "line"))
  | ((with_reducible refine' st_len (n := 0) ?hq ?_); (case hq => first | exact Or.inl (by walk_at "sqL") | exact Or.inr (by walk_at "sqT")))
  | ((with_reducible refine' st_listOf ?hq ?_); (case hq => first | exact Or.inl (by walk_at "sqL") | exact Or.inr (by walk_at "sqT")))
  | ((with_reducible refine st_name ?_); (try dsimp only [List.set_cons_zero, List.set_cons_succ])) | with_reducible refine st_par ?_
  | with_reducible refine st_gcons ?_ | with_reducible refine st_gnil ?_ | with_reducible refine st_gsub ?_ | with_reducible refine st_sFld ?_
  | ((with_reducible refine' st_gtup ?hq ?hl ?_); (case hq => walk_at "sqT"); (case hl => rfl))
  | ((with_reducible refine' st_setL ?hq ?hl ?_); (case hq => walk_at "hp"); (case hl => first | rfl | exact ix0 | exact ixN_nat (by assumption)); (try simp only [Int.reduceToNat, List.set_cons_zero, List.set_cons_succ]))
  | with_reducible refine st_intI ?_ | with_reducible refine st_abs ?_
  | ((with_reducible refine' st_popAt ?hq ?hk ?hy ?_); (case hq => walk_at "hp"); (case hk => exact seq0); (case hy => rfl))
  | ((with_reducible refine' and_left ?ht ?_); (case ht => walk_at "ty"))
  | with_reducible refine st_lc ?_ | with_reducible refine st_for ?_ | with_reducible refine st_iL ?_ | with_reducible refine st_iT ?_ | with_reducible refine st_iR1 ?_ | with_reducible refine st_iR2 ?_ | with_reducible refine st_iZ ?_
  | ((with_reducible refine' st_refL ?hq ?_); (case hq => walk_at "sqL")) | ((with_reducible refine' st_refT ?hq ?_); (case hq => walk_at "sqT"))
  | ((with_reducible refine' st_rng1 ?hq ?_); (case hq => walk_at "side")) | ((with_reducible refine' st_rng2 ?hq ?_); (case hq => walk_at "side"))
  | ((with_reducible refine' st_zip ?hq ?hr ?_); (case hq => walk_at "sqb"); (case hr => walk_at "sqb"))
  | ((with_reducible refine' st_size ?hw ?_); (case hw => walk_at "line"))
  | ((with_reducible refine' st_sum ?hq ?_); (case hq => walk_at "sqL"))
  | with_reducible refine st_two ?_ | with_reducible refine st_yes ?_ | ((with_reducible refine' st_wipe ?hw ?_); (case hw => rfl))
  | ((with_reducible refine' st_slL ?hq ?_); (case hq => walk_at "sqL"))
  | ((with_reducible refine' st_cat ?hq ?hr ?hl ?_); (case hq => walk_at "hp"); (case hr => walk_at "hp"); (case hl => walk_at "line"))
  | ((with_reducible refine' st_isi ?hk ?he ?_); (case hk => walk_at "kd"); (case he => walk_at "kit"))
  | ((with_reducible refine' st_ins ?hq ?hc ?hn ?hl ?_); (case hq => walk_at "hp"); (case hc => with_reducible assumption); (case hn => with_reducible assumption); (case hl => walk_at "flen"); walk_at "puts")
  | ((with_reducible refine' st_att ?hq ?hc ?hn ?hl ?_); (case hq => walk_at "hp"); (case hc => with_reducible assumption); (case hn => with_reducible assumption); (case hl => walk_at "lk"))
  | ((with_reducible refine' st_mt ?hq ?hl ?_); (case hq => walk_at "hp"); (case hl => walk_at "lk"))
  | ((with_reducible refine' st_extend ?hq ?hr ?hl ?_); (case hq => walk_at "hp"); (case hr => walk_at "hp"); (case hl => walk_at "line"))
  | with_reducible refine st_next ?_ | with_reducible refine st_retN ?_ | (with_reducible refine iteNT ?_) | (with_reducible refine iteNF ?_) | (with_reducible refine iteT ?_) | (with_reducible refine iteF ?_))
local macro_rules | `(tactic| walk_at "side") => `(tactic| first | omega | decide | assumption | exact ⟨by omega, by omega⟩ | exact Or.inr ⟨by omega, by omega⟩ | exact Or.inl ⟨by omega, by omega⟩ | (simp only [List.length_map, List.length_cons, List.length_nil, List.length_append] at *; omega))
local macro_rules | `(tactic| walk_at "hp") => `(tactic| first | assumption | exact upd_same | refine upd_old (by assumption) (by walk_at "hp") | (rw [upd_ne (by first | assumption | exact Ne.symm (by assumption))]; walk_at "hp"))
local macro_rules | `(tactic| walk_at "sqL") => `(tactic| first | assumption | exact SqL.of (by walk_at "hp"))
local macro_rules | `(tactic| walk_at "sqT") => `(tactic| first | assumption | exact SqT.of (by walk_at "hp"))
local macro_rules | `(tactic| walk_at "sqb") => `(tactic| (unfold SqB; first | ((with_reducible change SqL _ _ _ _); walk_at "sqL") | ((with_reducible change SqT _ _ _ _); walk_at "sqT")))
local macro_rules | `(tactic| walk_at "line") => `(tactic| first | assumption | decide | (apply line_of; walk_at "side") | (apply line_lt; walk_at "side"))
local macro_rules | `(tactic| walk_at "ty") => `(tactic| first | with_reducible exact ty_lst (by walk_at "hp"))
local macro_rules | `(tactic| walk_at "at") => `(tactic| with_reducible first | assumption | exact at0 | exact at1 | exact at2 | exact at3 | exact at4 | exact at5 | exact at6 | exact at7 | exact at8)
local macro_rules | `(tactic| walk_at "st") => `(tactic| (repeat walk_at "st1"))
local macro_rules | `(tactic| walk_at "lk") => `(tactic| first | with_reducible assumption | rfl)
local macro_rules | `(tactic| walk_at "kd") => `(tactic| first | exact .base (.int _) | exact .base .non | exact .base (.bl _) | exact .base (.str _) | exact .base (.tup (by walk_at "hp")) | exact .base (.lst (by walk_at "hp")) | exact .base (.dK (by walk_at "hp")) | exact .base (.dT (by walk_at "hp")))
local macro_rules | `(tactic| walk_at "kit") => `(tactic| with_reducible first
  | exact kit_NoneType_bool
  | exact kit_NoneType_int
  | exact kit_NoneType_str
  | exact kit_NoneType_tuple
  | exact kit_NoneType_list
  | exact kit_NoneType_dict
  | exact kit_bool_bool
  | exact kit_bool_int
  | exact kit_bool_str
  | exact kit_bool_tuple
  | exact kit_bool_list
  | exact kit_bool_dict
  | exact kit_int_bool
  | exact kit_int_int
  | exact kit_int_str
  | exact kit_int_tuple
  | exact kit_int_list
  | exact kit_int_dict
  | exact kit_str_bool
  | exact kit_str_int
  | exact kit_str_str
  | exact kit_str_tuple
  | exact kit_str_list
  | exact kit_str_dict
  | exact kit_tuple_bool
  | exact kit_tuple_int
  | exact kit_tuple_str
  | exact kit_tuple_tuple
  | exact kit_tuple_list
  | exact kit_tuple_dict
  | exact kit_list_bool
  | exact kit_list_int
  | exact kit_list_str
  | exact kit_list_tuple
  | exact kit_list_list
  | exact kit_list_dict
  | exact kit_dict_bool
  | exact kit_dict_int
  | exact kit_dict_str
  | exact kit_dict_tuple
  | exact kit_dict_list
  | exact kit_dict_dict)
local macro_rules | `(tactic| walk_at "flen") => `(tactic| decide)
local macro_rules | `(tactic| walk_at "puts") => `(tactic| skip)

local macro_rules | `(tactic| walk_at "lk") => `(tactic| with_reducible first | assumption | exact DiskF_get_lying | exact DiskF_get_pending | exact DiskF_get_spoils | exact DiskF_no (by decide +kernel) (by decide +kernel) (by decide +kernel))
local macro_rules | `(tactic| walk_at "puts") => `(tactic| try simp only [DiskF_put_lying, DiskF_put_pending, DiskF_put_spoils, DiskF0_put, DiskF1_put, DiskF2_put])
local macro_rules | `(tactic| walk_at "flen") => `(tactic| first | with_reducible assumption | with_reducible (first | exact DiskF_len | exact DiskF0_len | exact DiskF1_len | exact DiskF2_len) | decide)
section
variable {Z : Ads} {P : Program} {w : World} {K : PySem.W.Frag} {mg : Str → Option Value} {base : Heap}
/-! ### all disks and their rows -/
structure Rw where
  d : Addr
  m : Addr
  l : Addr
  q : Addr
  a : Addr
  b : Addr
  ls : List PyData
  ps : List PyData
def Rw.foot (r : Rw) : List Addr := [r.d, r.m, r.l, r.q, r.a, r.b]
def Rw.Ok (C : Addr) (H : Hp) (r : Rw) : Prop := DM C H r.d r.m r.l r.q r.a r.b r.ls r.ps
theorem Rw.Ok.live {C : Addr} {H : Hp} {r : Rw} (h : r.Ok C H) : ∀ x ∈ r.foot, ∃ o, H x = some o := by
  obtain ⟨⟨⟨dx, n, hd⟩, ⟨xl, hl, _⟩, ⟨xq, hq, _⟩, _⟩, hm, ⟨xs, ha, _⟩, ⟨ys, hb, _⟩, _, _, _⟩ := h
  intro x hx
  simp only [Rw.foot, List.mem_cons, List.not_mem_nil, or_false] at hx
  rcases hx with rfl | rfl | rfl | rfl | rfl | rfl
  · exact ⟨_, hd⟩
  · exact ⟨_, hm⟩
  · exact ⟨_, hl⟩
  · exact ⟨_, hq⟩
  · exact ⟨_, ha⟩
  · exact ⟨_, hb⟩
structure All (C : Addr) (H : Hp) (p g s ds ms : Addr) (rs : List Rw) (N : Nat) : Prop where
  pot : Pot H p g s
  hds : H ds = some (.lst (rs.map fun r => V.ref r.d))
  hms : H ms = some (.lst (rs.map fun r => V.ref r.m))
  ok : ∀ r ∈ rs, r.Ok C H
  sz : ∀ r ∈ rs, r.ls.length + r.ps.length ≤ N
  pw : ∀ (i j : Nat) (r r' : Rw), i ≠ j → rs[i]? = some r → rs[j]? = some r' → ∀ x ∈ r.foot, x ∉ r'.foot
  top : ∀ r ∈ rs, ∀ x ∈ [p, g, s, ds, ms], x ∉ r.foot
  ne : ds ≠ ms
  dp : ds ≠ p ∧ ds ≠ g ∧ ds ≠ s
  mp : ms ≠ p ∧ ms ≠ g ∧ ms ≠ s
  pos : 0 < rs.length
  few : rs.length ≤ 3
theorem All.keep {C : Addr} {H H' : Hp} {p g s ds ms : Addr} {rs : List Rw} {N : Nat} (h : All C H p g s ds ms rs N) (f : Fr [] H H') : All C H' p g s ds ms rs N :=
  ⟨h.pot.keep f, f.same _ _ h.hds, f.same _ _ h.hms, fun r hr => (h.ok r hr).keep f fun _ _ => List.not_mem_nil, h.sz, h.pw, h.top, h.ne, h.dp, h.mp, h.pos, h.few⟩
/-- something is drawn -/
theorem All.drawn {C : Addr} {H H' : Hp} {p g s ds ms : Addr} {rs : List Rw} {N : Nat} (h : All C H p g s ds ms rs N) (f : Fr [p, g] H H') (hP : Pot H' p g s) : All C H' p g s ds ms rs N := by
  refine ⟨hP, f.keep _ _ (by simp [h.dp.1, h.dp.2.1]) h.hds, f.keep _ _ (by simp [h.mp.1, h.mp.2.1]) h.hms, fun r hr => (h.ok r hr).keep f fun x hx hm => ?_, h.sz, h.pw, h.top, h.ne, h.dp, h.mp, h.pos, h.few⟩
  have t := h.top r hr
  simp only [List.mem_cons, List.not_mem_nil, or_false] at hm
  rcases hm with rfl | rfl
  · exact t x (by simp) hx
  · exact t x (by simp) hx
/-- one of them has done a deed -/
theorem All.deed {C : Addr} {H H' : Hp} {p g s ds ms : Addr} {rs : List Rw} {N k : Nat} {r : Rw} {q' a' b' : Addr} {ls' ps' : List PyData} (h : All C H p g s ds ms rs N) (hk : rs[k]? = some r) (hP : Pot H' p g s) (D : DM C H' r.d r.m r.l q' a' b' ls' ps')
    (hs : ls'.length + ps'.length ≤ r.ls.length + r.ps.length + 1) (nq : q' = r.q ∨ H q' = none) (na : a' = r.a ∨ H a' = none) (nb : b' = r.b ∨ H b' = none) (f : Fr [p, g, r.d, r.m, r.l, r.q] H H') :
    All C H' p g s ds ms (rs.set k ⟨r.d, r.m, r.l, q', a', b', ls', ps'⟩) (N + 1) := by
  have hr : r ∈ rs := List.mem_of_getElem? hk
  have hkl : k < rs.length := (List.getElem?_eq_some_iff.mp hk).1
  have t := h.top r hr
  have sub : ∀ x ∈ [r.d, r.m, r.l, r.q], x ∈ r.foot := fun x hx => by
    simp only [List.mem_cons, List.not_mem_nil, or_false] at hx
    simp only [Rw.foot, List.mem_cons, List.not_mem_nil, or_false]
    rcases hx with rfl | rfl | rfl | rfl <;> simp
  have inf : ∀ x, x ∈ [p, g, r.d, r.m, r.l, r.q] → x = p ∨ x = g ∨ x ∈ r.foot := fun x hx => by
    rcases List.mem_cons.mp hx with e | hx
    · exact .inl e
    · rcases List.mem_cons.mp hx with e | hx
      · exact .inr (.inl e)
      · exact .inr (.inr (sub x hx))
  have new : ∀ x ∈ (Rw.mk r.d r.m r.l q' a' b' ls' ps').foot, x ∈ r.foot ∨ H x = none := fun x hx => by
    simp only [Rw.foot, List.mem_cons, List.not_mem_nil, or_false] at hx ⊢
    rcases hx with rfl | rfl | rfl | rfl | rfl | rfl
    · exact .inl (by simp)
    · exact .inl (by simp)
    · exact .inl (by simp)
    · rcases nq with e | e
      · exact .inl (by simp [e])
      · exact .inr e
    · rcases na with e | e
      · exact .inl (by simp [e])
      · exact .inr e
    · rcases nb with e | e
      · exact .inl (by simp [e])
      · exact .inr e
  have e1 : (rs.set k ⟨r.d, r.m, r.l, q', a', b', ls', ps'⟩).map (fun r => V.ref r.d) = rs.map fun r => V.ref r.d := by
    refine List.ext_getElem? fun i => ?_
    rw [List.getElem?_map, List.getElem?_map, List.getElem?_set]
    by_cases hi : k = i
    · subst hi
      rw [if_pos rfl, if_pos hkl, hk]
      rfl
    · rw [if_neg hi]
  have e2 : (rs.set k ⟨r.d, r.m, r.l, q', a', b', ls', ps'⟩).map (fun r => V.ref r.m) = rs.map fun r => V.ref r.m := by
    refine List.ext_getElem? fun i => ?_
    rw [List.getElem?_map, List.getElem?_map, List.getElem?_set]
    by_cases hi : k = i
    · subst hi
      rw [if_pos rfl, if_pos hkl, hk]
      rfl
    · rw [if_neg hi]
  have tds : ds ∉ [p, g, r.d, r.m, r.l, r.q] := fun z => by
    rcases inf ds z with e | e | e
    · exact h.dp.1 e
    · exact h.dp.2.1 e
    · exact t ds (by simp) e
  have tms : ms ∉ [p, g, r.d, r.m, r.l, r.q] := fun z => by
    rcases inf ms z with e | e | e
    · exact h.mp.1 e
    · exact h.mp.2.1 e
    · exact t ms (by simp) e
  have mem : ∀ r', r' ∈ rs.set k ⟨r.d, r.m, r.l, q', a', b', ls', ps'⟩ → r' = ⟨r.d, r.m, r.l, q', a', b', ls', ps'⟩ ∨ ∃ i, i ≠ k ∧ rs[i]? = some r' := fun r' h' => by
    obtain ⟨i, hi⟩ := List.getElem?_of_mem h'
    rw [List.getElem?_set] at hi
    by_cases hik : k = i
    · subst hik
      rw [if_pos rfl, if_pos hkl] at hi
      exact .inl (Option.some.inj hi).symm
    · rw [if_neg hik] at hi
      exact .inr ⟨i, Ne.symm hik, hi⟩
  refine ⟨hP, by rw [e1]; exact f.keep _ _ tds h.hds, by rw [e2]; exact f.keep _ _ tms h.hms, fun r' h' => ?_, fun r' h' => ?_, fun i j u u' hij hu hu' x hx => ?_, fun r' h' x hx hm => ?_, h.ne, h.dp, h.mp, by rw [List.length_set]; exact h.pos, by rw [List.length_set]; exact h.few⟩
  · rcases mem r' h' with rfl | ⟨i, hik, hi⟩
    · exact D
    · refine (h.ok r' (List.mem_of_getElem? hi)).keep f fun x hx hm => ?_
      rcases inf x hm with e | e | e
      · exact h.top r' (List.mem_of_getElem? hi) x (by rw [e]; simp) hx
      · exact h.top r' (List.mem_of_getElem? hi) x (by rw [e]; simp) hx
      · exact h.pw i k r' r hik hi hk x hx e
  · rcases mem r' h' with rfl | ⟨i, hik, hi⟩
    · have := h.sz r hr
      show ls'.length + ps'.length ≤ N + 1
      omega
    · exact Nat.le_succ_of_le (h.sz r' (List.mem_of_getElem? hi))
  · rw [List.getElem?_set] at hu hu'
    by_cases hik : k = i
    · subst hik
      rw [if_pos rfl, if_pos hkl] at hu
      rw [if_neg hij] at hu'
      cases hu
      intro hx'
      rcases new x hx with e | e
      · exact h.pw k j r u' hij hk hu' x e hx'
      · obtain ⟨o, ho⟩ := (h.ok u' (List.mem_of_getElem? hu')).live x hx'
        rw [e] at ho
        cases ho
    · rw [if_neg hik] at hu
      by_cases hjk : k = j
      · subst hjk
        rw [if_pos rfl, if_pos hkl] at hu'
        cases hu'
        intro hx'
        rcases new x hx' with e | e
        · exact h.pw i k u r hij hu hk x hx e
        · obtain ⟨o, ho⟩ := (h.ok u (List.mem_of_getElem? hu)).live x hx
          rw [e] at ho
          cases ho
      · rw [if_neg hjk] at hu'
        exact h.pw i j u u' hij hu hu' x hx
  · rcases mem r' h' with rfl | ⟨i, hik, hi⟩
    · rcases new x hm with e | e
      · exact t x hx e
      · have lv : ∃ o, H x = some o := by
          obtain ⟨⟨gs, ss, tt, c, h1, h2, h3, h4⟩, _, _, _⟩ := h.pot
          simp only [List.mem_cons, List.not_mem_nil, or_false] at hx
          rcases hx with rfl | rfl | rfl | rfl | rfl
          · exact ⟨_, h1⟩
          · exact ⟨_, h2⟩
          · exact ⟨_, h3⟩
          · exact ⟨_, h.hds⟩
          · exact ⟨_, h.hms⟩
        obtain ⟨o, ho⟩ := lv
        rw [e] at ho
        cases ho
    · exact h.top r' (List.mem_of_getElem? hi) x hx hm
/-- one more -/
theorem All.more {C : Addr} {H H' : Hp} {p g s ds ms : Addr} {rs : List Rw} {N : Nat} {r : Rw} (h : All C H p g s ds ms rs N) (f : Fr [ds, ms] H H') (hd : H' ds = some (.lst ((rs ++ [r]).map fun r => V.ref r.d))) (hm : H' ms = some (.lst ((rs ++ [r]).map fun r => V.ref r.m)))
    (ok : r.Ok C H') (hsz : r.ls.length + r.ps.length ≤ N) (fresh : ∀ x ∈ r.foot, H x = none) (few : rs.length < 3) : All C H' p g s ds ms (rs ++ [r]) N := by
  have gone : ∀ x ∈ r.foot, ∀ o, H x = some o → False := fun x hx o ho => by
    rw [fresh x hx] at ho
    cases ho
  have lv : ∀ x ∈ [p, g, s, ds, ms], ∃ o, H x = some o := fun x hx => by
    obtain ⟨⟨gs, ss, tt, c, h1, h2, h3, h4⟩, _, _, _⟩ := h.pot
    simp only [List.mem_cons, List.not_mem_nil, or_false] at hx
    rcases hx with rfl | rfl | rfl | rfl | rfl
    · exact ⟨_, h1⟩
    · exact ⟨_, h2⟩
    · exact ⟨_, h3⟩
    · exact ⟨_, h.hds⟩
    · exact ⟨_, h.hms⟩
  refine ⟨h.pot.keep f (by simp [h.dp.1.symm, h.mp.1.symm]) (by simp [h.dp.2.1.symm, h.mp.2.1.symm]) (by simp [h.dp.2.2.symm, h.mp.2.2.symm]), hd, hm, fun u hu => ?_, fun u hu => ?_, fun i j u u' hij hi hj x hx hx' => ?_, fun u hu x hx hxu => ?_, h.ne, h.dp, h.mp, by simp, by simp; omega⟩
  · rcases List.mem_append.mp hu with hu | hu
    · refine (h.ok u hu).keep f fun x hx hm => ?_
      simp only [List.mem_cons, List.not_mem_nil, or_false] at hm
      rcases hm with rfl | rfl
      · exact h.top u hu x (by simp) hx
      · exact h.top u hu x (by simp) hx
    · rw [List.mem_singleton.mp hu]; exact ok
  · rcases List.mem_append.mp hu with hu | hu
    · exact h.sz u hu
    · rw [List.mem_singleton.mp hu]; exact hsz
  · rcases Nat.lt_trichotomy i rs.length with hi' | hi' | hi'
    · rw [List.getElem?_append_left hi'] at hi
      rcases Nat.lt_trichotomy j rs.length with hj' | hj' | hj'
      · rw [List.getElem?_append_left hj'] at hj
        exact h.pw i j u u' hij hi hj x hx hx'
      · subst hj'
        rw [List.getElem?_append_right (Nat.le_refl _), Nat.sub_self] at hj
        cases hj
        obtain ⟨o, ho⟩ := (h.ok u (List.mem_of_getElem? hi)).live x hx
        exact gone x hx' o ho
      · rw [List.getElem?_eq_none (by simp; omega)] at hj
        cases hj
    · subst hi'
      rw [List.getElem?_append_right (Nat.le_refl _), Nat.sub_self] at hi
      cases hi
      rcases Nat.lt_trichotomy j rs.length with hj' | hj' | hj'
      · rw [List.getElem?_append_left hj'] at hj
        obtain ⟨o, ho⟩ := (h.ok u' (List.mem_of_getElem? hj)).live x hx'
        exact gone x hx o ho
      · exact hij hj'.symm
      · rw [List.getElem?_eq_none (by simp; omega)] at hj
        cases hj
    · rw [List.getElem?_eq_none (by simp; omega)] at hi
      cases hi
  · rcases List.mem_append.mp hu with hu | hu
    · exact h.top u hu x hx hxu
    · rw [List.mem_singleton.mp hu] at hxu
      obtain ⟨o, ho⟩ := lv x hx
      exact gone x hxu o ho
def spLaw (K : PySem.W.Frag) : Sp := fun vs H Q _ => ∃ (a : Addr) (ns : List Int), vs = [.ref a] ∧ SqL K H a (ns.map V.int) ∧ ns.length ≤ 63 ∧ ∀ H', Q (.bl true) H'
abbrev s_law : Stmt := top 78
theorem sc_law : FnScope ["script", "pot", "disks", "models", "turn", "at", "disk", "model"] ["script"] (defScope s_law) := ⟨rfl, rfl, rfl, by decide +kernel, rfl, by decide +kernel, by decide +kernel⟩
theorem ok_law {f : Addr} {fd : FuncData} (F : Fun K "law" "law" s_law f fd) (T : Txt K mg Z) (D_law_pot : Dn P w K mg base "_law_pot" 1 ["script"] (spPot K)) (D_law_draw : Dn P w K mg base "_law_draw" 1 ["pot", "many"] spDraw) (C_Disk : Cn P w K mg base "Disk" Z.Disk 1 ["self"] (spInit Z.Disk))
    (D_law_is_so : Dn P w K mg base "_law_is_so" 2 ["disk", "model"] (spIsSo Z.Disk)) (D_law_deed : Dn P w K mg base "_law_deed" 13 ["pot", "disk", "model"] (spDeed Z.Disk)) (M_Disk_copy : Mn P w K mg base Z.Disk "copy" 3 ["self"] (spCopy Z.Disk)) :
    FnOk P w K mg base (L2.CX P w) 14 f fd ["script"] (spLaw K) := by
  have cl := T.cl
  refine okN F sc_law (fun vs H Q E h => ?_) (fun cdv A outer s0 H vs Q E hr h => ?_)
  · obtain ⟨a, ns, rfl, _⟩ := h
    rfl
  · obtain ⟨a, ns, rfl, hS, hlen, k⟩ := h
    refine ⟨_, [some _, none, none, none, none, none, none, none], rfl, (pss_cons (ps_set (i := 1) sc_law.nd rfl (by first | exact Or.inl rfl | exact Or.inr rfl) (pe_d D_law_pot E0 (hr.mono (by first | decide | omega)) (by rfl) passL (pa_cons (pv 0) pa_nil)))
      (pss_cons (ps_par (i := 2) (j := 3) rfl sc_law.nd rfl rfl (by decide) rfl rfl (pa_cons (pe_lst (pa_cons (pe_c0 C_Disk E0 (hr.mono (by first | decide | omega)) (by rfl) passL) pa_nil)) (pa_cons (pe_lst (pa_cons (pe_lst (pa_cons (pe_lst pa_nil) (pa_cons (pe_lst pa_nil) pa_nil))) pa_nil)) pa_nil)) rfl)
      (pss_cons (ps_if (pt_not (pt_val (pe_d D_law_is_so E0 (hr.mono (by first | decide | omega)) (by rfl) passL (pa_cons (pe_ix (kIxL (K := K)) (pv 2) pe_int (fun _ _ => rfl)) (pa_cons (pe_ix (kIxL (K := K)) (pv 3) pe_int (fun _ _ => rfl)) pa_nil))))) (pss_one (ps_ret pe_bl)) pss_nil)
      (pss_cons (ps_for PassesOwn.never rfl (pi_range1 (by rfl) T.n_range (pa_cons (pe_op op_add pe_int (pe_d D_law_draw E0 (hr.mono (by first | decide | omega)) (by rfl) passL (pa_cons (pv 1) (pa_cons pe_int pa_nil)))) pa_nil)) (pg_name (i := 4) sc_law.nd rfl (by first | exact Or.inl rfl | exact Or.inr rfl))
      (pss_cons (ps_set (i := 5) sc_law.nd rfl (by first | exact Or.inl rfl | exact Or.inr rfl) (pe_d D_law_draw E0 (hr.mono (by first | decide | omega)) (by rfl) passL (pa_cons (pv 1) (pa_cons (pe_callB (kLen (K := K)) (by rfl) T.n_len (by decide +kernel) (pa_cons (pv 2) pa_nil)) pa_nil))))
      (C8.pss_cut (ps_if (PW.pt (pw_and (pt_cmpR op_lt (pe_callB (kLen (K := K)) (by rfl) T.n_len (by decide +kernel) (pa_cons (pv 2) pa_nil)) pe_int (by first | exact nomark _ | rfl)) (pw_and1 (pt_cmpR op_eq (pe_d D_law_draw E0 (hr.mono (by first | decide | omega)) (by rfl) passL (pa_cons (pv 1) (pa_cons pe_int pa_nil))) pe_int (by first | exact nomark _ | rfl))))) (pss_cons (ps_expr (kApp (K := K) (pv 2) (pe_m0 M_Disk_copy E0 (hr.mono (by first | decide | omega)) (pe_ix (kIxL (K := K)) (pv 2) (pv 5) (fun _ _ => rfl)) passL _)))
      (pss_one (ps_expr (kApp (K := K) (pv 3) (pe_lst (pa_cons (pe_callTy (kListOf (K := K)) (by rfl) T.n_list (by decide +kernel) (pa_cons (pe_ix (kIxL (K := K)) (pe_ix (kIxL (K := K)) (pv 3) (pv 5) (fun _ _ => rfl)) pe_int (fun _ _ => rfl)) pa_nil)) (pa_cons (pe_callTy (kListOf (K := K)) (by rfl) T.n_list (by decide +kernel) (pa_cons (pe_ix (kIxL (K := K)) (pe_ix (kIxL (K := K)) (pv 3) (pv 5) (fun _ _ => rfl)) pe_int (fun _ _ => rfl)) pa_nil)) pa_nil))))))) pss_nil)
      (pss_cons (ps_if (pt_not (pt_val (pe_d D_law_deed E0 (hr.mono (by first | decide | omega)) (by rfl) passL (pa_cons (pv 1) (pa_cons (pe_ix (kIxL (K := K)) (pv 2) (pv 5) (fun _ _ => rfl)) (pa_cons (pe_ix (kIxL (K := K)) (pv 3) (pv 5) (fun _ _ => rfl)) pa_nil)))))) (pss_one (ps_ret pe_bl)) pss_nil)
      (pss_one (ps_if (pt_not (pt_val (pe_callB (kAll (K := K)) (by rfl) T.n_all (by decide +kernel) (pa_cons (pe_lc (own := [("disk", 6), ("model", 7)]) (g := (gTup K 2 (gCons (gName 6) (gCons (gName 7) gNil)))) (tt := tYes) rfl sc_law.nd (kZip false false (K := K) (by rfl) T.n_zip (pa_cons (pv 2) (pa_cons (pv 3) pa_nil))) (blkOk_by (N := ["script", "pot", "disks", "models", "turn", "at", "disk", "model"]) (sc := defScope s_law) (by decide +kernel)) (fun _ _ _ _ _ => (kTupT (K := K) (n := 2) (pgs_cons (pg_name (i := 6) sc_law.nd rfl (by first | exact Or.inl rfl | exact Or.inr rfl)) (pgs_cons (pg_name (i := 7) sc_law.nd rfl (by first | exact Or.inl rfl | exact Or.inr rfl)) pgs_nil)))) (fun _ _ _ _ _ => pts_nil) (fun _ _ _ _ _ => (pe_d D_law_is_so E0 (hr.mono (by first | decide | omega)) (by rfl) passL (pa_cons (pv 6) (pa_cons (pv 7) pa_nil))))) pa_nil)))) (pss_one (ps_ret pe_bl)) pss_nil))))))
      (pss_one (ps_ret pe_bl)))))), ?_⟩
    walk_at "st"
    refine ⟨a, ns, rfl, hS, hlen, fun H1 p g s hP1 f1 p0 g0 s0' => ?_⟩
    walk_at "st"
    intro d dx hd0 hdx0 dxd
    refine ⟨d, dx, rfl, upd_same, fun H2 l q hl0 hq0 D2 f2 => ⟨rfl, ?_⟩⟩
    walk_at "st"
    obtain ⟨⟨dx2, n2, hd2⟩, ⟨xl, hl2, tl2⟩, ⟨xq, hq2, tq2⟩, lq⟩ := id D2
    cases tl2
    cases tq2
    intro ds hds0
    walk_at "st"
    intro a1 ha10
    walk_at "st"
    intro b1 hb10
    walk_at "st"
    intro m hm0
    walk_at "st"
    intro ms hms0
    walk_at "st"
    have g1 : Fr [] H2 (upd H2 ds (.lst [V.ref d])) := Fr.up hds0
    have g2 := g1.new (o := .lst []) ha10
    have g3 := g2.new (o := .lst []) hb10
    have g4 := g3.new (o := .lst [V.ref a1, V.ref b1]) hm0
    have g5 := g4.new (o := .lst [V.ref m]) hms0
    have F2 : Fr [d] H1 H2 := (((Fr.refl H1).new (o := .own d) hdx0).new (o := .ins Z.Disk dx []) (by rw [upd_ne dxd.symm]; exact hd0)).trans f2
    have nd := hP1.ne hd0
    have hP2 : Pot H2 p g s := hP1.keep F2 (by simpa using nd.1.symm) (by simpa using nd.2.1.symm) (by simpa using nd.2.2.symm)
    have hP3 := hP2.keep g5
    have D3 := D2.keep g5 List.not_mem_nil List.not_mem_nil List.not_mem_nil
    have na1 : H2 a1 = none := g1.free ha10
    have nb1 : H2 b1 = none := g2.free hb10
    have nm : H2 m = none := g3.free hm0
    have nms : H2 ms = none := g4.free hms0
    have l1 : H1 l = none := fresh_of (fresh_of hl0)
    have q1 : H1 q = none := fresh_of (fresh_of hq0)
    have ok1 : Rw.Ok Z.Disk (upd (upd (upd (upd (upd H2 ds (.lst [V.ref d])) a1 (.lst [])) b1 (.lst [])) m (.lst [V.ref a1, V.ref b1])) ms (.lst [V.ref m])) ⟨d, m, l, q, a1, b1, [], []⟩ := ⟨D3, by walk_at "hp", ⟨[], by walk_at "hp", .nil⟩, ⟨[], by walk_at "hp", .nil⟩,
      ⟨ne_of_none hl2 nm, ne_of_none hl2 na1, ne_of_none hl2 nb1, ne_of_none hq2 nm, ne_of_none hq2 na1, ne_of_none hq2 nb1, (ne_of_none (b := m) (show _ = some (HO.lst []) by walk_at "hp") hm0).symm, (ne_of_none (b := m) (show _ = some (HO.lst []) by walk_at "hp") hm0).symm⟩, (fun _ h => nomatch h), (fun _ h => nomatch h)⟩
    have pl := hP1.ne l1
    have pq := hP1.ne q1
    have pds := hP2.ne hds0
    have pa := hP2.ne na1
    have pb := hP2.ne nb1
    have pm := hP2.ne nm
    have pms := hP2.ne nms
    have all0 : All Z.Disk (upd (upd (upd (upd (upd H2 ds (.lst [V.ref d])) a1 (.lst [])) b1 (.lst [])) m (.lst [V.ref a1, V.ref b1])) ms (.lst [V.ref m])) p g s ds ms [⟨d, m, l, q, a1, b1, [], []⟩] 0 := by
      refine ⟨hP3, by walk_at "hp", upd_same, fun r hr => ?_, fun r hr => ?_, fun i j r r' hij hi hj => ?_, fun r hr x hx hm => ?_, (ne_of_none (b := ms) (show _ = some (HO.lst [V.ref d]) by walk_at "hp") hms0), pds, pms, by simp, by simp⟩
      · rw [List.mem_singleton.mp hr]; exact ok1
      · rw [List.mem_singleton.mp hr]; exact Nat.le_refl _
      · exfalso
        cases i with
        | zero =>
          cases j with
          | zero => exact hij rfl
          | succ j => cases hj
        | succ i => cases hi
      · rw [List.mem_singleton.mp hr] at hm
        have dsd : ds ≠ d := (ne_of_none hd2 hds0).symm
        have dsl : ds ≠ l := (ne_of_none hl2 hds0).symm
        have dsq : ds ≠ q := (ne_of_none hq2 hds0).symm
        have dsa : ds ≠ a1 := (fresh_ne ha10).symm
        have dsb : ds ≠ b1 := ne_of_none (b := b1) (show _ = some (HO.lst [V.ref d]) by walk_at "hp") hb10
        have dsm : ds ≠ m := ne_of_none (b := m) (show _ = some (HO.lst [V.ref d]) by walk_at "hp") hm0
        have msd : ms ≠ d := (ne_of_none hd2 nms).symm
        have msl : ms ≠ l := (ne_of_none hl2 nms).symm
        have msq : ms ≠ q := (ne_of_none hq2 nms).symm
        have msa : ms ≠ a1 := (ne_of_none (b := ms) (show _ = some (HO.lst []) by walk_at "hp") hms0).symm
        have msb : ms ≠ b1 := (ne_of_none (b := ms) (show _ = some (HO.lst []) by walk_at "hp") hms0).symm
        have msm : ms ≠ m := fresh_ne hms0
        simp only [Rw.foot, List.mem_cons, List.not_mem_nil, or_false] at hx hm
        rcases hx with rfl | rfl | rfl | rfl | rfl
        · rcases hm with e | e | e | e | e | e
          · exact nd.1 e.symm
          · exact pm.1 e.symm
          · exact pl.1 e.symm
          · exact pq.1 e.symm
          · exact pa.1 e.symm
          · exact pb.1 e.symm
        · rcases hm with e | e | e | e | e | e
          · exact nd.2.1 e.symm
          · exact pm.2.1 e.symm
          · exact pl.2.1 e.symm
          · exact pq.2.1 e.symm
          · exact pa.2.1 e.symm
          · exact pb.2.1 e.symm
        · rcases hm with e | e | e | e | e | e
          · exact nd.2.2 e.symm
          · exact pm.2.2 e.symm
          · exact pl.2.2 e.symm
          · exact pq.2.2 e.symm
          · exact pa.2.2 e.symm
          · exact pb.2.2 e.symm
        · rcases hm with e | e | e | e | e | e
          · exact dsd e
          · exact dsm e
          · exact dsl e
          · exact dsq e
          · exact dsa e
          · exact dsb e
        · rcases hm with e | e | e | e | e | e
          · exact msd e
          · exact msm e
          · exact msl e
          · exact msq e
          · exact msa e
          · exact msb e
    refine ⟨d, m, l, q, a1, b1, [], [], rfl, ok1, by simp, fun H4 f4 => ?_⟩
    have all1 := all0.keep f4
    walk_at "st"
    refine ⟨p, g, s, _, rfl, all1.pot, by omega, by omega, fun H5 n n0 n1 hP5 f5 => ?_⟩
    have all2 := all1.drawn f5 hP5
    walk_at "st"
    refine for_it walk_range (fun i σ H' => ∃ rs o1 o2 o3 o4, σ = [some (.ref a), some (.ref p), some (.ref ds), some (.ref ms), o1, o2, o3, o4] ∧ All Z.Disk H' p g s ds ms rs i) ⟨_, none, none, none, none, rfl, all2⟩ (fun _ _ _ _ _ => trivial) ?_ ?_
    · rintro i x σ H6 H7 hi ⟨rs, o1, o2, o3, o4, rfl, A⟩ ⟨rfl, rfl⟩
      have hds := A.hds
      have hms := A.hms
      have hpos := A.pos
      have hfew := A.few
      walk_at "st"
      refine ⟨p, g, s, _, rfl, A.pot, by rw [List.length_map]; omega, by rw [List.length_map]; omega, fun H8 at_ a0 a1 hP8 f8 => ?_⟩
      have A8 := A.drawn f8 hP8
      rw [List.length_map] at a1
      obtain ⟨j, rfl⟩ : ∃ j : Nat, at_ = (j : Int) := ⟨at_.toNat, by omega⟩
      have hj : j < rs.length := by omega
      walk_at "st"
      refine ⟨fun σ' H' => ∃ rs' r', σ' = [some (.ref a), some (.ref p), some (.ref ds), some (.ref ms), some (.int (0 + (i : Int))), some (.int j), o3, o4] ∧ All Z.Disk H' p g s ds ms rs' i ∧ rs'[j]? = some r', ?_, ?_⟩
      · have hr8 : rs[j]? = some rs[j] := List.getElem?_eq_getElem hj
        have hds8 := A8.hds
        have hms8 := A8.hms
        walk_at "st"
        refine iteD (fun h3 => ?_) (fun h3 => ?_)
        · walk_at "st"
          refine ⟨p, g, s, _, rfl, A8.pot, by omega, by omega, fun H9 n n0 n1 hP9 f9 => ?_⟩
          have A9 := A8.drawn f9 hP9
          have hds9 := A9.hds
          have hms9 := A9.hms
          walk_at "st"
          refine iteD (fun h4 => ?_) (fun h4 => ?_)
          · generalize rs[j] = r at hr8
            have hatd : atI (rs.map fun r => V.ref r.d) (j : Int) = some (.ref r.d) := atI_nat (by rw [List.getElem?_map, hr8]; rfl)
            have hatm : atI (rs.map fun r => V.ref r.m) (j : Int) = some (.ref r.m) := atI_nat (by rw [List.getElem?_map, hr8]; rfl)
            have ok9 := A9.ok r (List.mem_of_getElem? hr8)
            obtain ⟨DD, hm, ⟨xs, ha, ta⟩, ⟨ys, hb, tb⟩, nes, prs, lays⟩ := id ok9
            obtain ⟨⟨dx9, n9, hd⟩, _, _, _⟩ := id DD
            walk_at "st"
            refine ⟨r.d, r.l, r.q, r.ls, r.ps, rfl, DD, fun H10 d' l' q' hd'0 hl'0 hq'0 D10 f10 => ?_⟩
            have A10 := A9.keep f10
            have hds10 := A10.hds
            have hms10 := A10.hms
            have hm10 := f10.same _ _ hm
            have ha10' := f10.same _ _ ha
            have hb10' := f10.same _ _ hb
            obtain ⟨⟨dx10, n10, hd10⟩, ⟨xl10, hl10, _⟩, ⟨xq10, hq10, _⟩, lq10⟩ := id D10
            have tpr := A10.top r (List.mem_of_getElem? hr8)
            have dsm : ds ≠ r.m := fun z => tpr ds (by simp) (by rw [z]; simp [Rw.foot])
            have dsa : ds ≠ r.a := fun z => tpr ds (by simp) (by rw [z]; simp [Rw.foot])
            have dsb : ds ≠ r.b := fun z => tpr ds (by simp) (by rw [z]; simp [Rw.foot])
            have dsne := A.ne
            have dsl' : ds ≠ l' := ne_of_none hds9 hl'0
            have dsq' : ds ≠ q' := ne_of_none hds9 hq'0
            have dsd' : ds ≠ d' := ne_of_none hds9 hd'0
            have msl' : ms ≠ l' := ne_of_none hms9 hl'0
            have msq' : ms ≠ q' := ne_of_none hms9 hq'0
            have msd' : ms ≠ d' := ne_of_none hms9 hd'0
            walk_at "st"
            intro a' ha'0
            walk_at "st"
            intro b' hb'0
            walk_at "st"
            intro m' hm'0
            walk_at "st"
            have fa := fresh_of ha'0
            have fb := fresh_of (fresh_of hb'0)
            have fm := fresh_of (fresh_of (fresh_of hm'0))
            have msm' : ms ≠ m' := ne_of_none hms10 fm
            have msa' : ms ≠ a' := ne_of_none hms10 fa
            have msb' : ms ≠ b' := ne_of_none hms10 fb
            have dsm' : ds ≠ m' := ne_of_none hds10 fm
            have dsa' : ds ≠ a' := ne_of_none hds10 fa
            have dsb' : ds ≠ b' := ne_of_none hds10 fb
            have m'a' : m' ≠ a' := (ne_of_none (b := m') (show _ = some (HO.lst xs) by walk_at "hp") hm'0).symm
            have m'b' : m' ≠ b' := (ne_of_none (b := m') (show _ = some (HO.lst ys) by walk_at "hp") hm'0).symm
            have G : Fr [ds, ms] H10 _ := (((((Fr.refl H10).wl (p := ds) (o' := .lst ((rs.map fun r => V.ref r.d) ++ [V.ref d'])) hds10 (.inl (by simp))).new (o := .lst xs) ha'0).new (o := .lst ys) hb'0).new (o := .lst [V.ref a', V.ref b']) hm'0).wl (p := ms) (o' := .lst ((rs.map fun r => V.ref r.m) ++ [V.ref m'])) (by walk_at "hp") (.inl (by simp))
            have G9 : Fr [ds, ms] H9 _ := (f10.mono (by simp)).trans G
            have DG := D10.keep G (by simp [dsd'.symm, msd'.symm]) (by simp [dsl'.symm, msl'.symm]) (by simp [dsq'.symm, msq'.symm])
            refine ⟨rs ++ [⟨d', m', l', q', a', b', r.ls, r.ps⟩], r, rfl, A9.more G9 ?_ ?_ ⟨DG, ?_, ⟨xs, ?_, TDs.mono G9.tup _ _ ta⟩, ⟨ys, ?_, TDs.mono G9.tup _ _ tb⟩, ⟨ne_of_none hl10 fm, ne_of_none hl10 fa, ne_of_none hl10 fb, ne_of_none hq10 fm, ne_of_none hq10 fa, ne_of_none hq10 fb, m'a', m'b'⟩, prs, lays⟩ (A9.sz r (List.mem_of_getElem? hr8)) ?_ (by rw [List.length_map] at h3; omega), ?_⟩
            · rw [List.map_append]
              walk_at "hp"
            · rw [List.map_append]
              exact upd_same
            · walk_at "hp"
            · walk_at "hp"
            · walk_at "hp"
            · intro x hx
              simp only [Rw.foot, List.mem_cons, List.not_mem_nil, or_false] at hx
              rcases hx with rfl | rfl | rfl | rfl | rfl | rfl
              · exact hd'0
              · exact f10.free fm
              · exact hl'0
              · exact hq'0
              · exact f10.free fa
              · exact f10.free fb
            · rw [List.getElem?_append_left hj]
              exact hr8
          · walk_at "st"
            exact ⟨rs, _, rfl, A9, hr8⟩
        · walk_at "st"
          exact ⟨rs, _, rfl, A8, hr8⟩
      · rintro σ' H9 ⟨rs', r, rfl, A9, hr9⟩
        have hatd : atI (rs'.map fun r => V.ref r.d) (j : Int) = some (.ref r.d) := atI_nat (by rw [List.getElem?_map, hr9]; rfl)
        have hatm : atI (rs'.map fun r => V.ref r.m) (j : Int) = some (.ref r.m) := atI_nat (by rw [List.getElem?_map, hr9]; rfl)
        have hds9 := A9.hds
        have hms9 := A9.hms
        walk_at "st"
        have hr9m := List.mem_of_getElem? hr9
        have hsz9 := A9.sz r hr9m
        have hi49 : i < 49 := by omega
        refine ⟨p, g, s, r.d, r.m, r.l, r.q, r.a, r.b, r.ls, r.ps, rfl, A9.pot, A9.ok r hr9m, by omega, fun x hx => A9.top r hr9m x (by
          simp only [List.mem_cons, List.not_mem_nil, or_false] at hx ⊢
          rcases hx with rfl | rfl | rfl <;> simp), fun H10 q' a' b' ls' ps' hP D hs nq na nb f10 => ?_⟩
        have A10 := A9.deed hr9 hP D hs nq na nb f10
        have hds10 := A10.hds
        have hms10 := A10.hms
        have hfew10 := A10.few
        generalize rs'.set j ⟨r.d, r.m, r.l, q', a', b', ls', ps'⟩ = rs2 at A10 hds10 hms10 hfew10
        walk_at "st"
        intro D hD
        refine lc_it (walkZ (b := false) (c := false) (xs := rs2.map fun r => V.ref r.d) (ys := rs2.map fun r => V.ref r.m) (n := rs2.length) (by simp)) (fun k H' => Fr [] H10 H' ∧ H' D = some (.lst ((List.replicate k true).map V.bl))) ⟨Fr.up hD, upd_same⟩
          (fun k H' _ h => ⟨SqL.of (h.1.same _ _ hds10), SqL.of (h.1.same _ _ hms10)⟩) ?_ ?_
        · rintro k x H11 H12 hk ⟨g11, e11⟩ ⟨t, v1, v2, rfl, ht, rfl, hx, hy⟩
          have hx : (rs2.map fun r => V.ref r.d)[k]? = some v1 := hx
          have hy : (rs2.map fun r => V.ref r.m)[k]? = some v2 := hy
          rw [List.getElem?_map] at hx hy
          obtain ⟨u, hu, rfl⟩ := Option.map_eq_some_iff.mp hx
          rw [hu] at hy
          cases hy
          have g12 := g11.new (o := .tup [V.ref u.d, V.ref u.m]) ht
          have e12 := upd_old (o' := HO.tup [V.ref u.d, V.ref u.m]) ht e11
          have hum := List.mem_of_getElem? hu
          have hszu := A10.sz u hum
          walk_at "st"
          refine ⟨u.d, u.m, u.l, u.q, u.a, u.b, u.ls, u.ps, rfl, (A10.ok u hum).keep g12 (fun _ _ => List.not_mem_nil), by omega, fun H13 f13 => ?_⟩
          have e13 := f13.same _ _ e12
          refine ⟨_, e13, line_lt (by simp; omega), (g12.trans f13).wl e13 (.inr hD), ?_⟩
          rw [upd_same, List.replicate_succ', List.map_append]
          rfl
        · rintro H11 ⟨g11, e11⟩
          walk_at "st"
          refine st_all (SqL.of e11) ?_
          rw [show (List.replicate rs2.length true).all id = true by simp]
          walk_at "st"
          exact ⟨rs2, _, _, _, _, rfl, A10.keep g11⟩
    · rintro σ H6 ⟨rs, o1, o2, o3, o4, rfl, A⟩
      walk_at "st"
      exact k _
end
end K38

namespace K38
open PySem PySem.Spec PyProof.Rows L2 Hq
theorem all_mk {l : PySem.W.OpenLaw} {w : World} {K : PySem.W.Frag} {h : Heap} {mg : Str → Option Value} {fa : Addr} (X : K.In h) (G : h.Ns mainGlobals mg) (hfa : mg "law" = some (.ref fa))
    {C_Disk : Addr}
    {C_Exchange : Addr}
    {f_is_integer : Addr} {od_is_integer an_is_integer : Option Addr} {sl_is_integer : Array (Option Value)} {oc_is_integer kV_is_integer dc_is_integer pm_is_integer cd_is_integer ct_is_integer : Value}
    {f_is_between : Addr} {od_is_between an_is_between : Option Addr} {sl_is_between : Array (Option Value)} {oc_is_between kV_is_between dc_is_between pm_is_between cd_is_between ct_is_between : Value}
    {f_is_number : Addr} {od_is_number an_is_number : Option Addr} {sl_is_number : Array (Option Value)} {oc_is_number kV_is_number dc_is_number pm_is_number cd_is_number ct_is_number : Value}
    {f_is_tuple : Addr} {od_is_tuple an_is_tuple : Option Addr} {sl_is_tuple : Array (Option Value)} {oc_is_tuple kV_is_tuple dc_is_tuple pm_is_tuple cd_is_tuple ct_is_tuple : Value}
    {f_is_key : Addr} {od_is_key an_is_key : Option Addr} {sl_is_key : Array (Option Value)} {oc_is_key kV_is_key dc_is_key pm_is_key cd_is_key ct_is_key : Value}
    {f_is_kept : Addr} {od_is_kept an_is_kept : Option Addr} {sl_is_kept : Array (Option Value)} {oc_is_kept kV_is_kept dc_is_kept pm_is_kept cd_is_kept ct_is_kept : Value}
    {f_Disk___init__ : Addr} {od_Disk___init__ an_Disk___init__ : Option Addr} {sl_Disk___init__ : Array (Option Value)} {oc_Disk___init__ kV_Disk___init__ dc_Disk___init__ pm_Disk___init__ cd_Disk___init__ ct_Disk___init__ : Value}
    {f_Disk_write : Addr} {od_Disk_write an_Disk_write : Option Addr} {sl_Disk_write : Array (Option Value)} {oc_Disk_write kV_Disk_write dc_Disk_write pm_Disk_write cd_Disk_write ct_Disk_write : Value}
    {f_Disk_sync : Addr} {od_Disk_sync an_Disk_sync : Option Addr} {sl_Disk_sync : Array (Option Value)} {oc_Disk_sync kV_Disk_sync dc_Disk_sync pm_Disk_sync cd_Disk_sync ct_Disk_sync : Value}
    {f_Disk_fall : Addr} {od_Disk_fall an_Disk_fall : Option Addr} {sl_Disk_fall : Array (Option Value)} {oc_Disk_fall kV_Disk_fall dc_Disk_fall pm_Disk_fall cd_Disk_fall ct_Disk_fall : Value}
    {f_Disk_words : Addr} {od_Disk_words an_Disk_words : Option Addr} {sl_Disk_words : Array (Option Value)} {oc_Disk_words kV_Disk_words dc_Disk_words pm_Disk_words cd_Disk_words ct_Disk_words : Value}
    {f_Disk_waiting : Addr} {od_Disk_waiting an_Disk_waiting : Option Addr} {sl_Disk_waiting : Array (Option Value)} {oc_Disk_waiting kV_Disk_waiting dc_Disk_waiting pm_Disk_waiting cd_Disk_waiting ct_Disk_waiting : Value}
    {f_Disk_spoil : Addr} {od_Disk_spoil an_Disk_spoil : Option Addr} {sl_Disk_spoil : Array (Option Value)} {oc_Disk_spoil kV_Disk_spoil dc_Disk_spoil pm_Disk_spoil cd_Disk_spoil ct_Disk_spoil : Value}
    {f_Disk_copy : Addr} {od_Disk_copy an_Disk_copy : Option Addr} {sl_Disk_copy : Array (Option Value)} {oc_Disk_copy kV_Disk_copy dc_Disk_copy pm_Disk_copy cd_Disk_copy ct_Disk_copy : Value}
    {f_law_pot : Addr} {od_law_pot an_law_pot : Option Addr} {sl_law_pot : Array (Option Value)} {oc_law_pot kV_law_pot dc_law_pot pm_law_pot cd_law_pot ct_law_pot : Value}
    {f_law_draw : Addr} {od_law_draw an_law_draw : Option Addr} {sl_law_draw : Array (Option Value)} {oc_law_draw kV_law_draw dc_law_draw pm_law_draw cd_law_draw ct_law_draw : Value}
    {f_law_any : Addr} {od_law_any an_law_any : Option Addr} {sl_law_any : Array (Option Value)} {oc_law_any kV_law_any dc_law_any pm_law_any cd_law_any ct_law_any : Value}
    {f_law_key : Addr} {od_law_key an_law_key : Option Addr} {sl_law_key : Array (Option Value)} {oc_law_key kV_law_key dc_law_key pm_law_key cd_law_key ct_law_key : Value}
    {f_law_thing : Addr} {od_law_thing an_law_thing : Option Addr} {sl_law_thing : Array (Option Value)} {oc_law_thing kV_law_thing dc_law_thing pm_law_thing cd_law_thing ct_law_thing : Value}
    {f_law_fallen : Addr} {od_law_fallen an_law_fallen : Option Addr} {sl_law_fallen : Array (Option Value)} {oc_law_fallen kV_law_fallen dc_law_fallen pm_law_fallen cd_law_fallen ct_law_fallen : Value}
    {f_law_deed : Addr} {od_law_deed an_law_deed : Option Addr} {sl_law_deed : Array (Option Value)} {oc_law_deed kV_law_deed dc_law_deed pm_law_deed cd_law_deed ct_law_deed : Value}
    {f_law_is_so : Addr} {od_law_is_so an_law_is_so : Option Addr} {sl_law_is_so : Array (Option Value)} {oc_law_is_so kV_law_is_so dc_law_is_so pm_law_is_so cd_law_is_so ct_law_is_so : Value}
    {f_law : Addr} {od_law an_law : Option Addr} {sl_law : Array (Option Value)} {oc_law kV_law dc_law pm_law cd_law ct_law : Value}
    {t_LOST : Tok}
    {t_WHOLE : Tok}
    (aC_Disk : PySem.W.nsIn K mainGlobals "Disk" = some (some (.ref C_Disk)))
    (pg_Disk : PySem.W.plainGet K C_Disk Str.empty = true)
    (hd_Disk : PySem.W.hasDictIn K C_Disk = true)
    (po_Disk : PySem.W.plainOver K C_Disk = true)
    (sa_Disk : PySem.W.findIn K (.ref C_Disk) "__setattr__" = some (some (.builtin "object.__setattr__")))
    (mk_Disk : PySem.W.makesIn K C_Disk = true)
    (kc_Disk : PySem.W.keepIn K (.ref C_Disk) = true)
    (aC_Exchange : PySem.W.nsIn K mainGlobals "Exchange" = some (some (.ref C_Exchange)))
    (a_is_integer : PySem.W.nsIn K mainGlobals "is_integer" = some (some (.ref f_is_integer)))
    (l_is_integer : K.lookup f_is_integer = some ⟨oc_is_integer, od_is_integer, .func (PySem.W.fnOf "is_integer" "is_integer" (defArgs s_is_integer) (defBody s_is_integer) (defScope s_is_integer) .none kV_is_integer dc_is_integer pm_is_integer an_is_integer cd_is_integer ct_is_integer), sl_is_integer⟩)
    (c_is_integer : PySem.W.codeIn K cd_is_integer "is_integer" = true)
    (k_is_integer : PySem.W.keepIn K (.ref f_is_integer) = true)
    (a_is_between : PySem.W.nsIn K mainGlobals "is_between" = some (some (.ref f_is_between)))
    (l_is_between : K.lookup f_is_between = some ⟨oc_is_between, od_is_between, .func (PySem.W.fnOf "is_between" "is_between" (defArgs s_is_between) (defBody s_is_between) (defScope s_is_between) .none kV_is_between dc_is_between pm_is_between an_is_between cd_is_between ct_is_between), sl_is_between⟩)
    (c_is_between : PySem.W.codeIn K cd_is_between "is_between" = true)
    (k_is_between : PySem.W.keepIn K (.ref f_is_between) = true)
    (a_is_number : PySem.W.nsIn K mainGlobals "is_number" = some (some (.ref f_is_number)))
    (l_is_number : K.lookup f_is_number = some ⟨oc_is_number, od_is_number, .func (PySem.W.fnOf "is_number" "is_number" (defArgs s_is_number) (defBody s_is_number) (defScope s_is_number) .none kV_is_number dc_is_number pm_is_number an_is_number cd_is_number ct_is_number), sl_is_number⟩)
    (c_is_number : PySem.W.codeIn K cd_is_number "is_number" = true)
    (k_is_number : PySem.W.keepIn K (.ref f_is_number) = true)
    (a_is_tuple : PySem.W.nsIn K mainGlobals "is_tuple" = some (some (.ref f_is_tuple)))
    (l_is_tuple : K.lookup f_is_tuple = some ⟨oc_is_tuple, od_is_tuple, .func (PySem.W.fnOf "is_tuple" "is_tuple" (defArgs s_is_tuple) (defBody s_is_tuple) (defScope s_is_tuple) .none kV_is_tuple dc_is_tuple pm_is_tuple an_is_tuple cd_is_tuple ct_is_tuple), sl_is_tuple⟩)
    (c_is_tuple : PySem.W.codeIn K cd_is_tuple "is_tuple" = true)
    (k_is_tuple : PySem.W.keepIn K (.ref f_is_tuple) = true)
    (a_is_key : PySem.W.nsIn K mainGlobals "is_key" = some (some (.ref f_is_key)))
    (l_is_key : K.lookup f_is_key = some ⟨oc_is_key, od_is_key, .func (PySem.W.fnOf "is_key" "is_key" (defArgs s_is_key) (defBody s_is_key) (defScope s_is_key) .none kV_is_key dc_is_key pm_is_key an_is_key cd_is_key ct_is_key), sl_is_key⟩)
    (c_is_key : PySem.W.codeIn K cd_is_key "is_key" = true)
    (k_is_key : PySem.W.keepIn K (.ref f_is_key) = true)
    (a_is_kept : PySem.W.nsIn K mainGlobals "is_kept" = some (some (.ref f_is_kept)))
    (l_is_kept : K.lookup f_is_kept = some ⟨oc_is_kept, od_is_kept, .func (PySem.W.fnOf "is_kept" "is_kept" (defArgs s_is_kept) (defBody s_is_kept) (defScope s_is_kept) .none kV_is_kept dc_is_kept pm_is_kept an_is_kept cd_is_kept ct_is_kept), sl_is_kept⟩)
    (c_is_kept : PySem.W.codeIn K cd_is_kept "is_kept" = true)
    (k_is_kept : PySem.W.keepIn K (.ref f_is_kept) = true)
    (a_Disk___init__ : PySem.W.findIn K (.ref C_Disk) "__init__" = some (some (.ref f_Disk___init__)))
    (i_Disk___init__ : PySem.W.isFn K (.ref f_Disk___init__) = true)
    (l_Disk___init__ : K.lookup f_Disk___init__ = some ⟨oc_Disk___init__, od_Disk___init__, .func (PySem.W.fnOf "__init__" "Disk.__init__" (defArgs s_Disk___init__) (defBody s_Disk___init__) (defScope s_Disk___init__) .none kV_Disk___init__ dc_Disk___init__ pm_Disk___init__ an_Disk___init__ cd_Disk___init__ ct_Disk___init__), sl_Disk___init__⟩)
    (c_Disk___init__ : PySem.W.codeIn K cd_Disk___init__ "Disk.__init__" = true)
    (k_Disk___init__ : PySem.W.keepIn K (.ref f_Disk___init__) = true)
    (a_Disk_write : PySem.W.findIn K (.ref C_Disk) "write" = some (some (.ref f_Disk_write)))
    (i_Disk_write : PySem.W.isFn K (.ref f_Disk_write) = true)
    (l_Disk_write : K.lookup f_Disk_write = some ⟨oc_Disk_write, od_Disk_write, .func (PySem.W.fnOf "write" "Disk.write" (defArgs s_Disk_write) (defBody s_Disk_write) (defScope s_Disk_write) .none kV_Disk_write dc_Disk_write pm_Disk_write an_Disk_write cd_Disk_write ct_Disk_write), sl_Disk_write⟩)
    (c_Disk_write : PySem.W.codeIn K cd_Disk_write "Disk.write" = true)
    (k_Disk_write : PySem.W.keepIn K (.ref f_Disk_write) = true)
    (a_Disk_sync : PySem.W.findIn K (.ref C_Disk) "sync" = some (some (.ref f_Disk_sync)))
    (i_Disk_sync : PySem.W.isFn K (.ref f_Disk_sync) = true)
    (l_Disk_sync : K.lookup f_Disk_sync = some ⟨oc_Disk_sync, od_Disk_sync, .func (PySem.W.fnOf "sync" "Disk.sync" (defArgs s_Disk_sync) (defBody s_Disk_sync) (defScope s_Disk_sync) .none kV_Disk_sync dc_Disk_sync pm_Disk_sync an_Disk_sync cd_Disk_sync ct_Disk_sync), sl_Disk_sync⟩)
    (c_Disk_sync : PySem.W.codeIn K cd_Disk_sync "Disk.sync" = true)
    (k_Disk_sync : PySem.W.keepIn K (.ref f_Disk_sync) = true)
    (a_Disk_fall : PySem.W.findIn K (.ref C_Disk) "fall" = some (some (.ref f_Disk_fall)))
    (i_Disk_fall : PySem.W.isFn K (.ref f_Disk_fall) = true)
    (l_Disk_fall : K.lookup f_Disk_fall = some ⟨oc_Disk_fall, od_Disk_fall, .func (PySem.W.fnOf "fall" "Disk.fall" (defArgs s_Disk_fall) (defBody s_Disk_fall) (defScope s_Disk_fall) .none kV_Disk_fall dc_Disk_fall pm_Disk_fall an_Disk_fall cd_Disk_fall ct_Disk_fall), sl_Disk_fall⟩)
    (c_Disk_fall : PySem.W.codeIn K cd_Disk_fall "Disk.fall" = true)
    (k_Disk_fall : PySem.W.keepIn K (.ref f_Disk_fall) = true)
    (a_Disk_words : PySem.W.findIn K (.ref C_Disk) "words" = some (some (.ref f_Disk_words)))
    (i_Disk_words : PySem.W.isFn K (.ref f_Disk_words) = true)
    (l_Disk_words : K.lookup f_Disk_words = some ⟨oc_Disk_words, od_Disk_words, .func (PySem.W.fnOf "words" "Disk.words" (defArgs s_Disk_words) (defBody s_Disk_words) (defScope s_Disk_words) .none kV_Disk_words dc_Disk_words pm_Disk_words an_Disk_words cd_Disk_words ct_Disk_words), sl_Disk_words⟩)
    (c_Disk_words : PySem.W.codeIn K cd_Disk_words "Disk.words" = true)
    (k_Disk_words : PySem.W.keepIn K (.ref f_Disk_words) = true)
    (a_Disk_waiting : PySem.W.findIn K (.ref C_Disk) "waiting" = some (some (.ref f_Disk_waiting)))
    (i_Disk_waiting : PySem.W.isFn K (.ref f_Disk_waiting) = true)
    (l_Disk_waiting : K.lookup f_Disk_waiting = some ⟨oc_Disk_waiting, od_Disk_waiting, .func (PySem.W.fnOf "waiting" "Disk.waiting" (defArgs s_Disk_waiting) (defBody s_Disk_waiting) (defScope s_Disk_waiting) .none kV_Disk_waiting dc_Disk_waiting pm_Disk_waiting an_Disk_waiting cd_Disk_waiting ct_Disk_waiting), sl_Disk_waiting⟩)
    (c_Disk_waiting : PySem.W.codeIn K cd_Disk_waiting "Disk.waiting" = true)
    (k_Disk_waiting : PySem.W.keepIn K (.ref f_Disk_waiting) = true)
    (a_Disk_spoil : PySem.W.findIn K (.ref C_Disk) "spoil" = some (some (.ref f_Disk_spoil)))
    (i_Disk_spoil : PySem.W.isFn K (.ref f_Disk_spoil) = true)
    (l_Disk_spoil : K.lookup f_Disk_spoil = some ⟨oc_Disk_spoil, od_Disk_spoil, .func (PySem.W.fnOf "spoil" "Disk.spoil" (defArgs s_Disk_spoil) (defBody s_Disk_spoil) (defScope s_Disk_spoil) .none kV_Disk_spoil dc_Disk_spoil pm_Disk_spoil an_Disk_spoil cd_Disk_spoil ct_Disk_spoil), sl_Disk_spoil⟩)
    (c_Disk_spoil : PySem.W.codeIn K cd_Disk_spoil "Disk.spoil" = true)
    (k_Disk_spoil : PySem.W.keepIn K (.ref f_Disk_spoil) = true)
    (a_Disk_copy : PySem.W.findIn K (.ref C_Disk) "copy" = some (some (.ref f_Disk_copy)))
    (i_Disk_copy : PySem.W.isFn K (.ref f_Disk_copy) = true)
    (l_Disk_copy : K.lookup f_Disk_copy = some ⟨oc_Disk_copy, od_Disk_copy, .func (PySem.W.fnOf "copy" "Disk.copy" (defArgs s_Disk_copy) (defBody s_Disk_copy) (defScope s_Disk_copy) .none kV_Disk_copy dc_Disk_copy pm_Disk_copy an_Disk_copy cd_Disk_copy ct_Disk_copy), sl_Disk_copy⟩)
    (c_Disk_copy : PySem.W.codeIn K cd_Disk_copy "Disk.copy" = true)
    (k_Disk_copy : PySem.W.keepIn K (.ref f_Disk_copy) = true)
    (a_law_pot : PySem.W.nsIn K mainGlobals "_law_pot" = some (some (.ref f_law_pot)))
    (l_law_pot : K.lookup f_law_pot = some ⟨oc_law_pot, od_law_pot, .func (PySem.W.fnOf "_law_pot" "_law_pot" (defArgs s_law_pot) (defBody s_law_pot) (defScope s_law_pot) .none kV_law_pot dc_law_pot pm_law_pot an_law_pot cd_law_pot ct_law_pot), sl_law_pot⟩)
    (c_law_pot : PySem.W.codeIn K cd_law_pot "_law_pot" = true)
    (k_law_pot : PySem.W.keepIn K (.ref f_law_pot) = true)
    (a_law_draw : PySem.W.nsIn K mainGlobals "_law_draw" = some (some (.ref f_law_draw)))
    (l_law_draw : K.lookup f_law_draw = some ⟨oc_law_draw, od_law_draw, .func (PySem.W.fnOf "_law_draw" "_law_draw" (defArgs s_law_draw) (defBody s_law_draw) (defScope s_law_draw) .none kV_law_draw dc_law_draw pm_law_draw an_law_draw cd_law_draw ct_law_draw), sl_law_draw⟩)
    (c_law_draw : PySem.W.codeIn K cd_law_draw "_law_draw" = true)
    (k_law_draw : PySem.W.keepIn K (.ref f_law_draw) = true)
    (a_law_any : PySem.W.nsIn K mainGlobals "_law_any" = some (some (.ref f_law_any)))
    (l_law_any : K.lookup f_law_any = some ⟨oc_law_any, od_law_any, .func (PySem.W.fnOf "_law_any" "_law_any" (defArgs s_law_any) (defBody s_law_any) (defScope s_law_any) .none kV_law_any dc_law_any pm_law_any an_law_any cd_law_any ct_law_any), sl_law_any⟩)
    (c_law_any : PySem.W.codeIn K cd_law_any "_law_any" = true)
    (k_law_any : PySem.W.keepIn K (.ref f_law_any) = true)
    (a_law_key : PySem.W.nsIn K mainGlobals "_law_key" = some (some (.ref f_law_key)))
    (l_law_key : K.lookup f_law_key = some ⟨oc_law_key, od_law_key, .func (PySem.W.fnOf "_law_key" "_law_key" (defArgs s_law_key) (defBody s_law_key) (defScope s_law_key) .none kV_law_key dc_law_key pm_law_key an_law_key cd_law_key ct_law_key), sl_law_key⟩)
    (c_law_key : PySem.W.codeIn K cd_law_key "_law_key" = true)
    (k_law_key : PySem.W.keepIn K (.ref f_law_key) = true)
    (a_law_thing : PySem.W.nsIn K mainGlobals "_law_thing" = some (some (.ref f_law_thing)))
    (l_law_thing : K.lookup f_law_thing = some ⟨oc_law_thing, od_law_thing, .func (PySem.W.fnOf "_law_thing" "_law_thing" (defArgs s_law_thing) (defBody s_law_thing) (defScope s_law_thing) .none kV_law_thing dc_law_thing pm_law_thing an_law_thing cd_law_thing ct_law_thing), sl_law_thing⟩)
    (c_law_thing : PySem.W.codeIn K cd_law_thing "_law_thing" = true)
    (k_law_thing : PySem.W.keepIn K (.ref f_law_thing) = true)
    (a_law_fallen : PySem.W.nsIn K mainGlobals "_law_fallen" = some (some (.ref f_law_fallen)))
    (l_law_fallen : K.lookup f_law_fallen = some ⟨oc_law_fallen, od_law_fallen, .func (PySem.W.fnOf "_law_fallen" "_law_fallen" (defArgs s_law_fallen) (defBody s_law_fallen) (defScope s_law_fallen) .none kV_law_fallen dc_law_fallen pm_law_fallen an_law_fallen cd_law_fallen ct_law_fallen), sl_law_fallen⟩)
    (c_law_fallen : PySem.W.codeIn K cd_law_fallen "_law_fallen" = true)
    (k_law_fallen : PySem.W.keepIn K (.ref f_law_fallen) = true)
    (a_law_deed : PySem.W.nsIn K mainGlobals "_law_deed" = some (some (.ref f_law_deed)))
    (l_law_deed : K.lookup f_law_deed = some ⟨oc_law_deed, od_law_deed, .func (PySem.W.fnOf "_law_deed" "_law_deed" (defArgs s_law_deed) (defBody s_law_deed) (defScope s_law_deed) .none kV_law_deed dc_law_deed pm_law_deed an_law_deed cd_law_deed ct_law_deed), sl_law_deed⟩)
    (c_law_deed : PySem.W.codeIn K cd_law_deed "_law_deed" = true)
    (k_law_deed : PySem.W.keepIn K (.ref f_law_deed) = true)
    (a_law_is_so : PySem.W.nsIn K mainGlobals "_law_is_so" = some (some (.ref f_law_is_so)))
    (l_law_is_so : K.lookup f_law_is_so = some ⟨oc_law_is_so, od_law_is_so, .func (PySem.W.fnOf "_law_is_so" "_law_is_so" (defArgs s_law_is_so) (defBody s_law_is_so) (defScope s_law_is_so) .none kV_law_is_so dc_law_is_so pm_law_is_so an_law_is_so cd_law_is_so ct_law_is_so), sl_law_is_so⟩)
    (c_law_is_so : PySem.W.codeIn K cd_law_is_so "_law_is_so" = true)
    (k_law_is_so : PySem.W.keepIn K (.ref f_law_is_so) = true)
    (a_law : PySem.W.nsIn K mainGlobals "law" = some (some (.ref f_law)))
    (l_law : K.lookup f_law = some ⟨oc_law, od_law, .func (PySem.W.fnOf "law" "law" (defArgs s_law) (defBody s_law) (defScope s_law) .none kV_law dc_law pm_law an_law cd_law ct_law), sl_law⟩)
    (c_law : PySem.W.codeIn K cd_law "law" = true)
    (k_law : PySem.W.keepIn K (.ref f_law) = true)
    (no_Disk_lying : PySem.W.findIn K (.ref C_Disk) "lying" = some none)
    (no_Disk_pending : PySem.W.findIn K (.ref C_Disk) "pending" = some none)
    (no_Disk_spoils : PySem.W.findIn K (.ref C_Disk) "spoils" = some none)
    (z_len : PySem.W.nsIn K mainGlobals "len" = some none)
    (z_int : PySem.W.nsIn K mainGlobals "int" = some none)
    (z_bool : PySem.W.nsIn K mainGlobals "bool" = some none)
    (z_str : PySem.W.nsIn K mainGlobals "str" = some none)
    (z_tuple : PySem.W.nsIn K mainGlobals "tuple" = some none)
    (z_list : PySem.W.nsIn K mainGlobals "list" = some none)
    (z_isinstance : PySem.W.nsIn K mainGlobals "isinstance" = some none)
    (z_all : PySem.W.nsIn K mainGlobals "all" = some none)
    (z_abs : PySem.W.nsIn K mainGlobals "abs" = some none)
    (z_sum : PySem.W.nsIn K mainGlobals "sum" = some none)
    (z_range : PySem.W.nsIn K mainGlobals "range" = some none)
    (z_zip : PySem.W.nsIn K mainGlobals "zip" = some none)
    (g_LOST : PySem.W.nsIn K mainGlobals "LOST" = some (some (.int 0 t_LOST)))
    (g_WHOLE : PySem.W.nsIn K mainGlobals "WHOLE" = some (some (.int 2 t_WHOLE)))
    : ∃ fd : FuncData, (∀ (s : Shared) (v : Value), BindsTo s fd ⟨[v], []⟩ [("script", v)]) ∧ ∀ base : Heap, K.In base → base.Ns mainGlobals mg → FnOk l.prog w K mg base (L2.CX l.prog w) 14 fa fd ["script"] (spLaw K) := by
  have e := hfa.symm.trans (PySem.W.mg_of X G a_law)
  cases e
  have F_is_integer := fun_mk (st := s_is_integer) l_is_integer c_is_integer k_is_integer
  have b_is_integer := F_is_integer.binds (ps := ["thing"]) fun _ _ _ _ _ _ us hl => match us, hl with | [_], _ => rfl
  have F_is_between := fun_mk (st := s_is_between) l_is_between c_is_between k_is_between
  have b_is_between := F_is_between.binds (ps := ["thing", "least", "most"]) fun _ _ _ _ _ _ us hl => match us, hl with | [_, _, _], _ => rfl
  have F_is_number := fun_mk (st := s_is_number) l_is_number c_is_number k_is_number
  have b_is_number := F_is_number.binds (ps := ["thing"]) fun _ _ _ _ _ _ us hl => match us, hl with | [_], _ => rfl
  have F_is_tuple := fun_mk (st := s_is_tuple) l_is_tuple c_is_tuple k_is_tuple
  have b_is_tuple := F_is_tuple.binds (ps := ["thing", "least", "most"]) fun _ _ _ _ _ _ us hl => match us, hl with | [_, _, _], _ => rfl
  have F_is_key := fun_mk (st := s_is_key) l_is_key c_is_key k_is_key
  have b_is_key := F_is_key.binds (ps := ["thing"]) fun _ _ _ _ _ _ us hl => match us, hl with | [_], _ => rfl
  have F_is_kept := fun_mk (st := s_is_kept) l_is_kept c_is_kept k_is_kept
  have b_is_kept := F_is_kept.binds (ps := ["thing"]) fun _ _ _ _ _ _ us hl => match us, hl with | [_], _ => rfl
  have F_Disk___init__ := fun_mk (st := s_Disk___init__) l_Disk___init__ c_Disk___init__ k_Disk___init__
  have b_Disk___init__ := F_Disk___init__.binds (ps := ["self"]) fun _ _ _ _ _ _ us hl => match us, hl with | [_], _ => rfl
  have F_Disk_write := fun_mk (st := s_Disk_write) l_Disk_write c_Disk_write k_Disk_write
  have b_Disk_write := F_Disk_write.binds (ps := ["self", "key", "thing"]) fun _ _ _ _ _ _ us hl => match us, hl with | [_, _, _], _ => rfl
  have F_Disk_sync := fun_mk (st := s_Disk_sync) l_Disk_sync c_Disk_sync k_Disk_sync
  have b_Disk_sync := F_Disk_sync.binds (ps := ["self"]) fun _ _ _ _ _ _ us hl => match us, hl with | [_], _ => rfl
  have F_Disk_fall := fun_mk (st := s_Disk_fall) l_Disk_fall c_Disk_fall k_Disk_fall
  have b_Disk_fall := F_Disk_fall.binds (ps := ["self", "reached"]) fun _ _ _ _ _ _ us hl => match us, hl with | [_, _], _ => rfl
  have F_Disk_words := fun_mk (st := s_Disk_words) l_Disk_words c_Disk_words k_Disk_words
  have b_Disk_words := F_Disk_words.binds (ps := ["self"]) fun _ _ _ _ _ _ us hl => match us, hl with | [_], _ => rfl
  have F_Disk_waiting := fun_mk (st := s_Disk_waiting) l_Disk_waiting c_Disk_waiting k_Disk_waiting
  have b_Disk_waiting := F_Disk_waiting.binds (ps := ["self"]) fun _ _ _ _ _ _ us hl => match us, hl with | [_], _ => rfl
  have F_Disk_spoil := fun_mk (st := s_Disk_spoil) l_Disk_spoil c_Disk_spoil k_Disk_spoil
  have b_Disk_spoil := F_Disk_spoil.binds (ps := ["self", "at"]) fun _ _ _ _ _ _ us hl => match us, hl with | [_, _], _ => rfl
  have F_Disk_copy := fun_mk (st := s_Disk_copy) l_Disk_copy c_Disk_copy k_Disk_copy
  have b_Disk_copy := F_Disk_copy.binds (ps := ["self"]) fun _ _ _ _ _ _ us hl => match us, hl with | [_], _ => rfl
  have F_law_pot := fun_mk (st := s_law_pot) l_law_pot c_law_pot k_law_pot
  have b_law_pot := F_law_pot.binds (ps := ["script"]) fun _ _ _ _ _ _ us hl => match us, hl with | [_], _ => rfl
  have F_law_draw := fun_mk (st := s_law_draw) l_law_draw c_law_draw k_law_draw
  have b_law_draw := F_law_draw.binds (ps := ["pot", "many"]) fun _ _ _ _ _ _ us hl => match us, hl with | [_, _], _ => rfl
  have F_law_any := fun_mk (st := s_law_any) l_law_any c_law_any k_law_any
  have b_law_any := F_law_any.binds (ps := ["pot", "items"]) fun _ _ _ _ _ _ us hl => match us, hl with | [_, _], _ => rfl
  have F_law_key := fun_mk (st := s_law_key) l_law_key c_law_key k_law_key
  have b_law_key := F_law_key.binds (ps := ["pot"]) fun _ _ _ _ _ _ us hl => match us, hl with | [_], _ => rfl
  have F_law_thing := fun_mk (st := s_law_thing) l_law_thing c_law_thing k_law_thing
  have b_law_thing := F_law_thing.binds (ps := ["pot", "deep"]) fun _ _ _ _ _ _ us hl => match us, hl with | [_, _], _ => rfl
  have F_law_fallen := fun_mk (st := s_law_fallen) l_law_fallen c_law_fallen k_law_fallen
  have b_law_fallen := F_law_fallen.binds (ps := ["lying", "waiting", "hows"]) fun _ _ _ _ _ _ us hl => match us, hl with | [_, _, _], _ => rfl
  have F_law_deed := fun_mk (st := s_law_deed) l_law_deed c_law_deed k_law_deed
  have b_law_deed := F_law_deed.binds (ps := ["pot", "disk", "model"]) fun _ _ _ _ _ _ us hl => match us, hl with | [_, _, _], _ => rfl
  have F_law_is_so := fun_mk (st := s_law_is_so) l_law_is_so c_law_is_so k_law_is_so
  have b_law_is_so := F_law_is_so.binds (ps := ["disk", "model"]) fun _ _ _ _ _ _ us hl => match us, hl with | [_, _], _ => rfl
  have F_law := fun_mk (st := s_law) l_law c_law k_law
  have b_law := F_law.binds (ps := ["script"]) fun _ _ _ _ _ _ us hl => match us, hl with | [_], _ => rfl

  have n_ : ∀ x, PySem.W.nsIn K mainGlobals x = some none → mg x = none := fun x h => PySem.W.mg_none_of X G h
  have T : Txt K mg ⟨C_Disk, C_Exchange⟩ := ⟨⟨_, PySem.W.mg_of X G aC_Exchange, rfl⟩, ⟨_, PySem.W.mg_of X G g_LOST, ⟨_, rfl⟩⟩, ⟨_, PySem.W.mg_of X G g_WHOLE, ⟨_, rfl⟩⟩, ⟨pg_Disk, hd_Disk, po_Disk, sa_Disk⟩, no_Disk_lying, no_Disk_pending, no_Disk_spoils,
    n_ _ z_len, n_ _ z_int, n_ _ z_bool, n_ _ z_str, n_ _ z_tuple, n_ _ z_list, n_ _ z_isinstance, n_ _ z_all, n_ _ z_abs, n_ _ z_sum, n_ _ z_range, n_ _ z_zip⟩
  refine ⟨PySem.W.fnOf "law" "law" (defArgs s_law) (defBody s_law) (defScope s_law) .none kV_law dc_law pm_law an_law cd_law ct_law, fun s v => .of_eq rfl, fun base KB GB => ?_⟩
  have D_is_integer := dn_mk (mg := mg) (base := base) (P := l.prog) (w := w) F_is_integer (PySem.W.mg_of X G a_is_integer) b_is_integer (ok_is_integer F_is_integer T)
  have D_is_between := dn_mk (mg := mg) (base := base) (P := l.prog) (w := w) F_is_between (PySem.W.mg_of X G a_is_between) b_is_between (ok_is_between F_is_between T D_is_integer)
  have D_is_number := dn_mk (mg := mg) (base := base) (P := l.prog) (w := w) F_is_number (PySem.W.mg_of X G a_is_number) b_is_number (ok_is_number F_is_number T D_is_integer)
  have D_is_tuple := dn_mk (mg := mg) (base := base) (P := l.prog) (w := w) F_is_tuple (PySem.W.mg_of X G a_is_tuple) b_is_tuple (ok_is_tuple F_is_tuple T)
  have D_is_key := dn_mk (mg := mg) (base := base) (P := l.prog) (w := w) F_is_key (PySem.W.mg_of X G a_is_key) b_is_key (ok_is_key F_is_key T D_is_number)
  have D_is_kept := dn_mk (mg := mg) (base := base) (P := l.prog) (w := w) F_is_kept (PySem.W.mg_of X G a_is_kept) b_is_kept (fn_rec (k := 0) F_is_kept (PySem.W.mg_of X G a_is_kept) b_is_kept (fun n D => step_is_kept F_is_kept T n D) 10)
  have D_law_draw := dn_mk (mg := mg) (base := base) (P := l.prog) (w := w) F_law_draw (PySem.W.mg_of X G a_law_draw) b_law_draw (ok_law_draw F_law_draw T)
  have D_law_pot := dn_mk (mg := mg) (base := base) (P := l.prog) (w := w) F_law_pot (PySem.W.mg_of X G a_law_pot) b_law_pot (ok_law_pot F_law_pot T)
  have D_law_any := dn_mk (mg := mg) (base := base) (P := l.prog) (w := w) F_law_any (PySem.W.mg_of X G a_law_any) b_law_any (ok_law_any F_law_any T D_law_draw)
  have D_law_key := dn_mk (mg := mg) (base := base) (P := l.prog) (w := w) F_law_key (PySem.W.mg_of X G a_law_key) b_law_key (ok_law_key F_law_key T D_law_draw D_law_any)
  have D_law_thing := dn_mk (mg := mg) (base := base) (P := l.prog) (w := w) F_law_thing (PySem.W.mg_of X G a_law_thing) b_law_thing (fn_rec (k := 2) F_law_thing (PySem.W.mg_of X G a_law_thing) b_law_thing (fun n D => step_law_thing F_law_thing T D_law_draw D_law_any n D) 3)
  have D_law_fallen := dn_mk (mg := mg) (base := base) (P := l.prog) (w := w) F_law_fallen (PySem.W.mg_of X G a_law_fallen) b_law_fallen (ok_law_fallen F_law_fallen T)
  have cl := T.cl
  have C_Disk : Cn l.prog w K mg base "Disk" C_Disk 1 ["self"] (spInit C_Disk) := ⟨PySem.W.mg_of X G aC_Disk, _, _, ok_Disk_init F_Disk___init__ T, ⟨mk_Disk, a_Disk___init__, i_Disk___init__, kc_Disk⟩, b_Disk___init__⟩
  have M_Disk_write := mn_mk (mg := mg) (base := base) (P := l.prog) (w := w) cl F_Disk_write ⟨a_Disk_write, i_Disk_write, k_Disk_write⟩ b_Disk_write (ok_Disk_write F_Disk_write T D_is_key D_is_kept)
  have M_Disk_sync := mn_mk (mg := mg) (base := base) (P := l.prog) (w := w) cl F_Disk_sync ⟨a_Disk_sync, i_Disk_sync, k_Disk_sync⟩ b_Disk_sync (ok_Disk_sync F_Disk_sync T)
  have M_Disk_fall := mn_mk (mg := mg) (base := base) (P := l.prog) (w := w) cl F_Disk_fall ⟨a_Disk_fall, i_Disk_fall, k_Disk_fall⟩ b_Disk_fall (ok_Disk_fall F_Disk_fall T D_is_tuple D_is_between)
  have M_Disk_words := mn_mk (mg := mg) (base := base) (P := l.prog) (w := w) cl F_Disk_words ⟨a_Disk_words, i_Disk_words, k_Disk_words⟩ b_Disk_words (ok_Disk_words F_Disk_words T)
  have M_Disk_waiting := mn_mk (mg := mg) (base := base) (P := l.prog) (w := w) cl F_Disk_waiting ⟨a_Disk_waiting, i_Disk_waiting, k_Disk_waiting⟩ b_Disk_waiting (ok_Disk_waiting F_Disk_waiting T)
  have M_Disk_spoil := mn_mk (mg := mg) (base := base) (P := l.prog) (w := w) cl F_Disk_spoil ⟨a_Disk_spoil, i_Disk_spoil, k_Disk_spoil⟩ b_Disk_spoil (ok_Disk_spoil F_Disk_spoil T D_is_between)
  have M_Disk_copy := mn_mk (mg := mg) (base := base) (P := l.prog) (w := w) cl F_Disk_copy ⟨a_Disk_copy, i_Disk_copy, k_Disk_copy⟩ b_Disk_copy (ok_Disk_copy F_Disk_copy T C_Disk)
  have D_law_deed := dn_mk (mg := mg) (base := base) (P := l.prog) (w := w) F_law_deed (PySem.W.mg_of X G a_law_deed) b_law_deed (ok_law_deed F_law_deed T D_law_draw D_law_key D_law_thing D_law_fallen M_Disk_write M_Disk_sync M_Disk_spoil M_Disk_fall)
  have D_law_is_so := dn_mk (mg := mg) (base := base) (P := l.prog) (w := w) F_law_is_so (PySem.W.mg_of X G a_law_is_so) b_law_is_so (ok_law_is_so F_law_is_so T M_Disk_words M_Disk_waiting)
  exact ok_law F_law T D_law_pot D_law_draw C_Disk D_law_is_so D_law_deed M_Disk_copy
theorem walk {l : PySem.W.OpenLaw} {q : Program} {loose : List Str} {XP : (Str → Option Value) → Heap → Prop} {YP : World → Heap → Prop} {d : DefRec} {K : Params → PySem.W.Frag} (hn : l.most = some 63) (hdf : d.params.defaults = [])
    (hY : ∀ (w : World) (h : Heap), YP w h → (K w.params).In h)
    (F : ∀ (w : World) (mg : Str → Option Value) (fa : Addr) (h : Heap), (K w.params).In h → h.Ns mainGlobals mg → mg d.name = some (.ref fa) →
      ∃ fd : FuncData, (∀ (s : Shared) (u : Value), BindsTo s fd ⟨[u], []⟩ [("script", u)]) ∧ ∀ base : Heap, (K w.params).In base → base.Ns mainGlobals mg → FnOk l.prog w (K w.params) mg base (L2.CX l.prog w) 14 fa fd ["script"] (spLaw (K w.params))) :
    PySem.W.WalkO q loose XP YP l.row.toRowW d [] (fun f vs => PySem.call f vs) :=
  L2.walk_of (n := 63) (k := 14) (x := "script") (CX := fun w => L2.CX l.prog w) (sp := fun w => spLaw (K w.params)) hn (by decide) hdf ⟨rfl, by decide, by decide⟩ hY F (fun _ _ a ns hl _ hS => ⟨a, ns, rfl, hS, hl, fun _ => rfl⟩) fun _ _ _ _ _ z => by
    obtain ⟨_, _, _, _, _, _, _, _, _, _, _, _, z⟩ := z
    exact z.elim
end K38



open PySem PySem.W PyProof.Rows in
set_option maxRecDepth 100000 in
set_option maxHeartbeats 0 in
theorem PySem.Challenge.cw_oneplainrun_k38_whole_disks_through_fall_holds : PySem.Challenge.rw_oneplainrun_k38_whole_disks_through_fall.Holds := by
  w_on; o_law; k_head; (case hw => w_witness2)
  k_fill
  refine K38.walk (l := PySem.Challenge.rw_oneplainrun_k38_whole_disks_through_fall) rfl rfl (fun w h Y => PySem.W.kIn_of Y) ?F
  case F =>
    intro w mg fa h KX G hmg
    refine' K38.all_mk KX G hmg ?aC_Disk ?pg_Disk ?hd_Disk ?po_Disk ?sa_Disk ?mk_Disk ?kc_Disk ?aC_Exchange ?a_is_integer ?l_is_integer ?c_is_integer ?k_is_integer ?a_is_between ?l_is_between ?c_is_between ?k_is_between ?a_is_number ?l_is_number ?c_is_number ?k_is_number ?a_is_tuple ?l_is_tuple ?c_is_tuple ?k_is_tuple ?a_is_key ?l_is_key ?c_is_key ?k_is_key ?a_is_kept ?l_is_kept ?c_is_kept ?k_is_kept ?a_Disk___init__ ?i_Disk___init__ ?l_Disk___init__ ?c_Disk___init__ ?k_Disk___init__ ?a_Disk_write ?i_Disk_write ?l_Disk_write ?c_Disk_write ?k_Disk_write ?a_Disk_sync ?i_Disk_sync ?l_Disk_sync ?c_Disk_sync ?k_Disk_sync ?a_Disk_fall ?i_Disk_fall ?l_Disk_fall ?c_Disk_fall ?k_Disk_fall ?a_Disk_words ?i_Disk_words ?l_Disk_words ?c_Disk_words ?k_Disk_words ?a_Disk_waiting ?i_Disk_waiting ?l_Disk_waiting ?c_Disk_waiting ?k_Disk_waiting ?a_Disk_spoil ?i_Disk_spoil ?l_Disk_spoil ?c_Disk_spoil ?k_Disk_spoil ?a_Disk_copy ?i_Disk_copy ?l_Disk_copy ?c_Disk_copy ?k_Disk_copy ?a_law_pot ?l_law_pot ?c_law_pot ?k_law_pot ?a_law_draw ?l_law_draw ?c_law_draw ?k_law_draw ?a_law_any ?l_law_any ?c_law_any ?k_law_any ?a_law_key ?l_law_key ?c_law_key ?k_law_key ?a_law_thing ?l_law_thing ?c_law_thing ?k_law_thing ?a_law_fallen ?l_law_fallen ?c_law_fallen ?k_law_fallen ?a_law_deed ?l_law_deed ?c_law_deed ?k_law_deed ?a_law_is_so ?l_law_is_so ?c_law_is_so ?k_law_is_so ?a_law ?l_law ?c_law ?k_law ?no_Disk_lying ?no_Disk_pending ?no_Disk_spoils ?z_len ?z_int ?z_bool ?z_str ?z_tuple ?z_list ?z_isinstance ?z_all ?z_abs ?z_sum ?z_range ?z_zip ?g_LOST ?g_WHOLE
    (case aC_Disk => k_is)
    (case pg_Disk => k_is)
    (case hd_Disk => k_is)
    (case po_Disk => k_is)
    (case sa_Disk => k_is)
    (case mk_Disk => k_is)
    (case kc_Disk => k_is)
    (case aC_Exchange => k_is)
    (case a_is_integer => k_is)
    (case l_is_integer => k_is)
    (case c_is_integer => k_is)
    (case k_is_integer => k_is)
    (case a_is_between => k_is)
    (case l_is_between => k_is)
    (case c_is_between => k_is)
    (case k_is_between => k_is)
    (case a_is_number => k_is)
    (case l_is_number => k_is)
    (case c_is_number => k_is)
    (case k_is_number => k_is)
    (case a_is_tuple => k_is)
    (case l_is_tuple => k_is)
    (case c_is_tuple => k_is)
    (case k_is_tuple => k_is)
    (case a_is_key => k_is)
    (case l_is_key => k_is)
    (case c_is_key => k_is)
    (case k_is_key => k_is)
    (case a_is_kept => k_is)
    (case l_is_kept => k_is)
    (case c_is_kept => k_is)
    (case k_is_kept => k_is)
    (case a_Disk___init__ => k_is)
    (case i_Disk___init__ => k_is)
    (case l_Disk___init__ => k_is)
    (case c_Disk___init__ => k_is)
    (case k_Disk___init__ => k_is)
    (case a_Disk_write => k_is)
    (case i_Disk_write => k_is)
    (case l_Disk_write => k_is)
    (case c_Disk_write => k_is)
    (case k_Disk_write => k_is)
    (case a_Disk_sync => k_is)
    (case i_Disk_sync => k_is)
    (case l_Disk_sync => k_is)
    (case c_Disk_sync => k_is)
    (case k_Disk_sync => k_is)
    (case a_Disk_fall => k_is)
    (case i_Disk_fall => k_is)
    (case l_Disk_fall => k_is)
    (case c_Disk_fall => k_is)
    (case k_Disk_fall => k_is)
    (case a_Disk_words => k_is)
    (case i_Disk_words => k_is)
    (case l_Disk_words => k_is)
    (case c_Disk_words => k_is)
    (case k_Disk_words => k_is)
    (case a_Disk_waiting => k_is)
    (case i_Disk_waiting => k_is)
    (case l_Disk_waiting => k_is)
    (case c_Disk_waiting => k_is)
    (case k_Disk_waiting => k_is)
    (case a_Disk_spoil => k_is)
    (case i_Disk_spoil => k_is)
    (case l_Disk_spoil => k_is)
    (case c_Disk_spoil => k_is)
    (case k_Disk_spoil => k_is)
    (case a_Disk_copy => k_is)
    (case i_Disk_copy => k_is)
    (case l_Disk_copy => k_is)
    (case c_Disk_copy => k_is)
    (case k_Disk_copy => k_is)
    (case a_law_pot => k_is)
    (case l_law_pot => k_is)
    (case c_law_pot => k_is)
    (case k_law_pot => k_is)
    (case a_law_draw => k_is)
    (case l_law_draw => k_is)
    (case c_law_draw => k_is)
    (case k_law_draw => k_is)
    (case a_law_any => k_is)
    (case l_law_any => k_is)
    (case c_law_any => k_is)
    (case k_law_any => k_is)
    (case a_law_key => k_is)
    (case l_law_key => k_is)
    (case c_law_key => k_is)
    (case k_law_key => k_is)
    (case a_law_thing => k_is)
    (case l_law_thing => k_is)
    (case c_law_thing => k_is)
    (case k_law_thing => k_is)
    (case a_law_fallen => k_is)
    (case l_law_fallen => k_is)
    (case c_law_fallen => k_is)
    (case k_law_fallen => k_is)
    (case a_law_deed => k_is)
    (case l_law_deed => k_is)
    (case c_law_deed => k_is)
    (case k_law_deed => k_is)
    (case a_law_is_so => k_is)
    (case l_law_is_so => k_is)
    (case c_law_is_so => k_is)
    (case k_law_is_so => k_is)
    (case a_law => k_is)
    (case l_law => k_is)
    (case c_law => k_is)
    (case k_law => k_is)
    (case no_Disk_lying => k_is)
    (case no_Disk_pending => k_is)
    (case no_Disk_spoils => k_is)
    (case z_len => k_is)
    (case z_int => k_is)
    (case z_bool => k_is)
    (case z_str => k_is)
    (case z_tuple => k_is)
    (case z_list => k_is)
    (case z_isinstance => k_is)
    (case z_all => k_is)
    (case z_abs => k_is)
    (case z_sum => k_is)
    (case z_range => k_is)
    (case z_zip => k_is)
    (case g_LOST => k_is)
    (case g_WHOLE => k_is)


