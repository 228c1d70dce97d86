import PyProof.Rows.All
import Wide.All
import OpenK.AllK
import Wide.FinOn
import HandS.ForMost
import HandS.ForExc
import HandS.IsInst
import HandS.Zip
import HandS.Defaults
import HandS.Style
import HandS.TupAny
import PySem.Challenge.RW_backring_k02_names_numbers_and_lists
set_option Elab.async false
set_option maxRecDepth 100000
set_option maxHeartbeats 4000000
namespace Kt
open PySem PySem.Spec PyProof.Rows L2
/-! ### a def of the module, as its callers see it -/
structure Cal (P : Program) (w : World) (K : PySem.W.Frag) (mg : Str → Option Value) (base : Heap) (CX : CXT) (k : Nat) (x : Str) (st : Stmt) (ps : List Str) (sp : Sp) : Prop where
  ex : ∃ (f : Addr) (fd : FuncData), mg x = some (.ref f) ∧ Fun K x x st f fd ∧ Binds K fd ps [] ∧ FnOk P w K mg base CX k f fd ps sp
theorem Cal.mono {P : Program} {w : World} {K : PySem.W.Frag} {mg : Str → Option Value} {base : Heap} {CX : CXT} {j k : Nat} {x : Str} {st : Stmt} {ps : List Str} {sp : Sp} (C : Cal P w K mg base CX j x st ps sp) (h : j ≤ k) : Cal P w K mg base CX k x st ps sp := by
  obtain ⟨f, fd, h1, h2, h3, h4⟩ := C.ex
  exact ⟨f, fd, h1, h2, h3, h4.mono h⟩
theorem Cal.imp {P : Program} {w : World} {K : PySem.W.Frag} {mg : Str → Option Value} {base : Heap} {CX : CXT} {k : Nat} {x : Str} {st : Stmt} {ps : List Str} {sp sp' : Sp} (C : Cal P w K mg base CX k x st ps sp)
    (h : ∀ vs H Q E, sp' vs H Q E → sp vs H Q E) : Cal P w K mg base CX k x st ps sp' := by
  obtain ⟨f, fd, h1, h2, h3, h4⟩ := C.ex
  exact ⟨f, fd, h1, h2, h3, h4.imp h⟩
/-- what the top has left of a def -/
structure Dfn (K : PySem.W.Frag) (mg : Str → Option Value) (x : Str) (st : Stmt) : Prop where
  ex : ∃ (f : Addr) (fd : FuncData), mg x = some (.ref f) ∧ Fun K x x st f fd
section
variable {X : Cx} {CX : CXT} {k : Nat} {sp : Sp} {E : XK} {x : Str} {st : Stmt} {ps : List Str} {p pos : Pos} {e : Expr} {es : List Expr} {t : TA}
theorem pe_cal (C : Cal X.prog X.w X.K X.mg X.base CX k x st ps sp) (hr : Room k X.A) (hx : Passes CX X E) (ha : PA X (e :: es) t) (hg : Gl X x := by rfl) (hdb : (x == ("__debug__" : Str)) = false := by decide)
    (he : starEach (e :: es) X.env = (false, eval e X.env) :: starEach es X.env := by rfl) (hpl : (backTo pos (starEach es X.env)).any (·.1) = false := by rfl) : PE X (.Call (.Name x p) (e :: es) [] pos) (tCall sp [] E t) := by
  obtain ⟨f, fd, h1, h2, h3, h4⟩ := C.ex
  exact pe_call h4 hr hg h1 h2.kp h3 .nil hx ha hdb he hpl
theorem pe_cal0 (C : Cal X.prog X.w X.K X.mg X.base CX k x st ps sp) (hr : Room k X.A) (hx : Passes CX X E) (hg : Gl X x := by rfl) (hdb : (x == ("__debug__" : Str)) = false := by decide) :
    PE X (.Call (.Name x p) [] [] pos) (tCall sp [] E tNil) := by
  obtain ⟨f, fd, h1, h2, h3, h4⟩ := C.ex
  exact pe_call0 h4 hr hg h1 h2.kp h3 .nil hx hdb
end
/-- the values in the parameters' order -/
def ord {α : Type} (perm : List Nat) (l : List α) : List α := perm.filterMap fun i => l[i]?
theorem vals_ord {zs : List V} {ws : List Value} (r : Vals zs ws) : ∀ perm : List Nat, Vals (ord perm zs) (ord perm ws)
  | [] => .nil
  | i :: perm => by
    have ih := vals_ord r perm
    unfold ord at ih ⊢
    rw [List.filterMap_cons, List.filterMap_cons]
    cases e : zs[i]? with
    | none => rw [r.none_of e]; exact ih
    | some z =>
      obtain ⟨u, e2, r2⟩ := r.get e
      rw [e2]
      exact .cons r2 ih
section
variable {X : Cx} {CX : CXT} {k : Nat} {sp : Sp} {E : XK} {x : Str} {st : Stmt} {ps : List Str} {p pos : Pos} {e : Expr} {es : List Expr} {kws : List Keyword} {t tk : TA}
theorem kbn_of {K : PySem.W.Frag} {f : Addr} {fd : FuncData} {n : Nat} {ks : List Str} (perm : List Nat) (F : Fun K x x st f fd)
    (hb : ∀ (kV doc pm : Value) (an : Option Addr) (cdv ct : Value) (us ws : List Value), us.length = n → ws.length = ks.length → bindArgs (PySem.W.fnOf x x (defArgs st) (defBody st) (defScope st) .none kV doc pm an cdv ct) ⟨us, ks.zip ws⟩ = pure (ps.zip (ord perm (us ++ ws)))) :
    KBn K fd ps n ks (fun us ws => ord perm (us ++ ws)) (fun vs zs => ord perm (vs ++ zs)) := by
  obtain ⟨oc, od, kV, doc, pm, an, cdv, ct, osl, rfl, lk, hcd⟩ := F.ex
  exact ⟨fun s us ws _ h1 h2 => .of_eq (hb kV doc pm an cdv ct us ws h1 h2), fun r1 r2 => vals_ord (r1.append r2) perm⟩
/-- f(e, .., k = v, ..): every parameter is given -/
theorem pe_calK {n : Nat} (C : Cal X.prog X.w X.K X.mg X.base CX k x st ps sp) (hr : Room k X.A) (hx : Passes CX X E) (ks : List Str) (perm : List Nat)
    (hb : ∀ (kV doc pm : Value) (an : Option Addr) (cdv ct : Value) (us ws : List Value), us.length = n → ws.length = ks.length → bindArgs (PySem.W.fnOf x x (defArgs st) (defBody st) (defScope st) .none kV doc pm an cdv ct) ⟨us, ks.zip ws⟩ = pure (ps.zip (ord perm (us ++ ws))))
    (ha : PA X (e :: es) t) (hkw : PK X kws tk) (hg : Gl X x := by rfl) (hall : (backToKw pos (keywordEach kws X.env)).all (·.1.isSome) = true := by rfl) (hks : (backToKw pos (keywordEach kws X.env)).filterMap (·.1) = ks := by rfl) (hdb : (x == ("__debug__" : Str)) = false := by decide)
    (he : starEach (e :: es) X.env = (false, eval e X.env) :: starEach es X.env := by rfl) (hpl : ((backTo pos (starEach (e :: es) X.env)).any (·.1) || (backToKw pos (keywordEach kws X.env)).any (·.1.isNone)) = false := by rfl) :
    PE X (.Call (.Name x p) (e :: es) kws pos) (tCallN n ks.length sp (fun vs zs => ord perm (vs ++ zs)) E t tk) := by
  obtain ⟨f, fd, h1, h2, h3, h4⟩ := C.ex
  exact pe_callN h4 hr hg h1 h2.kp (kbn_of perm h2 hb) hx ha hkw hall hks hdb he hpl
theorem pe_calK0 (C : Cal X.prog X.w X.K X.mg X.base CX k x st ps sp) (hr : Room k X.A) (hx : Passes CX X E) (ks : List Str) (perm : List Nat)
    (hb : ∀ (kV doc pm : Value) (an : Option Addr) (cdv ct : Value) (us ws : List Value), us.length = 0 → ws.length = ks.length → bindArgs (PySem.W.fnOf x x (defArgs st) (defBody st) (defScope st) .none kV doc pm an cdv ct) ⟨us, ks.zip ws⟩ = pure (ps.zip (ord perm (us ++ ws))))
    (hkw : PK X kws tk) (hg : Gl X x := by rfl) (hall : (backToKw pos (keywordEach kws X.env)).all (·.1.isSome) = true := by rfl) (hks : (backToKw pos (keywordEach kws X.env)).filterMap (·.1) = ks := by rfl) (hdb : (x == ("__debug__" : Str)) = false := by decide)
    (hpl : ((backTo pos (starEach [] X.env)).any (·.1) || (backToKw pos (keywordEach kws X.env)).any (·.1.isNone)) = false := by rfl) :
    PE X (.Call (.Name x p) [] kws pos) (tCallN 0 ks.length sp (fun vs zs => ord perm (vs ++ zs)) E tNil tk) := by
  obtain ⟨f, fd, h1, h2, h3, h4⟩ := C.ex
  refine ⟨fun pins s σ H Q I h => ?_⟩
  refine wpAny_Call_Name_kw (ld_glob I hg h1 ?_ hdb)
  refine PySem.W.callWith_KW0 (h₀ := X.base) I.ok.mod.kin h2.kp hall ?_ hpl
  refine thn (hkw.run pos pins s σ H _ I h) fun ws s2 ⟨zs, H2, I2, rz, l1, l2, q2⟩ => ⟨I2.kIn, ?_⟩
  rw [hks]
  exact run_fnN (us := []) (vs := []) h4 hr (kbn_of perm h2 hb) hx I2 .nil rz rfl l2 q2
end
section
variable {P : Program} {w : World} {K : PySem.W.Frag} {mg : Str → Option Value} {base : Heap} {x : Str} {st : Stmt} {N ps : List Str} {k : Nat} {sp : Sp}
/-- a def that lets nothing out -/
theorem cal_of (D : Dfn K mg x st) (S : FnScope N ps (defScope st))
    (hb : ∀ (kV doc pm : Value) (an : Option Addr) (cdv ct : Value) (us : List Value), us.length = ps.length → bindArgs (PySem.W.fnOf x x (defArgs st) (defBody st) (defScope st) .none kV doc pm an cdv ct) ⟨us, []⟩ = pure (ps.zip us))
    (len : ∀ vs H Q E, sp vs H Q E → vs.length = ps.length)
    (hbody : ∀ (f : Addr) (cdv : Value) (A : Around) (outer : List Env) (s : Shared) (H : Hp) (vs : List V) (Q : VK) (E : XK), Room k (A.deeper (envOfC x (defScope st) s.heap.objs.size f cdv)) → sp vs H Q E →
      ∃ t, PSs (cxOf CX0 P w K mg base N x (defScope st) f cdv A outer s H E).nox (defBody st) t ∧ t { nx := fun _ H' => Q .non H', rt := Q } (start N vs) H) : Cal P w K mg base CX0 (k + 1) x st ps sp := by
  obtain ⟨f, fd, h1, h2⟩ := D.ex
  exact ⟨f, fd, h1, h2, h2.binds hb, h2.ok S len (hbody f)⟩
end
theorem pe_ty {X : Cx} {x : Str} {pos : Pos} (n : String) (hg : Gl X x) (hm : X.mg x = none) (hv : bootBuiltins x = some (.type n)) (hn : x ≠ "__name__" := by decide) (hd : (x == ("__debug__" : Str)) = false := by decide) : PE X (.Name x pos) (tC (.ty n)) := pe_bltn hg hm hv (v := .ty n) rfl hn hd
theorem pe_gstr {X : Cx} {x : Str} {z : Str} {pos : Pos} (hg : Gl X x) (hm : ∃ t, X.mg x = some (.str z t)) (hd : (x == ("__debug__" : Str)) = false := by decide) : PE X (.Name x pos) (tC (.str z)) := by
  obtain ⟨t, e⟩ := hm
  exact pe_glob hg e (v := .str z) ⟨t, rfl⟩ hd
theorem pe_gint {X : Cx} {x : Str} {z : Int} {pos : Pos} (hg : Gl X x) (hm : ∃ t, X.mg x = some (.int z t)) (hd : (x == ("__debug__" : Str)) = false := by decide) : PE X (.Name x pos) (tC (.int z)) := by
  obtain ⟨t, e⟩ := hm
  exact pe_glob hg e (v := .int z) ⟨t, rfl⟩ hd
/-- the law's def, for the end -/
theorem fn_of_cal {P : Program} {w : World} {K : PySem.W.Frag} {mg : Str → Option Value} {CX : CXT} {k : Nat} {x p : Str} {st : Stmt} {sp : Sp} {fa : Addr} (D : Dfn K mg x st) (hfa : mg x = some (.ref fa))
    (hb : ∀ (kV doc pm : Value) (an : Option Addr) (cdv ct : Value) (us : List Value), us.length = [p].length → bindArgs (PySem.W.fnOf x x (defArgs st) (defBody st) (defScope st) .none kV doc pm an cdv ct) ⟨us, []⟩ = pure ([p].zip us))
    (h : ∀ base : Heap, K.In base → base.Ns mainGlobals mg → Cal P w K mg base CX k x st [p] sp) :
    ∃ fd : FuncData, (∀ (s : Shared) (u : Value), BindsTo s fd ⟨[u], []⟩ [(p, u)]) ∧ ∀ base : Heap, K.In base → base.Ns mainGlobals mg → FnOk P w K mg base CX k fa fd [p] sp := by
  obtain ⟨f, fd, h1, F⟩ := D.ex
  obtain rfl : fa = f := by rw [hfa] at h1; cases h1; rfl
  refine ⟨fd, fun s u => ?_, fun base kb nb => ?_⟩
  · obtain ⟨oc, od, kV, doc, pm, an, cdv, ct, osl, e, lk, hcd⟩ := F.ex
    rw [e]
    exact .of_eq (hb kV doc pm an cdv ct [u] rfl)
  · obtain ⟨f', fd', g1, g2, g3, g4⟩ := (h base kb nb).ex
    obtain rfl : fa = f' := by rw [hfa] at g1; cases g1; rfl
    obtain ⟨_, _, _, _, _, _, _, _, _, _, lk, _⟩ := F.ex
    obtain ⟨_, _, _, _, _, _, _, _, _, _, lk', _⟩ := g2.ex
    obtain rfl : fd = fd' := by rw [lk] at lk'; cases lk'; rfl
    exact g4
theorem room65 {k : Nat} {A : Around} (r : Room k A) : A.units + 65 < cLine := by have := r.un; omega
/-! ### named rules -/
def rInt1 : List V → Hp → VK → Prop := fun xs H Q => (∃ i, xs = [.int i] ∧ Q (.int i) H) ∨ ∃ k, xs = [.bl k] ∧ Q (.int (if k then 1 else 0)) H
def rLen (K : PySem.W.Frag) : List V → Hp → VK → Prop := fun xs H Q => ∃ p ys, xs = [.ref p] ∧ (SqL K H p ys ∨ SqT K H p ys) ∧ Q (.int ys.length) H
def rLenStr : List V → Hp → VK → Prop := fun xs H Q => ∃ z, xs = [.str z] ∧ z.length ≤ sizeLine ∧ Q (.int z.length) H
def rList (K : PySem.W.Frag) : List V → Hp → VK → Prop := fun xs H Q => ∃ p ys, xs = [.ref p] ∧ (SqL K H p ys ∨ SqT K H p ys) ∧ ∀ l, H l = none → Q (.ref l) (upd H l (.lst ys))
def rLenA (K : PySem.W.Frag) : List V → Hp → VK → Prop := fun xs H Q => ∃ x n, xs = [x] ∧ LenV K x H n ∧ Q (.int n) H
def rAddS : R2 := fun x y H Q => ∃ i j, x = .str i ∧ y = .str j ∧ i.length + j.length ≤ sizeLine ∧ Q (.str (i ++ j)) H
def rInSign : R2 := fun x y H Q => ∃ (c : Nat) (z : Str), x = .str ⟨#[c]⟩ ∧ y = .str z ∧ Q (.bl (decide (c ∈ z.cps.toList))) H
def rIsN : R2 := fun x y H Q => y = .non ∧ Q (.bl (decide (x = .non))) H
def rNotN : R2 := fun x y H Q => y = .non ∧ Q (.bl (!decide (x = .non))) H
/-- None, a bool, an int, a text -/
def Plain : V → Prop
  | .non => True | .bl _ => True | .int _ => True | .str _ => True | _ => False
def rInDT (K : PySem.W.Frag) : R2 := fun x y H Q => ∃ d ds, Dp K H x d ∧ Dp K H y (.tuple ds) ∧ SeqAt.shaped d = true ∧ SeqAt.shaped (.tuple ds) = true ∧ Q (.bl (ds.any fun z => PyData.eqv z d)) H
/-- x is not b, b a bool, x no reference -/
def rNotBl1 : R2 := fun x y H Q => ∃ b : Bool, y = .bl b ∧ Plain x ∧ Q (.bl (!decide (x = .bl b))) H
section
variable {X : Cx}
theorem k_inDT (K : PySem.W.Frag) (hu : X.A.units + 65 < cLine) (hK : X.K = K := by rfl) : OpR X (compareOp .In) (rInDT K) := by
  subst hK
  intro pins s σ H x y v u Q I rx ry h
  obtain ⟨d, ds, hd, he, sd, se, q⟩ := h
  obtain ⟨as, r1⟩ := Dp.reads I d x v hd rx
  obtain ⟨bs, r2⟩ := Dp.reads I (.tuple ds) y u he ry
  exact SeqAt.in_tuple_reads r2 r1 (SeqAt.canLay_of_shaped se) (SeqAt.canLay_of_shaped sd) (room_in_shaped sd hu) ⟨.bl _, H, I, rfl, q⟩
theorem k_notBl1 : OpR X (compareOp .IsNot) rNotBl1 := by
  intro pins s σ H x y v u Q I rx ry h
  obtain ⟨b, rfl, hx, q⟩ := h
  cases (show u = Value.bool b from ry)
  cases x with
  | non =>
    cases (show v = Value.none from rx)
    exact wpAny_isNot_other rfl (fun z => nomatch z) ⟨.bl true, H, I, rfl, by simpa using q⟩
  | int i =>
    obtain ⟨t, rfl⟩ := rx
    exact wpAny_isNot_other rfl (fun z => nomatch z) ⟨.bl true, H, I, rfl, by simpa using q⟩
  | str i =>
    obtain ⟨t, rfl⟩ := rx
    exact wpAny_isNot_other rfl (fun z => nomatch z) ⟨.bl true, H, I, rfl, by simpa using q⟩
  | bl a =>
    cases (show v = Value.bool a from rx)
    by_cases e : a = b
    · subst e
      exact wpAny_isNot_self rfl ⟨.bl false, H, I, rfl, by simpa using q⟩
    · exact wpAny_isNot_other rfl (fun z => e (Value.bool.inj z)) ⟨.bl true, H, I, rfl, by simpa [e] using q⟩
  | _ => exact hx.elim
theorem k_int1 : CallR X (.type "int") rInt1 := call_int1
theorem k_len (K : PySem.W.Frag) (h : X.K = K := by rfl) : CallR X (.builtin "len") (rLen K) := h ▸ call_len_seq
theorem k_lenA (K : PySem.W.Frag) (h : X.K = K := by rfl) : CallR X (.builtin "len") (rLenA K) := h ▸ call_len
theorem k_lenS : CallR X (.builtin "len") rLenStr := call_len_str
theorem k_list (K : PySem.W.Frag) (h : X.K = K := by rfl) : CallR X (.type "list") (rList K) := h ▸ call_list_of
theorem k_addS : OpR X (binaryOp .Add) rAddS := op_add_str
theorem k_inSign : OpR X (compareOp .In) rInSign := op_in_sign
theorem k_isN : OpR X (compareOp .Is) rIsN := op_isN
theorem k_notN : OpR X (compareOp .IsNot) rNotN := op_notN
theorem k_ixL (K : PySem.W.Frag) (h : X.K = K := by rfl) : IxR X (rIxL K) := h ▸ ix_list
theorem k_ixT (K : PySem.W.Frag) (h : X.K = K := by rfl) : IxR X (rIxT K) := h ▸ ix_tup
theorem k_ixA (K : PySem.W.Frag) (h : X.K = K := by rfl) : IxR X (rIx K) := h ▸ ix_seq
theorem k_slL (K : PySem.W.Frag) (h : X.K = K := by rfl) : SlR X (rSlL K) := h ▸ sl_list
theorem k_isi (K : PySem.W.Frag) (h : X.K = K := by rfl) : CallR X (.builtin "isinstance") (rIsi K) := h ▸ call_isi
theorem k_isiT (K : PySem.W.Frag) (h : X.K = K := by rfl) : CallR X (.builtin "isinstance") (rIsiT K) := h ▸ call_isiT
theorem k_all (K : PySem.W.Frag) (h : X.K = K := by rfl) (hc : X.calm = true := by rfl) : CallR X (.builtin "all") (rAll K) := h ▸ cr_all hc
theorem k_any (K : PySem.W.Frag) (h : X.K = K := by rfl) (hc : X.calm = true := by rfl) : CallR X (.builtin "any") (rAny K) := h ▸ cr_any hc
theorem k_inSeq (K : PySem.W.Frag) (h : X.K = K := by rfl) : OpR X (compareOp .In) (rIn K false) := h ▸ op_in_seq
theorem k_notInSeq (K : PySem.W.Frag) (h : X.K = K := by rfl) : OpR X (compareOp .NotIn) (rIn K true) := h ▸ op_notIn_seq
theorem k_eqD (K : PySem.W.Frag) (hu : X.A.units + 64 < cLine) (h : X.K = K := by rfl) : OpR X (compareOp .Eq) (rEqD K) := h ▸ op_eqD hu
theorem k_neD (K : PySem.W.Frag) (hu : X.A.units + 64 < cLine) (h : X.K = K := by rfl) : OpR X (compareOp .NotEq) (rNeD K) := h ▸ op_neD hu
theorem kpi_list (K : PySem.W.Frag) {tg l : Expr} {tl : TE} (hl : PE X l tl) (h : X.K = K := by rfl) : PI X tg l (iList K tl) := h ▸ pi_list hl
theorem kpi_tup (K : PySem.W.Frag) {tg l : Expr} {tl : TE} (hl : PE X l tl) (h : X.K = K := by rfl) : PI X tg l (iTup K tl) := h ▸ pi_tup hl
theorem kpg_tup (K : PySem.W.Frag) {es : List Expr} {k : Nat} {t : TGs} {n : Nat} {pos : Pos} (h : PGs X es t) (hc : X.calm = true := by rfl)
    (hn : (assignEach es X.env).length = n := by rfl) (hst : (assignEach es X.env).findIdx? (·.1) = none := by rfl) (hK : X.K = K := by rfl) : PG X (.Tuple es k pos) (gTup K n t) := hK ▸ pg_tup hc h hn hst
theorem kpi_zip (K : PySem.W.Frag) {e e2 : Expr} {ta : TA} {p pos tpos : Pos} {elts : List Expr} {kk : Nat} (hg : Gl X "zip") (hm : X.mg "zip" = none) (ha : PA X [e, e2] ta)
    (hs : starEach [e, e2] X.env = (false, eval e X.env) :: starEach [e2] X.env := by rfl) (hpl : (backTo pos (starEach [e2] X.env)).any (·.1) = false := by rfl) (hK : X.K = K := by rfl) :
    PI X (.Tuple elts kk tpos) (.Call (.Name "zip" p) [e, e2] [] pos) (RZ.iZipA K ta) := hK ▸ RZ.pi_zipA hg hm ha hs hpl
theorem kpi_enum (K : PySem.W.Frag) {e : Expr} {ta : TA} {p pos tpos : Pos} {elts : List Expr} {kk : Nat} (hg : Gl X "enumerate") (hm : X.mg "enumerate" = none) (ha : PA X [e] ta) (hs : starEach [e] X.env = [(false, eval e X.env)] := by rfl) (hK : X.K = K := by rfl) :
    PI X (.Tuple elts kk tpos) (.Call (.Name "enumerate" p) [e] [] pos) (iEnum K ta) := hK ▸ pi_enum hg hm ha hs
end
section
variable {P : Program} {w : World} {K : PySem.W.Frag} {mg : Str → Option Value} {base : Heap} {x : Str} {st : Stmt} {ps : List Str} {sp : Sp}
/-- a def that is never called -/
theorem cal_never (D : Dfn K mg x st)
    (hb : ∀ (kV doc pm : Value) (an : Option Addr) (cdv ct : Value) (us : List Value), us.length = ps.length → bindArgs (PySem.W.fnOf x x (defArgs st) (defBody st) (defScope st) .none kV doc pm an cdv ct) ⟨us, []⟩ = pure (ps.zip us))
    (no : ∀ vs H Q E, ¬ sp vs H Q E) : Cal P w K mg base CX0 0 x st ps sp := by
  obtain ⟨f, fd, h1, h2⟩ := D.ex
  exact ⟨f, fd, h1, h2, h2.binds hb, ⟨fun vs H Q E h => absurd h (no vs H Q E), fun A outer s H args us vs Q E _ _ _ _ h => absurd h (no vs H Q E)⟩⟩
end
/-! ### readings, one step each -/
section
variable {K : PySem.W.Frag} {σ : L2.St} {H : Hp} {D : Ends} {t1 t2 : TS} {te ta tb : TE} {tc tu : TT} {t : TA} {i : Nat} {v x y : V} {vs xs : List V} {r : R2} {Q : VK} {QB : Bool → Hp → Prop} {QA : List V → Hp → Prop} {QS : L2.St → Hp → Prop} {sp : Sp} {E : XK} {b : Bool} {m n : Int}
theorem rd_seq (h : t1 { D with nx := t2 D } σ H) : tSeq t1 t2 D σ H := h
theorem rd_seqA {g : TG} (h : tAsg te g { D with nx := t2 D } σ H) : tSeq (tAsg te g) t2 D σ H := h
theorem rd_seqP {j : Nat} (h : tPar i j t { D with nx := t2 D } σ H) : tSeq (tPar i j t) t2 D σ H := h
theorem rd_seqD (h : tDrop te { D with nx := t2 D } σ H) : tSeq (tDrop te) t2 D σ H := h
theorem rd_next (h : D.nx σ H) : tNext D σ H := h
theorem rd_brk (h : D.bk σ H) : tBreak D σ H := h
theorem rd_cont (h : D.ct σ H) : tCont D σ H := h
theorem rd_asg {g : TG} (h : te σ H fun v H1 => g v σ H1 D.nx) : tAsg te g D σ H := h
theorem rd_name (h : QS (σ.set i (some v)) H) : gName i v σ H QS := h
theorem rd_ret (h : te σ H D.rt) : tRet te D σ H := h
theorem rd_retN (h : D.rt .non H) : tRetN D σ H := h
theorem rd_drop (h : te σ H fun _ H1 => D.nx σ H1) : tDrop te D σ H := h
theorem rd_ifs (h : tc σ H fun b H1 => if b = true then t1 D σ H1 else t2 D σ H1) : tIfS tc t1 t2 D σ H := h
theorem rd_var (e : σ[i]? = some (some v)) (h : Q v H) : tVar i σ H Q := ⟨v, e, h⟩
theorem rd_c (h : Q v H) : tC v σ H Q := h
theorem rd_op (h : ta σ H fun x H1 => tb σ H1 fun y H2 => r x y H2 Q) : tOp r ta tb σ H Q := h
theorem rd_un {r : V → Hp → VK → Prop} (h : ta σ H fun x H1 => r x H1 Q) : tUn r ta σ H Q := h
theorem rd_test (h : te σ H fun x H' => ∃ k, x = .bl k ∧ QB k H') : tTest te σ H QB := h
theorem rd_B (h : te σ H fun x H' => ∃ k, x = .bl k ∧ QB k H') : tB te σ H QB := h
theorem rd_bl {P : Bool → Prop} (h : P b) : ∃ k, V.bl b = .bl k ∧ P k := ⟨b, rfl, h⟩
theorem rd_and (h : tc σ H fun c H1 => if c = true then tu σ H1 QB else QB false H1) : tAnd tc tu σ H QB := h
theorem rd_or (h : tc σ H fun c H1 => if c = true then QB true H1 else tu σ H1 QB) : tOr tc tu σ H QB := h
theorem rd_not (h : tc σ H fun c H1 => QB (!c) H1) : tNot tc σ H QB := h
theorem rd_andV (h : ta σ H fun x H1 => ∃ c, x = .bl c ∧ if c = true then tb σ H1 Q else Q (.bl false) H1) : tAndV ta tb σ H Q := h
theorem rd_orV (h : ta σ H fun x H1 => ∃ c, x = .bl c ∧ if c = true then Q (.bl true) H1 else tb σ H1 Q) : tOrV ta tb σ H Q := h
theorem rd_notV (h : ta σ H fun x H1 => ∃ c, x = .bl c ∧ Q (.bl (!c)) H1) : tNotV ta σ H Q := h
theorem rd_ifE (h : tc σ H fun c H1 => if c = true then ta σ H1 Q else tb σ H1 Q) : tIf tc ta tb σ H Q := h
theorem rd_nil (h : QA [] H) : tNil σ H QA := h
theorem rd_cons {tr : TA} (h : ta σ H fun x H1 => tr σ H1 fun xs H2 => QA (x :: xs) H2) : tCons ta tr σ H QA := h
theorem rd_tup (h : t σ H fun xs H1 => xs.length ≤ sizeLine ∧ ∀ p, H1 p = none → Q (.ref p) (upd H1 p (.tup xs))) : tTup t σ H Q := h
theorem rd_lst (h : t σ H fun xs H1 => xs.length ≤ sizeLine ∧ ∀ p, H1 p = none → Q (.ref p) (upd H1 p (.lst xs))) : tLst t σ H Q := h
theorem rd_call {dvs : List V} (h : t σ H fun vs H1 => sp (vs ++ dvs) H1 Q E) : tCall sp dvs E t σ H Q := h
theorem rd_cb {r : List V → Hp → VK → Prop} (h : t σ H fun vs H1 => r vs H1 Q) : tCB r t σ H Q := h
theorem rd_rI0 {g : Int → Int → V} (h : Q (g m n) H) : rI0 g (.int m) (.int n) H Q := ⟨m, n, rfl, rfl, h⟩
theorem rd_rI {C : Int → Int → Prop} {g : Int → Int → V} (c : C m n) (h : Q (g m n) H) : rI C g (.int m) (.int n) H Q := ⟨m, n, rfl, rfl, c, h⟩
theorem rd_rU {g : Int → V} (h : Q (g m) H) : rU g (.int m) H Q := ⟨m, rfl, h⟩
theorem rd_eq (s : scal x y = true) (h : Q (.bl (decide (x = y))) H) : rEq x y H Q := ⟨s, h⟩
theorem rd_ne (s : scal x y = true) (h : Q (.bl (!decide (x = y))) H) : rNe x y H Q := ⟨s, h⟩
theorem rd_ixL {p : Addr} (h : SqL K H p xs) (a : atI xs m = some v) (q : Q v H) : rIxL K (.ref p) (.int m) H Q := ⟨p, xs, m, v, rfl, rfl, h, a, q⟩
theorem rd_ixT {p : Addr} (h : SqT K H p xs) (a : atI xs m = some v) (q : Q v H) : rIxT K (.ref p) (.int m) H Q := ⟨p, xs, m, v, rfl, rfl, h, a, q⟩
theorem rd_setL {p : Addr} {QH : Hp → Prop} {j : Nat} (h : H p = some (.lst xs)) (a : ixN xs.length m = some j) (q : QH (upd H p (.lst (xs.set j v)))) : rSetL (.ref p) (.int m) v H QH := ⟨p, xs, m, j, rfl, rfl, h, a, q⟩
theorem rd_gsub {to ti : TE} {s : TSet} (h : to σ H fun o H1 => ti σ H1 fun i H2 => s o i v H2 fun H3 => QS σ H3) : gSub to ti s v σ H QS := h
theorem rd_chain {r' : R2} {td : TE} (h : ta σ H fun x H1 => tb σ H1 fun y H2 => r x y H2 fun z H3 => ∃ k, z = .bl k ∧ (if k = true then td σ H3 fun w' H4 => r' y w' H4 Q else Q (.bl false) H3)) : tChain r r' ta tb td σ H Q := h
theorem rd_sl {r : V → Option Int → Option Int → Hp → VK → Prop} {tl th : TO} (h : te σ H fun x H1 => tl σ H1 fun l H2 => th σ H2 fun u H3 => r x l u H3 Q) : tSl r te tl th σ H Q := h
theorem rd_noPart {QO : Option Int → Hp → Prop} (h : QO none H) : tNoPart σ H QO := h
theorem rd_part {QO : Option Int → Hp → Prop} (h : te σ H fun x H1 => ∃ i, x = .int i ∧ QO (some i) H1) : tPart te σ H QO := h
theorem rd_int {P : Int → Prop} (h : P m) : ∃ i, V.int m = .int i ∧ P i := ⟨m, rfl, h⟩
theorem rd_str {P : Str → Prop} {z : Str} (h : P z) : ∃ i, V.str z = .str i ∧ P i := ⟨z, rfl, h⟩
theorem rd_cut (R : L2.St → Hp → Prop) (h1 : ∀ nx : L2.St → Hp → Prop, (∀ σ' H', R σ' H' → nx σ' H') → t1 { D with nx := nx } σ H) (h2 : ∀ σ' H', R σ' H' → t2 D σ' H') : tSeq t1 t2 D σ H := h1 _ h2
theorem rd_iteT {A B : Prop} (h : A) : if true = true then A else B := iteT h
theorem rd_iteF {A B : Prop} (h : B) : if false = true then A else B := iteF h
theorem rd_int1 (h : Q (.int m) H) : rInt1 [.int m] H Q := .inl ⟨m, rfl, h⟩
theorem rd_lenL {p : Addr} (h : SqL K H p xs) (q : Q (.int xs.length) H) : rLen K [.ref p] H Q := ⟨p, xs, rfl, .inl h, q⟩
theorem rd_lenT {p : Addr} (h : SqT K H p xs) (q : Q (.int xs.length) H) : rLen K [.ref p] H Q := ⟨p, xs, rfl, .inr h, q⟩
theorem rd_lenS {z : Str} (h : z.length ≤ sizeLine) (q : Q (.int z.length) H) : rLenStr [.str z] H Q := ⟨z, rfl, h, q⟩
theorem rd_listL {p : Addr} (h : SqL K H p xs) (q : ∀ l, H l = none → Q (.ref l) (upd H l (.lst xs))) : rList K [.ref p] H Q := ⟨p, xs, rfl, .inl h, q⟩
theorem rd_listT {p : Addr} (h : SqT K H p xs) (q : ∀ l, H l = none → Q (.ref l) (upd H l (.lst xs))) : rList K [.ref p] H Q := ⟨p, xs, rfl, .inr h, q⟩
theorem rd_addS {a b : Str} (h : a.length + b.length ≤ sizeLine) (q : Q (.str (a ++ b)) H) : rAddS (.str a) (.str b) H Q := ⟨a, b, rfl, rfl, h, q⟩
theorem rd_inSign {c : Nat} {z : Str} (q : Q (.bl (decide (c ∈ z.cps.toList))) H) : rInSign (.str ⟨#[c]⟩) (.str z) H Q := ⟨c, z, rfl, rfl, q⟩
theorem rd_callN {n m : Nat} {gV : List V → List V → List V} {tk : TA} (h : t σ H fun vs H1 => tk σ H1 fun zs H2 => vs.length = n ∧ zs.length = m ∧ sp (gV vs zs) H2 Q E) : tCallN n m sp gV E t tk σ H Q := h
theorem rd_lens {A : Prop} {us ws : List V} {n m : Nat} (h1 : us.length = n) (h2 : ws.length = m) (h : A) : us.length = n ∧ ws.length = m ∧ A := ⟨h1, h2, h⟩
theorem rd_notBl1 (h : Plain x) (q : Q (.bl (!decide (x = .bl b))) H) : rNotBl1 x (.bl b) H Q := ⟨b, rfl, h, q⟩
theorem rd_eqD {d e : PyData} (hd : Dp K H x d) (he : Dp K H y e) (sd : SeqAt.shaped d = true) (se : SeqAt.shaped e = true) (q : Q (.bl (PyData.eqv d e)) H) : rEqD K x y H Q := ⟨d, e, hd, he, sd, se, q⟩
theorem rd_inDT {d : PyData} {ds : List PyData} (hd : Dp K H x d) (he : Dp K H y (.tuple ds)) (sd : SeqAt.shaped d = true) (se : SeqAt.shaped (.tuple ds) = true) (q : Q (.bl (ds.any fun z => PyData.eqv z d)) H) : rInDT K x y H Q := ⟨d, ds, hd, he, sd, se, q⟩
theorem rd_isN (q : Q (.bl (decide (x = .non))) H) : rIsN x .non H Q := ⟨rfl, q⟩
theorem rd_notN (q : Q (.bl (!decide (x = .non))) H) : rNotN x .non H Q := ⟨rfl, q⟩
theorem rd_slL {p : Addr} {lo hi : Option Int} (h : SqL K H p xs) (q : ∀ l, H l = none → Q (.ref l) (upd H l (.lst (cutV xs lo hi)))) : rSlL K (.ref p) lo hi H Q := ⟨p, xs, rfl, h, q⟩
end
/-! ### texts -/
def rJoin (K : PySem.W.Frag) : V → List V → Hp → VK → Prop := fun x xs H Q => ∃ a p, ∃ ys : List Str, x = .str a ∧ xs = [.ref p] ∧ (SqL K H p (ys.map V.str) ∨ SqT K H p (ys.map V.str)) ∧ (ys.map (·.length)).sum + ys.length * a.length ≤ 16777216 ∧ Q (.str (Txt.join a ys)) H
theorem k_join (K : PySem.W.Frag) {X : Cx} {o e : Expr} {to te : TE} {apos pos : Pos} (ho : PE X o to) (he : PE X e te) (hK : X.K = K := by rfl) (hs : starEach [e] X.env = [(false, eval e X.env)] := by rfl) (hbase : attributeBase o "join" X.env (eval o X.env) = eval o X.env := by rfl) (hline : (apos.endLine == pos.line) = true := by rfl) :
    PE X (.Call (.Attribute o "join" apos) [e] [] pos) (tM1 (rJoin K) to te) := hK ▸ pe_join ho he hs hbase hline
section
variable {K : PySem.W.Frag} {σ : L2.St} {H : Hp} {to te : TE} {Q : VK} {r : V → List V → Hp → VK → Prop} {z : Str}
theorem rd_m1 (h : to σ H fun x H1 => (∃ a, x = .str a) ∧ te σ H1 fun y H2 => r x [y] H2 Q) : tM1 r to te σ H Q := h
theorem rd_m0 (h : to σ H fun x H1 => (∃ a, x = .str a) ∧ r x [] H1 Q) : tM0 r to σ H Q := h
theorem rd_isStr {A : Prop} (h : A) : (∃ a, V.str z = .str a) ∧ A := ⟨⟨z, rfl⟩, h⟩
theorem rd_slS {lo hi : Option Int} (hz : z.length ≤ sizeLine) (h : Q (.str (cutS z lo hi)) H) : rSlS (.str z) lo hi H Q := ⟨z, rfl, hz, h⟩
end
/-- the text of some codes -/
def ofCodes (cs : List Nat) : Str := ⟨cs.toArray⟩
theorem join_signs (cs : List Nat) : Txt.join "" (cs.map fun c => (⟨#[c]⟩ : Str)) = ofCodes cs := by
  refine TL.ext_tl ?_
  rw [TL.join_eq, TL.tl_join]
  have e : TL.tl (("" : Str)) = [] := by decide +kernel
  rw [e, List.map_map]
  show _ = cs
  induction cs with
  | nil => rfl
  | cons c cs ih =>
    cases cs with
    | nil => rfl
    | cons d ds =>
      show TL.tl ⟨#[c]⟩ ++ ([] ++ TL.joinL [] (TL.tl ⟨#[d]⟩ :: _)) = _
      rw [List.nil_append]
      exact congrArg (c :: ·) ih
theorem sum_signs (cs : List Nat) : ((cs.map fun c => (⟨#[c]⟩ : Str)).map (·.length)).sum = cs.length := by
  induction cs with
  | nil => rfl
  | cons c cs ih =>
    rw [List.map_cons, List.map_cons, List.sum_cons, ih, List.length_cons]
    show 1 + cs.length = _
    omega
/-! ### kinds -/
inductive Kd where
  | non | bl | int | str | lst | tup | dct
def Kd.name : Kd → String
  | .non => "NoneType" | .bl => "bool" | .int => "int" | .str => "str" | .lst => "list" | .tup => "tuple" | .dct => "dict"
/-- is the kind a one of the class b -/
def Kd.sub : Kd → Kd → Bool
  | .bl, .bl => true | .bl, .int => true | .int, .int => true | .str, .str => true | .lst, .lst => true | .tup, .tup => true | .dct, .dct => true | .non, .non => true
  | _, _ => false
theorem Kd.kit : ∀ a b : Kd, kitB a.name b.name = some (a.sub b)
  | a, b => by cases a <;> cases b <;> decide +kernel
/-- x is of the kind k -/
def Is (K : PySem.W.Frag) (H : Hp) (x : V) (k : Kd) : Prop := TyX K H x (.type k.name)
section
variable {K : PySem.W.Frag} {H : Hp} {x : V} {k : Kd} {Q : VK} {a : Addr} {xs : List V}
theorem Is.non : Is K H .non .non := .base .non
theorem Is.bl {b : Bool} : Is K H (.bl b) .bl := .base (.bl b)
theorem Is.int {i : Int} : Is K H (.int i) .int := .base (.int i)
theorem Is.str {z : Str} : Is K H (.str z) .str := .base (.str z)
theorem Is.lst (h : SqL K H a xs) : Is K H (.ref a) .lst := by
  rcases h with (h | ⟨o, h⟩) | ⟨o, its, n, e, c, _⟩
  · exact .base (.lst h)
  · exact .base (.frz h)
  · exact .kList e c
theorem Is.tup (h : SqT K H a xs) : Is K H (.ref a) .tup := by
  rcases h with (h | ⟨o, h⟩) | ⟨o, its, n, e, c, _⟩
  · exact .base (.tup h)
  · exact .fTuple h
  · exact .kTuple e c
theorem rd_isi (t : Kd) (h : Is K H x k) (q : Q (.bl (k.sub t)) H) : rIsi K [x, .ty t.name] H Q := ⟨x, .ty t.name, _, _, _, rfl, .ty _, h, kit_ty (Kd.kit k t), q⟩
theorem rd_isi_str (h : Is K H x k) (q : Q (.bl (k.sub .str)) H) : rIsi K [x, .ty "str"] H Q := rd_isi .str h q
theorem rd_isi_int (h : Is K H x k) (q : Q (.bl (k.sub .int)) H) : rIsi K [x, .ty "int"] H Q := rd_isi .int h q
theorem rd_isi_bool (h : Is K H x k) (q : Q (.bl (k.sub .bl)) H) : rIsi K [x, .ty "bool"] H Q := rd_isi .bl h q
theorem rd_isi_list (h : Is K H x k) (q : Q (.bl (k.sub .lst)) H) : rIsi K [x, .ty "list"] H Q := rd_isi .lst h q
theorem rd_isi_tuple (h : Is K H x k) (q : Q (.bl (k.sub .tup)) H) : rIsi K [x, .ty "tuple"] H Q := rd_isi .tup h q
theorem rd_isi_dict (h : Is K H x k) (q : Q (.bl (k.sub .dct)) H) : rIsi K [x, .ty "dict"] H Q := rd_isi .dct h q
/-- isinstance(x, (list, tuple)) -/
theorem rd_isi_lt {p : Addr} (h : Is K H x k) (hp : H p = some (.tup [.ty "list", .ty "tuple"])) (q : Q (.bl (k.sub .lst || k.sub .tup)) H) : rIsiT K [x, .ref p] H Q := by
  refine ⟨x, p, _, _, [.type "list", .type "tuple"], _, rfl, hp, .cons (.ty _) (.cons (.ty _) .nil), h, ?_, q⟩
  refine kitAny_cons (b := k.sub .lst) (kit_ty (Kd.kit k .lst)) (fun e => ?_) (fun e => by rw [e]; rfl)
  rw [e]
  refine kitAny_cons (b := k.sub .tup) (kit_ty (Kd.kit k .tup)) (fun e => ?_) (fun e => by rw [e]; rfl)
  rw [e]
  exact kitAny_nil
theorem rd_iteC {b : Bool} {A B : Prop} (e : b = true) (h : A) : if b = true then A else B := by rw [e]; exact iteT h
theorem rd_iteD {b : Bool} {A B : Prop} (e : b = false) (h : B) : if b = true then A else B := by rw [e]; exact iteF h
theorem rd_all {bs : List Bool} (h : SqL K H a (bs.map V.bl)) (q : Q (.bl (bs.all id)) H) : rAll K [.ref a] H Q := ⟨a, bs, rfl, h, q⟩
theorem rd_any {bs : List Bool} (h : SqL K H a (bs.map V.bl)) (q : Q (.bl (bs.any id)) H) : rAny K [.ref a] H Q := ⟨a, bs, rfl, h, q⟩
end
/-! ### comprehensions, loops -/
section
variable {K : PySem.W.Frag} {σ : L2.St} {H H1 : Hp} {te tl : TE} {tt : TT} {wi : TI} {g : TG} {tb : TS} {t : TA} {Q : VK} {D : Ends} {vs : List Nat} {R : It → Hp → Prop} {a b : Addr} {xs ys : List V}
theorem rd_lc (h : wi σ H fun J H1 => ∀ D, H1 D = none → ∃ W : Nat → Nat → Hp → Prop, (∃ m, W 0 m (upd H1 D (.lst []))) ∧ ∀ i m H, W i m H →
  (J.stop i H ∧ Q (.ref D) H) ∨ (J.go i H ∧ ∃ Nx : Hp → Prop, (∀ H', Nx H' → ∃ m', m' < m ∧ W (i + 1) m' H') ∧ ∀ x H', J.yld i H x H' → g x (wipe σ vs) H' fun σ2 H2 => wipe σ2 vs = wipe σ vs ∧ tt σ2 H2 fun b H3 =>
    if b = true then te σ2 H3 fun y H4 => ∃ acc, H4 D = some (.lst acc) ∧ acc.length < sizeLine ∧ Nx (upd H4 D (.lst (acc ++ [y]))) else Nx H3)) : tLc wi g tt te vs σ H Q := h
theorem rd_for (h : wi σ H fun J H1 => ∃ W : Nat → Nat → L2.St → Hp → Prop, (∃ m, W 0 m σ H1) ∧ ∀ i m σ H, W i m σ H →
  (J.stop i H ∧ D.nx σ H) ∨ (J.go i H ∧ ∃ N : L2.St → Hp → Prop, (∀ σ' H', N σ' H' → ∃ m', m' < m ∧ W (i + 1) m' σ' H') ∧ ∀ v H', J.yld i H v H' → g v σ H' fun σ2 H2 => tb { D with nx := N, ct := N, bk := D.nx } σ2 H2)) : tFor wi g tb D σ H := h
theorem rd_iList (h : tl σ H fun x H1 => ∃ a, x = .ref a ∧ (∃ xs, SqL K H1 a xs) ∧ R (Itl K a) H1) : iList K tl σ H R := h
theorem rd_iTup (h : tl σ H fun x H1 => ∃ a, x = .ref a ∧ (∃ xs, SqT K H1 a xs) ∧ R (Itt K a) H1) : iTup K tl σ H R := h
theorem rd_iStr (h : tl σ H fun v H1 => ∃ x, v = .str x ∧ R (Its x) H1) : iStr tl σ H R := h
theorem rd_iRng1 (h : t σ H fun vs H1 => ∃ j : Int, vs = [.int j] ∧ -(2 ^ 62) ≤ j ∧ j < 2 ^ 62 ∧ R (Itr 0 j.toNat) H1) : iRng1 t σ H R := h
theorem rd_iRng2 (h : t σ H fun vs H1 => ∃ i j : Int, vs = [.int i, .int j] ∧ (-(2 ^ 62) ≤ i ∧ i < 2 ^ 62 ∧ -(2 ^ 62) ≤ j ∧ j < 2 ^ 62) ∧ R (Itr i (j - i).toNat) H1) : iRng2 t σ H R := h
theorem rd_iEnum (h : t σ H fun vs H1 => ∃ a xs, vs = [.ref a] ∧ SqL K H1 a xs ∧ R (Ite K a) H1) : iEnum K t σ H R := h
theorem rd_iZipA (h : t σ H fun vs H1 => ∃ a b xs ys, vs = [.ref a, .ref b] ∧ ((SqL K H1 a xs ∧ SqL K H1 b ys ∧ R (Itz K a b) H1) ∨ (SqT K H1 a xs ∧ SqT K H1 b ys ∧ R (RZ.ItzT K a b) H1))) : RZ.iZipA K t σ H R := h
theorem rd_atL {P : Addr → Prop} (h : SqL K H a xs) (q : P a) : ∃ a', V.ref a = .ref a' ∧ (∃ xs, SqL K H a' xs) ∧ P a' := ⟨a, rfl, ⟨xs, h⟩, q⟩
theorem rd_atT {P : Addr → Prop} (h : SqT K H a xs) (q : P a) : ∃ a', V.ref a = .ref a' ∧ (∃ xs, SqT K H a' xs) ∧ P a' := ⟨a, rfl, ⟨xs, h⟩, q⟩
/-- a comprehension over anything of n items -/
theorem lc_it {J : It} (n : Nat) {Da : Addr} {Qd : Hp → Prop} (Pv : Nat → Hp → Prop) (h0 : Pv 0 (upd H1 Da (.lst []))) (hgo : ∀ i H, i < n → Pv i H → J.go i H) (hst : ∀ H, Pv n H → J.stop n H)
    (hs : ∀ i H x H', i < n → Pv i H → J.yld i H x H' → g x (wipe σ vs) H' fun σ2 H2 => wipe σ2 vs = wipe σ vs ∧ tt σ2 H2 fun b H3 =>
      if b = true then te σ2 H3 fun y H4 => ∃ acc, H4 Da = some (.lst acc) ∧ acc.length < sizeLine ∧ Pv (i + 1) (upd H4 Da (.lst (acc ++ [y]))) else Pv (i + 1) H3) (hd : ∀ H, Pv n H → Qd H) :
    ∃ W : Nat → Nat → Hp → Prop, (∃ m, W 0 m (upd H1 Da (.lst []))) ∧ ∀ i m H, W i m H →
      (J.stop i H ∧ Qd H) ∨ (J.go i H ∧ ∃ Nx : Hp → Prop, (∀ H', Nx H' → ∃ m', m' < m ∧ W (i + 1) m' H') ∧ ∀ x H', J.yld i H x H' → g x (wipe σ vs) H' fun σ2 H2 => wipe σ2 vs = wipe σ vs ∧ tt σ2 H2 fun b H3 =>
        if b = true then te σ2 H3 fun y H4 => ∃ acc, H4 Da = some (.lst acc) ∧ acc.length < sizeLine ∧ Nx (upd H4 Da (.lst (acc ++ [y]))) else Nx H3) := by
  refine ⟨fun i m H => m = n - i ∧ i ≤ n ∧ Pv i H, ⟨n, by simp, Nat.zero_le _, h0⟩, ?_⟩
  rintro i m H ⟨rfl, hi, p⟩
  by_cases hlt : i < n
  · exact .inr ⟨hgo i H hlt p, Pv (i + 1), fun H' p' => ⟨n - (i + 1), by omega, rfl, hlt, p'⟩, fun x H' y => hs i H x H' hlt p y⟩
  · have e : i = n := by omega
    subst e
    exact .inl ⟨hst H p, hd H p⟩
/-- a for loop over anything of at most n items (it may leave early) -/
theorem for_it {J : It} (n : Nat) (Pv : Nat → L2.St → Hp → Prop) (h0 : Pv 0 σ H) (hgo : ∀ i σ H, i < n → Pv i σ H → J.go i H) (hst : ∀ σ H, Pv n σ H → J.stop n H)
    (hs : ∀ i σ H v H', i < n → Pv i σ H → J.yld i H v H' → g v σ H' fun σ2 H2 => tb { D with nx := Pv (i + 1), ct := Pv (i + 1), bk := D.nx } σ2 H2) (hd : ∀ σ H, Pv n σ H → D.nx σ H) :
    ∃ W : Nat → Nat → L2.St → Hp → Prop, (∃ m, W 0 m σ H) ∧ ∀ i m σ H, W i m σ H →
      (J.stop i H ∧ D.nx σ H) ∨ (J.go i H ∧ ∃ N : L2.St → Hp → Prop, (∀ σ' H', N σ' H' → ∃ m', m' < m ∧ W (i + 1) m' σ' H') ∧ ∀ v H', J.yld i H v H' → g v σ H' fun σ2 H2 => tb { D with nx := N, ct := N, bk := D.nx } σ2 H2) := by
  refine ⟨fun i m σ H => m = n - i ∧ i ≤ n ∧ Pv i σ H, ⟨n, by simp, Nat.zero_le _, h0⟩, ?_⟩
  rintro i m σ H ⟨rfl, hi, p⟩
  by_cases hlt : i < n
  · exact .inr ⟨hgo i σ H hlt p, Pv (i + 1), fun σ' H' p' => ⟨n - (i + 1), by omega, rfl, hlt, p'⟩, fun x H' y => hs i σ H x H' hlt p y⟩
  · have e : i = n := by omega
    subst e
    exact .inl ⟨hst σ H p, hd σ H p⟩
theorem rd_gTup2 {i j : Nat} {QS : L2.St → Hp → Prop} {x y : V} (h : SqT K H a [x, y]) (q : QS ((σ.set i (some x)).set j (some y)) H) : gTup K 2 (gCons (gName i) (gCons (gName j) gNil)) (.ref a) σ H QS :=
  ⟨a, [x, y], rfl, h, rfl, x, [y], rfl, y, [], rfl, rfl, q⟩
theorem rd_gTup3 {i j k : Nat} {QS : L2.St → Hp → Prop} {x y z : V} (h : SqT K H a [x, y, z]) (q : QS (((σ.set i (some x)).set j (some y)).set k (some z)) H) : gTup K 3 (gCons (gName i) (gCons (gName j) (gCons (gName k) gNil))) (.ref a) σ H QS :=
  ⟨a, [x, y, z], rfl, h, rfl, x, [y, z], rfl, y, [z], rfl, z, [], rfl, rfl, q⟩
theorem rd_par {i j : Nat} (h : t σ H fun vs H1 => ∃ v w, vs = [v, w] ∧ D.nx ((σ.set i (some v)).set j (some w)) H1) : tPar i j t D σ H := h
theorem rd_two {P : V → V → Prop} {v w : V} (h : P v w) : ∃ v' w', [v, w] = [v', w'] ∧ P v' w' := ⟨v, w, rfl, h⟩
theorem rd_rg1 {P : Int → Prop} {m : Int} (c : -(2 ^ 62) ≤ m ∧ m < 2 ^ 62) (h : P m) : ∃ j : Int, [V.int m] = [.int j] ∧ -(2 ^ 62) ≤ j ∧ j < 2 ^ 62 ∧ P j := ⟨m, rfl, c.1, c.2, h⟩
theorem rd_rg2 {P : Int → Int → Prop} {m n : Int} (c : -(2 ^ 62) ≤ m ∧ m < 2 ^ 62 ∧ -(2 ^ 62) ≤ n ∧ n < 2 ^ 62) (h : P m n) : ∃ i j : Int, [V.int m, V.int n] = [.int i, .int j] ∧ (-(2 ^ 62) ≤ i ∧ i < 2 ^ 62 ∧ -(2 ^ 62) ≤ j ∧ j < 2 ^ 62) ∧ P i j := ⟨m, n, rfl, c, h⟩
theorem rd_en {P : Addr → Prop} (h : SqL K H a xs) (q : P a) : ∃ a' xs, [V.ref a] = [.ref a'] ∧ SqL K H a' xs ∧ P a' := ⟨a, xs, rfl, h, q⟩
end
/-! ### heaps -/
/-- all but b stays -/
def But (b : Addr) (H H' : Hp) : Prop := ∀ c o, c ≠ b → H c = some o → H' c = some o
theorem But.refl (b : Addr) (H : Hp) : But b H H := fun _ _ _ h => h
theorem But.trans {b : Addr} {H H1 H2 : Hp} (x : But b H H1) (y : But b H1 H2) : But b H H2 := fun c o n h => y c o n (x c o n h)
theorem But.of {b : Addr} {H H1 : Hp} (x : Same H H1) : But b H H1 := fun c o _ h => x c o h
theorem But.upd {b : Addr} {H : Hp} {o : HO} : But b H (upd H b o) := fun c u n h => by rw [upd_ne n]; exact h
theorem But.up {b : Addr} {H H1 : Hp} {o : HO} (x : But b H H1) : But b H (L2.upd H1 b o) := x.trans But.upd
theorem same_new {H : Hp} {p : Addr} (h : H p = none) (o : HO) : Same H (upd H p o) := fun b u q => by rw [upd_ne (ne_of_none q h)]; exact q
theorem ne_new {H : Hp} {a b : Addr} {o : HO} (h' : H b = none) (h : H a = some o) : a ≠ b := ne_of_none h h'
theorem but_sq {K : PySem.W.Frag} {H H' : Hp} {a b : Addr} {xs : List V} (e : But b H H') (n : a ≠ b) (h : SqL K H a xs) : SqL K H' a xs := by
  rcases h with (h | ⟨o, h⟩) | h
  · exact .inl (.inl (e _ _ n h))
  · exact .inl (.inr ⟨o, e _ _ n h⟩)
  · exact .inr h
theorem but_st {K : PySem.W.Frag} {H H' : Hp} {a b : Addr} {xs : List V} (e : But b H H') (n : a ≠ b) (h : SqT K H a xs) : SqT K H' a xs := by
  rcases h with (h | ⟨o, h⟩) | h
  · exact .inl (.inl (e _ _ n h))
  · exact .inl (.inr ⟨o, e _ _ n h⟩)
  · exact .inr h
theorem same_at {H H' : Hp} {a : Addr} {o : HO} (e : Same H H') (h : H a = some o) : H' a = some o := e a o h
theorem but_at {H H' : Hp} {a b : Addr} {o : HO} (e : But b H H') (n : a ≠ b) (h : H a = some o) : H' a = some o := e a o n h
theorem same_sqt {K : PySem.W.Frag} {H H' : Hp} {a : Addr} {xs : List V} (e : Same H H') (h : SqT K H a xs) : SqT K H' a xs := by
  rcases h with (h | ⟨o, h⟩) | h
  · exact .inl (.inl (e _ _ h))
  · exact .inl (.inr ⟨o, e _ _ h⟩)
  · exact .inr h
theorem up_new {H : Hp} {a p : Addr} {o u : HO} (h1 : H p = none) (h2 : H a = some o) : upd H p u a = some o := (upd_ne (ne_of_none h2 h1)).trans h2
theorem up_ne {H : Hp} {a p : Addr} {o u : HO} (n : a ≠ p) (h : H a = some o) : upd H p u a = some o := (upd_ne n).trans h
theorem sq_new {K : PySem.W.Frag} {H : Hp} {a p : Addr} {u : HO} {xs : List V} (h1 : H p = none) (h2 : SqL K H a xs) : SqL K (upd H p u) a xs := (same_new h1 u).seq h2
theorem st_new {K : PySem.W.Frag} {H : Hp} {a p : Addr} {u : HO} {xs : List V} (h1 : H p = none) (h2 : SqT K H a xs) : SqT K (upd H p u) a xs := same_sqt (same_new h1 u) h2
theorem same_up {H H1 : Hp} {p : Addr} {u : HO} (h1 : H1 p = none) (h2 : Same H H1) : Same H (upd H1 p u) := h2.trans (same_new h1 u)
theorem same_mut {H H' : Hp} {p : Addr} {o : HO} (e : Same H H') (h : H p = none) : Same H (upd H' p o) := fun a u ha => by
  rw [upd_ne (ne_of_none ha h)]
  exact e a u ha
theorem rd_yes {σ : L2.St} {H : Hp} {QB : Bool → Hp → Prop} (h : QB true H) : tYes σ H QB := h
theorem same_ty {K : PySem.W.Frag} {H H' : Hp} {x : V} {t : Value} (e : Same H H') (h : TyX K H x t) : TyX K H' x t := by
  cases h with
  | base h =>
    cases h with
    | non => exact .base .non
    | bl b => exact .base (.bl b)
    | int i => exact .base (.int i)
    | str z => exact .base (.str z)
    | flt z => exact .base (.flt z)
    | lst h => exact .base (.lst (e _ _ h))
    | frz h => exact .base (.frz (e _ _ h))
    | tup h => exact .base (.tup (e _ _ h))
    | dK h => exact .base (.dK (e _ _ h))
    | dT h => exact .base (.dT (e _ _ h))
    | ins h cl ha hn htk hm => exact .base (.ins (e _ _ h) cl ha hn htk hm)
  | byt b => exact .byt b
  | set h => exact .set (e _ _ h)
  | kList h c => exact .kList h c
  | kTuple h c => exact .kTuple h c
  | kDict h c => exact .kDict h c
  | fTuple h => exact .fTuple (e _ _ h)
  | fDict h => exact .fDict (e _ _ h)
theorem same_is {K : PySem.W.Frag} {H H' : Hp} {x : V} {k : Kd} (e : Same H H') (h : Is K H x k) : Is K H' x k := same_ty e h
mutual
theorem dp_same {K : PySem.W.Frag} {H H' : Hp} (e : Same H H') : ∀ (d : PyData) (v : V), Dp K H v d → Dp K H' v d
  | .none, _, h => by cases h; exact .non
  | .bool b, _, h => by cases h; exact .bl b
  | .int i, _, h => by cases h; exact .int i
  | .str z, _, h => by cases h; exact .str z
  | .list ds, _, h => by cases h with | lst hs ha => exact .lst (e.seq hs) (dps_same e ds _ ha)
  | .tuple ds, _, h => by cases h with | tup hs ha => exact .tup (same_sqt e hs) (dps_same e ds _ ha)
  | .dict _, _, h => by cases h
theorem dps_same {K : PySem.W.Frag} {H H' : Hp} (e : Same H H') : ∀ (ds : List PyData) (vs : List V), DpAll K H vs ds → DpAll K H' vs ds
  | [], _, h => by cases h; exact .nil
  | d :: ds, _, h => by cases h with | cons h1 h2 => exact .cons (dp_same e d _ h1) (dps_same e ds _ h2)
end
theorem rd_new {n : Nat} {A : Prop} (e : Nat.ble n 1000 = true) (h : A) : n ≤ sizeLine ∧ A := ⟨Nat.le_trans (Nat.le_of_ble_eq_true e) (by decide), h⟩
end Kt

namespace My
open PySem PySem.Spec PyProof.Rows L2 Kt
def top (i : Nat) : Stmt := PySem.Challenge.pw_backring_k02_names_numbers_and_lists.main.body.getD i (.Pass ⟨0, 0, 0, 0⟩)
structure Txt (K : PySem.W.Frag) (mg : Str → Option Value) : Prop where
  d__law_any : Dfn K mg "_law_any" (top 9)
  d__law_bag : Dfn K mg "_law_bag" (top 7)
  d__law_draw : Dfn K mg "_law_draw" (top 8)
  d__law_like : Dfn K mg "_law_like" (top 10)
  d_is_list : Dfn K mg "is_list" (top 5)
  d_is_name : Dfn K mg "is_name" (top 3)
  d_is_number : Dfn K mg "is_number" (top 4)
  d_law : Dfn K mg "law" (top 11)
  g_LETTERS : ∃ t, mg "LETTERS" = some (.str "abcdefghijklmnopqrstuvwxyz" t)
  g_LONGEST_NAME : ∃ t, mg "LONGEST_NAME" = some (.int 8 t)
  n_all : mg "all" = none
  n_bool : mg "bool" = none
  n_dict : mg "dict" = none
  n_int : mg "int" = none
  n_isinstance : mg "isinstance" = none
  n_len : mg "len" = none
  n_list : mg "list" = none
  n_range : mg "range" = none
  n_str : mg "str" = none
  n_tuple : mg "tuple" = none
  n_zip : mg "zip" = none
local macro_rules | `(tactic| walk_at "ne") => `(tactic| first | assumption | (refine Ne.symm ?hne; assumption) | (refine' ne_new ?h1 ?h2 <;> assumption) | (refine Ne.symm ?hne; refine' ne_new ?h1 ?h2 <;> assumption))
local macro_rules | `(tactic| walk_at "hp") => `(tactic| first | assumption | with_reducible exact upd_same | ((with_reducible refine' up_new ?h1 ?h2); (case h1 => assumption); (case h2 => walk_at "hp")) | ((with_reducible refine' up_ne ?h1 ?h2); (case h1 => walk_at "ne"); (case h2 => walk_at "hp")) | ((with_reducible refine' same_at ?h1 ?h2); (case h1 => assumption); (case h2 => walk_at "hp")) | ((with_reducible refine' but_at ?h1 ?h2 ?h3); (case h1 => assumption); (case h2 => walk_at "ne"); (case h3 => walk_at "hp")))
local macro_rules | `(tactic| walk_at "sq") => `(tactic| first | assumption | ((with_reducible refine' sq_new ?h1 ?h2); (case h1 => assumption); (case h2 => walk_at "sq")) | ((with_reducible refine' st_new ?h1 ?h2); (case h1 => assumption); (case h2 => walk_at "sq")) | ((with_reducible refine' SqL.of ?h1); (case h1 => walk_at "hp")) | ((with_reducible refine' SqT.of ?h1); (case h1 => walk_at "hp")) | ((with_reducible refine' Same.seq ?h1 ?h2); (case h1 => assumption); (case h2 => walk_at "sq")) | ((with_reducible refine' same_sqt ?h1 ?h2); (case h1 => assumption); (case h2 => walk_at "sq")) | ((with_reducible refine' but_sq ?h1 ?h2 ?h3); (case h1 => assumption); (case h2 => walk_at "ne"); (case h3 => walk_at "sq")) | ((with_reducible refine' but_st ?h1 ?h2 ?h3); (case h1 => assumption); (case h2 => walk_at "ne"); (case h3 => walk_at "sq")))
local macro_rules | `(tactic| walk_at "same") => `(tactic| first | assumption | with_reducible exact Same.refl _ | ((with_reducible refine' same_up ?h1 ?h2); (case h1 => assumption); (case h2 => walk_at "same")) | ((with_reducible refine' Same.trans ?h1 ?h2); (case h2 => assumption); (case h1 => walk_at "same")))
local macro_rules | `(tactic| walk_at "is") => `(tactic| first | assumption | with_reducible exact Is.int | with_reducible exact Is.str | with_reducible exact Is.bl | with_reducible exact Is.non | ((with_reducible refine' Is.lst ?h1); (case h1 => walk_at "sq")) | ((with_reducible refine' Is.tup ?h1); (case h1 => walk_at "sq")))
local macro_rules | `(tactic| walk_at "isi") => `(tactic| first
  | ((with_reducible refine' rd_isi_str ?hs ?_); (case hs => walk_at "is")) | ((with_reducible refine' rd_isi_int ?hs ?_); (case hs => walk_at "is")) | ((with_reducible refine' rd_isi_bool ?hs ?_); (case hs => walk_at "is"))
  | ((with_reducible refine' rd_isi_list ?hs ?_); (case hs => walk_at "is")) | ((with_reducible refine' rd_isi_tuple ?hs ?_); (case hs => walk_at "is")) | ((with_reducible refine' rd_isi_dict ?hs ?_); (case hs => walk_at "is"))
  | ((with_reducible refine' rd_isi_lt ?hs ?hp ?_); (case hs => walk_at "is"); (case hp => walk_at "hp")))
local macro_rules | `(tactic| walk_at "rdx") => `(tactic| first
  | with_reducible refine rd_cons ?_ | with_reducible refine rd_c ?_ | ((with_reducible refine' rd_var ?hv ?_); (case hv => rfl)) | with_reducible refine rd_nil ?_
  | with_reducible refine rd_op ?_ | with_reducible refine rd_cb ?_ | with_reducible refine rd_asg ?_ | with_reducible refine rd_name ?_ | with_reducible refine rd_next ?_
  | with_reducible refine rd_rI0 ?_ | with_reducible refine rd_ifs ?_ | with_reducible refine rd_test ?_ | with_reducible refine rd_bl ?_
  | ((with_reducible refine' rd_iteC ?hb ?_); (case hb => rfl)) | ((with_reducible refine' rd_iteD ?hb ?_); (case hb => rfl))
  | ((with_reducible refine rd_eq ?hs ?_); (case hs => rfl))
  | ((with_reducible refine rd_ne ?hs ?_); (case hs => rfl))
  | ((with_reducible refine' rd_ixL ?hs ?ha ?_); (case hs => walk_at "sq"); (case ha => rfl))
  | ((with_reducible refine' rd_lenL ?hs ?_); (case hs => walk_at "sq"))
  | with_reducible refine rd_call ?_ | with_reducible refine rd_ret ?_
  | ((with_reducible refine rd_rI ?hc ?_); (case hc => first | omega | (dsimp only; omega) | (simp only [CMul, CDiv, CPow]; omega) | decide))
  | with_reducible refine rd_B ?_ | with_reducible refine rd_and ?_ | with_reducible refine rd_or ?_ | with_reducible refine rd_not ?_ | with_reducible refine rd_andV ?_ | with_reducible refine rd_orV ?_ | with_reducible refine rd_notV ?_
  | with_reducible refine rd_ifE ?_ | with_reducible refine rd_tup ?_ | with_reducible refine rd_lst ?_
  | ((with_reducible refine rd_new ?hn ?_); (case hn => rfl); intro p hp)
  | with_reducible refine rd_drop ?_ | with_reducible refine rd_un ?_ | with_reducible refine rd_retN ?_
  | with_reducible refine rd_rU ?_ | with_reducible refine rd_gsub ?_ | with_reducible refine rd_chain ?_ | with_reducible refine rd_sl ?_
  | with_reducible refine rd_noPart ?_ | with_reducible refine rd_part ?_ | with_reducible refine rd_int ?_ | with_reducible refine rd_str ?_ | with_reducible refine rd_int1 ?_
  | walk_at "isi"
  | ((with_reducible refine' rd_ixT ?hs ?ha ?_); (case hs => walk_at "sq"); (case ha => rfl))
  | ((with_reducible refine' rd_setL ?hs ?ha ?_); (case hs => walk_at "hp"); (case ha => rfl))
  | ((with_reducible refine' rd_lenT ?hs ?_); (case hs => walk_at "sq"))
  | ((with_reducible refine' rd_slL ?hs ?_); (case hs => walk_at "sq"); intro p hp)
  | ((with_reducible refine' rd_listL ?hs ?_); (case hs => walk_at "sq"); intro p hp)
  | ((with_reducible refine' rd_listT ?hs ?_); (case hs => walk_at "sq"); intro p hp)
  | with_reducible refine rd_lc ?_ | with_reducible refine rd_for ?_ | with_reducible refine rd_iList ?_ | with_reducible refine rd_iTup ?_ | with_reducible refine rd_iStr ?_ | with_reducible refine rd_iRng1 ?_ | with_reducible refine rd_iRng2 ?_ | with_reducible refine rd_iEnum ?_ | with_reducible refine rd_iZipA ?_
  | ((with_reducible refine rd_rg1 ?hc ?_); (case hc => omega)) | ((with_reducible refine rd_rg2 ?hc ?_); (case hc => omega)) | ((with_reducible refine' rd_en ?hs ?_); (case hs => walk_at "sq"))
  | with_reducible refine rd_par ?_ | with_reducible refine rd_two ?_
  | ((with_reducible refine' rd_gTup2 ?hs ?_); (case hs => walk_at "sq")) | ((with_reducible refine' rd_gTup3 ?hs ?_); (case hs => walk_at "sq"))
  | ((with_reducible refine' rd_atL ?hs ?_); (case hs => walk_at "sq")) | ((with_reducible refine' rd_atT ?hs ?_); (case hs => walk_at "sq"))
  | with_reducible refine rd_yes ?_ | with_reducible refine rd_m1 ?_ | with_reducible refine rd_m0 ?_ | with_reducible refine rd_isStr ?_ | with_reducible refine rd_callN ?_ | ((with_reducible refine rd_lens ?h1 ?h2 ?_); (case h1 => rfl); (case h2 => rfl)) | with_reducible refine rd_inSign ?_ | with_reducible refine rd_isN ?_ | with_reducible refine rd_notN ?_
  | ((with_reducible refine' rd_lenS ?hs ?_); (case hs => first | assumption | decide | omega)))
local macro_rules | `(tactic| walk_at "rd1") => `(tactic| first | with_reducible refine rd_seq ?_ | walk_at "rdx")
local macro_rules | `(tactic| walk_at "rs1") => `(tactic| first | with_reducible refine rd_seqA ?_ | with_reducible refine rd_seqP ?_ | with_reducible refine rd_seqD ?_ | walk_at "rdx")
local macro_rules | `(tactic| walk_at "rd") => `(tactic| repeat walk_at "rd1")
local macro_rules | `(tactic| walk_at "rs") => `(tactic| repeat walk_at "rs1")

/-- equal data of one make, nested less than n deep -/
def Lk (K : PySem.W.Frag) (H : Hp) : Nat → V → V → Prop
  | 0, _, _ => False
  | n + 1, x, y => (x = y ∧ Plain x) ∨ ∃ a b xs ys, x = .ref a ∧ y = .ref b ∧ ((SqL K H a xs ∧ SqL K H b ys) ∨ (SqT K H a xs ∧ SqT K H b ys)) ∧ xs.length = ys.length ∧ xs.length ≤ 100000 ∧
      ∀ (i : Nat) x y, xs[i]? = some x → ys[i]? = some y → Lk K H n x y
theorem Lk.mono {K : PySem.W.Frag} {H H' : Hp} (e : Same H H') : ∀ {n : Nat} {x y : V}, Lk K H n x y → Lk K H' n x y
  | 0, _, _, h => h
  | n + 1, x, y, h => by
    rcases h with h | ⟨a, b, xs, ys, rfl, rfl, h1, h2, h3, h4⟩
    · exact .inl h
    · refine .inr ⟨a, b, xs, ys, rfl, rfl, ?_, h2, h3, fun i x y hx hy => Lk.mono e (h4 i x y hx hy)⟩
      rcases h1 with ⟨p, q⟩ | ⟨p, q⟩
      · exact .inl ⟨e.seq p, e.seq q⟩
      · exact .inr ⟨same_sqt e p, same_sqt e q⟩
def spLike (K : PySem.W.Frag) (n : Nat) : Sp := fun vs H Q _ => ∃ x y, vs = [x, y] ∧ Lk K H n x y ∧ ∀ H', Same H H' → Q (.bl true) H'
theorem use_like {K : PySem.W.Frag} {n : Nat} {x y : V} {H : Hp} {Q : VK} {E : XK} (h : Lk K H n x y) (q : ∀ H', Same H H' → Q (.bl true) H') : spLike K n [x, y] H Q E := ⟨x, y, rfl, h, q⟩
section
variable {P : Program} {w : World} {K : PySem.W.Frag} {mg : Str → Option Value} {base : Heap}
abbrev s__law_like : Stmt := top 10
abbrev N__law_like : List Str := ["_law_found", "_law_due", "_law_key", "_law_one", "_law_two"]
theorem sc__law_like : FnScope N__law_like ["_law_found", "_law_due"] (defScope s__law_like) := ⟨rfl, rfl, rfl, by decide +kernel, rfl, by decide +kernel, by decide +kernel⟩

theorem like_step {n : Nat} (T : Txt K mg) (G__law_like : Cal P w K mg base CX0 n "_law_like" s__law_like ["_law_found", "_law_due"] (spLike K n)) :
    Cal P w K mg base CX0 (n + 1) "_law_like" s__law_like ["_law_found", "_law_due"] (spLike K (n + 1)) := by
  refine cal_of T.d__law_like sc__law_like (fun _ _ _ _ _ _ us hl => match us, hl with | [_, _], _ => rfl) (fun vs H Q E h => ?_) (fun f cdv A outer s H vs Q E hr h => ?_)
  · obtain ⟨x, y, rfl, _⟩ := h
    rfl
  obtain ⟨x, y, rfl, L, q⟩ := h
  refine ⟨_, (pss_cons (ps_if (pt_cmpR k_isN (pv 1) pe_non (nomark _))
 (pss_one (ps_ret (pe_cmpR k_isN (pv 0) pe_non (nomark _))))
 pss_nil)
 (pss_cons (ps_if (pt_val (pe_callB (k_isi K) (by rfl) T.n_isinstance (by decide +kernel) (pa_cons (pv 1) (pa_cons (pe_ty "dict" rfl T.n_dict (by decide +kernel)) pa_nil))))
 pss_never
 pss_nil)
 (pss_cons (ps_if (pt_val (pe_callB (k_isiT K) (by rfl) T.n_isinstance (by decide +kernel) (pa_cons (pv 1) (pa_cons (pe_tup (pa_cons (pe_ty "list" rfl T.n_list (by decide +kernel)) (pa_cons (pe_ty "tuple" rfl T.n_tuple (by decide +kernel)) pa_nil))) pa_nil))))
 (pss_cons (ps_if (PW.pt (pw_or (pt_cmpR op_ne (pe_callB (k_isi K) (by rfl) T.n_isinstance (by decide +kernel) (pa_cons (pv 0) (pa_cons (pe_ty "list" rfl T.n_list (by decide +kernel)) pa_nil))) (pe_callB (k_isi K) (by rfl) T.n_isinstance (by decide +kernel) (pa_cons (pv 1) (pa_cons (pe_ty "list" rfl T.n_list (by decide +kernel)) pa_nil))) (nomark _)) (pw_or1 (pt_cmpR op_ne (pe_callB (k_isi K) (by rfl) T.n_isinstance (by decide +kernel) (pa_cons (pv 0) (pa_cons (pe_ty "tuple" rfl T.n_tuple (by decide +kernel)) pa_nil))) (pe_callB (k_isi K) (by rfl) T.n_isinstance (by decide +kernel) (pa_cons (pv 1) (pa_cons (pe_ty "tuple" rfl T.n_tuple (by decide +kernel)) pa_nil))) (nomark _)))))
 (pss_one (ps_ret pe_bl))
 pss_nil)
 (pss_one (ps_ret (pe_and (pe_cmpR op_eq (pe_callB (k_len K) (by rfl) T.n_len PySem.boot_len (pa_cons (pv 0) pa_nil)) (pe_callB (k_len K) (by rfl) T.n_len PySem.boot_len (pa_cons (pv 1) pa_nil)) (nomark _)) (pe_one (pe_callB (k_all K) (by rfl) T.n_all (by decide +kernel) (pa_cons (pe_lc (own := [("_law_one", 3), ("_law_two", 4)]) (g := gTup K 2 (gCons (gName 3) (gCons (gName 4) gNil))) (tt := tYes) rfl sc__law_like.nd (kpi_zip K (by rfl) T.n_zip (pa_cons (pv 0) (pa_cons (pv 1) pa_nil))) (blkOk_by (own := [("_law_one", 3), ("_law_two", 4)]) (N := N__law_like) (sc := defScope s__law_like) (by decide +kernel)) (fun _ _ _ _ _ => (kpg_tup K (pgs_cons (pg_name (i := 3) sc__law_like.nd rfl (by first | exact Or.inl rfl | exact Or.inr rfl)) (pgs_cons (pg_name (i := 4) sc__law_like.nd rfl (by first | exact Or.inl rfl | exact Or.inr rfl)) pgs_nil)))) (fun _ _ _ _ _ => pts_nil) (fun _ _ _ _ _ => (pe_cal G__law_like (hr.mono (by omega)) pass0 (pa_cons (pv 3) (pa_cons (pv 4) pa_nil))))) pa_nil)))))))
 pss_nil)
 (pss_cons (ps_if (PW.pt (pw_or (pt_cmpR op_ne (pe_callB (k_isi K) (by rfl) T.n_isinstance (by decide +kernel) (pa_cons (pv 0) (pa_cons (pe_ty "bool" rfl T.n_bool (by decide +kernel)) pa_nil))) (pe_callB (k_isi K) (by rfl) T.n_isinstance (by decide +kernel) (pa_cons (pv 1) (pa_cons (pe_ty "bool" rfl T.n_bool (by decide +kernel)) pa_nil))) (nomark _)) (pw_or1 (pt_cmpR op_ne (pe_callB (k_isi K) (by rfl) T.n_isinstance (by decide +kernel) (pa_cons (pv 0) (pa_cons (pe_ty "int" rfl T.n_int (by decide +kernel)) pa_nil))) (pe_callB (k_isi K) (by rfl) T.n_isinstance (by decide +kernel) (pa_cons (pv 1) (pa_cons (pe_ty "int" rfl T.n_int (by decide +kernel)) pa_nil))) (nomark _)))))
 (pss_one (ps_ret pe_bl))
 pss_nil)
 (pss_one (ps_ret (pe_and (pe_cmpR op_eq (pe_callB (k_isi K) (by rfl) T.n_isinstance (by decide +kernel) (pa_cons (pv 0) (pa_cons (pe_ty "str" rfl T.n_str (by decide +kernel)) pa_nil))) (pe_callB (k_isi K) (by rfl) T.n_isinstance (by decide +kernel) (pa_cons (pv 1) (pa_cons (pe_ty "str" rfl T.n_str (by decide +kernel)) pa_nil))) (nomark _)) (pe_one (pe_cmpR op_eq (pv 0) (pv 1) (nomark _)))))))))), ?_⟩
  have q' : ∀ b H', b = true → Same H H' → Q (.bl b) H' := fun b H' e s => by rw [e]; exact q H' s
  rcases L with ⟨rfl, p⟩ | ⟨a, b, xs, ys, rfl, rfl, h1, hl, hz, h4⟩
  · cases x with
    | non =>
      walk_at "rd"
      exact q _ (Same.refl H)
    | bl i =>
      walk_at "rd"
      exact q' _ _ (decide_eq_true rfl) (by walk_at "same")
    | int i =>
      walk_at "rd"
      exact q' _ _ (decide_eq_true rfl) (by walk_at "same")
    | str i =>
      walk_at "rd"
      exact q' _ _ (decide_eq_true rfl) (by walk_at "same")
    | _ => exact p.elim
  · rcases h1 with ⟨ha, hb⟩ | ⟨ha, hb⟩
    · walk_at "rd"
      refine rd_iteC (by rw [hl]; exact decide_eq_true rfl) ?_
      walk_at "rd"
      refine ⟨a, b, xs, ys, rfl, .inl ⟨by walk_at "sq", by walk_at "sq", fun D hD => ?_⟩⟩
      have hD0 : H D = none := Same.free (by walk_at "same") hD
      refine lc_it xs.length (fun i H' => Same H H' ∧ H' D = some (.lst (List.replicate i (V.bl true)))) ?_ ?_ ?_ ?_ ?_
      · exact ⟨by walk_at "same", upd_same⟩
      · rintro i H' hi ⟨sm, -⟩
        exact ⟨xs, ys, xs[i], ys[i]'(hl ▸ hi), sm.seq ha, sm.seq hb, List.getElem?_eq_getElem hi, List.getElem?_eq_getElem (hl ▸ hi)⟩
      · rintro H' ⟨sm, -⟩
        exact ⟨xs, ys, sm.seq ha, sm.seq hb, .inl (Nat.le_refl _)⟩
      · rintro i H' x H2 hi ⟨sm, hd⟩ ⟨Tp, x1, y1, rfl, hT, rfl, f1, f2⟩
        walk_at "rd"
        refine ⟨rfl, ?_⟩
        walk_at "rd"
        refine use_like (Lk.mono (sm.trans (same_new hT _)) (h4 i x1 y1 (f1 xs (sm.seq ha)) (f2 ys (sm.seq hb)))) fun H4 s4 => ?_
        refine ⟨_, s4 D _ ((upd_ne (ne_of_none hd hT)).trans hd), ?_, same_mut ((sm.trans (same_new hT _)).trans s4) hD0, ?_⟩
        · rw [List.length_replicate]
          exact Nat.lt_of_lt_of_le (Nat.lt_of_lt_of_le hi hz) (by decide)
        · rw [upd_same, List.replicate_succ']
      · rintro H' ⟨sm, hd⟩
        walk_at "rd"
        refine rd_all (bs := List.replicate xs.length true) (SqL.of (by rw [List.map_replicate]; exact hd)) ?_
        exact q' _ _ (by simp) sm
    · walk_at "rd"
      refine rd_iteC (by rw [hl]; exact decide_eq_true rfl) ?_
      walk_at "rd"
      refine ⟨a, b, xs, ys, rfl, .inr ⟨by walk_at "sq", by walk_at "sq", fun D hD => ?_⟩⟩
      have hD0 : H D = none := Same.free (by walk_at "same") hD
      refine lc_it xs.length (fun i H' => Same H H' ∧ H' D = some (.lst (List.replicate i (V.bl true)))) ?_ ?_ ?_ ?_ ?_
      · exact ⟨by walk_at "same", upd_same⟩
      · rintro i H' hi ⟨sm, -⟩
        exact ⟨xs, ys, xs[i], ys[i]'(hl ▸ hi), same_sqt sm ha, same_sqt sm hb, List.getElem?_eq_getElem hi, List.getElem?_eq_getElem (hl ▸ hi)⟩
      · rintro H' ⟨sm, -⟩
        exact ⟨xs, ys, same_sqt sm ha, same_sqt sm hb, .inl (Nat.le_refl _)⟩
      · rintro i H' x H2 hi ⟨sm, hd⟩ ⟨Tp, x1, y1, rfl, hT, rfl, f1, f2⟩
        walk_at "rd"
        refine ⟨rfl, ?_⟩
        walk_at "rd"
        refine use_like (Lk.mono (sm.trans (same_new hT _)) (h4 i x1 y1 (f1 xs (same_sqt sm ha)) (f2 ys (same_sqt sm hb)))) fun H4 s4 => ?_
        refine ⟨_, s4 D _ ((upd_ne (ne_of_none hd hT)).trans hd), ?_, same_mut ((sm.trans (same_new hT _)).trans s4) hD0, ?_⟩
        · rw [List.length_replicate]
          exact Nat.lt_of_lt_of_le (Nat.lt_of_lt_of_le hi hz) (by decide)
        · rw [upd_same, List.replicate_succ']
      · rintro H' ⟨sm, hd⟩
        walk_at "rd"
        refine rd_all (bs := List.replicate xs.length true) (SqL.of (by rw [List.map_replicate]; exact hd)) ?_
        exact q' _ _ (by simp) sm
theorem ok_like (T : Txt K mg) : ∀ n : Nat, Cal P w K mg base CX0 n "_law_like" s__law_like ["_law_found", "_law_due"] (spLike K n)
  | 0 => cal_never T.d__law_like (fun _ _ _ _ _ _ us hl => match us, hl with | [_, _], _ => rfl) fun vs H Q E h => by
    obtain ⟨x, y, _, h, _⟩ := h
    exact h
  | n + 1 => like_step T (ok_like T n)
end

structure BagAt (H : Hp) (b l : Addr) : Prop where
  ex : ∃ (ns : List Int) (i g s : Int), H b = some (.lst [.ref l, .int i, .int g, .int s]) ∧ H l = some (.lst (ns.map V.int)) ∧ 0 ≤ i ∧ ns.length ≤ 1000 ∧ 0 ≤ g ∧ 0 ≤ s ∧ s < 2147483587
  ne : b ≠ l
theorem BagAt.mk' {H : Hp} {b l : Addr} {ns : List Int} {i g s : Int} (hb : H b = some (.lst [.ref l, .int i, .int g, .int s])) (hl : H l = some (.lst (ns.map V.int))) (ne : b ≠ l) (i0 : 0 ≤ i) (nl : ns.length ≤ 1000) (g0 : 0 ≤ g) (s0 : 0 ≤ s) (s1 : s < 2147483587) : BagAt H b l :=
  ⟨⟨ns, i, g, s, hb, hl, i0, nl, g0, s0, s1⟩, ne⟩
theorem bag_mk {H H' : Hp} {b l : Addr} {ns : List Int} {i g s : Int} {xs : List V} (hl : H l = some (.lst (ns.map V.int))) (ne : b ≠ l) (bt : But b H H') (e : xs = [.ref l, .int i, .int g, .int s]) (i0 : 0 ≤ i) (nl : ns.length ≤ 1000) (g0 : 0 ≤ g) (s0 : 0 ≤ s) (s1 : s < 2147483587) : BagAt (upd H' b (.lst xs)) b l :=
  .mk' (by rw [e]; exact upd_same) ((upd_ne ne.symm).trans (bt l _ ne.symm hl)) ne i0 nl g0 s0 s1
def spDraw : Sp := fun vs H Q _ => ∃ (b l : Addr) (m : Int), vs = [.ref b, .int m] ∧ BagAt H b l ∧ 1 ≤ m ∧ m < 1073741824 ∧ ∀ r H', 0 ≤ r → r < m → BagAt H' b l → But b H H' → Q (.int r) H'
section
variable {P : Program} {w : World} {K : PySem.W.Frag} {mg : Str → Option Value} {base : Heap}
abbrev s__law_draw : Stmt := top 8
abbrev N__law_draw : List Str := ["_law_bag_here", "_law_many", "_law_cell", "_law_found", "_law_old"]
theorem sc__law_draw : FnScope N__law_draw ["_law_bag_here", "_law_many"] (defScope s__law_draw) := ⟨rfl, rfl, rfl, by decide +kernel, rfl, by decide +kernel, by decide +kernel⟩

theorem ok_draw (T : Txt K mg) : Cal P w K mg base CX0 1 "_law_draw" s__law_draw ["_law_bag_here", "_law_many"] spDraw := by
  refine cal_of T.d__law_draw sc__law_draw (fun _ _ _ _ _ _ us hl => match us, hl with | [_, _], _ => rfl) (fun vs H Q E h => ?_) (fun f cdv A outer s H vs Q E hr h => ?_)
  · obtain ⟨b, l, m, rfl, _⟩ := h
    rfl
  obtain ⟨b, l, m, rfl, B, m1, m2, q⟩ := h
  refine ⟨_, (pss_cons (ps_if (PW.pt (pw_and (pt_cmpR op_eq (pe_ix (k_ixL K) (pv 0) pe_int (fun _ _ => rfl)) pe_int (nomark _)) (pw_and1 (pt_cmpR op_lt (pe_ix (k_ixL K) (pv 0) pe_int (fun _ _ => rfl)) (pe_callB (k_len K) (by rfl) T.n_len PySem.boot_len (pa_cons (pe_ix (k_ixL K) (pv 0) pe_int (fun _ _ => rfl)) pa_nil)) (nomark _)))))
 (pss_cons (ps_set (i := 2) sc__law_draw.nd rfl (by first | exact Or.inl rfl | exact Or.inr rfl) (pe_ix (k_ixL K) (pe_ix (k_ixL K) (pv 0) pe_int (fun _ _ => rfl)) (pe_ix (k_ixL K) (pv 0) pe_int (fun _ _ => rfl)) (fun _ _ => rfl)))
 (pss_cons (ps_asg (pe_op op_add (pe_ix (k_ixL K) (pv 0) pe_int (fun _ _ => rfl)) pe_int) (pg_sub (pv 0) pe_int set_list))
 (pss_one (ps_if (pt_cmpR op_ge (pv 2) (pe_op op_pow pe_int pe_int) (nomark _))
 (pss_one (ps_asg (pv 2) (pg_sub (pv 0) pe_int set_list)))
 (pss_one (ps_asg (pe_op op_mod (pe_callTy k_int1 (by rfl) T.n_int (by decide +kernel) (pa_cons (pe_op op_add (pe_op op_add (pe_op op_mul (pe_ix (k_ixL K) (pv 0) pe_int (fun _ _ => rfl)) pe_int) (pe_op op_mul (pe_op op_mod (pe_callTy k_int1 (by rfl) T.n_int (by decide +kernel) (pa_cons (pv 2) pa_nil)) pe_int) pe_int)) (pe_ix (k_ixL K) (pv 0) pe_int (fun _ _ => rfl))) pa_nil)) pe_int) (pg_sub (pv 0) pe_int set_list)))))))
 pss_nil)
 (pss_cons (ps_if (pt_cmpR op_gt (pe_ix (k_ixL K) (pv 0) pe_int (fun _ _ => rfl)) pe_int (nomark _))
 (pss_cons (ps_set (i := 3) sc__law_draw.nd rfl (by first | exact Or.inl rfl | exact Or.inr rfl) (pe_op op_mod (pe_callTy k_int1 (by rfl) T.n_int (by decide +kernel) (pa_cons (pe_ix (k_ixL K) (pv 0) pe_int (fun _ _ => rfl)) pa_nil)) (pv 1)))
 (pss_cons (ps_asg (pe_op op_fdiv (pe_ix (k_ixL K) (pv 0) pe_int (fun _ _ => rfl)) (pv 1)) (pg_sub (pv 0) pe_int set_list))
 (pss_one (ps_ret (pv 3)))))
 pss_nil)
 (pss_cons (ps_set (i := 4) sc__law_draw.nd rfl (by first | exact Or.inl rfl | exact Or.inr rfl) (pe_ix (k_ixL K) (pv 0) pe_int (fun _ _ => rfl)))
 (pss_cons (ps_asg (pe_op op_mod (pe_callTy k_int1 (by rfl) T.n_int (by decide +kernel) (pa_cons (pe_op op_add (pe_op op_add (pe_op op_mul (pv 4) (pv 4)) (pe_op op_mul (pv 4) pe_int)) pe_int) pa_nil)) pe_int) (pg_sub (pv 0) pe_int set_list))
 (pss_one (ps_ret (pe_op op_mod (pe_callTy k_int1 (by rfl) T.n_int (by decide +kernel) (pa_cons (pe_op op_add (pe_op op_fdiv (pe_ix (k_ixL K) (pv 0) pe_int (fun _ _ => rfl)) pe_int) (pe_op op_mul (pe_op op_mod (pe_callTy k_int1 (by rfl) T.n_int (by decide +kernel) (pa_cons (pe_ix (k_ixL K) (pv 0) pe_int (fun _ _ => rfl)) pa_nil)) pe_int) pe_int)) pa_nil)) (pv 1)))))))), ?_⟩
  obtain ⟨⟨ns, i, g, sd, hb, hl, i0, nl, g0, s0, s1⟩, ne⟩ := id B
  refine rd_cut (fun σ' H' => ∃ c x, σ' = [some (.ref b), some (.int m), c, x, none] ∧ BagAt H' b l ∧ But b H H') (fun nx hnx => ?_) ?_
  · walk_at "rd"
    refine ite2 (fun c => ?_) (fun c => ?_)
    · walk_at "rd"
      refine ite2 (fun c2 => ?_) (fun c2 => ?_)
      · have c3 : i < ((ns.map V.int).length : Int) := of_decide_eq_true c2
        have c4 : i.toNat < ns.length := by rw [List.length_map] at c3; omega
        have ea : atI (ns.map V.int) i = some (.int ns[i.toNat]) := by
          have q1 : atI (ns.map V.int) ((i.toNat : Nat) : Int) = some (.int ns[i.toNat]) := atI_nat (by rw [List.getElem?_map, List.getElem?_eq_getElem c4] <;> rfl)
          rw [Int.toNat_of_nonneg i0] at q1
          exact q1
        walk_at "rd"
        refine rd_ixL (by walk_at "sq") ea ?_
        walk_at "rd"
        refine ite2 (fun c5 => ?_) (fun c5 => ?_)
        · have c6 : (10 ^ 18 : Int) ≤ ns[i.toNat] := of_decide_eq_true c5
          walk_at "rd"
          exact hnx _ _ ⟨_, _, rfl, bag_mk hl ne But.upd rfl (by omega) nl (by omega) s0 s1, But.upd.up⟩
        · walk_at "rd"
          exact hnx _ _ ⟨_, _, rfl, bag_mk hl ne But.upd rfl (by omega) nl g0 (by omega) (by omega), But.upd.up⟩
      · walk_at "rd"
        exact hnx _ _ ⟨_, _, rfl, B, But.refl b H⟩
    · walk_at "rd"
      exact hnx _ _ ⟨_, _, rfl, B, But.refl b H⟩
  · rintro σ' H' ⟨c, x, rfl, B', bt⟩
    obtain ⟨⟨ns, i, g, sd, hb, hl, i0, nl, g0, s0, s1⟩, -⟩ := B'
    walk_at "rd"
    refine ite2 (fun c => ?_) (fun c => ?_)
    · have c3 : 0 < g := of_decide_eq_true c
      walk_at "rd"
      have h0 := Int.emod_nonneg g (show m ≠ 0 by omega)
      have h1 := Int.emod_lt_of_pos g (show 0 < m by omega)
      have h2 := Int.ediv_nonneg (a := g) (b := m) (by omega) (by omega)
      exact q _ _ h0 h1 (bag_mk hl ne (But.refl b H') rfl i0 nl h2 s0 s1) bt.up
    · walk_at "rd"
      refine q _ _ (Int.emod_nonneg _ (by omega)) (Int.emod_lt_of_pos _ (by omega)) (bag_mk hl ne (But.refl b H') rfl i0 nl g0 (Int.emod_nonneg _ (by omega)) (Int.emod_lt_of_pos _ (by omega))) bt.up
theorem use_draw {b l : Addr} {m : Int} {H : Hp} {Q : VK} {E : XK} (B : BagAt H b l) (h1 : 1 ≤ m) (h2 : m < 1073741824) (q : ∀ r H', 0 ≤ r → r < m → BagAt H' b l → But b H H' → Q (.int r) H') : spDraw [.ref b, .int m] H Q E := ⟨b, l, m, rfl, B, h1, h2, q⟩
/-! the bag -/
def spBag (K : PySem.W.Frag) : Sp := fun vs H Q _ => ∃ (a : Addr) (ns : List Int), vs = [.ref a] ∧ SqL K H a (ns.map V.int) ∧ ns.length ≤ 63 ∧ ∀ b l H', H b = none → H l = none → Same H H' → BagAt H' b l → Q (.ref b) H'
theorem cut_ints (ns : List Int) (lo hi : Option Int) : ∃ ms : List Int, cutV (ns.map V.int) lo hi = ms.map V.int ∧ ms.length ≤ ns.length := by
  unfold cutV
  rw [← List.map_drop, ← List.map_take]
  refine ⟨_, rfl, ?_⟩
  rw [List.length_take, List.length_drop]
  omega
theorem int_at {ns : List Int} {i : Nat} {x : V} (h : (ns.map V.int)[i]? = some x) : ∃ n, x = .int n := by
  rw [List.getElem?_map] at h
  cases e : ns[i]? with
  | none => rw [e] at h; cases h
  | some z => rw [e] at h; exact ⟨z, (Option.some.inj h).symm⟩
abbrev s__law_bag : Stmt := top 7
abbrev N__law_bag : List Str := ["_law_script", "_law_seed", "_law_cell"]
theorem sc__law_bag : FnScope N__law_bag ["_law_script"] (defScope s__law_bag) := ⟨rfl, rfl, rfl, by decide +kernel, rfl, by decide +kernel, by decide +kernel⟩

theorem ok_bag (T : Txt K mg) : Cal P w K mg base CX0 1 "_law_bag" s__law_bag ["_law_script"] (spBag K) := by
  refine cal_of T.d__law_bag sc__law_bag (fun _ _ _ _ _ _ us hl => match us, hl with | [_], _ => rfl) (fun vs H Q E h => ?_) (fun f cdv A outer s H vs Q E hr h => ?_)
  · obtain ⟨a, ns, rfl, _⟩ := h
    rfl
  obtain ⟨a, ns, rfl, hS, hn, q⟩ := h
  refine ⟨_, (pss_cons (ps_set (i := 1) sc__law_bag.nd rfl (by first | exact Or.inl rfl | exact Or.inr rfl) (pe_op op_add pe_int (pe_op op_mul pe_int (pe_callB (k_len K) (by rfl) T.n_len PySem.boot_len (pa_cons (pe_slice (k_slL K) (pv 0) po_none (po_some pe_int)) pa_nil)))))
 (pss_cons (ps_for PassesOwn.never rfl (kpi_list K (pe_slice (k_slL K) (pv 0) po_none (po_some pe_int))) (pg_name (i := 2) sc__law_bag.nd rfl (by first | exact Or.inl rfl | exact Or.inr rfl))
 (pss_one (ps_set (i := 1) sc__law_bag.nd rfl (by first | exact Or.inl rfl | exact Or.inr rfl) (pe_op op_mod (pe_callTy k_int1 (by rfl) T.n_int (by decide +kernel) (pa_cons (pe_op op_add (pe_op op_add (pe_op op_mul (pv 1) pe_int) (pe_op op_mod (pe_callTy k_int1 (by rfl) T.n_int (by decide +kernel) (pa_cons (pv 2) pa_nil)) pe_int)) pe_int) pa_nil)) pe_int))))
 (pss_one (ps_ret (pe_lst (pa_cons (pe_callTy (k_list K) (by rfl) T.n_list (by decide +kernel) (pa_cons (pe_slice (k_slL K) (pv 0) po_none (po_some pe_int)) pa_nil)) (pa_cons pe_int (pa_cons pe_int (pa_cons (pv 1) pa_nil))))))))), ?_⟩
  obtain ⟨ms, em, lm⟩ := cut_ints ns none (some 63)
  walk_at "rd"
  rename_i p1 hp1 p2 hp2
  rw [em] at hp2 ⊢
  refine for_list (xs := ms.map V.int) (fun i σ H' => ∃ (sd : Int) (c : Option V), σ = [some (.ref a), some (.int sd), c] ∧ Same H H' ∧ H' p2 = some (.lst (ms.map V.int)) ∧ 0 ≤ sd ∧ sd < 2147483587) ?_ ?_ ?_ ?_
  · refine ⟨_, none, rfl, by walk_at "same", upd_same, ?_, ?_⟩
    · rw [List.length_map]; omega
    · rw [List.length_map]; omega
  · rintro i σ H' hi ⟨sd, c, rfl, sm, h2, _⟩
    exact SqL.of h2
  · rintro i x σ H' hx ⟨sd, c, rfl, sm, h2, h3, h4⟩
    obtain ⟨n, rfl⟩ := int_at hx
    walk_at "rd"
    exact ⟨_, _, rfl, sm, h2, Int.emod_nonneg _ (by decide), Int.emod_lt_of_pos _ (by decide)⟩
  · rintro σ H' ⟨sd, c, rfl, sm, h2, h3, h4⟩
    have hS' : SqL K H' a (ns.map V.int) := sm.seq hS
    walk_at "rd"
    rename_i p3 hp3 p4 hp4 p5 hp5
    have f5 : H p5 = none := Same.free (by walk_at "same") hp5
    have f4 : H p4 = none := Same.free (by walk_at "same") hp4
    refine q p5 p4 _ f5 f4 (by walk_at "same") ⟨⟨ms, 0, 0, sd, upd_same, ?_, by omega, by omega, by omega, h3, h4⟩, ?_⟩
    · rw [← em]; walk_at "hp"
    · exact Ne.symm (ne_of_none upd_same hp5)
end

/-- a row to draw from, with its items -/
def RowAt (K : PySem.W.Frag) (H : Hp) (b : Addr) : V → List V → Prop
  | .ref p, xs => p ≠ b ∧ (SqL K H p xs ∨ SqT K H p xs)
  | .str z, xs => xs = z.cps.toList.map (fun c => V.str ⟨#[c]⟩) ∧ z.length ≤ sizeLine
  | _, _ => False
theorem RowAt.len {K : PySem.W.Frag} {H : Hp} {b : Addr} {x : V} {xs : List V} (h : RowAt K H b x xs) : LenV K x H xs.length := by
  cases x with
  | ref p =>
    rcases h.2 with h | h
    · exact .inl ⟨xs, h, rfl⟩
    · exact .inr ⟨xs, h, rfl⟩
  | str z =>
    obtain ⟨rfl, h2⟩ := h
    exact ⟨h2, by rw [List.length_map]; simp [Str.length]⟩
  | _ => exact h.elim
def spAny (K : PySem.W.Frag) : Sp := fun vs H Q _ => ∃ (b l : Addr) (x : V) (xs : List V), vs = [.ref b, x] ∧ BagAt H b l ∧ RowAt K H b x xs ∧ 1 ≤ xs.length ∧ xs.length < 1073741824 ∧
  ∀ (i : Nat) (v : V) (H' : Hp), xs[i]? = some v → BagAt H' b l → But b H H' → Q v H'
theorem use_any {K : PySem.W.Frag} {b l : Addr} {x : V} {xs : List V} {H : Hp} {Q : VK} {E : XK} (B : BagAt H b l) (h : RowAt K H b x xs) (h1 : 1 ≤ xs.length) (h2 : xs.length < 1073741824)
    (q : ∀ (i : Nat) (v : V) (H' : Hp), xs[i]? = some v → BagAt H' b l → But b H H' → Q v H') : spAny K [.ref b, x] H Q E := ⟨b, l, x, xs, rfl, B, h, h1, h2, q⟩
section
variable {P : Program} {w : World} {K : PySem.W.Frag} {mg : Str → Option Value} {base : Heap}
abbrev s__law_any : Stmt := top 9
abbrev N__law_any : List Str := ["_law_bag_here", "_law_row"]
theorem sc__law_any : FnScope N__law_any ["_law_bag_here", "_law_row"] (defScope s__law_any) := ⟨rfl, rfl, rfl, by decide +kernel, rfl, by decide +kernel, by decide +kernel⟩

theorem ok_any (T : Txt K mg) : Cal P w K mg base CX0 2 "_law_any" s__law_any ["_law_bag_here", "_law_row"] (spAny K) := by
  have G__law_draw : Cal P w K mg base CX0 1 "_law_draw" s__law_draw ["_law_bag_here", "_law_many"] spDraw := ok_draw T
  refine cal_of T.d__law_any sc__law_any (fun _ _ _ _ _ _ us hl => match us, hl with | [_, _], _ => rfl) (fun vs H Q E h => ?_) (fun f cdv A outer s H vs Q E hr h => ?_)
  · obtain ⟨b, l, x, xs, rfl, _⟩ := h
    rfl
  obtain ⟨b, l, x, xs, rfl, B, hx, h1, h2, q⟩ := h
  refine ⟨_, (pss_one (ps_ret (pe_ix (k_ixA K) (pv 1) (pe_cal G__law_draw (hr.mono (by omega)) pass0 (pa_cons (pv 0) (pa_cons (pe_callB (k_lenA K) (by rfl) T.n_len PySem.boot_len (pa_cons (pv 1) pa_nil)) pa_nil))) (fun _ _ => rfl)))), ?_⟩
  walk_at "rd"
  refine ⟨x, _, rfl, hx.len, ?_⟩
  walk_at "rd"
  refine use_draw B (by omega) (by omega) fun r H' r0 r1 B' bt => ?_
  have hk : r.toNat < xs.length := by omega
  have ea : ∀ {ys : List V}, ys = xs → atI ys r = some xs[r.toNat] := by
    rintro ys rfl
    have q1 : atI ys ((r.toNat : Nat) : Int) = some ys[r.toNat] := atI_nat (List.getElem?_eq_getElem hk)
    rw [Int.toNat_of_nonneg r0] at q1
    exact q1
  have fin := q r.toNat xs[r.toNat] H' (List.getElem?_eq_getElem hk) B' bt
  cases x with
  | ref p =>
    rcases hx with ⟨n, h | h⟩
    · exact .inl ⟨p, xs, r, _, rfl, rfl, but_sq bt n h, ea rfl, fin⟩
    · exact .inr (.inl ⟨p, xs, r, _, rfl, rfl, but_st bt n h, ea rfl, fin⟩)
  | str z =>
    obtain ⟨e, h2⟩ := hx
    have hk2 : r.toNat < z.cps.toList.length := by rw [e, List.length_map] at hk; exact hk
    refine .inr (.inr ⟨z, r, z.cps.toList[r.toNat], rfl, rfl, h2, ?_, ?_⟩)
    · have q1 : atI z.cps.toList ((r.toNat : Nat) : Int) = some z.cps.toList[r.toNat] := atI_nat (List.getElem?_eq_getElem hk2)
      rw [Int.toNat_of_nonneg r0] at q1
      exact q1
    · have e2 : xs[r.toNat] = V.str ⟨#[z.cps.toList[r.toNat]]⟩ := by
        have := List.getElem?_eq_getElem hk
        have e3 : xs[r.toNat]? = some (V.str ⟨#[z.cps.toList[r.toNat]]⟩) := by rw [e, List.getElem?_map, List.getElem?_eq_getElem hk2]; rfl
        rw [this] at e3
        exact Option.some.inj e3
      rw [← e2]
      exact fin
  | _ => exact hx.elim
end

/-- the kind of a value, exactly -/
def fits : Kd → V → Prop
  | .non, .non => True | .bl, .bl _ => True | .int, .int _ => True | .str, .str _ => True | .lst, .ref _ => True | .tup, .ref _ => True | .dct, .ref _ => True
  | _, _ => False
structure Kin (K : PySem.W.Frag) (H : Hp) (v : V) (k : Kd) : Prop where
  is : Is K H v k
  fit : fits k v
section
variable {K : PySem.W.Frag} {H : Hp} {a : Addr} {xs : List V}
theorem Kin.non : Kin K H .non .non := ⟨Is.non, trivial⟩
theorem Kin.bl {b : Bool} : Kin K H (.bl b) .bl := ⟨Is.bl, trivial⟩
theorem Kin.int {i : Int} : Kin K H (.int i) .int := ⟨Is.int, trivial⟩
theorem Kin.str {z : Str} : Kin K H (.str z) .str := ⟨Is.str, trivial⟩
theorem Kin.lst (h : SqL K H a xs) : Kin K H (.ref a) .lst := ⟨Is.lst h, trivial⟩
theorem Kin.tup (h : SqT K H a xs) : Kin K H (.ref a) .tup := ⟨Is.tup h, trivial⟩
end
/-- a lower case letter -/
def low (c : Nat) : Bool := decide (97 ≤ c) && decide (c ≤ 122)
def nameS (z : Str) : Bool := decide (1 ≤ z.length) && decide (z.length ≤ 8) && z.cps.toList.all low
def nameV : V → Bool
  | .str z => nameS z
  | _ => false
def numV : V → V → V → Bool
  | .int i, .int a, .int b => decide (a ≤ i) && decide (i ≤ b)
  | _, _, _ => false
theorem numV_int (i a b : Int) : numV (.int i) (.int a) (.int b) = (decide (a ≤ i) && decide (i ≤ b)) := rfl
def spName (K : PySem.W.Frag) : Sp := fun vs H Q _ => ∃ v k, vs = [v] ∧ Kin K H v k ∧ (∀ z, v = .str z → z.length ≤ sizeLine) ∧ ∀ H', Same H H' → Q (.bl (nameV v)) H'
def spNumber (K : PySem.W.Frag) : Sp := fun vs H Q _ => ∃ v x y k, vs = [v, x, y] ∧ Kin K H v k ∧ (∀ i, v = .int i → (∃ a, x = .int a) ∧ ∃ b, y = .int b) ∧ Q (.bl (numV v x y)) H
def spIsList (K : PySem.W.Frag) : Sp := fun vs H Q _ => ∃ v k, vs = [v] ∧ Kin K H v k ∧ ∀ H', Same H H' → Q (.bl (k.sub .lst || k.sub .tup)) H'
theorem use_name {K : PySem.W.Frag} {v : V} {k : Kd} {H : Hp} {Q : VK} {E : XK} (h : Kin K H v k) (hz : ∀ z, v = .str z → z.length ≤ sizeLine) (q : ∀ H', Same H H' → Q (.bl (nameV v)) H') : spName K [v] H Q E := ⟨v, k, rfl, h, hz, q⟩
theorem use_number {K : PySem.W.Frag} {v x y : V} {k : Kd} {H : Hp} {Q : VK} {E : XK} (h : Kin K H v k) (hz : ∀ i, v = .int i → (∃ a, x = .int a) ∧ ∃ b, y = .int b) (q : Q (.bl (numV v x y)) H) : spNumber K [v, x, y] H Q E := ⟨v, x, y, k, rfl, h, hz, q⟩
theorem use_isList {K : PySem.W.Frag} {v : V} {k : Kd} {H : Hp} {Q : VK} {E : XK} (h : Kin K H v k) (q : ∀ H', Same H H' → Q (.bl (k.sub .lst || k.sub .tup)) H') : spIsList K [v] H Q E := ⟨v, k, rfl, h, q⟩
theorem in_letters (c : Nat) : decide (c ∈ (Str.ofString "abcdefghijklmnopqrstuvwxyz").cps.toList) = low c := by
  have e : (Str.ofString "abcdefghijklmnopqrstuvwxyz").cps.toList = List.range' 97 26 := by decide +kernel
  rw [e]
  unfold low
  rw [← Bool.decide_and]
  apply decide_eq_decide.mpr
  rw [List.mem_range'_1]
  omega
theorem Kin.same {K : PySem.W.Frag} {H H' : Hp} {v : V} {k : Kd} (e : Same H H') (h : Kin K H v k) : Kin K H' v k := ⟨same_is e h.is, h.fit⟩
section
variable {P : Program} {w : World} {K : PySem.W.Frag} {mg : Str → Option Value} {base : Heap}
abbrev s_is_name : Stmt := top 3
abbrev N_is_name : List Str := ["value", "sign"]
theorem sc_is_name : FnScope N_is_name ["value"] (defScope s_is_name) := ⟨rfl, rfl, rfl, by decide +kernel, rfl, by decide +kernel, by decide +kernel⟩
abbrev s_is_number : Stmt := top 4
abbrev N_is_number : List Str := ["value", "least", "most"]
theorem sc_is_number : FnScope N_is_number ["value", "least", "most"] (defScope s_is_number) := ⟨rfl, rfl, rfl, by decide +kernel, rfl, by decide +kernel, by decide +kernel⟩
abbrev s_is_list : Stmt := top 5
abbrev N_is_list : List Str := ["value"]
theorem sc_is_list : FnScope N_is_list ["value"] (defScope s_is_list) := ⟨rfl, rfl, rfl, by decide +kernel, rfl, by decide +kernel, by decide +kernel⟩

theorem ok_is_name (T : Txt K mg) : Cal P w K mg base CX0 1 "is_name" s_is_name ["value"] (spName K) := by
  refine cal_of T.d_is_name sc_is_name (fun _ _ _ _ _ _ us hl => match us, hl with | [_], _ => rfl) (fun vs H Q E h => ?_) (fun f cdv A outer s H vs Q E hr h => ?_)
  · obtain ⟨v, k, rfl, _⟩ := h
    rfl
  obtain ⟨v, k, rfl, ⟨hi, hf⟩, hz, q⟩ := h
  refine ⟨_, (pss_cons (ps_if (PW.pt (pw_or (pt_not (pt_val (pe_callB (k_isi K) (by rfl) T.n_isinstance (by decide +kernel) (pa_cons (pv 0) (pa_cons (pe_ty "str" rfl T.n_str (by decide +kernel)) pa_nil))))) (pw_or1 (pt_not (pt_chain op_le op_le pe_int (pe_callB k_lenS (by rfl) T.n_len PySem.boot_len (pa_cons (pv 0) pa_nil)) (pe_gint rfl T.g_LONGEST_NAME))))))
 (pss_one (ps_ret pe_bl))
 pss_nil)
 (pss_one (ps_ret (pe_callB (k_all K) (by rfl) T.n_all (by decide +kernel) (pa_cons (pe_lc (own := [("sign", 1)]) (g := gName 1) (tt := tYes) rfl sc_is_name.nd (pi_str (pv 0)) (blkOk_by (own := [("sign", 1)]) (N := N_is_name) (sc := defScope s_is_name) (by decide +kernel)) (fun _ _ _ _ _ => (pg_name (i := 1) sc_is_name.nd rfl (by first | exact Or.inl rfl | exact Or.inr rfl))) (fun _ _ _ _ _ => pts_nil) (fun _ _ _ _ _ => (pe_cmpR k_inSign (pv 1) (pe_gstr rfl T.g_LETTERS) (by rfl)))) pa_nil))))), ?_⟩
  walk_at "rd"
  by_cases hs : k.sub .str = true
  · cases k <;> cases v <;> first | exact hf.elim | exact absurd hs (by decide) | skip
    rename_i z
    walk_at "rd"
    have hz' := hz z rfl
    refine rd_lenS hz' ?_
    walk_at "rd"
    have h1 : nameV (.str z) = (decide ((1 : Int) ≤ z.length) && decide ((z.length : Int) ≤ 8) && z.cps.toList.all low) := by
      show (decide (1 ≤ z.length) && decide (z.length ≤ 8) && z.cps.toList.all low) = _
      congr 2
      · exact decide_eq_decide.mpr (by omega)
      · exact decide_eq_decide.mpr (by omega)
    refine ite2 (fun c => ?_) (fun c => ?_)
    · walk_at "rd"
      refine ite2 (fun c2 => ?_) (fun c2 => ?_)
      · have c3 : decide ((z.length : Int) ≤ 8) = false := by simpa using c2
        walk_at "rd"
        have e : nameV (.str z) = false := by rw [h1, c3]; simp
        exact e ▸ q _ (Same.refl H)
      · have c3 : decide ((z.length : Int) ≤ 8) = true := by simpa using c2
        walk_at "rd"
        intro D hD
        refine lc_it z.cps.toList.length (fun i H' => Same H H' ∧ H' D = some (.lst ((z.cps.toList.take i).map (fun c => V.bl (low c))))) ?_ ?_ ?_ ?_ ?_
        · exact ⟨by walk_at "same", upd_same⟩
        · rintro i H' hi -
          show i < z.cps.size
          simpa using hi
        · rintro H' -
          show z.cps.size ≤ z.cps.toList.length
          simp
        · rintro i H' x H2 hi ⟨sm, hd⟩ ⟨rfl, ch, hc, rfl⟩
          walk_at "rd"
          refine ⟨rfl, ?_⟩
          walk_at "rd"
          rw [in_letters]
          refine ⟨_, hd, ?_, same_mut sm hD, ?_⟩
          · rw [List.length_map, List.length_take]
            have : z.length = z.cps.toList.length := by simp [Str.length]
            have h8 : (z.length : Int) ≤ 8 := of_decide_eq_true c3
            exact Nat.lt_of_le_of_lt (show _ ≤ 8 by omega) (by decide)
          · have hc' : z.cps.toList[i]? = some ch := by rw [Array.getElem?_toList]; exact hc
            rw [upd_same, List.take_add_one, hc', List.map_append]
            rfl
        · rintro H' ⟨sm, hd⟩
          walk_at "rd"
          refine rd_all (bs := z.cps.toList.map low) (SqL.of (by rw [List.take_length] at hd; rw [List.map_map]; exact hd)) ?_
          have e : nameV (.str z) = (z.cps.toList.map low).all id := by
            rw [h1, c3, c, List.all_map]
            simp
          exact e ▸ q _ sm
    · have c3 : decide ((1 : Int) ≤ z.length) = false := by simpa using c
      walk_at "rd"
      have e : nameV (.str z) = false := by rw [h1, c3]; simp
      exact e ▸ q _ (Same.refl H)
  · have hs' : k.sub .str = false := by simpa using hs
    refine rd_iteC (by rw [hs']; rfl) ?_
    walk_at "rd"
    have e : nameV v = false := by cases k <;> cases v <;> first | exact hf.elim | rfl | exact absurd hs' (by decide)
    exact e ▸ q _ (Same.refl H)
theorem ok_is_number (T : Txt K mg) : Cal P w K mg base CX0 1 "is_number" s_is_number ["value", "least", "most"] (spNumber K) := by
  refine cal_of T.d_is_number sc_is_number (fun _ _ _ _ _ _ us hl => match us, hl with | [_, _, _], _ => rfl) (fun vs H Q E h => ?_) (fun f cdv A outer s H vs Q E hr h => ?_)
  · obtain ⟨v, x, y, k, rfl, _⟩ := h
    rfl
  obtain ⟨v, x, y, k, rfl, ⟨hi, hf⟩, hz, q⟩ := h
  refine ⟨_, (pss_one (ps_ret (pe_and (pe_callB (k_isi K) (by rfl) T.n_isinstance (by decide +kernel) (pa_cons (pv 0) (pa_cons (pe_ty "int" rfl T.n_int (by decide +kernel)) pa_nil))) (pe_and (pe_not (pe_callB (k_isi K) (by rfl) T.n_isinstance (by decide +kernel) (pa_cons (pv 0) (pa_cons (pe_ty "bool" rfl T.n_bool (by decide +kernel)) pa_nil)))) (pe_one (pe_chain op_le op_le (pv 1) (pv 0) (pv 2))))))), ?_⟩
  walk_at "rd"
  cases k <;> cases v <;> first | exact hf.elim | skip
  all_goals walk_at "rd"
  all_goals try exact q
  rename_i i
  obtain ⟨⟨a, rfl⟩, b, rfl⟩ := hz i rfl
  walk_at "rd"
  refine ite2 (fun c => ?_) (fun c => ?_)
  · walk_at "rd"
    have e : numV (.int i) (.int a) (.int b) = decide (i ≤ b) := by show (decide (a ≤ i) && decide (i ≤ b)) = _; rw [c]; rfl
    exact e ▸ q
  · have c' : decide (a ≤ i) = false := by simpa using c
    have e : numV (.int i) (.int a) (.int b) = false := by show (decide (a ≤ i) && decide (i ≤ b)) = _; rw [c']; rfl
    exact e ▸ q
theorem ok_is_list (T : Txt K mg) : Cal P w K mg base CX0 1 "is_list" s_is_list ["value"] (spIsList K) := by
  refine cal_of T.d_is_list sc_is_list (fun _ _ _ _ _ _ us hl => match us, hl with | [_], _ => rfl) (fun vs H Q E h => ?_) (fun f cdv A outer s H vs Q E hr h => ?_)
  · obtain ⟨v, k, rfl, _⟩ := h
    rfl
  obtain ⟨v, k, rfl, ⟨hi, hf⟩, q⟩ := h
  refine ⟨_, (pss_one (ps_ret (pe_callB (k_isiT K) (by rfl) T.n_isinstance (by decide +kernel) (pa_cons (pv 0) (pa_cons (pe_tup (pa_cons (pe_ty "list" rfl T.n_list (by decide +kernel)) (pa_cons (pe_ty "tuple" rfl T.n_tuple (by decide +kernel)) pa_nil))) pa_nil))))), ?_⟩
  walk_at "rd"
  rename_i p hp
  have h1 : Is K (upd H p (.tup [.ty "list", .ty "tuple"])) v k := same_is (same_new hp _) hi
  refine rd_isi_lt h1 upd_same ?_
  exact q _ (same_new hp _)
end

theorem BagAt.same {H H' : Hp} {b l : Addr} (e : Same H H') (B : BagAt H b l) : BagAt H' b l := by
  obtain ⟨⟨ns, i, g, s, h1, h2, h3⟩, ne⟩ := B
  exact ⟨⟨ns, i, g, s, e _ _ h1, e _ _ h2, h3⟩, ne⟩
theorem BagAt.new {H : Hp} {b l p : Addr} {o : HO} (hp : H p = none) (B : BagAt H b l) : BagAt (upd H p o) b l := B.same (same_new hp o)
theorem BagAt.off {H : Hp} {b l p : Addr} (hp : H p = none) (B : BagAt H b l) : p ≠ b := by
  obtain ⟨⟨ns, i, g, s, h1, _⟩, ne⟩ := B
  exact Ne.symm (ne_of_none h1 hp)
theorem BagAt.offl {H : Hp} {b l p : Addr} (hp : H p = none) (B : BagAt H b l) : p ≠ l := by
  obtain ⟨⟨ns, i, g, s, h1, h2, _⟩, ne⟩ := B
  exact Ne.symm (ne_of_none h2 hp)
theorem BagAt.mut {H : Hp} {b l p : Addr} {o : HO} (n1 : p ≠ b) (n2 : p ≠ l) (B : BagAt H b l) : BagAt (upd H p o) b l := by
  obtain ⟨⟨ns, i, g, s, h1, h2, h3⟩, ne⟩ := B
  exact ⟨⟨ns, i, g, s, (upd_ne n1.symm).trans h1, (upd_ne n2.symm).trans h2, h3⟩, ne⟩
theorem len_app (x y : Str) : (x ++ y).length = x.length + y.length := by
  show (x.cps ++ y.cps).size = _
  rw [Array.size_append]; rfl
theorem all_app (x y : Str) : (x ++ y).cps.toList.all low = (x.cps.toList.all low && y.cps.toList.all low) := by
  show (x.cps ++ y.cps).toList.all low = _
  rw [Array.toList_append, List.all_append]
/-- what is_name says of a text with a sign put in -/
theorem bent_name {cs : List Nat} {n : Int} (hl : cs.all low = true) (h0 : 0 ≤ n) (sg : Str) (hs : sg = "" ∨ (sg.cps.toList.all low = false)) :
    nameS (cutS (ofCodes cs) none (some n) ++ sg ++ cutS (ofCodes cs) (some n) none) =
      (decide (V.str sg = V.str "") && (decide ((0 : Int) < ((cutS (ofCodes cs) none (some n) ++ sg ++ cutS (ofCodes cs) (some n) none).length : Nat)) && decide (((cutS (ofCodes cs) none (some n) ++ sg ++ cutS (ofCodes cs) (some n) none).length : Int) < 9))) := by
  have z : ∀ lo hi, (cutS (ofCodes cs) lo hi).cps.toList.all low = true := fun lo hi => by
    show (((cs.drop _).take _).toArray.toList).all low = true
    rw [List.all_eq_true] at hl ⊢
    intro x hx
    exact hl x (List.mem_of_mem_drop (List.mem_of_mem_take hx))
  have z1 := z none (some n)
  have z2 := z (some n) none
  generalize cutS (ofCodes cs) none (some n) = x at *
  generalize cutS (ofCodes cs) (some n) none = y at *
  unfold nameS
  rw [all_app, all_app, z1, z2, Bool.true_and, Bool.and_true]
  have e1 : decide (1 ≤ (x ++ sg ++ y).length) = decide ((0 : Int) < ((x ++ sg ++ y).length : Nat)) := decide_eq_decide.mpr (by omega)
  have e2 : decide ((x ++ sg ++ y).length ≤ 8) = decide (((x ++ sg ++ y).length : Int) < 9) := decide_eq_decide.mpr (by omega)
  rw [e1, e2]
  rcases hs with rfl | hs
  · have e3 : (("" : Str)).cps.toList.all low = true := by decide +kernel
    rw [e3, Bool.and_true, decide_eq_true rfl, Bool.true_and]
  · have e4 : ¬ V.str sg = V.str "" := fun e => by
      cases e
      exact absurd hs (by decide +kernel)
    rw [hs, Bool.and_false, decide_eq_false e4, Bool.false_and]
local macro_rules | `(tactic| walk_at "bag") => `(tactic| first | assumption | ((with_reducible refine' BagAt.new ?h1 ?h2); (case h1 => assumption); (case h2 => walk_at "bag")) | ((with_reducible refine' BagAt.same ?h1 ?h2); (case h1 => assumption); (case h2 => walk_at "bag")))
theorem Lk.plain {K : PySem.W.Frag} {H : Hp} {n : Nat} {x : V} (h : Plain x) : Lk K H (n + 1) x x := .inl ⟨rfl, h⟩
theorem Lk.eq {K : PySem.W.Frag} {H : Hp} {n : Nat} {x y : V} (e : x = y) (h : Plain x) : Lk K H (n + 1) x y := .inl ⟨e, h⟩
theorem Lk.lists {K : PySem.W.Frag} {H : Hp} {n : Nat} {a b : Addr} {xs ys : List V} (ha : SqL K H a xs) (hb : SqL K H b ys) (e : xs = ys) (hz : xs.length ≤ 100000) (hp : ∀ x ∈ xs, Plain x) : Lk K H (n + 2) (.ref a) (.ref b) := by
  subst e
  refine .inr ⟨a, b, xs, xs, rfl, rfl, .inl ⟨ha, hb⟩, rfl, hz, fun i x y h1 h2 => ?_⟩
  rw [h1] at h2
  cases h2
  exact .inl ⟨rfl, hp x (List.mem_of_getElem? h1)⟩
/-- the other kinds' values -/
def four : List PyData := [.tuple [.str "a"], .list [.str "a"], .list [], .tuple []]
structure OddOk (K : PySem.W.Frag) (H : Hp) (v : V) (k : Kd) (d : PyData) (z : Bool) : Prop where
  kin : Kin K H v k
  dp : Dp K H v d
  sh : SeqAt.shaped d = true
  nm : nameV v = false
  sm : ∀ z, v = .str z → z.length ≤ sizeLine
  ez : PyData.eqv d (.int 0) = z
  pl : z = true → Plain v
  nu : numV v (.int 0) (.int 1) = (z && !decide (v = .bl false))
  li : (k.sub .lst || k.sub .tup) = four.any fun z => PyData.eqv z d
theorem OddOk.same {K : PySem.W.Frag} {H H' : Hp} {v : V} {k : Kd} {d : PyData} {z : Bool} (e : Same H H') (h : OddOk K H v k d z) : OddOk K H' v k d z :=
  ⟨h.kin.same e, dp_same e _ _ h.dp, h.sh, h.nm, h.sm, h.ez, h.pl, h.nu, h.li⟩
theorem odd_ok {K : PySem.W.Frag} {H : Hp} {a1 a2 a3 a4 : Addr} {j : Nat} {v : V} (t1 : SqT K H a1 [.str "a"]) (l2 : SqL K H a2 [.str "a"]) (l3 : SqL K H a3 []) (t4 : SqT K H a4 [])
    (hv : ([.non, .bl true, .bl false, .str "1", .ref a1, .ref a2, .ref a3, .ref a4, .int 0] : List V)[j]? = some v) : ∃ k d z, OddOk K H v k d z := by
  match j, hv with
  | 0, hv => cases hv; exact ⟨.non, .none, false, Kin.non, .non, by decide +kernel, rfl, (fun _ h => nomatch h), rfl, (fun h => nomatch h), rfl, by decide +kernel⟩
  | 1, hv => cases hv; exact ⟨.bl, .bool true, false, Kin.bl, .bl true, by decide +kernel, rfl, (fun _ h => nomatch h), rfl, fun _ => trivial, rfl, by decide +kernel⟩
  | 2, hv => cases hv; exact ⟨.bl, .bool false, true, Kin.bl, .bl false, by decide +kernel, rfl, (fun _ h => nomatch h), rfl, fun _ => trivial, rfl, by decide +kernel⟩
  | 3, hv => cases hv; exact ⟨.str, .str "1", false, Kin.str, .str "1", by decide +kernel, by decide +kernel, fun z h => by cases h; decide +kernel, rfl, fun _ => trivial, rfl, by decide +kernel⟩
  | 4, hv => cases hv; exact ⟨.tup, .tuple [.str "a"], false, Kin.tup t1, .tup t1 (.cons (.str "a") .nil), by decide +kernel, rfl, (fun _ h => nomatch h), rfl, (fun h => nomatch h), rfl, by decide +kernel⟩
  | 5, hv => cases hv; exact ⟨.lst, .list [.str "a"], false, Kin.lst l2, .lst l2 (.cons (.str "a") .nil), by decide +kernel, rfl, (fun _ h => nomatch h), rfl, (fun h => nomatch h), rfl, by decide +kernel⟩
  | 6, hv => cases hv; exact ⟨.lst, .list [], false, Kin.lst l3, .lst l3 .nil, by decide +kernel, rfl, (fun _ h => nomatch h), rfl, (fun h => nomatch h), rfl, by decide +kernel⟩
  | 7, hv => cases hv; exact ⟨.tup, .tuple [], false, Kin.tup t4, .tup t4 .nil, by decide +kernel, rfl, (fun _ h => nomatch h), rfl, (fun h => nomatch h), rfl, by decide +kernel⟩
  | 8, hv => cases hv; exact ⟨.int, .int 0, true, Kin.int, .int 0, by decide +kernel, rfl, (fun _ h => nomatch h), rfl, fun _ => trivial, by decide +kernel, by decide +kernel⟩
  | n + 9, hv => cases hv
def spLaw (K : PySem.W.Frag) : Sp := fun vs H Q _ => ∃ (a : Addr) (ns : List Int), vs = [.ref a] ∧ SqL K H a (ns.map V.int) ∧ ns.length ≤ 63 ∧ ∀ H', Q (.bl true) H'
section
variable {P : Program} {w : World} {K : PySem.W.Frag} {mg : Str → Option Value} {base : Heap}
abbrev s_law : Stmt := top 11
abbrev N_law : List Str := ["_law_script", "_law_bag_here", "_law_turn", "_law_k", "_law_text", "_law_at", "_law_sign", "_law_bent", "_law_low", "_law_high", "_law_number", "_law_odd", "_law_found"]
theorem sc_law : FnScope N_law ["_law_script"] (defScope s_law) := ⟨rfl, rfl, rfl, by decide +kernel, rfl, by decide +kernel, by decide +kernel⟩

theorem ok_law (T : Txt K mg) : Cal P w K mg base CX0 60 "law" s_law ["_law_script"] (spLaw K) := by
  have G__law_bag := ok_bag (P := P) (w := w) (base := base) T
  have G__law_draw := ok_draw (P := P) (w := w) (base := base) T
  have G__law_any := ok_any (P := P) (w := w) (base := base) T
  have G__law_like := ok_like (P := P) (w := w) (base := base) T 5
  have G_is_name := ok_is_name (P := P) (w := w) (base := base) T
  have G_is_number := ok_is_number (P := P) (w := w) (base := base) T
  have G_is_list := ok_is_list (P := P) (w := w) (base := base) T
  refine cal_of T.d_law sc_law (fun _ _ _ _ _ _ us hl => match us, hl with | [_], _ => rfl) (fun vs H Q E h => ?_) (fun f cdv A outer s H vs Q E hr h => ?_)
  · obtain ⟨a, ns, rfl, _⟩ := h
    rfl
  obtain ⟨a, ns, rfl, hS, hn, q⟩ := h
  refine ⟨_, (pss_cons (ps_set (i := 1) sc_law.nd rfl (by first | exact Or.inl rfl | exact Or.inr rfl) (pe_cal G__law_bag (hr.mono (by omega)) pass0 (pa_cons (pv 0) pa_nil)))
 (pss_cons (ps_for PassesOwn.never rfl (pi_range1 (by rfl) T.n_range (pa_cons pe_int pa_nil)) (pg_name (i := 2) sc_law.nd rfl (by first | exact Or.inl rfl | exact Or.inr rfl))
 (pss_cons (ps_set (i := 4) sc_law.nd rfl (by first | exact Or.inl rfl | exact Or.inr rfl) (k_join K pe_str (pe_lc (own := [("_law_k", 3)]) (g := gName 3) (tt := tYes) rfl sc_law.nd (pi_range1 (by rfl) T.n_range (pa_cons (pe_cal G__law_draw (hr.mono (by omega)) pass0 (pa_cons (pv 1) (pa_cons pe_int pa_nil))) pa_nil)) (blkOk_by (own := [("_law_k", 3)]) (N := N_law) (sc := defScope s_law) (by decide +kernel)) (fun _ _ _ _ _ => (pg_name (i := 3) sc_law.nd rfl (by first | exact Or.inl rfl | exact Or.inr rfl))) (fun _ _ _ _ _ => pts_nil) (fun _ _ _ _ _ => (pe_cal G__law_any (hr.mono (by omega)) pass0 (pa_cons (pv 1) (pa_cons pe_str pa_nil)))))))
 (pss_cons (ps_par (i := 5) (j := 6) rfl sc_law.nd rfl rfl (by decide) rfl rfl (pa_cons (pe_cal G__law_draw (hr.mono (by omega)) pass0 (pa_cons (pv 1) (pa_cons (pe_op op_add (pe_callB k_lenS (by rfl) T.n_len PySem.boot_len (pa_cons (pv 4) pa_nil)) pe_int) pa_nil))) (pa_cons (pe_cal G__law_any (hr.mono (by omega)) pass0 (pa_cons (pv 1) (pa_cons (pe_lst (pa_cons pe_str (pa_cons pe_str (pa_cons pe_str (pa_cons pe_str (pa_cons pe_str (pa_cons pe_str (pa_cons pe_str pa_nil)))))))) pa_nil))) pa_nil)) (by rfl))
 (pss_cons (ps_set (i := 7) sc_law.nd rfl (by first | exact Or.inl rfl | exact Or.inr rfl) (pe_op k_addS (pe_op k_addS (pe_slice sl_str (pv 4) po_none (po_some (pv 5))) (pv 6)) (pe_slice sl_str (pv 4) (po_some (pv 5)) po_none)))
 (pss_cons (ps_if (pt_not (pt_val (pe_cal G__law_like (hr.mono (by omega)) pass0 (pa_cons (pe_cal G_is_name (hr.mono (by omega)) pass0 (pa_cons (pv 7) pa_nil)) (pa_cons (pe_and (pe_cmpR op_eq (pv 6) pe_str (nomark _)) (pe_one (pe_chain op_lt op_lt pe_int (pe_callB k_lenS (by rfl) T.n_len PySem.boot_len (pa_cons (pv 7) pa_nil)) pe_int))) pa_nil)))))
 (pss_one (ps_ret pe_bl))
 pss_nil)
 (pss_cons (ps_set (i := 8) sc_law.nd rfl (by first | exact Or.inl rfl | exact Or.inr rfl) (pe_op op_sub (pe_cal G__law_draw (hr.mono (by omega)) pass0 (pa_cons (pv 1) (pa_cons (pe_op op_mul pe_int (pe_op op_pow pe_int pe_int)) pa_nil))) (pe_op op_pow pe_int pe_int)))
 (pss_cons (ps_par (i := 9) (j := 10) rfl sc_law.nd rfl rfl (by decide) rfl rfl (pa_cons (pe_op op_add (pv 8) (pe_cal G__law_draw (hr.mono (by omega)) pass0 (pa_cons (pv 1) (pa_cons pe_int pa_nil)))) (pa_cons (pe_op op_sub (pe_op op_add (pv 8) (pe_cal G__law_draw (hr.mono (by omega)) pass0 (pa_cons (pv 1) (pa_cons pe_int pa_nil)))) pe_int) pa_nil)) (by rfl))
 (pss_cons (ps_if (pt_not (pt_val (pe_cal G__law_like (hr.mono (by omega)) pass0 (pa_cons (pe_cal G_is_number (hr.mono (by omega)) pass0 (pa_cons (pv 10) (pa_cons (pv 8) (pa_cons (pv 9) pa_nil)))) (pa_cons (pe_chain op_le op_le (pv 8) (pv 10) (pv 9)) pa_nil)))))
 (pss_one (ps_ret pe_bl))
 pss_nil)
 (pss_cons (ps_set (i := 11) sc_law.nd rfl (by first | exact Or.inl rfl | exact Or.inr rfl) (pe_cal G__law_any (hr.mono (by omega)) pass0 (pa_cons (pv 1) (pa_cons (pe_lst (pa_cons pe_non (pa_cons pe_bl (pa_cons pe_bl (pa_cons pe_str (pa_cons (pe_tup (pa_cons pe_str pa_nil)) (pa_cons (pe_lst (pa_cons pe_str pa_nil)) (pa_cons (pe_lst pa_nil) (pa_cons (pe_tup pa_nil) (pa_cons pe_int pa_nil)))))))))) pa_nil))))
 (pss_cons (ps_set (i := 12) sc_law.nd rfl (by first | exact Or.inl rfl | exact Or.inr rfl) (pe_lst (pa_cons (pe_calK0 G_is_name (hr.mono (by omega)) pass0 ["value"] [0] (fun _ _ _ _ _ _ us ws hu hw => match us, hu, ws, hw with | [], _, [_], _ => rfl) (pk_cons (pv 11) pk_nil)) (pa_cons (pe_calK0 G_is_number (hr.mono (by omega)) pass0 ["value", "least", "most"] [0, 1, 2] (fun _ _ _ _ _ _ us ws hu hw => match us, hu, ws, hw with | [], _, [_, _, _], _ => rfl) (pk_cons (pv 11) (pk_cons pe_int (pk_cons pe_int pk_nil)))) (pa_cons (pe_cal G_is_list (hr.mono (by omega)) pass0 (pa_cons (pv 11) pa_nil)) pa_nil)))))
 (pss_one (ps_if (pt_not (pt_val (pe_cal G__law_like (hr.mono (by omega)) pass0 (pa_cons (pv 12) (pa_cons (pe_lst (pa_cons pe_bl (pa_cons (pe_and (pe_cmpR (k_eqD K hr.units) (pv 11) pe_int (nomark _)) (pe_one (pe_cmpR k_notBl1 (pv 11) pe_bl (nomark _)))) (pa_cons (pe_cmpR (k_inDT K (room65 hr)) (pv 11) (pe_tup (pa_cons (pe_tup (pa_cons pe_str pa_nil)) (pa_cons (pe_lst (pa_cons pe_str pa_nil)) (pa_cons (pe_lst pa_nil) (pa_cons (pe_tup pa_nil) pa_nil))))) (by rfl)) pa_nil)))) pa_nil)))))
 (pss_one (ps_ret pe_bl))
 pss_nil))))))))))))
 (pss_one (ps_ret (pe_cal G__law_like (hr.mono (by omega)) pass0 (pa_cons (pe_lst (pa_cons (pe_cal G_is_name (hr.mono (by omega)) pass0 (pa_cons pe_str pa_nil)) (pa_cons (pe_cal G_is_name (hr.mono (by omega)) pass0 (pa_cons pe_str pa_nil)) (pa_cons (pe_cal G_is_name (hr.mono (by omega)) pass0 (pa_cons pe_str pa_nil)) (pa_cons (pe_cal G_is_list (hr.mono (by omega)) pass0 (pa_cons pe_str pa_nil)) pa_nil))))) (pa_cons (pe_lst (pa_cons pe_bl (pa_cons pe_bl (pa_cons pe_bl (pa_cons pe_bl pa_nil))))) pa_nil))))))), ?_⟩
  walk_at "rd"
  refine ⟨a, ns, rfl, hS, hn, fun b l H1 hb0 hl0 s1 B1 => ?_⟩
  walk_at "rd"
  refine for_range (lo := 0) (n := 10) (fun i σ H' => ∃ x2 x3 x4 x5 x6 x7 x8 x9 x10 x11 x12, σ = [some (.ref a), some (.ref b), x2, x3, x4, x5, x6, x7, x8, x9, x10, x11, x12] ∧ BagAt H' b l) ?_ ?_ ?_
  · exact ⟨none, none, none, none, none, none, none, none, none, none, none, rfl, B1⟩
  · rintro i σ H2 hi ⟨x2, x3, x4, x5, x6, x7, x8, x9, x10, x11, x12, rfl, B2⟩
    walk_at "rd"
    -- the text
    refine use_draw B2 (by omega) (by omega) fun r H3 r0 r1 B3 bt3 => ?_
    walk_at "rd"
    intro D hD
    have nD : D ≠ b := B3.off hD
    have nDl : D ≠ l := B3.offl hD
    refine lc_range (lo := 0) (n := r.toNat) (fun i H' => BagAt H' b l ∧ ∃ cs : List Nat, H' D = some (.lst ((cs.map fun c => (⟨#[c]⟩ : Str)).map V.str)) ∧ cs.length = i ∧ cs.all low = true) ?_ ?_ ?_
    · exact ⟨by walk_at "bag", [], upd_same, rfl, rfl⟩
    · rintro i H4 hi4 ⟨B4, cs, hd, hl, ha⟩
      walk_at "rd"
      refine ⟨rfl, ?_⟩
      walk_at "rd"
      refine use_any B4 (x := .str "abcdefghijklmnopqrstuvwxyz") ⟨rfl, by decide +kernel⟩ (by decide +kernel) (by decide +kernel) fun j v H5 hv B5 bt5 => ?_
      obtain ⟨c, hc, rfl⟩ : ∃ c, low c = true ∧ v = .str ⟨#[c]⟩ := by
        rw [List.getElem?_map] at hv
        cases e : (("abcdefghijklmnopqrstuvwxyz" : Str)).cps.toList[j]? with
        | none => rw [e] at hv; cases hv
        | some c =>
          rw [e] at hv
          refine ⟨c, ?_, (Option.some.inj hv).symm⟩
          rw [← in_letters]
          exact decide_eq_true (List.mem_of_getElem? e)
      refine ⟨_, bt5 D _ nD hd, ?_, ?_, cs ++ [c], ?_, ?_, ?_⟩
      · rw [List.length_map, List.length_map, hl]
        exact Nat.lt_of_lt_of_le (show i < 12 by omega) (by decide)
      · exact B5.mut nD nDl
      · rw [upd_same, List.map_append, List.map_append]
        rfl
      · rw [List.length_append, hl]; rfl
      · rw [List.all_append, ha]; simp [hc]
    · rintro H4 ⟨B4, cs, hd, hl, ha⟩
      refine ⟨"", D, cs.map fun c => ⟨#[c]⟩, rfl, rfl, .inl (SqL.of hd), ?_, ?_⟩
      · rw [sum_signs, List.length_map, hl]
        have : (("" : Str)).length = 0 := by decide +kernel
        rw [this]
        omega
      rw [join_signs]
      have lc : (ofCodes cs).length = cs.length := rfl
      have hz : (ofCodes cs).length ≤ sizeLine := by rw [lc, hl]; exact Nat.le_trans (show _ ≤ 12 by omega) (by decide)
      walk_at "rd"
      refine use_draw B4 (by omega) (by rw [lc, hl]; omega) fun at1 H5 a0 a1 B5 bt5 => ?_
      walk_at "rd"
      rename_i p1 hp1
      refine use_any (BagAt.new hp1 B5) (x := .ref p1) ⟨B5.off hp1, .inl (SqL.of upd_same)⟩ (by decide) (by decide) fun j v H6 hv B6 bt6 => ?_
      obtain ⟨sg, rfl, hsg⟩ : ∃ sg : Str, v = .str sg ∧ sg.length ≤ 1 ∧ (sg = "" ∨ sg.cps.toList.all low = false) := by
        match j, hv with
        | 0, hv => cases hv; exact ⟨_, rfl, by decide +kernel, .inl rfl⟩
        | 1, hv => cases hv; exact ⟨_, rfl, by decide +kernel, .inl rfl⟩
        | 2, hv => cases hv; exact ⟨_, rfl, by decide +kernel, .inr (by decide +kernel)⟩
        | 3, hv => cases hv; exact ⟨_, rfl, by decide +kernel, .inr (by decide +kernel)⟩
        | 4, hv => cases hv; exact ⟨_, rfl, by decide +kernel, .inr (by decide +kernel)⟩
        | 5, hv => cases hv; exact ⟨_, rfl, by decide +kernel, .inr (by decide +kernel)⟩
        | 6, hv => cases hv; exact ⟨_, rfl, by decide +kernel, .inr (by decide +kernel)⟩
        | n + 7, hv => cases hv
      walk_at "rd"
      have z1 := cutS_length (ofCodes cs) none (some at1)
      have z2 := cutS_length (ofCodes cs) (some at1) none
      have hbent := bent_name ha a0 sg hsg.2
      generalize hx1 : cutS (ofCodes cs) none (some at1) = y1 at *
      generalize hx2 : cutS (ofCodes cs) (some at1) none = y2 at *
      have sz : sizeLine = 16777216 := sizeLine_eq
      have hb1 : (y1 ++ sg).length = y1.length + sg.length := len_app _ _
      have hb2 : (y1 ++ sg ++ y2).length = y1.length + sg.length + y2.length := by rw [len_app, hb1]
      refine rd_slS hz ?_
      rw [hx1]
      walk_at "rd"
      refine rd_addS (by rw [sz]; omega) ?_
      walk_at "rd"
      refine rd_slS hz ?_
      rw [hx2]
      refine rd_addS (by rw [sz, hb1]; omega) ?_
      walk_at "rs"
      have hb3 : (y1 ++ sg ++ y2).length ≤ sizeLine := by rw [sz, hb2]; omega
      generalize y1 ++ sg ++ y2 = bent at *
      with_reducible refine rd_cut (fun σ' H' => ∃ x2 x3 x4 x5 x6 x7 x8 x9 x10 x11 x12, σ' = [some (.ref a), some (.ref b), x2, x3, x4, x5, x6, x7, x8, x9, x10, x11, x12] ∧ BagAt H' b l) (fun nx hnx => ?_) ?_
      · walk_at "rd"
        refine use_name Kin.str (fun z e => by cases e; exact hb3) fun H7 s7 => ?_
        walk_at "rd"
        have e0 : nameV (.str bent) = (decide (V.str sg = V.str "") && (decide ((0 : Int) < (bent.length : Nat)) && decide ((bent.length : Int) < 9))) := hbent
        refine ite2 (fun c1 => ?_) (fun c1 => ?_)
        · walk_at "rd"
          refine ite2 (fun c2 => ?_) (fun c2 => ?_)
          · walk_at "rd"
            refine use_like (Lk.eq (by rw [e0, c1, c2]; rfl) trivial) fun H8 s8 => ?_
            walk_at "rd"
            exact hnx _ _ ⟨_, _, _, _, _, _, _, _, _, _, _, rfl, B6.same (s7.trans s8)⟩
          · walk_at "rd"
            refine use_like (Lk.eq (by rw [e0, Bool.eq_false_iff.mpr c2]; simp) trivial) fun H8 s8 => ?_
            walk_at "rd"
            exact hnx _ _ ⟨_, _, _, _, _, _, _, _, _, _, _, rfl, B6.same (s7.trans s8)⟩
        · walk_at "rd"
          refine use_like (Lk.eq (by rw [e0, Bool.eq_false_iff.mpr c1]; simp) trivial) fun H8 s8 => ?_
          walk_at "rd"
          exact hnx _ _ ⟨_, _, _, _, _, _, _, _, _, _, _, rfl, B6.same (s7.trans s8)⟩
      · -- a number
        clear hbent hb3 bent hb2 hb1 z1 z2 hx1 hx2 y1 y2
        rintro σ' H7 ⟨x2, x3, x4, x5, x6, x7, x8, x9, x10, x11, x12, rfl, B7⟩
        walk_at "rs"
        refine use_draw B7 (by decide) (by decide) fun lo H8 l0 l1 B8 bt8 => ?_
        walk_at "rs"
        refine use_draw B8 (by decide) (by decide) fun d1 H9 _ _ B9 bt9 => ?_
        walk_at "rs"
        refine use_draw B9 (by decide) (by decide) fun d2 H10 _ _ B10 bt10 => ?_
        walk_at "rs"
        with_reducible refine rd_cut (fun σ' H' => ∃ x2 x3 x4 x5 x6 x7 x8 x9 x10 x11 x12, σ' = [some (.ref a), some (.ref b), x2, x3, x4, x5, x6, x7, x8, x9, x10, x11, x12] ∧ BagAt H' b l) (fun nx hnx => ?_) ?_
        · walk_at "rd"
          refine use_number Kin.int (fun i e => ⟨⟨_, rfl⟩, _, rfl⟩) ?_
          walk_at "rd"
          refine ite2 (fun c2 => ?_) (fun c2 => ?_)
          · walk_at "rd"
            refine use_like (Lk.eq (congrArg V.bl (by rw [numV_int, c2]; rfl)) trivial) fun H11 s8 => ?_
            walk_at "rd"
            exact hnx _ _ ⟨_, _, _, _, _, _, _, _, _, _, _, rfl, B10.same s8⟩
          · walk_at "rd"
            refine use_like (Lk.eq (congrArg V.bl (by rw [numV_int, Bool.eq_false_iff.mpr c2]; rfl)) trivial) fun H11 s8 => ?_
            walk_at "rd"
            exact hnx _ _ ⟨_, _, _, _, _, _, _, _, _, _, _, rfl, B10.same s8⟩
        · -- other kinds
          clear B10 B9 B8 bt10 bt9 bt8
          rintro σ' H11 ⟨x2, x3, x4, x5, x6, x7, x8, x9, x10, x11, x12, rfl, B11⟩
          walk_at "rs"
          rename_i a1 h1 a2 h2 a3 h3 a4 h4 a5 h5
          have Bx := BagAt.new (o := .lst []) h3 (BagAt.new (o := .lst [.str "a"]) h2 (BagAt.new (o := .tup [.str "a"]) h1 B11))
          have By := BagAt.new (o := .tup []) h4 Bx
          refine use_any (BagAt.new h5 By) (x := .ref a5) ⟨By.off h5, .inl (SqL.of upd_same)⟩ (by show 1 ≤ 9; decide) (by show 9 < 1073741824; decide) fun j v H12 hv B12 bt12 => ?_
          have n1 : a1 ≠ b := B11.off h1
          have n2 : a2 ≠ b := (BagAt.new (o := .tup [.str "a"]) h1 B11).off h2
          have n3 : a3 ≠ b := (BagAt.new (o := .lst [.str "a"]) h2 (BagAt.new (o := .tup [.str "a"]) h1 B11)).off h3
          have n4 : a4 ≠ b := Bx.off h4
          obtain ⟨k, d, z, O⟩ := odd_ok (K := K) (H := H12) (j := j) (v := v) (but_st bt12 n1 (by walk_at "sq")) (but_sq bt12 n2 (by walk_at "sq")) (but_sq bt12 n3 (by walk_at "sq")) (but_st bt12 n4 (by walk_at "sq")) hv
          walk_at "rs"
          refine use_name O.kin O.sm fun H13 s13 => ?_
          rw [O.nm]
          walk_at "rs"
          refine use_number (O.kin.same s13) (fun i e => ⟨⟨_, rfl⟩, _, rfl⟩) ?_
          walk_at "rs"
          refine use_isList (O.kin.same s13) fun H14 s14 => ?_
          have sA := (s13.trans s14)
          clear s13 s14
          have O13 := O.same sA
          have B14 := B12.same sA
          walk_at "rs"
          walk_at "rd"
          rename_i p6 h6
          refine rd_eqD (dp_same (H := H14) (by walk_at "same") _ _ O13.dp) (.int 0) O.sh (by decide +kernel) ?_
          rw [O.ez]
          cases z with
          | true =>
            walk_at "rd"
            refine rd_notBl1 (O.pl rfl) ?_
            walk_at "rd"
            rename_i b1 g1 b2 g2 b3 g3 b4 g4 b5 g5
            refine rd_inDT (ds := four) (dp_same (H := H14) (by walk_at "same") _ _ O13.dp) (.tup (SqT.of upd_same) (.cons (.tup (by walk_at "sq") (.cons (.str "a") .nil)) (.cons (.lst (by walk_at "sq") (.cons (.str "a") .nil)) (.cons (.lst (by walk_at "sq") .nil) (.cons (.tup (by walk_at "sq") .nil) .nil))))) O.sh (by decide +kernel) ?_
            walk_at "rd"
            rename_i p7 h7
            refine use_like (Lk.lists (by walk_at "sq") (by walk_at "sq") (by rw [O.nu, O.li]; rfl) (by show 3 ≤ 100000; decide) (by intro x hx; simp at hx; rcases hx with rfl | rfl | rfl <;> trivial)) fun H15 s15 => ?_
            walk_at "rd"
            exact ⟨_, _, _, _, _, _, _, _, _, _, _, rfl, by walk_at "bag"⟩
          | false =>
            walk_at "rd"
            rename_i b1 g1 b2 g2 b3 g3 b4 g4 b5 g5
            refine rd_inDT (ds := four) (dp_same (H := H14) (by walk_at "same") _ _ O13.dp) (.tup (SqT.of upd_same) (.cons (.tup (by walk_at "sq") (.cons (.str "a") .nil)) (.cons (.lst (by walk_at "sq") (.cons (.str "a") .nil)) (.cons (.lst (by walk_at "sq") .nil) (.cons (.tup (by walk_at "sq") .nil) .nil))))) O.sh (by decide +kernel) ?_
            walk_at "rd"
            rename_i p7 h7
            refine use_like (Lk.lists (by walk_at "sq") (by walk_at "sq") (by rw [O.nu, O.li]; rfl) (by show 3 ≤ 100000; decide) (by intro x hx; simp at hx; rcases hx with rfl | rfl | rfl <;> trivial)) fun H15 s15 => ?_
            walk_at "rd"
            exact ⟨_, _, _, _, _, _, _, _, _, _, _, rfl, by walk_at "bag"⟩
  · -- the last row
    rintro σ H2 ⟨x2, x3, x4, x5, x6, x7, x8, x9, x10, x11, x12, rfl, B2⟩
    walk_at "rd"
    refine use_name Kin.str (fun z e => by cases e; decide +kernel) fun H3 s3 => ?_
    walk_at "rd"
    refine use_name Kin.str (fun z e => by cases e; decide +kernel) fun H4 s4 => ?_
    walk_at "rd"
    refine use_name Kin.str (fun z e => by cases e; decide +kernel) fun H5 s5 => ?_
    walk_at "rd"
    refine use_isList Kin.str fun H6 s6 => ?_
    walk_at "rd"
    refine use_like (Lk.lists (by walk_at "sq") (by walk_at "sq") (by decide +kernel) (by show 4 ≤ 100000; decide) (by intro x hx; simp at hx; rcases hx with rfl | rfl | rfl | rfl <;> trivial)) fun H7 s7 => ?_
    exact q H7
end

end My
namespace My
open PySem PySem.Spec PyProof.Rows L2 Kt
theorem all_mk {K : PySem.W.Frag} {h : Heap} {mg : Str → Option Value} (X : K.In h) (G : h.Ns mainGlobals mg)
    {f__law_any : Addr} {od__law_any an__law_any : Option Addr} {sl__law_any : Array (Option Value)} {oc__law_any kV__law_any dc__law_any pm__law_any cd__law_any ct__law_any : Value} (a__law_any : PySem.W.nsIn K mainGlobals "_law_any" = some (some (.ref f__law_any))) (l__law_any : K.lookup f__law_any = some ⟨oc__law_any, od__law_any, .func (PySem.W.fnOf "_law_any" "_law_any" (defArgs (top 9)) (defBody (top 9)) (defScope (top 9)) .none kV__law_any dc__law_any pm__law_any an__law_any cd__law_any ct__law_any), sl__law_any⟩) (c__law_any : PySem.W.codeIn K cd__law_any "_law_any" = true) (k__law_any : PySem.W.keepIn K (.ref f__law_any) = true)
    {f__law_bag : Addr} {od__law_bag an__law_bag : Option Addr} {sl__law_bag : Array (Option Value)} {oc__law_bag kV__law_bag dc__law_bag pm__law_bag cd__law_bag ct__law_bag : Value} (a__law_bag : PySem.W.nsIn K mainGlobals "_law_bag" = some (some (.ref f__law_bag))) (l__law_bag : K.lookup f__law_bag = some ⟨oc__law_bag, od__law_bag, .func (PySem.W.fnOf "_law_bag" "_law_bag" (defArgs (top 7)) (defBody (top 7)) (defScope (top 7)) .none kV__law_bag dc__law_bag pm__law_bag an__law_bag cd__law_bag ct__law_bag), sl__law_bag⟩) (c__law_bag : PySem.W.codeIn K cd__law_bag "_law_bag" = true) (k__law_bag : PySem.W.keepIn K (.ref f__law_bag) = true)
    {f__law_draw : Addr} {od__law_draw an__law_draw : Option Addr} {sl__law_draw : Array (Option Value)} {oc__law_draw kV__law_draw dc__law_draw pm__law_draw cd__law_draw ct__law_draw : Value} (a__law_draw : PySem.W.nsIn K mainGlobals "_law_draw" = some (some (.ref f__law_draw))) (l__law_draw : K.lookup f__law_draw = some ⟨oc__law_draw, od__law_draw, .func (PySem.W.fnOf "_law_draw" "_law_draw" (defArgs (top 8)) (defBody (top 8)) (defScope (top 8)) .none kV__law_draw dc__law_draw pm__law_draw an__law_draw cd__law_draw ct__law_draw), sl__law_draw⟩) (c__law_draw : PySem.W.codeIn K cd__law_draw "_law_draw" = true) (k__law_draw : PySem.W.keepIn K (.ref f__law_draw) = true)
    {f__law_like : Addr} {od__law_like an__law_like : Option Addr} {sl__law_like : Array (Option Value)} {oc__law_like kV__law_like dc__law_like pm__law_like cd__law_like ct__law_like : Value} (a__law_like : PySem.W.nsIn K mainGlobals "_law_like" = some (some (.ref f__law_like))) (l__law_like : K.lookup f__law_like = some ⟨oc__law_like, od__law_like, .func (PySem.W.fnOf "_law_like" "_law_like" (defArgs (top 10)) (defBody (top 10)) (defScope (top 10)) .none kV__law_like dc__law_like pm__law_like an__law_like cd__law_like ct__law_like), sl__law_like⟩) (c__law_like : PySem.W.codeIn K cd__law_like "_law_like" = true) (k__law_like : PySem.W.keepIn K (.ref f__law_like) = true)
    {f_is_list : Addr} {od_is_list an_is_list : Option Addr} {sl_is_list : Array (Option Value)} {oc_is_list kV_is_list dc_is_list pm_is_list cd_is_list ct_is_list : Value} (a_is_list : PySem.W.nsIn K mainGlobals "is_list" = some (some (.ref f_is_list))) (l_is_list : K.lookup f_is_list = some ⟨oc_is_list, od_is_list, .func (PySem.W.fnOf "is_list" "is_list" (defArgs (top 5)) (defBody (top 5)) (defScope (top 5)) .none kV_is_list dc_is_list pm_is_list an_is_list cd_is_list ct_is_list), sl_is_list⟩) (c_is_list : PySem.W.codeIn K cd_is_list "is_list" = true) (k_is_list : PySem.W.keepIn K (.ref f_is_list) = true)
    {f_is_name : Addr} {od_is_name an_is_name : Option Addr} {sl_is_name : Array (Option Value)} {oc_is_name kV_is_name dc_is_name pm_is_name cd_is_name ct_is_name : Value} (a_is_name : PySem.W.nsIn K mainGlobals "is_name" = some (some (.ref f_is_name))) (l_is_name : K.lookup f_is_name = some ⟨oc_is_name, od_is_name, .func (PySem.W.fnOf "is_name" "is_name" (defArgs (top 3)) (defBody (top 3)) (defScope (top 3)) .none kV_is_name dc_is_name pm_is_name an_is_name cd_is_name ct_is_name), sl_is_name⟩) (c_is_name : PySem.W.codeIn K cd_is_name "is_name" = true) (k_is_name : PySem.W.keepIn K (.ref f_is_name) = true)
    {f_is_number : Addr} {od_is_number an_is_number : Option Addr} {sl_is_number : Array (Option Value)} {oc_is_number kV_is_number dc_is_number pm_is_number cd_is_number ct_is_number : Value} (a_is_number : PySem.W.nsIn K mainGlobals "is_number" = some (some (.ref f_is_number))) (l_is_number : K.lookup f_is_number = some ⟨oc_is_number, od_is_number, .func (PySem.W.fnOf "is_number" "is_number" (defArgs (top 4)) (defBody (top 4)) (defScope (top 4)) .none kV_is_number dc_is_number pm_is_number an_is_number cd_is_number ct_is_number), sl_is_number⟩) (c_is_number : PySem.W.codeIn K cd_is_number "is_number" = true) (k_is_number : PySem.W.keepIn K (.ref f_is_number) = true)
    {f_law : Addr} {od_law an_law : Option Addr} {sl_law : Array (Option Value)} {oc_law kV_law dc_law pm_law cd_law ct_law : Value} (a_law : PySem.W.nsIn K mainGlobals "law" = some (some (.ref f_law))) (l_law : K.lookup f_law = some ⟨oc_law, od_law, .func (PySem.W.fnOf "law" "law" (defArgs (top 11)) (defBody (top 11)) (defScope (top 11)) .none kV_law dc_law pm_law an_law cd_law ct_law), sl_law⟩) (c_law : PySem.W.codeIn K cd_law "law" = true) (k_law : PySem.W.keepIn K (.ref f_law) = true)
    {t_LETTERS : Tok} (g_LETTERS : PySem.W.nsIn K mainGlobals "LETTERS" = some (some (.str "abcdefghijklmnopqrstuvwxyz" t_LETTERS)))
    {t_LONGEST_NAME : Tok} (g_LONGEST_NAME : PySem.W.nsIn K mainGlobals "LONGEST_NAME" = some (some (.int 8 t_LONGEST_NAME)))
    (n_all : PySem.W.nsIn K mainGlobals "all" = some none)
    (n_bool : PySem.W.nsIn K mainGlobals "bool" = some none)
    (n_dict : PySem.W.nsIn K mainGlobals "dict" = some none)
    (n_int : PySem.W.nsIn K mainGlobals "int" = some none)
    (n_isinstance : PySem.W.nsIn K mainGlobals "isinstance" = some none)
    (n_len : PySem.W.nsIn K mainGlobals "len" = some none)
    (n_list : PySem.W.nsIn K mainGlobals "list" = some none)
    (n_range : PySem.W.nsIn K mainGlobals "range" = some none)
    (n_str : PySem.W.nsIn K mainGlobals "str" = some none)
    (n_tuple : PySem.W.nsIn K mainGlobals "tuple" = some none)
    (n_zip : PySem.W.nsIn K mainGlobals "zip" = some none) :
    Txt K mg :=
  ⟨⟨_, _, PySem.W.mg_of X G a__law_any, fun_mk (st := (top 9)) l__law_any c__law_any k__law_any⟩,
   ⟨_, _, PySem.W.mg_of X G a__law_bag, fun_mk (st := (top 7)) l__law_bag c__law_bag k__law_bag⟩,
   ⟨_, _, PySem.W.mg_of X G a__law_draw, fun_mk (st := (top 8)) l__law_draw c__law_draw k__law_draw⟩,
   ⟨_, _, PySem.W.mg_of X G a__law_like, fun_mk (st := (top 10)) l__law_like c__law_like k__law_like⟩,
   ⟨_, _, PySem.W.mg_of X G a_is_list, fun_mk (st := (top 5)) l_is_list c_is_list k_is_list⟩,
   ⟨_, _, PySem.W.mg_of X G a_is_name, fun_mk (st := (top 3)) l_is_name c_is_name k_is_name⟩,
   ⟨_, _, PySem.W.mg_of X G a_is_number, fun_mk (st := (top 4)) l_is_number c_is_number k_is_number⟩,
   ⟨_, _, PySem.W.mg_of X G a_law, fun_mk (st := (top 11)) l_law c_law k_law⟩,
   ⟨_, PySem.W.mg_of X G g_LETTERS⟩,
   ⟨_, PySem.W.mg_of X G g_LONGEST_NAME⟩,
   PySem.W.mg_none_of X G n_all,
   PySem.W.mg_none_of X G n_bool,
   PySem.W.mg_none_of X G n_dict,
   PySem.W.mg_none_of X G n_int,
   PySem.W.mg_none_of X G n_isinstance,
   PySem.W.mg_none_of X G n_len,
   PySem.W.mg_none_of X G n_list,
   PySem.W.mg_none_of X G n_range,
   PySem.W.mg_none_of X G n_str,
   PySem.W.mg_none_of X G n_tuple,
   PySem.W.mg_none_of X G n_zip⟩
theorem walk {l : PySem.W.OpenLaw} {q : Program} {loose : List Str} {XP : (Str → Option Value) → Heap → Prop} {YP : World → Heap → Prop} {d : DefRec} {K : Params → PySem.W.Frag} (hn : l.most = some 63) (hdf : d.params.defaults = [])
    (hnm : d.name = "law") (hY : ∀ (w : World) (h : Heap), YP w h → (K w.params).In h)
    (F : ∀ (w : World) (mg : Str → Option Value) (h : Heap), (K w.params).In h → h.Ns mainGlobals mg → Txt (K w.params) mg) :
    PySem.W.WalkO q loose XP YP l.row.toRowW d [] (fun f vs => PySem.call f vs) :=
  L2.walk_of (n := 63) (k := 60) (x := "_law_script") (CX := fun _ => CX0) (sp := fun w => spLaw (K w.params)) hn (by decide) hdf ⟨rfl, by decide, by decide⟩ hY
    (fun w mg fa h X G hfa => fn_of_cal (F w mg h X G).d_law (by rw [← hnm]; exact hfa) (fun _ _ _ _ _ _ us hl => match us, hl with | [_], _ => rfl) fun base kb nb => ok_law (F w mg base kb nb))
    (fun _ _ a ns hl _ hS => ⟨a, ns, rfl, hS, hl, fun _ => rfl⟩) fun _ _ _ _ _ z => z
end My
open PySem PySem.W PyProof.Rows
set_option maxRecDepth 100000 in
set_option maxHeartbeats 0 in
theorem PySem.Challenge.cw_backring_k02_names_numbers_and_lists_holds : PySem.Challenge.rw_backring_k02_names_numbers_and_lists.Holds := by
  w_on; o_law; k_head; (case hw => w_witness2)
  k_fill
  refine My.walk (l := PySem.Challenge.rw_backring_k02_names_numbers_and_lists) rfl rfl rfl (fun w h Y => PySem.W.kIn_of Y) ?F
  case F =>
    intro w mg h KX G
    refine' My.all_mk KX G ?a__law_any ?l__law_any ?c__law_any ?k__law_any ?a__law_bag ?l__law_bag ?c__law_bag ?k__law_bag ?a__law_draw ?l__law_draw ?c__law_draw ?k__law_draw ?a__law_like ?l__law_like ?c__law_like ?k__law_like ?a_is_list ?l_is_list ?c_is_list ?k_is_list ?a_is_name ?l_is_name ?c_is_name ?k_is_name ?a_is_number ?l_is_number ?c_is_number ?k_is_number ?a_law ?l_law ?c_law ?k_law ?g_LETTERS ?g_LONGEST_NAME ?n_all ?n_bool ?n_dict ?n_int ?n_isinstance ?n_len ?n_list ?n_range ?n_str ?n_tuple ?n_zip
    (case a__law_any => k_is)
    (case l__law_any => k_is)
    (case c__law_any => k_is)
    (case k__law_any => k_is)
    (case a__law_bag => k_is)
    (case l__law_bag => k_is)
    (case c__law_bag => k_is)
    (case k__law_bag => k_is)
    (case a__law_draw => k_is)
    (case l__law_draw => k_is)
    (case c__law_draw => k_is)
    (case k__law_draw => k_is)
    (case a__law_like => k_is)
    (case l__law_like => k_is)
    (case c__law_like => k_is)
    (case k__law_like => k_is)
    (case a_is_list => k_is)
    (case l_is_list => k_is)
    (case c_is_list => k_is)
    (case k_is_list => k_is)
    (case a_is_name => k_is)
    (case l_is_name => k_is)
    (case c_is_name => k_is)
    (case k_is_name => k_is)
    (case a_is_number => k_is)
    (case l_is_number => k_is)
    (case c_is_number => k_is)
    (case k_is_number => k_is)
    (case a_law => k_is)
    (case l_law => k_is)
    (case c_law => k_is)
    (case k_law => k_is)
    (case g_LETTERS => k_is)
    (case g_LONGEST_NAME => k_is)
    (case n_all => k_is)
    (case n_bool => k_is)
    (case n_dict => k_is)
    (case n_int => k_is)
    (case n_isinstance => k_is)
    (case n_len => k_is)
    (case n_list => k_is)
    (case n_range => k_is)
    (case n_str => k_is)
    (case n_tuple => k_is)
    (case n_zip => k_is)
