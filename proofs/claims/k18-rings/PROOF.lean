import PyProof.Rows.All
import Wide.All
import OpenK.AllK
import Wide.FinOn
import HandS.ForMost
import HandS.ForExc
import HandS.IsInst
import HandS.Zip
import HandS.Defaults
import HandS.Style
import HandS.TupAny
import HandS.SlotsOwn
import HandS.Property
import HandS.MakeKwOnly
import PyProof.InstNe
import KE.KOpsOwn
import KE.KIsAll
import HandS.FStr
import PySem.Challenge.RW_backring_k18_whole_rings_written_and_rea
set_option Elab.async false
set_option maxRecDepth 100000
set_option maxHeartbeats 4000000
namespace Kt
open PySem PySem.Spec PyProof.Rows L2
/-! ### a def of the module, as its callers see it -/
structure Cal (P : Program) (w : World) (K : PySem.W.Frag) (mg : Str → Option Value) (base : Heap) (CX : CXT) (k : Nat) (x : Str) (st : Stmt) (ps : List Str) (sp : Sp) : Prop where
  ex : ∃ (f : Addr) (fd : FuncData), mg x = some (.ref f) ∧ Fun K x x st f fd ∧ Binds K fd ps [] ∧ FnOk P w K mg base CX k f fd ps sp
theorem Cal.mono {P : Program} {w : World} {K : PySem.W.Frag} {mg : Str → Option Value} {base : Heap} {CX : CXT} {j k : Nat} {x : Str} {st : Stmt} {ps : List Str} {sp : Sp} (C : Cal P w K mg base CX j x st ps sp) (h : j ≤ k) : Cal P w K mg base CX k x st ps sp := by
  obtain ⟨f, fd, h1, h2, h3, h4⟩ := C.ex
  exact ⟨f, fd, h1, h2, h3, h4.mono h⟩
theorem Cal.imp {P : Program} {w : World} {K : PySem.W.Frag} {mg : Str → Option Value} {base : Heap} {CX : CXT} {k : Nat} {x : Str} {st : Stmt} {ps : List Str} {sp sp' : Sp} (C : Cal P w K mg base CX k x st ps sp)
    (h : ∀ vs H Q E, sp' vs H Q E → sp vs H Q E) : Cal P w K mg base CX k x st ps sp' := by
  obtain ⟨f, fd, h1, h2, h3, h4⟩ := C.ex
  exact ⟨f, fd, h1, h2, h3, h4.imp h⟩
/-- what the top has left of a def -/
structure Dfn (K : PySem.W.Frag) (mg : Str → Option Value) (x : Str) (st : Stmt) : Prop where
  ex : ∃ (f : Addr) (fd : FuncData), mg x = some (.ref f) ∧ Fun K x x st f fd
section
variable {X : Cx} {CX : CXT} {k : Nat} {sp : Sp} {E : XK} {x : Str} {st : Stmt} {ps : List Str} {p pos : Pos} {e : Expr} {es : List Expr} {t : TA}
theorem pe_cal (C : Cal X.prog X.w X.K X.mg X.base CX k x st ps sp) (hr : Room k X.A) (hx : Passes CX X E) (ha : PA X (e :: es) t) (hg : Gl X x := by rfl) (hdb : (x == ("__debug__" : Str)) = false := by decide)
    (he : starEach (e :: es) X.env = (false, eval e X.env) :: starEach es X.env := by rfl) (hpl : (backTo pos (starEach es X.env)).any (·.1) = false := by rfl) : PE X (.Call (.Name x p) (e :: es) [] pos) (tCall sp [] E t) := by
  obtain ⟨f, fd, h1, h2, h3, h4⟩ := C.ex
  exact pe_call h4 hr hg h1 h2.kp h3 .nil hx ha hdb he hpl
theorem pe_cal0 (C : Cal X.prog X.w X.K X.mg X.base CX k x st ps sp) (hr : Room k X.A) (hx : Passes CX X E) (hg : Gl X x := by rfl) (hdb : (x == ("__debug__" : Str)) = false := by decide) :
    PE X (.Call (.Name x p) [] [] pos) (tCall sp [] E tNil) := by
  obtain ⟨f, fd, h1, h2, h3, h4⟩ := C.ex
  exact pe_call0 h4 hr hg h1 h2.kp h3 .nil hx hdb
end
/-- the values in the parameters' order -/
def ord {α : Type} (perm : List Nat) (l : List α) : List α := perm.filterMap fun i => l[i]?
theorem vals_ord {zs : List V} {ws : List Value} (r : Vals zs ws) : ∀ perm : List Nat, Vals (ord perm zs) (ord perm ws)
  | [] => .nil
  | i :: perm => by
    have ih := vals_ord r perm
    unfold ord at ih ⊢
    rw [List.filterMap_cons, List.filterMap_cons]
    cases e : zs[i]? with
    | none => rw [r.none_of e]; exact ih
    | some z =>
      obtain ⟨u, e2, r2⟩ := r.get e
      rw [e2]
      exact .cons r2 ih
section
variable {X : Cx} {CX : CXT} {k : Nat} {sp : Sp} {E : XK} {x : Str} {st : Stmt} {ps : List Str} {p pos : Pos} {e : Expr} {es : List Expr} {kws : List Keyword} {t tk : TA}
theorem kbn_of {K : PySem.W.Frag} {f : Addr} {fd : FuncData} {n : Nat} {ks : List Str} (perm : List Nat) (F : Fun K x x st f fd)
    (hb : ∀ (kV doc pm : Value) (an : Option Addr) (cdv ct : Value) (us ws : List Value), us.length = n → ws.length = ks.length → bindArgs (PySem.W.fnOf x x (defArgs st) (defBody st) (defScope st) .none kV doc pm an cdv ct) ⟨us, ks.zip ws⟩ = pure (ps.zip (ord perm (us ++ ws)))) :
    KBn K fd ps n ks (fun us ws => ord perm (us ++ ws)) (fun vs zs => ord perm (vs ++ zs)) := by
  obtain ⟨oc, od, kV, doc, pm, an, cdv, ct, osl, rfl, lk, hcd⟩ := F.ex
  exact ⟨fun s us ws _ h1 h2 => .of_eq (hb kV doc pm an cdv ct us ws h1 h2), fun r1 r2 => vals_ord (r1.append r2) perm⟩
/-- f(e, .., k = v, ..): every parameter is given -/
theorem pe_calK {n : Nat} (C : Cal X.prog X.w X.K X.mg X.base CX k x st ps sp) (hr : Room k X.A) (hx : Passes CX X E) (ks : List Str) (perm : List Nat)
    (hb : ∀ (kV doc pm : Value) (an : Option Addr) (cdv ct : Value) (us ws : List Value), us.length = n → ws.length = ks.length → bindArgs (PySem.W.fnOf x x (defArgs st) (defBody st) (defScope st) .none kV doc pm an cdv ct) ⟨us, ks.zip ws⟩ = pure (ps.zip (ord perm (us ++ ws))))
    (ha : PA X (e :: es) t) (hkw : PK X kws tk) (hg : Gl X x := by rfl) (hall : (backToKw pos (keywordEach kws X.env)).all (·.1.isSome) = true := by rfl) (hks : (backToKw pos (keywordEach kws X.env)).filterMap (·.1) = ks := by rfl) (hdb : (x == ("__debug__" : Str)) = false := by decide)
    (he : starEach (e :: es) X.env = (false, eval e X.env) :: starEach es X.env := by rfl) (hpl : ((backTo pos (starEach (e :: es) X.env)).any (·.1) || (backToKw pos (keywordEach kws X.env)).any (·.1.isNone)) = false := by rfl) :
    PE X (.Call (.Name x p) (e :: es) kws pos) (tCallN n ks.length sp (fun vs zs => ord perm (vs ++ zs)) E t tk) := by
  obtain ⟨f, fd, h1, h2, h3, h4⟩ := C.ex
  exact pe_callN h4 hr hg h1 h2.kp (kbn_of perm h2 hb) hx ha hkw hall hks hdb he hpl
theorem pe_calK0 (C : Cal X.prog X.w X.K X.mg X.base CX k x st ps sp) (hr : Room k X.A) (hx : Passes CX X E) (ks : List Str) (perm : List Nat)
    (hb : ∀ (kV doc pm : Value) (an : Option Addr) (cdv ct : Value) (us ws : List Value), us.length = 0 → ws.length = ks.length → bindArgs (PySem.W.fnOf x x (defArgs st) (defBody st) (defScope st) .none kV doc pm an cdv ct) ⟨us, ks.zip ws⟩ = pure (ps.zip (ord perm (us ++ ws))))
    (hkw : PK X kws tk) (hg : Gl X x := by rfl) (hall : (backToKw pos (keywordEach kws X.env)).all (·.1.isSome) = true := by rfl) (hks : (backToKw pos (keywordEach kws X.env)).filterMap (·.1) = ks := by rfl) (hdb : (x == ("__debug__" : Str)) = false := by decide)
    (hpl : ((backTo pos (starEach [] X.env)).any (·.1) || (backToKw pos (keywordEach kws X.env)).any (·.1.isNone)) = false := by rfl) :
    PE X (.Call (.Name x p) [] kws pos) (tCallN 0 ks.length sp (fun vs zs => ord perm (vs ++ zs)) E tNil tk) := by
  obtain ⟨f, fd, h1, h2, h3, h4⟩ := C.ex
  refine ⟨fun pins s σ H Q I h => ?_⟩
  refine wpAny_Call_Name_kw (ld_glob I hg h1 ?_ hdb)
  refine PySem.W.callWith_KW0 (h₀ := X.base) I.ok.mod.kin h2.kp hall ?_ hpl
  refine thn (hkw.run pos pins s σ H _ I h) fun ws s2 ⟨zs, H2, I2, rz, l1, l2, q2⟩ => ⟨I2.kIn, ?_⟩
  rw [hks]
  exact run_fnN (us := []) (vs := []) h4 hr (kbn_of perm h2 hb) hx I2 .nil rz rfl l2 q2
end
section
variable {P : Program} {w : World} {K : PySem.W.Frag} {mg : Str → Option Value} {base : Heap} {x : Str} {st : Stmt} {N ps : List Str} {k : Nat} {sp : Sp}
/-- a def that lets nothing out -/
theorem cal_of (D : Dfn K mg x st) (S : FnScope N ps (defScope st))
    (hb : ∀ (kV doc pm : Value) (an : Option Addr) (cdv ct : Value) (us : List Value), us.length = ps.length → bindArgs (PySem.W.fnOf x x (defArgs st) (defBody st) (defScope st) .none kV doc pm an cdv ct) ⟨us, []⟩ = pure (ps.zip us))
    (len : ∀ vs H Q E, sp vs H Q E → vs.length = ps.length)
    (hbody : ∀ (f : Addr) (cdv : Value) (A : Around) (outer : List Env) (s : Shared) (H : Hp) (vs : List V) (Q : VK) (E : XK), Room k (A.deeper (envOfC x (defScope st) s.heap.objs.size f cdv)) → sp vs H Q E →
      ∃ t, PSs (cxOf CX0 P w K mg base N x (defScope st) f cdv A outer s H E).nox (defBody st) t ∧ t { nx := fun _ H' => Q .non H', rt := Q } (start N vs) H) : Cal P w K mg base CX0 (k + 1) x st ps sp := by
  obtain ⟨f, fd, h1, h2⟩ := D.ex
  exact ⟨f, fd, h1, h2, h2.binds hb, h2.ok S len (hbody f)⟩
end
theorem pe_ty {X : Cx} {x : Str} {pos : Pos} (n : String) (hg : Gl X x) (hm : X.mg x = none) (hv : bootBuiltins x = some (.type n)) (hn : x ≠ "__name__" := by decide) (hd : (x == ("__debug__" : Str)) = false := by decide) : PE X (.Name x pos) (tC (.ty n)) := pe_bltn hg hm hv (v := .ty n) rfl hn hd
theorem pe_gstr {X : Cx} {x : Str} {z : Str} {pos : Pos} (hg : Gl X x) (hm : ∃ t, X.mg x = some (.str z t)) (hd : (x == ("__debug__" : Str)) = false := by decide) : PE X (.Name x pos) (tC (.str z)) := by
  obtain ⟨t, e⟩ := hm
  exact pe_glob hg e (v := .str z) ⟨t, rfl⟩ hd
theorem pe_gint {X : Cx} {x : Str} {z : Int} {pos : Pos} (hg : Gl X x) (hm : ∃ t, X.mg x = some (.int z t)) (hd : (x == ("__debug__" : Str)) = false := by decide) : PE X (.Name x pos) (tC (.int z)) := by
  obtain ⟨t, e⟩ := hm
  exact pe_glob hg e (v := .int z) ⟨t, rfl⟩ hd
/-- the law's def, for the end -/
theorem fn_of_cal {P : Program} {w : World} {K : PySem.W.Frag} {mg : Str → Option Value} {CX : CXT} {k : Nat} {x p : Str} {st : Stmt} {sp : Sp} {fa : Addr} (D : Dfn K mg x st) (hfa : mg x = some (.ref fa))
    (hb : ∀ (kV doc pm : Value) (an : Option Addr) (cdv ct : Value) (us : List Value), us.length = [p].length → bindArgs (PySem.W.fnOf x x (defArgs st) (defBody st) (defScope st) .none kV doc pm an cdv ct) ⟨us, []⟩ = pure ([p].zip us))
    (h : ∀ base : Heap, K.In base → base.Ns mainGlobals mg → Cal P w K mg base CX k x st [p] sp) :
    ∃ fd : FuncData, (∀ (s : Shared) (u : Value), BindsTo s fd ⟨[u], []⟩ [(p, u)]) ∧ ∀ base : Heap, K.In base → base.Ns mainGlobals mg → FnOk P w K mg base CX k fa fd [p] sp := by
  obtain ⟨f, fd, h1, F⟩ := D.ex
  obtain rfl : fa = f := by rw [hfa] at h1; cases h1; rfl
  refine ⟨fd, fun s u => ?_, fun base kb nb => ?_⟩
  · obtain ⟨oc, od, kV, doc, pm, an, cdv, ct, osl, e, lk, hcd⟩ := F.ex
    rw [e]
    exact .of_eq (hb kV doc pm an cdv ct [u] rfl)
  · obtain ⟨f', fd', g1, g2, g3, g4⟩ := (h base kb nb).ex
    obtain rfl : fa = f' := by rw [hfa] at g1; cases g1; rfl
    obtain ⟨_, _, _, _, _, _, _, _, _, _, lk, _⟩ := F.ex
    obtain ⟨_, _, _, _, _, _, _, _, _, _, lk', _⟩ := g2.ex
    obtain rfl : fd = fd' := by rw [lk] at lk'; cases lk'; rfl
    exact g4
theorem room65 {k : Nat} {A : Around} (r : Room k A) : A.units + 65 < cLine := by have := r.un; omega
/-! ### named rules -/
def rInt1 : List V → Hp → VK → Prop := fun xs H Q => (∃ i, xs = [.int i] ∧ Q (.int i) H) ∨ ∃ k, xs = [.bl k] ∧ Q (.int (if k then 1 else 0)) H
def rLen (K : PySem.W.Frag) : List V → Hp → VK → Prop := fun xs H Q => ∃ p ys, xs = [.ref p] ∧ (SqL K H p ys ∨ SqT K H p ys) ∧ Q (.int ys.length) H
def rLenStr : List V → Hp → VK → Prop := fun xs H Q => ∃ z, xs = [.str z] ∧ z.length ≤ sizeLine ∧ Q (.int z.length) H
def rList (K : PySem.W.Frag) : List V → Hp → VK → Prop := fun xs H Q => ∃ p ys, xs = [.ref p] ∧ (SqL K H p ys ∨ SqT K H p ys) ∧ ∀ l, H l = none → Q (.ref l) (upd H l (.lst ys))
def rLenA (K : PySem.W.Frag) : List V → Hp → VK → Prop := fun xs H Q => ∃ x n, xs = [x] ∧ LenV K x H n ∧ Q (.int n) H
def rAddS : R2 := fun x y H Q => ∃ i j, x = .str i ∧ y = .str j ∧ i.length + j.length ≤ sizeLine ∧ Q (.str (i ++ j)) H
def rInSign : R2 := fun x y H Q => ∃ (c : Nat) (z : Str), x = .str ⟨#[c]⟩ ∧ y = .str z ∧ Q (.bl (decide (c ∈ z.cps.toList))) H
def rIsN : R2 := fun x y H Q => y = .non ∧ Q (.bl (decide (x = .non))) H
def rNotN : R2 := fun x y H Q => y = .non ∧ Q (.bl (!decide (x = .non))) H
/-- None, a bool, an int, a text -/
def Plain : V → Prop
  | .non => True | .bl _ => True | .int _ => True | .str _ => True | _ => False
def rInDT (K : PySem.W.Frag) : R2 := fun x y H Q => ∃ d ds, Dp K H x d ∧ Dp K H y (.tuple ds) ∧ SeqAt.shaped d = true ∧ SeqAt.shaped (.tuple ds) = true ∧ Q (.bl (ds.any fun z => PyData.eqv z d)) H
/-- x is not b, b a bool, x no reference -/
def rNotBl1 : R2 := fun x y H Q => ∃ b : Bool, y = .bl b ∧ Plain x ∧ Q (.bl (!decide (x = .bl b))) H
section
variable {X : Cx}
theorem k_inDT (K : PySem.W.Frag) (hu : X.A.units + 65 < cLine) (hK : X.K = K := by rfl) : OpR X (compareOp .In) (rInDT K) := by
  subst hK
  intro pins s σ H x y v u Q I rx ry h
  obtain ⟨d, ds, hd, he, sd, se, q⟩ := h
  obtain ⟨as, r1⟩ := Dp.reads I d x v hd rx
  obtain ⟨bs, r2⟩ := Dp.reads I (.tuple ds) y u he ry
  exact SeqAt.in_tuple_reads r2 r1 (SeqAt.canLay_of_shaped se) (SeqAt.canLay_of_shaped sd) (room_in_shaped sd hu) ⟨.bl _, H, I, rfl, q⟩
theorem k_notBl1 : OpR X (compareOp .IsNot) rNotBl1 := by
  intro pins s σ H x y v u Q I rx ry h
  obtain ⟨b, rfl, hx, q⟩ := h
  cases (show u = Value.bool b from ry)
  cases x with
  | non =>
    cases (show v = Value.none from rx)
    exact wpAny_isNot_other rfl (fun z => nomatch z) ⟨.bl true, H, I, rfl, by simpa using q⟩
  | int i =>
    obtain ⟨t, rfl⟩ := rx
    exact wpAny_isNot_other rfl (fun z => nomatch z) ⟨.bl true, H, I, rfl, by simpa using q⟩
  | str i =>
    obtain ⟨t, rfl⟩ := rx
    exact wpAny_isNot_other rfl (fun z => nomatch z) ⟨.bl true, H, I, rfl, by simpa using q⟩
  | bl a =>
    cases (show v = Value.bool a from rx)
    by_cases e : a = b
    · subst e
      exact wpAny_isNot_self rfl ⟨.bl false, H, I, rfl, by simpa using q⟩
    · exact wpAny_isNot_other rfl (fun z => e (Value.bool.inj z)) ⟨.bl true, H, I, rfl, by simpa [e] using q⟩
  | _ => exact hx.elim
theorem k_int1 : CallR X (.type "int") rInt1 := call_int1
theorem k_len (K : PySem.W.Frag) (h : X.K = K := by rfl) : CallR X (.builtin "len") (rLen K) := h ▸ call_len_seq
theorem k_lenA (K : PySem.W.Frag) (h : X.K = K := by rfl) : CallR X (.builtin "len") (rLenA K) := h ▸ call_len
theorem k_lenS : CallR X (.builtin "len") rLenStr := call_len_str
theorem k_list (K : PySem.W.Frag) (h : X.K = K := by rfl) : CallR X (.type "list") (rList K) := h ▸ call_list_of
theorem k_addS : OpR X (binaryOp .Add) rAddS := op_add_str
theorem k_inSign : OpR X (compareOp .In) rInSign := op_in_sign
theorem k_isN : OpR X (compareOp .Is) rIsN := op_isN
theorem k_notN : OpR X (compareOp .IsNot) rNotN := op_notN
theorem k_ixL (K : PySem.W.Frag) (h : X.K = K := by rfl) : IxR X (rIxL K) := h ▸ ix_list
theorem k_ixT (K : PySem.W.Frag) (h : X.K = K := by rfl) : IxR X (rIxT K) := h ▸ ix_tup
theorem k_ixA (K : PySem.W.Frag) (h : X.K = K := by rfl) : IxR X (rIx K) := h ▸ ix_seq
theorem k_slL (K : PySem.W.Frag) (h : X.K = K := by rfl) : SlR X (rSlL K) := h ▸ sl_list
theorem k_isi (K : PySem.W.Frag) (h : X.K = K := by rfl) : CallR X (.builtin "isinstance") (rIsi K) := h ▸ call_isi
theorem k_isiT (K : PySem.W.Frag) (h : X.K = K := by rfl) : CallR X (.builtin "isinstance") (rIsiT K) := h ▸ call_isiT
theorem k_all (K : PySem.W.Frag) (h : X.K = K := by rfl) (hc : X.calm = true := by rfl) : CallR X (.builtin "all") (rAll K) := h ▸ cr_all hc
theorem k_any (K : PySem.W.Frag) (h : X.K = K := by rfl) (hc : X.calm = true := by rfl) : CallR X (.builtin "any") (rAny K) := h ▸ cr_any hc
theorem k_inSeq (K : PySem.W.Frag) (h : X.K = K := by rfl) : OpR X (compareOp .In) (rIn K false) := h ▸ op_in_seq
theorem k_notInSeq (K : PySem.W.Frag) (h : X.K = K := by rfl) : OpR X (compareOp .NotIn) (rIn K true) := h ▸ op_notIn_seq
theorem k_eqD (K : PySem.W.Frag) (hu : X.A.units + 64 < cLine) (h : X.K = K := by rfl) : OpR X (compareOp .Eq) (rEqD K) := h ▸ op_eqD hu
theorem k_neD (K : PySem.W.Frag) (hu : X.A.units + 64 < cLine) (h : X.K = K := by rfl) : OpR X (compareOp .NotEq) (rNeD K) := h ▸ op_neD hu
theorem kpi_list (K : PySem.W.Frag) {tg l : Expr} {tl : TE} (hl : PE X l tl) (h : X.K = K := by rfl) : PI X tg l (iList K tl) := h ▸ pi_list hl
theorem kpi_tup (K : PySem.W.Frag) {tg l : Expr} {tl : TE} (hl : PE X l tl) (h : X.K = K := by rfl) : PI X tg l (iTup K tl) := h ▸ pi_tup hl
theorem kpg_tup (K : PySem.W.Frag) {es : List Expr} {k : Nat} {t : TGs} {n : Nat} {pos : Pos} (h : PGs X es t) (hc : X.calm = true := by rfl)
    (hn : (assignEach es X.env).length = n := by rfl) (hst : (assignEach es X.env).findIdx? (·.1) = none := by rfl) (hK : X.K = K := by rfl) : PG X (.Tuple es k pos) (gTup K n t) := hK ▸ pg_tup hc h hn hst
theorem kpi_zip (K : PySem.W.Frag) {e e2 : Expr} {ta : TA} {p pos tpos : Pos} {elts : List Expr} {kk : Nat} (hg : Gl X "zip") (hm : X.mg "zip" = none) (ha : PA X [e, e2] ta)
    (hs : starEach [e, e2] X.env = (false, eval e X.env) :: starEach [e2] X.env := by rfl) (hpl : (backTo pos (starEach [e2] X.env)).any (·.1) = false := by rfl) (hK : X.K = K := by rfl) :
    PI X (.Tuple elts kk tpos) (.Call (.Name "zip" p) [e, e2] [] pos) (RZ.iZipA K ta) := hK ▸ RZ.pi_zipA hg hm ha hs hpl
theorem kpi_enum (K : PySem.W.Frag) {e : Expr} {ta : TA} {p pos tpos : Pos} {elts : List Expr} {kk : Nat} (hg : Gl X "enumerate") (hm : X.mg "enumerate" = none) (ha : PA X [e] ta) (hs : starEach [e] X.env = [(false, eval e X.env)] := by rfl) (hK : X.K = K := by rfl) :
    PI X (.Tuple elts kk tpos) (.Call (.Name "enumerate" p) [e] [] pos) (iEnum K ta) := hK ▸ pi_enum hg hm ha hs
end
section
variable {P : Program} {w : World} {K : PySem.W.Frag} {mg : Str → Option Value} {base : Heap} {x : Str} {st : Stmt} {ps : List Str} {sp : Sp}
/-- a def that is never called -/
theorem cal_never (D : Dfn K mg x st)
    (hb : ∀ (kV doc pm : Value) (an : Option Addr) (cdv ct : Value) (us : List Value), us.length = ps.length → bindArgs (PySem.W.fnOf x x (defArgs st) (defBody st) (defScope st) .none kV doc pm an cdv ct) ⟨us, []⟩ = pure (ps.zip us))
    (no : ∀ vs H Q E, ¬ sp vs H Q E) : Cal P w K mg base CX0 0 x st ps sp := by
  obtain ⟨f, fd, h1, h2⟩ := D.ex
  exact ⟨f, fd, h1, h2, h2.binds hb, ⟨fun vs H Q E h => absurd h (no vs H Q E), fun A outer s H args us vs Q E _ _ _ _ h => absurd h (no vs H Q E)⟩⟩
end
/-! ### readings, one step each -/
section
variable {K : PySem.W.Frag} {σ : L2.St} {H : Hp} {D : Ends} {t1 t2 : TS} {te ta tb : TE} {tc tu : TT} {t : TA} {i : Nat} {v x y : V} {vs xs : List V} {r : R2} {Q : VK} {QB : Bool → Hp → Prop} {QA : List V → Hp → Prop} {QS : L2.St → Hp → Prop} {sp : Sp} {E : XK} {b : Bool} {m n : Int}
theorem rd_seq (h : t1 { D with nx := t2 D } σ H) : tSeq t1 t2 D σ H := h
theorem rd_seqA {g : TG} (h : tAsg te g { D with nx := t2 D } σ H) : tSeq (tAsg te g) t2 D σ H := h
theorem rd_seqP {j : Nat} (h : tPar i j t { D with nx := t2 D } σ H) : tSeq (tPar i j t) t2 D σ H := h
theorem rd_seqD (h : tDrop te { D with nx := t2 D } σ H) : tSeq (tDrop te) t2 D σ H := h
theorem rd_next (h : D.nx σ H) : tNext D σ H := h
theorem rd_brk (h : D.bk σ H) : tBreak D σ H := h
theorem rd_cont (h : D.ct σ H) : tCont D σ H := h
theorem rd_asg {g : TG} (h : te σ H fun v H1 => g v σ H1 D.nx) : tAsg te g D σ H := h
theorem rd_name (h : QS (σ.set i (some v)) H) : gName i v σ H QS := h
theorem rd_ret (h : te σ H D.rt) : tRet te D σ H := h
theorem rd_retN (h : D.rt .non H) : tRetN D σ H := h
theorem rd_drop (h : te σ H fun _ H1 => D.nx σ H1) : tDrop te D σ H := h
theorem rd_ifs (h : tc σ H fun b H1 => if b = true then t1 D σ H1 else t2 D σ H1) : tIfS tc t1 t2 D σ H := h
theorem rd_var (e : σ[i]? = some (some v)) (h : Q v H) : tVar i σ H Q := ⟨v, e, h⟩
theorem rd_c (h : Q v H) : tC v σ H Q := h
theorem rd_op (h : ta σ H fun x H1 => tb σ H1 fun y H2 => r x y H2 Q) : tOp r ta tb σ H Q := h
theorem rd_un {r : V → Hp → VK → Prop} (h : ta σ H fun x H1 => r x H1 Q) : tUn r ta σ H Q := h
theorem rd_test (h : te σ H fun x H' => ∃ k, x = .bl k ∧ QB k H') : tTest te σ H QB := h
theorem rd_B (h : te σ H fun x H' => ∃ k, x = .bl k ∧ QB k H') : tB te σ H QB := h
theorem rd_bl {P : Bool → Prop} (h : P b) : ∃ k, V.bl b = .bl k ∧ P k := ⟨b, rfl, h⟩
theorem rd_and (h : tc σ H fun c H1 => if c = true then tu σ H1 QB else QB false H1) : tAnd tc tu σ H QB := h
theorem rd_or (h : tc σ H fun c H1 => if c = true then QB true H1 else tu σ H1 QB) : tOr tc tu σ H QB := h
theorem rd_not (h : tc σ H fun c H1 => QB (!c) H1) : tNot tc σ H QB := h
theorem rd_andV (h : ta σ H fun x H1 => ∃ c, x = .bl c ∧ if c = true then tb σ H1 Q else Q (.bl false) H1) : tAndV ta tb σ H Q := h
theorem rd_orV (h : ta σ H fun x H1 => ∃ c, x = .bl c ∧ if c = true then Q (.bl true) H1 else tb σ H1 Q) : tOrV ta tb σ H Q := h
theorem rd_notV (h : ta σ H fun x H1 => ∃ c, x = .bl c ∧ Q (.bl (!c)) H1) : tNotV ta σ H Q := h
theorem rd_ifE (h : tc σ H fun c H1 => if c = true then ta σ H1 Q else tb σ H1 Q) : tIf tc ta tb σ H Q := h
theorem rd_nil (h : QA [] H) : tNil σ H QA := h
theorem rd_cons {tr : TA} (h : ta σ H fun x H1 => tr σ H1 fun xs H2 => QA (x :: xs) H2) : tCons ta tr σ H QA := h
theorem rd_tup (h : t σ H fun xs H1 => xs.length ≤ sizeLine ∧ ∀ p, H1 p = none → Q (.ref p) (upd H1 p (.tup xs))) : tTup t σ H Q := h
theorem rd_lst (h : t σ H fun xs H1 => xs.length ≤ sizeLine ∧ ∀ p, H1 p = none → Q (.ref p) (upd H1 p (.lst xs))) : tLst t σ H Q := h
theorem rd_call {dvs : List V} (h : t σ H fun vs H1 => sp (vs ++ dvs) H1 Q E) : tCall sp dvs E t σ H Q := h
theorem rd_cb {r : List V → Hp → VK → Prop} (h : t σ H fun vs H1 => r vs H1 Q) : tCB r t σ H Q := h
theorem rd_rI0 {g : Int → Int → V} (h : Q (g m n) H) : rI0 g (.int m) (.int n) H Q := ⟨m, n, rfl, rfl, h⟩
theorem rd_rI {C : Int → Int → Prop} {g : Int → Int → V} (c : C m n) (h : Q (g m n) H) : rI C g (.int m) (.int n) H Q := ⟨m, n, rfl, rfl, c, h⟩
theorem rd_rU {g : Int → V} (h : Q (g m) H) : rU g (.int m) H Q := ⟨m, rfl, h⟩
theorem rd_eq (s : scal x y = true) (h : Q (.bl (decide (x = y))) H) : rEq x y H Q := ⟨s, h⟩
theorem rd_ne (s : scal x y = true) (h : Q (.bl (!decide (x = y))) H) : rNe x y H Q := ⟨s, h⟩
theorem rd_ixL {p : Addr} (h : SqL K H p xs) (a : atI xs m = some v) (q : Q v H) : rIxL K (.ref p) (.int m) H Q := ⟨p, xs, m, v, rfl, rfl, h, a, q⟩
theorem rd_ixT {p : Addr} (h : SqT K H p xs) (a : atI xs m = some v) (q : Q v H) : rIxT K (.ref p) (.int m) H Q := ⟨p, xs, m, v, rfl, rfl, h, a, q⟩
theorem rd_setL {p : Addr} {QH : Hp → Prop} {j : Nat} (h : H p = some (.lst xs)) (a : ixN xs.length m = some j) (q : QH (upd H p (.lst (xs.set j v)))) : rSetL (.ref p) (.int m) v H QH := ⟨p, xs, m, j, rfl, rfl, h, a, q⟩
theorem rd_gsub {to ti : TE} {s : TSet} (h : to σ H fun o H1 => ti σ H1 fun i H2 => s o i v H2 fun H3 => QS σ H3) : gSub to ti s v σ H QS := h
theorem rd_chain {r' : R2} {td : TE} (h : ta σ H fun x H1 => tb σ H1 fun y H2 => r x y H2 fun z H3 => ∃ k, z = .bl k ∧ (if k = true then td σ H3 fun w' H4 => r' y w' H4 Q else Q (.bl false) H3)) : tChain r r' ta tb td σ H Q := h
theorem rd_sl {r : V → Option Int → Option Int → Hp → VK → Prop} {tl th : TO} (h : te σ H fun x H1 => tl σ H1 fun l H2 => th σ H2 fun u H3 => r x l u H3 Q) : tSl r te tl th σ H Q := h
theorem rd_noPart {QO : Option Int → Hp → Prop} (h : QO none H) : tNoPart σ H QO := h
theorem rd_part {QO : Option Int → Hp → Prop} (h : te σ H fun x H1 => ∃ i, x = .int i ∧ QO (some i) H1) : tPart te σ H QO := h
theorem rd_int {P : Int → Prop} (h : P m) : ∃ i, V.int m = .int i ∧ P i := ⟨m, rfl, h⟩
theorem rd_str {P : Str → Prop} {z : Str} (h : P z) : ∃ i, V.str z = .str i ∧ P i := ⟨z, rfl, h⟩
theorem rd_cut (R : L2.St → Hp → Prop) (h1 : ∀ nx : L2.St → Hp → Prop, (∀ σ' H', R σ' H' → nx σ' H') → t1 { D with nx := nx } σ H) (h2 : ∀ σ' H', R σ' H' → t2 D σ' H') : tSeq t1 t2 D σ H := h1 _ h2
theorem rd_iteT {A B : Prop} (h : A) : if true = true then A else B := iteT h
theorem rd_iteF {A B : Prop} (h : B) : if false = true then A else B := iteF h
theorem rd_int1 (h : Q (.int m) H) : rInt1 [.int m] H Q := .inl ⟨m, rfl, h⟩
theorem rd_lenL {p : Addr} (h : SqL K H p xs) (q : Q (.int xs.length) H) : rLen K [.ref p] H Q := ⟨p, xs, rfl, .inl h, q⟩
theorem rd_lenT {p : Addr} (h : SqT K H p xs) (q : Q (.int xs.length) H) : rLen K [.ref p] H Q := ⟨p, xs, rfl, .inr h, q⟩
theorem rd_lenS {z : Str} (h : z.length ≤ sizeLine) (q : Q (.int z.length) H) : rLenStr [.str z] H Q := ⟨z, rfl, h, q⟩
theorem rd_listL {p : Addr} (h : SqL K H p xs) (q : ∀ l, H l = none → Q (.ref l) (upd H l (.lst xs))) : rList K [.ref p] H Q := ⟨p, xs, rfl, .inl h, q⟩
theorem rd_listT {p : Addr} (h : SqT K H p xs) (q : ∀ l, H l = none → Q (.ref l) (upd H l (.lst xs))) : rList K [.ref p] H Q := ⟨p, xs, rfl, .inr h, q⟩
theorem rd_addS {a b : Str} (h : a.length + b.length ≤ sizeLine) (q : Q (.str (a ++ b)) H) : rAddS (.str a) (.str b) H Q := ⟨a, b, rfl, rfl, h, q⟩
theorem rd_inSign {c : Nat} {z : Str} (q : Q (.bl (decide (c ∈ z.cps.toList))) H) : rInSign (.str ⟨#[c]⟩) (.str z) H Q := ⟨c, z, rfl, rfl, q⟩
theorem rd_callN {n m : Nat} {gV : List V → List V → List V} {tk : TA} (h : t σ H fun vs H1 => tk σ H1 fun zs H2 => vs.length = n ∧ zs.length = m ∧ sp (gV vs zs) H2 Q E) : tCallN n m sp gV E t tk σ H Q := h
theorem rd_lens {A : Prop} {us ws : List V} {n m : Nat} (h1 : us.length = n) (h2 : ws.length = m) (h : A) : us.length = n ∧ ws.length = m ∧ A := ⟨h1, h2, h⟩
theorem rd_notBl1 (h : Plain x) (q : Q (.bl (!decide (x = .bl b))) H) : rNotBl1 x (.bl b) H Q := ⟨b, rfl, h, q⟩
theorem rd_eqD {d e : PyData} (hd : Dp K H x d) (he : Dp K H y e) (sd : SeqAt.shaped d = true) (se : SeqAt.shaped e = true) (q : Q (.bl (PyData.eqv d e)) H) : rEqD K x y H Q := ⟨d, e, hd, he, sd, se, q⟩
theorem rd_inDT {d : PyData} {ds : List PyData} (hd : Dp K H x d) (he : Dp K H y (.tuple ds)) (sd : SeqAt.shaped d = true) (se : SeqAt.shaped (.tuple ds) = true) (q : Q (.bl (ds.any fun z => PyData.eqv z d)) H) : rInDT K x y H Q := ⟨d, ds, hd, he, sd, se, q⟩
theorem rd_isN (q : Q (.bl (decide (x = .non))) H) : rIsN x .non H Q := ⟨rfl, q⟩
theorem rd_notN (q : Q (.bl (!decide (x = .non))) H) : rNotN x .non H Q := ⟨rfl, q⟩
theorem rd_slL {p : Addr} {lo hi : Option Int} (h : SqL K H p xs) (q : ∀ l, H l = none → Q (.ref l) (upd H l (.lst (cutV xs lo hi)))) : rSlL K (.ref p) lo hi H Q := ⟨p, xs, rfl, h, q⟩
end
/-! ### texts -/
def rJoin (K : PySem.W.Frag) : V → List V → Hp → VK → Prop := fun x xs H Q => ∃ a p, ∃ ys : List Str, x = .str a ∧ xs = [.ref p] ∧ (SqL K H p (ys.map V.str) ∨ SqT K H p (ys.map V.str)) ∧ (ys.map (·.length)).sum + ys.length * a.length ≤ 16777216 ∧ Q (.str (Txt.join a ys)) H
theorem k_join (K : PySem.W.Frag) {X : Cx} {o e : Expr} {to te : TE} {apos pos : Pos} (ho : PE X o to) (he : PE X e te) (hK : X.K = K := by rfl) (hs : starEach [e] X.env = [(false, eval e X.env)] := by rfl) (hbase : attributeBase o "join" X.env (eval o X.env) = eval o X.env := by rfl) (hline : (apos.endLine == pos.line) = true := by rfl) :
    PE X (.Call (.Attribute o "join" apos) [e] [] pos) (tM1 (rJoin K) to te) := hK ▸ pe_join ho he hs hbase hline
section
variable {K : PySem.W.Frag} {σ : L2.St} {H : Hp} {to te : TE} {Q : VK} {r : V → List V → Hp → VK → Prop} {z : Str}
theorem rd_m1 (h : to σ H fun x H1 => (∃ a, x = .str a) ∧ te σ H1 fun y H2 => r x [y] H2 Q) : tM1 r to te σ H Q := h
theorem rd_m0 (h : to σ H fun x H1 => (∃ a, x = .str a) ∧ r x [] H1 Q) : tM0 r to σ H Q := h
theorem rd_isStr {A : Prop} (h : A) : (∃ a, V.str z = .str a) ∧ A := ⟨⟨z, rfl⟩, h⟩
theorem rd_slS {lo hi : Option Int} (hz : z.length ≤ sizeLine) (h : Q (.str (cutS z lo hi)) H) : rSlS (.str z) lo hi H Q := ⟨z, rfl, hz, h⟩
end
/-- the text of some codes -/
def ofCodes (cs : List Nat) : Str := ⟨cs.toArray⟩
theorem join_signs (cs : List Nat) : Txt.join "" (cs.map fun c => (⟨#[c]⟩ : Str)) = ofCodes cs := by
  refine TL.ext_tl ?_
  rw [TL.join_eq, TL.tl_join]
  have e : TL.tl (("" : Str)) = [] := by decide +kernel
  rw [e, List.map_map]
  show _ = cs
  induction cs with
  | nil => rfl
  | cons c cs ih =>
    cases cs with
    | nil => rfl
    | cons d ds =>
      show TL.tl ⟨#[c]⟩ ++ ([] ++ TL.joinL [] (TL.tl ⟨#[d]⟩ :: _)) = _
      rw [List.nil_append]
      exact congrArg (c :: ·) ih
theorem sum_signs (cs : List Nat) : ((cs.map fun c => (⟨#[c]⟩ : Str)).map (·.length)).sum = cs.length := by
  induction cs with
  | nil => rfl
  | cons c cs ih =>
    rw [List.map_cons, List.map_cons, List.sum_cons, ih, List.length_cons]
    show 1 + cs.length = _
    omega
/-! ### kinds -/
inductive Kd where
  | non | bl | int | str | lst | tup | dct
def Kd.name : Kd → String
  | .non => "NoneType" | .bl => "bool" | .int => "int" | .str => "str" | .lst => "list" | .tup => "tuple" | .dct => "dict"
/-- is the kind a one of the class b -/
def Kd.sub : Kd → Kd → Bool
  | .bl, .bl => true | .bl, .int => true | .int, .int => true | .str, .str => true | .lst, .lst => true | .tup, .tup => true | .dct, .dct => true | .non, .non => true
  | _, _ => false
theorem Kd.kit : ∀ a b : Kd, kitB a.name b.name = some (a.sub b)
  | a, b => by cases a <;> cases b <;> decide +kernel
/-- x is of the kind k -/
def Is (K : PySem.W.Frag) (H : Hp) (x : V) (k : Kd) : Prop := TyX K H x (.type k.name)
section
variable {K : PySem.W.Frag} {H : Hp} {x : V} {k : Kd} {Q : VK} {a : Addr} {xs : List V}
theorem Is.non : Is K H .non .non := .base .non
theorem Is.bl {b : Bool} : Is K H (.bl b) .bl := .base (.bl b)
theorem Is.int {i : Int} : Is K H (.int i) .int := .base (.int i)
theorem Is.str {z : Str} : Is K H (.str z) .str := .base (.str z)
theorem Is.lst (h : SqL K H a xs) : Is K H (.ref a) .lst := by
  rcases h with (h | ⟨o, h⟩) | ⟨o, its, n, e, c, _⟩
  · exact .base (.lst h)
  · exact .base (.frz h)
  · exact .kList e c
theorem Is.tup (h : SqT K H a xs) : Is K H (.ref a) .tup := by
  rcases h with (h | ⟨o, h⟩) | ⟨o, its, n, e, c, _⟩
  · exact .base (.tup h)
  · exact .fTuple h
  · exact .kTuple e c
theorem rd_isi (t : Kd) (h : Is K H x k) (q : Q (.bl (k.sub t)) H) : rIsi K [x, .ty t.name] H Q := ⟨x, .ty t.name, _, _, _, rfl, .ty _, h, kit_ty (Kd.kit k t), q⟩
theorem rd_isi_str (h : Is K H x k) (q : Q (.bl (k.sub .str)) H) : rIsi K [x, .ty "str"] H Q := rd_isi .str h q
theorem rd_isi_int (h : Is K H x k) (q : Q (.bl (k.sub .int)) H) : rIsi K [x, .ty "int"] H Q := rd_isi .int h q
theorem rd_isi_bool (h : Is K H x k) (q : Q (.bl (k.sub .bl)) H) : rIsi K [x, .ty "bool"] H Q := rd_isi .bl h q
theorem rd_isi_list (h : Is K H x k) (q : Q (.bl (k.sub .lst)) H) : rIsi K [x, .ty "list"] H Q := rd_isi .lst h q
theorem rd_isi_tuple (h : Is K H x k) (q : Q (.bl (k.sub .tup)) H) : rIsi K [x, .ty "tuple"] H Q := rd_isi .tup h q
theorem rd_isi_dict (h : Is K H x k) (q : Q (.bl (k.sub .dct)) H) : rIsi K [x, .ty "dict"] H Q := rd_isi .dct h q
/-- isinstance(x, (list, tuple)) -/
theorem rd_isi_lt {p : Addr} (h : Is K H x k) (hp : H p = some (.tup [.ty "list", .ty "tuple"])) (q : Q (.bl (k.sub .lst || k.sub .tup)) H) : rIsiT K [x, .ref p] H Q := by
  refine ⟨x, p, _, _, [.type "list", .type "tuple"], _, rfl, hp, .cons (.ty _) (.cons (.ty _) .nil), h, ?_, q⟩
  refine kitAny_cons (b := k.sub .lst) (kit_ty (Kd.kit k .lst)) (fun e => ?_) (fun e => by rw [e]; rfl)
  rw [e]
  refine kitAny_cons (b := k.sub .tup) (kit_ty (Kd.kit k .tup)) (fun e => ?_) (fun e => by rw [e]; rfl)
  rw [e]
  exact kitAny_nil
theorem rd_iteC {b : Bool} {A B : Prop} (e : b = true) (h : A) : if b = true then A else B := by rw [e]; exact iteT h
theorem rd_iteD {b : Bool} {A B : Prop} (e : b = false) (h : B) : if b = true then A else B := by rw [e]; exact iteF h
theorem rd_all {bs : List Bool} (h : SqL K H a (bs.map V.bl)) (q : Q (.bl (bs.all id)) H) : rAll K [.ref a] H Q := ⟨a, bs, rfl, h, q⟩
theorem rd_any {bs : List Bool} (h : SqL K H a (bs.map V.bl)) (q : Q (.bl (bs.any id)) H) : rAny K [.ref a] H Q := ⟨a, bs, rfl, h, q⟩
end
/-! ### comprehensions, loops -/
section
variable {K : PySem.W.Frag} {σ : L2.St} {H H1 : Hp} {te tl : TE} {tt : TT} {wi : TI} {g : TG} {tb : TS} {t : TA} {Q : VK} {D : Ends} {vs : List Nat} {R : It → Hp → Prop} {a b : Addr} {xs ys : List V}
theorem rd_lc (h : wi σ H fun J H1 => ∀ D, H1 D = none → ∃ W : Nat → Nat → Hp → Prop, (∃ m, W 0 m (upd H1 D (.lst []))) ∧ ∀ i m H, W i m H →
  (J.stop i H ∧ Q (.ref D) H) ∨ (J.go i H ∧ ∃ Nx : Hp → Prop, (∀ H', Nx H' → ∃ m', m' < m ∧ W (i + 1) m' H') ∧ ∀ x H', J.yld i H x H' → g x (wipe σ vs) H' fun σ2 H2 => wipe σ2 vs = wipe σ vs ∧ tt σ2 H2 fun b H3 =>
    if b = true then te σ2 H3 fun y H4 => ∃ acc, H4 D = some (.lst acc) ∧ acc.length < sizeLine ∧ Nx (upd H4 D (.lst (acc ++ [y]))) else Nx H3)) : tLc wi g tt te vs σ H Q := h
theorem rd_for (h : wi σ H fun J H1 => ∃ W : Nat → Nat → L2.St → Hp → Prop, (∃ m, W 0 m σ H1) ∧ ∀ i m σ H, W i m σ H →
  (J.stop i H ∧ D.nx σ H) ∨ (J.go i H ∧ ∃ N : L2.St → Hp → Prop, (∀ σ' H', N σ' H' → ∃ m', m' < m ∧ W (i + 1) m' σ' H') ∧ ∀ v H', J.yld i H v H' → g v σ H' fun σ2 H2 => tb { D with nx := N, ct := N, bk := D.nx } σ2 H2)) : tFor wi g tb D σ H := h
theorem rd_iList (h : tl σ H fun x H1 => ∃ a, x = .ref a ∧ (∃ xs, SqL K H1 a xs) ∧ R (Itl K a) H1) : iList K tl σ H R := h
theorem rd_iTup (h : tl σ H fun x H1 => ∃ a, x = .ref a ∧ (∃ xs, SqT K H1 a xs) ∧ R (Itt K a) H1) : iTup K tl σ H R := h
theorem rd_iStr (h : tl σ H fun v H1 => ∃ x, v = .str x ∧ R (Its x) H1) : iStr tl σ H R := h
theorem rd_iRng1 (h : t σ H fun vs H1 => ∃ j : Int, vs = [.int j] ∧ -(2 ^ 62) ≤ j ∧ j < 2 ^ 62 ∧ R (Itr 0 j.toNat) H1) : iRng1 t σ H R := h
theorem rd_iRng2 (h : t σ H fun vs H1 => ∃ i j : Int, vs = [.int i, .int j] ∧ (-(2 ^ 62) ≤ i ∧ i < 2 ^ 62 ∧ -(2 ^ 62) ≤ j ∧ j < 2 ^ 62) ∧ R (Itr i (j - i).toNat) H1) : iRng2 t σ H R := h
theorem rd_iEnum (h : t σ H fun vs H1 => ∃ a xs, vs = [.ref a] ∧ SqL K H1 a xs ∧ R (Ite K a) H1) : iEnum K t σ H R := h
theorem rd_iZipA (h : t σ H fun vs H1 => ∃ a b xs ys, vs = [.ref a, .ref b] ∧ ((SqL K H1 a xs ∧ SqL K H1 b ys ∧ R (Itz K a b) H1) ∨ (SqT K H1 a xs ∧ SqT K H1 b ys ∧ R (RZ.ItzT K a b) H1))) : RZ.iZipA K t σ H R := h
theorem rd_atL {P : Addr → Prop} (h : SqL K H a xs) (q : P a) : ∃ a', V.ref a = .ref a' ∧ (∃ xs, SqL K H a' xs) ∧ P a' := ⟨a, rfl, ⟨xs, h⟩, q⟩
theorem rd_atT {P : Addr → Prop} (h : SqT K H a xs) (q : P a) : ∃ a', V.ref a = .ref a' ∧ (∃ xs, SqT K H a' xs) ∧ P a' := ⟨a, rfl, ⟨xs, h⟩, q⟩
/-- a comprehension over anything of n items -/
theorem lc_it {J : It} (n : Nat) {Da : Addr} {Qd : Hp → Prop} (Pv : Nat → Hp → Prop) (h0 : Pv 0 (upd H1 Da (.lst []))) (hgo : ∀ i H, i < n → Pv i H → J.go i H) (hst : ∀ H, Pv n H → J.stop n H)
    (hs : ∀ i H x H', i < n → Pv i H → J.yld i H x H' → g x (wipe σ vs) H' fun σ2 H2 => wipe σ2 vs = wipe σ vs ∧ tt σ2 H2 fun b H3 =>
      if b = true then te σ2 H3 fun y H4 => ∃ acc, H4 Da = some (.lst acc) ∧ acc.length < sizeLine ∧ Pv (i + 1) (upd H4 Da (.lst (acc ++ [y]))) else Pv (i + 1) H3) (hd : ∀ H, Pv n H → Qd H) :
    ∃ W : Nat → Nat → Hp → Prop, (∃ m, W 0 m (upd H1 Da (.lst []))) ∧ ∀ i m H, W i m H →
      (J.stop i H ∧ Qd H) ∨ (J.go i H ∧ ∃ Nx : Hp → Prop, (∀ H', Nx H' → ∃ m', m' < m ∧ W (i + 1) m' H') ∧ ∀ x H', J.yld i H x H' → g x (wipe σ vs) H' fun σ2 H2 => wipe σ2 vs = wipe σ vs ∧ tt σ2 H2 fun b H3 =>
        if b = true then te σ2 H3 fun y H4 => ∃ acc, H4 Da = some (.lst acc) ∧ acc.length < sizeLine ∧ Nx (upd H4 Da (.lst (acc ++ [y]))) else Nx H3) := by
  refine ⟨fun i m H => m = n - i ∧ i ≤ n ∧ Pv i H, ⟨n, by simp, Nat.zero_le _, h0⟩, ?_⟩
  rintro i m H ⟨rfl, hi, p⟩
  by_cases hlt : i < n
  · exact .inr ⟨hgo i H hlt p, Pv (i + 1), fun H' p' => ⟨n - (i + 1), by omega, rfl, hlt, p'⟩, fun x H' y => hs i H x H' hlt p y⟩
  · have e : i = n := by omega
    subst e
    exact .inl ⟨hst H p, hd H p⟩
/-- a for loop over anything of at most n items (it may leave early) -/
theorem for_it {J : It} (n : Nat) (Pv : Nat → L2.St → Hp → Prop) (h0 : Pv 0 σ H) (hgo : ∀ i σ H, i < n → Pv i σ H → J.go i H) (hst : ∀ σ H, Pv n σ H → J.stop n H)
    (hs : ∀ i σ H v H', i < n → Pv i σ H → J.yld i H v H' → g v σ H' fun σ2 H2 => tb { D with nx := Pv (i + 1), ct := Pv (i + 1), bk := D.nx } σ2 H2) (hd : ∀ σ H, Pv n σ H → D.nx σ H) :
    ∃ W : Nat → Nat → L2.St → Hp → Prop, (∃ m, W 0 m σ H) ∧ ∀ i m σ H, W i m σ H →
      (J.stop i H ∧ D.nx σ H) ∨ (J.go i H ∧ ∃ N : L2.St → Hp → Prop, (∀ σ' H', N σ' H' → ∃ m', m' < m ∧ W (i + 1) m' σ' H') ∧ ∀ v H', J.yld i H v H' → g v σ H' fun σ2 H2 => tb { D with nx := N, ct := N, bk := D.nx } σ2 H2) := by
  refine ⟨fun i m σ H => m = n - i ∧ i ≤ n ∧ Pv i σ H, ⟨n, by simp, Nat.zero_le _, h0⟩, ?_⟩
  rintro i m σ H ⟨rfl, hi, p⟩
  by_cases hlt : i < n
  · exact .inr ⟨hgo i σ H hlt p, Pv (i + 1), fun σ' H' p' => ⟨n - (i + 1), by omega, rfl, hlt, p'⟩, fun x H' y => hs i σ H x H' hlt p y⟩
  · have e : i = n := by omega
    subst e
    exact .inl ⟨hst σ H p, hd σ H p⟩
theorem rd_gTup2 {i j : Nat} {QS : L2.St → Hp → Prop} {x y : V} (h : SqT K H a [x, y]) (q : QS ((σ.set i (some x)).set j (some y)) H) : gTup K 2 (gCons (gName i) (gCons (gName j) gNil)) (.ref a) σ H QS :=
  ⟨a, [x, y], rfl, h, rfl, x, [y], rfl, y, [], rfl, rfl, q⟩
theorem rd_gTup3 {i j k : Nat} {QS : L2.St → Hp → Prop} {x y z : V} (h : SqT K H a [x, y, z]) (q : QS (((σ.set i (some x)).set j (some y)).set k (some z)) H) : gTup K 3 (gCons (gName i) (gCons (gName j) (gCons (gName k) gNil))) (.ref a) σ H QS :=
  ⟨a, [x, y, z], rfl, h, rfl, x, [y, z], rfl, y, [z], rfl, z, [], rfl, rfl, q⟩
theorem rd_par {i j : Nat} (h : t σ H fun vs H1 => ∃ v w, vs = [v, w] ∧ D.nx ((σ.set i (some v)).set j (some w)) H1) : tPar i j t D σ H := h
theorem rd_two {P : V → V → Prop} {v w : V} (h : P v w) : ∃ v' w', [v, w] = [v', w'] ∧ P v' w' := ⟨v, w, rfl, h⟩
theorem rd_rg1 {P : Int → Prop} {m : Int} (c : -(2 ^ 62) ≤ m ∧ m < 2 ^ 62) (h : P m) : ∃ j : Int, [V.int m] = [.int j] ∧ -(2 ^ 62) ≤ j ∧ j < 2 ^ 62 ∧ P j := ⟨m, rfl, c.1, c.2, h⟩
theorem rd_rg2 {P : Int → Int → Prop} {m n : Int} (c : -(2 ^ 62) ≤ m ∧ m < 2 ^ 62 ∧ -(2 ^ 62) ≤ n ∧ n < 2 ^ 62) (h : P m n) : ∃ i j : Int, [V.int m, V.int n] = [.int i, .int j] ∧ (-(2 ^ 62) ≤ i ∧ i < 2 ^ 62 ∧ -(2 ^ 62) ≤ j ∧ j < 2 ^ 62) ∧ P i j := ⟨m, n, rfl, c, h⟩
theorem rd_en {P : Addr → Prop} (h : SqL K H a xs) (q : P a) : ∃ a' xs, [V.ref a] = [.ref a'] ∧ SqL K H a' xs ∧ P a' := ⟨a, xs, rfl, h, q⟩
end
/-! ### heaps -/
/-- all but b stays -/
def But (b : Addr) (H H' : Hp) : Prop := ∀ c o, c ≠ b → H c = some o → H' c = some o
theorem But.refl (b : Addr) (H : Hp) : But b H H := fun _ _ _ h => h
theorem But.trans {b : Addr} {H H1 H2 : Hp} (x : But b H H1) (y : But b H1 H2) : But b H H2 := fun c o n h => y c o n (x c o n h)
theorem But.of {b : Addr} {H H1 : Hp} (x : Same H H1) : But b H H1 := fun c o _ h => x c o h
theorem But.upd {b : Addr} {H : Hp} {o : HO} : But b H (upd H b o) := fun c u n h => by rw [upd_ne n]; exact h
theorem But.up {b : Addr} {H H1 : Hp} {o : HO} (x : But b H H1) : But b H (L2.upd H1 b o) := x.trans But.upd
theorem same_new {H : Hp} {p : Addr} (h : H p = none) (o : HO) : Same H (upd H p o) := fun b u q => by rw [upd_ne (ne_of_none q h)]; exact q
theorem ne_new {H : Hp} {a b : Addr} {o : HO} (h' : H b = none) (h : H a = some o) : a ≠ b := ne_of_none h h'
theorem but_sq {K : PySem.W.Frag} {H H' : Hp} {a b : Addr} {xs : List V} (e : But b H H') (n : a ≠ b) (h : SqL K H a xs) : SqL K H' a xs := by
  rcases h with (h | ⟨o, h⟩) | h
  · exact .inl (.inl (e _ _ n h))
  · exact .inl (.inr ⟨o, e _ _ n h⟩)
  · exact .inr h
theorem but_st {K : PySem.W.Frag} {H H' : Hp} {a b : Addr} {xs : List V} (e : But b H H') (n : a ≠ b) (h : SqT K H a xs) : SqT K H' a xs := by
  rcases h with (h | ⟨o, h⟩) | h
  · exact .inl (.inl (e _ _ n h))
  · exact .inl (.inr ⟨o, e _ _ n h⟩)
  · exact .inr h
theorem same_at {H H' : Hp} {a : Addr} {o : HO} (e : Same H H') (h : H a = some o) : H' a = some o := e a o h
theorem but_at {H H' : Hp} {a b : Addr} {o : HO} (e : But b H H') (n : a ≠ b) (h : H a = some o) : H' a = some o := e a o n h
theorem same_sqt {K : PySem.W.Frag} {H H' : Hp} {a : Addr} {xs : List V} (e : Same H H') (h : SqT K H a xs) : SqT K H' a xs := by
  rcases h with (h | ⟨o, h⟩) | h
  · exact .inl (.inl (e _ _ h))
  · exact .inl (.inr ⟨o, e _ _ h⟩)
  · exact .inr h
theorem up_new {H : Hp} {a p : Addr} {o u : HO} (h1 : H p = none) (h2 : H a = some o) : upd H p u a = some o := (upd_ne (ne_of_none h2 h1)).trans h2
theorem up_ne {H : Hp} {a p : Addr} {o u : HO} (n : a ≠ p) (h : H a = some o) : upd H p u a = some o := (upd_ne n).trans h
theorem sq_new {K : PySem.W.Frag} {H : Hp} {a p : Addr} {u : HO} {xs : List V} (h1 : H p = none) (h2 : SqL K H a xs) : SqL K (upd H p u) a xs := (same_new h1 u).seq h2
theorem st_new {K : PySem.W.Frag} {H : Hp} {a p : Addr} {u : HO} {xs : List V} (h1 : H p = none) (h2 : SqT K H a xs) : SqT K (upd H p u) a xs := same_sqt (same_new h1 u) h2
theorem same_up {H H1 : Hp} {p : Addr} {u : HO} (h1 : H1 p = none) (h2 : Same H H1) : Same H (upd H1 p u) := h2.trans (same_new h1 u)
theorem same_mut {H H' : Hp} {p : Addr} {o : HO} (e : Same H H') (h : H p = none) : Same H (upd H' p o) := fun a u ha => by
  rw [upd_ne (ne_of_none ha h)]
  exact e a u ha
theorem rd_yes {σ : L2.St} {H : Hp} {QB : Bool → Hp → Prop} (h : QB true H) : tYes σ H QB := h
theorem same_ty {K : PySem.W.Frag} {H H' : Hp} {x : V} {t : Value} (e : Same H H') (h : TyX K H x t) : TyX K H' x t := by
  cases h with
  | base h =>
    cases h with
    | non => exact .base .non
    | bl b => exact .base (.bl b)
    | int i => exact .base (.int i)
    | str z => exact .base (.str z)
    | flt z => exact .base (.flt z)
    | lst h => exact .base (.lst (e _ _ h))
    | frz h => exact .base (.frz (e _ _ h))
    | tup h => exact .base (.tup (e _ _ h))
    | dK h => exact .base (.dK (e _ _ h))
    | dT h => exact .base (.dT (e _ _ h))
    | ins h cl ha hn htk hm => exact .base (.ins (e _ _ h) cl ha hn htk hm)
  | byt b => exact .byt b
  | set h => exact .set (e _ _ h)
  | kList h c => exact .kList h c
  | kTuple h c => exact .kTuple h c
  | kDict h c => exact .kDict h c
  | fTuple h => exact .fTuple (e _ _ h)
  | fDict h => exact .fDict (e _ _ h)
theorem same_is {K : PySem.W.Frag} {H H' : Hp} {x : V} {k : Kd} (e : Same H H') (h : Is K H x k) : Is K H' x k := same_ty e h
mutual
theorem dp_same {K : PySem.W.Frag} {H H' : Hp} (e : Same H H') : ∀ (d : PyData) (v : V), Dp K H v d → Dp K H' v d
  | .none, _, h => by cases h; exact .non
  | .bool b, _, h => by cases h; exact .bl b
  | .int i, _, h => by cases h; exact .int i
  | .str z, _, h => by cases h; exact .str z
  | .list ds, _, h => by cases h with | lst hs ha => exact .lst (e.seq hs) (dps_same e ds _ ha)
  | .tuple ds, _, h => by cases h with | tup hs ha => exact .tup (same_sqt e hs) (dps_same e ds _ ha)
  | .dict _, _, h => by cases h
theorem dps_same {K : PySem.W.Frag} {H H' : Hp} (e : Same H H') : ∀ (ds : List PyData) (vs : List V), DpAll K H vs ds → DpAll K H' vs ds
  | [], _, h => by cases h; exact .nil
  | d :: ds, _, h => by cases h with | cons h1 h2 => exact .cons (dp_same e d _ h1) (dps_same e ds _ h2)
end
theorem rd_new {n : Nat} {A : Prop} (e : Nat.ble n 1000 = true) (h : A) : n ≤ sizeLine ∧ A := ⟨Nat.le_trans (Nat.le_of_ble_eq_true e) (by decide), h⟩
end Kt
namespace Ow
open PySem PySem.Spec PyProof.Rows L2 Kt
/-! ### what Python calls by itself: the methods of an own class -/
structure Mth (P : Program) (w : World) (K : PySem.W.Frag) (mg : Str → Option Value) (base : Heap) (CX : CXT) (k : Nat) (C : Addr) (m q : Str) (st : Stmt) (ps : List Str) (sp : Sp) : Prop where
  ex : ∃ (f : Addr) (fd : FuncData), Meth K C m f ∧ Binds K fd ps [] ∧ FnOk P w K mg base CX k f fd ps sp ∧ Fun K m q st f fd
/-- the address of a class of the module -/
def clsAt (mg : Str → Option Value) (x : Str) : Addr := match mg x with | some (.ref a) => a | _ => 0
/-- what the top has left of a class: at: the attributes of its instances -/
structure ClsD (K : PySem.W.Frag) (mg : Str → Option Value) (x : Str) (at_ : List Str) : Prop where
  mgC : mg x = some (.ref (clsAt mg x))
  cl : Cls K (clsAt mg x)
  na : ∀ f ∈ at_, NoAttr K (clsAt mg x) f
  mkd : PySem.W.makesIn K (clsAt mg x) = true
  kp : PySem.W.keepIn K (.ref (clsAt mg x)) = true
  ca : PySem.W.findIn K (.ref (clsAt mg x)) "__class__" = some (some (.builtin "object.__class__"))
  cn : PySem.W.specialIn K (.builtin "object.__class__") "__get__" = some (some (.builtin "getset_descriptor.__get__"))
  ct : PySem.W.takesIn K (.builtin "object.__class__") = some true
  cm : PySem.W.mroIn K (clsAt mg x) (.type "object") = some true
  ne : PySem.W.findIn K (.ref (clsAt mg x)) "__ne__" = some (some (.builtin "object.__ne__"))
  ns : PySem.W.noSeq K (clsAt mg x) = true
  sf : PySem.W.selfFirst K (clsAt mg x) = true
  kl : PySem.W.kitOne K (.type "list") (.ref (clsAt mg x)) = some false
/-- .. of a method | of a property -/
structure MthD (K : PySem.W.Frag) (mg : Str → Option Value) (x m q : Str) (st : Stmt) : Prop where
  ex : ∃ (f : Addr) (fd : FuncData), Meth K (clsAt mg x) m f ∧ Fun K m q st f fd
structure PrpD (K : PySem.W.Frag) (mg : Str → Option Value) (x m q : Str) (st : Stmt) : Prop where
  ex : ∃ (p f : Addr) (fd : FuncData), PropOf K (clsAt mg x) m p f ∧ Fun K m q st f fd
structure Prp (P : Program) (w : World) (K : PySem.W.Frag) (mg : Str → Option Value) (base : Heap) (CX : CXT) (k : Nat) (C : Addr) (m : Str) (sp : Sp) : Prop where
  ex : ∃ (p f : Addr) (fd : FuncData), PropOf K C m p f ∧ Binds K fd ["self"] [] ∧ FnOk P w K mg base CX k f fd ["self"] sp
section
variable {P : Program} {w : World} {K : PySem.W.Frag} {mg : Str → Option Value} {base : Heap} {x m q : Str} {st : Stmt} {N ps : List Str} {k : Nat} {sp : Sp}
/-- a method that lets nothing out -/
theorem mth_of (D : MthD K mg x m q st) (S : FnScope N ps (defScope st))
    (hb : ∀ (kV doc pm : Value) (an : Option Addr) (cdv ct : Value) (us : List Value), us.length = ps.length → bindArgs (PySem.W.fnOf m q (defArgs st) (defBody st) (defScope st) .none kV doc pm an cdv ct) ⟨us, []⟩ = pure (ps.zip us))
    (len : ∀ vs H Q E, sp vs H Q E → vs.length = ps.length)
    (hbody : ∀ (f : Addr) (cdv : Value) (A : Around) (outer : List Env) (s : Shared) (H : Hp) (vs : List V) (Q : VK) (E : XK), Room k (A.deeper (envOfC q (defScope st) s.heap.objs.size f cdv)) → sp vs H Q E →
      ∃ t, PSs (cxOf CX0 P w K mg base N q (defScope st) f cdv A outer s H E).nox (defBody st) t ∧ t { nx := fun _ H' => Q .non H', rt := Q } (start N vs) H) : Mth P w K mg base CX0 (k + 1) (clsAt mg x) m q st ps sp := by
  obtain ⟨f, fd, h1, h2⟩ := D.ex
  exact ⟨f, fd, h1, h2.binds hb, h2.ok S len (hbody f), h2⟩
theorem prp_of (D : PrpD K mg x m q st) (S : FnScope N ["self"] (defScope st))
    (hb : ∀ (kV doc pm : Value) (an : Option Addr) (cdv ct : Value) (us : List Value), us.length = ["self"].length → bindArgs (PySem.W.fnOf m q (defArgs st) (defBody st) (defScope st) .none kV doc pm an cdv ct) ⟨us, []⟩ = pure ((["self"] : List Str).zip us))
    (len : ∀ vs H Q E, sp vs H Q E → vs.length = 1)
    (hbody : ∀ (f : Addr) (cdv : Value) (A : Around) (outer : List Env) (s : Shared) (H : Hp) (vs : List V) (Q : VK) (E : XK), Room k (A.deeper (envOfC q (defScope st) s.heap.objs.size f cdv)) → sp vs H Q E →
      ∃ t, PSs (cxOf CX0 P w K mg base N q (defScope st) f cdv A outer s H E).nox (defBody st) t ∧ t { nx := fun _ H' => Q .non H', rt := Q } (start N vs) H) : Prp P w K mg base CX0 (k + 1) (clsAt mg x) m sp := by
  obtain ⟨p, f, fd, h1, h2⟩ := D.ex
  exact ⟨p, f, fd, h1, h2.binds hb, h2.ok S len (hbody f)⟩
end
theorem Mth.mono {P : Program} {w : World} {K : PySem.W.Frag} {mg : Str → Option Value} {base : Heap} {CX : CXT} {j k : Nat} {C : Addr} {m q : Str} {st : Stmt} {ps : List Str} {sp : Sp} (M : Mth P w K mg base CX j C m q st ps sp) (h : j ≤ k) : Mth P w K mg base CX k C m q st ps sp := by
  obtain ⟨f, fd, h1, h2, h3, z⟩ := M
  exact ⟨f, fd, h1, h2, h3.mono h, z⟩
section
variable {X : Cx} {CX : CXT} {pins : List (Addr × Obj)} {σ : L2.St} {H : Hp} {s : Shared} {a C dx f : Addr} {fs : List (Str × V)} {fd : FuncData} {ps : List Str} {sp : Sp} {k : Nat} {E : XK} {m : Str}
/-- a def run below the running body -/
theorem own_call {A : Around} {Q : VK} {us : List Value} {vs : List V} (hr : Room k A) (e0 : Env0 X.prog X.w X.K X.mg X.base A X.stack s H) (F : FnOk X.prog X.w X.K X.mg X.base CX k f fd ps sp) (hb : Binds X.K fd ps []) (hx : Passes CX X E)
    (I : Inv X pins σ H s) (r : Vals vs us) (h : sp vs H Q E) : wpAny (model X.prog X.w) A (call (.ref f) us) (EP X pins σ Q) X.xe s := by
  have hl : (us ++ []).length = ps.length := by rw [List.append_nil, ← r.length]; exact F.len _ _ _ _ h
  have hb2 := hb s us I.kIn hl
  rw [List.append_nil] at hb2
  refine wpAny_call (codeAny_mono (F.run A X.stack s H ⟨us, []⟩ us vs Q E hr e0 hb2 r h) fun r s' hq => ?_)
  cases r with
  | error e => exact hx pins σ H s e s' I hq
  | ok fl =>
    cases fl with
    | ret u => exact I.after hq
    | next => exact False.elim hq
    | brk => exact False.elim hq
    | cont => exact False.elim hq
theorem inst_of (I : Inv X pins σ H s) (ea : H a = some (.ins C dx fs)) : ∃ ox od, PySem.W.InstAt s.heap a ox C od := by
  obtain ⟨mA, O, _⟩ := ins_get I.hok ea
  obtain ⟨od, J, _⟩ := O.look
  exact ⟨_, _, J⟩
end
def InsAt (H : Hp) (a C : Addr) : Prop := ∃ dx fs, H a = some (.ins C dx fs)
/-- len(x) -/
def rLenOwn (C : Addr) (sp : Sp) (E : XK) : List V → Hp → VK → Prop := fun xs H Q => ∃ a, xs = [.ref a] ∧ InsAt H a C ∧ sp [.ref a] H (fun v H' => ∃ n : Int, v = .int n ∧ 0 ≤ n ∧ n < 2 ^ 63 ∧ Q (.int n) H') E
/-- repr(x) -/
def rReprOwn (C : Addr) (sp : Sp) (E : XK) : List V → Hp → VK → Prop := fun xs H Q => ∃ a, xs = [.ref a] ∧ InsAt H a C ∧ sp [.ref a] H (fun v H' => ∃ z : Str, v = .str z ∧ Q (.str z) H') E
/-- bool(x), if x -/
def rTruOwn (C : Addr) (sp : Sp) (E : XK) : V → Hp → (Bool → Hp → Prop) → Prop := fun x H Q => ∃ a, x = .ref a ∧ InsAt H a C ∧ sp [.ref a] H (fun v H' => ∃ b : Bool, v = .bl b ∧ Q b H') E
/-- v in x -/
def rInOwn (C : Addr) (sp : Sp) (E : XK) (neg : Bool) : R2 := fun x y H Q => ∃ a, y = .ref a ∧ InsAt H a C ∧ sp [.ref a, x] H (fun v H' => ∃ b : Bool, v = .bl b ∧ Q (.bl (if neg then !b else b)) H') E
/-- x[i] -/
def rGetOwn (C : Addr) (sp : Sp) (E : XK) : R2 := fun x y H Q => ∃ a, x = .ref a ∧ InsAt H a C ∧ sp [.ref a, y] H Q E
/-- x[i] = v -/
def rSetOwn (C : Addr) (sp : Sp) (E : XK) : TSet := fun o i v H Q => ∃ a, o = .ref a ∧ InsAt H a C ∧ sp [.ref a, i, v] H (fun _ H' => Q H') E
/-- x op y, both of the class -/
def rBinOwn (C : Addr) (sp : Sp) (E : XK) : R2 := fun x y H Q => ∃ a b, x = .ref a ∧ y = .ref b ∧ InsAt H a C ∧ InsAt H b C ∧ sp [.ref a, .ref b] H (fun v H' => ∃ c, v = .ref c ∧ Q (.ref c) H') E
/-- -x, ~x -/
def rUnOwn (C : Addr) (sp : Sp) (E : XK) : V → Hp → VK → Prop := fun x H Q => ∃ a, x = .ref a ∧ InsAt H a C ∧ sp [.ref a] H Q E
/-- what stands on the other side of ==: no instance of a class below C -/
def Other (K : PySem.W.Frag) (C : Addr) (H : Hp) (y : V) : Prop := ∃ t, TyX K H y t ∧ PySem.W.notFirst K C t = true
def rEqOwn (K : PySem.W.Frag) (C : Addr) (sp : Sp) (E : XK) (neg : Bool) : R2 := fun x y H Q => ∃ a, x = .ref a ∧ InsAt H a C ∧ Other K C H y ∧ sp [.ref a, y] H (fun v H' => ∃ b : Bool, v = .bl b ∧ Q (.bl (if neg then !b else b)) H') E
section
variable {X : Cx} {CX : CXT} {C : Addr} {ps : List Str} {sp : Sp} {k : Nat} {E : XK} {q : Str} {st : Stmt}
theorem k_lenOwn (M : Mth X.prog X.w X.K X.mg X.base CX k C "__len__" q st ps sp) (hr : Room (k + 1) X.A) (hx : Passes CX X E) : CallR X (.builtin "len") (rLenOwn C sp E) := by
  intro pins s σ H xs us Q I r h
  obtain ⟨a, rfl, ⟨dx, fs, ea⟩, q⟩ := h
  obtain ⟨u, rfl, ru⟩ := r.one
  cases (show u = Value.ref a from ru)
  obtain ⟨f, fd, hm, hb, F, FF⟩ := M.ex
  obtain ⟨ox, od, J⟩ := inst_of I ea
  obtain ⟨m, hF⟩ := I.fr
  refine PySem.W.len_K hF I.ok.mod.kin J hm.at_ hm.fn (wpAny_mono (own_call (us := [.ref a]) (vs := [.ref a]) hr.in1 I.env0.in1 F hb hx I (.cons rfl .nil) q) (fun v s' z => ?_) fun _ _ y => y)
  obtain ⟨v', H', I', rv, n, rfl, h0, h1, qz⟩ := z
  obtain ⟨t, rfl⟩ := rv
  exact ⟨⟨h0, h1⟩, .int n, H', I'.tok _, ⟨_, rfl⟩, qz⟩
theorem k_reprOwn (M : Mth X.prog X.w X.K X.mg X.base CX k C "__repr__" q st ps sp) (hr : Room (k + 1) X.A) (hx : Passes CX X E) : CallR X (.builtin "repr") (rReprOwn C sp E) := by
  intro pins s σ H xs us Q I r h
  obtain ⟨a, rfl, ⟨dx, fs, ea⟩, q⟩ := h
  obtain ⟨u, rfl, ru⟩ := r.one
  cases (show u = Value.ref a from ru)
  obtain ⟨f, fd, hm, hb, F, FF⟩ := M.ex
  obtain ⟨ox, od, J⟩ := inst_of I ea
  obtain ⟨m, hF⟩ := I.fr
  refine PySem.W.repr_K hr.in1.units0 hF I.ok.mod.kin J hm.at_ hm.fn (wpAny_mono (own_call (us := [.ref a]) (vs := [.ref a]) hr.in1 I.env0.in1 F hb hx I (.cons rfl .nil) q) (fun v s' z => ?_) fun _ _ y => y)
  obtain ⟨v', H', I', rv, n, rfl, qz⟩ := z
  obtain ⟨t, rfl⟩ := rv
  exact ⟨.str n, H', I', ⟨_, rfl⟩, qz⟩
theorem k_truOwn (M : Mth X.prog X.w X.K X.mg X.base CX k C "__bool__" q st ps sp) (hr : Room k X.A) (hx : Passes CX X E) : TruR X (rTruOwn C sp E) := by
  intro pins s σ H x v Q I rx h
  obtain ⟨a, rfl, ⟨dx, fs, ea⟩, q⟩ := h
  cases (show v = Value.ref a from rx)
  obtain ⟨f, fd, hm, hb, F, FF⟩ := M.ex
  obtain ⟨ox, od, J⟩ := inst_of I ea
  obtain ⟨m, hF⟩ := I.fr
  refine PySem.W.truthy_K hF I.ok.mod.kin J hm.at_ hm.fn (wpAny_mono (own_call (us := [.ref a]) (vs := [.ref a]) hr I.env0 F hb hx I (.cons rfl .nil) q) (fun v s' z => ?_) fun _ _ y => y)
  obtain ⟨v', H', I', rv, n, rfl, qz⟩ := z
  cases (show v = Value.bool n from rv)
  exact ⟨H', I', qz⟩
theorem k_inOwn (M : Mth X.prog X.w X.K X.mg X.base CX k C "__contains__" q st ps sp) (hr : Room k X.A) (hx : Passes CX X E) : OpR X (compareOp .In) (rInOwn C sp E false) := by
  intro pins s σ H x y v u Q I rx ry h
  obtain ⟨a, rfl, ⟨dx, fs, ea⟩, q⟩ := h
  cases (show u = Value.ref a from ry)
  obtain ⟨f, fd, hm, hb, F, FF⟩ := M.ex
  obtain ⟨ox, od, J⟩ := inst_of I ea
  obtain ⟨m, hF⟩ := I.fr
  refine PySem.W.in_K hF I.ok.mod.kin J hm.at_ hm.fn (wpAny_mono (own_call (us := [.ref a, v]) (vs := [.ref a, x]) hr I.env0 F hb hx I (.cons rfl (.cons rx .nil)) q) (fun v s' z => ?_) fun _ _ y => y)
  obtain ⟨v', H', I', rv, n, rfl, qz⟩ := z
  cases (show v = Value.bool n from rv)
  exact wpAny_truthy_bool ⟨.bl n, H', I', rfl, qz⟩
theorem k_notInOwn (M : Mth X.prog X.w X.K X.mg X.base CX k C "__contains__" q st ps sp) (hr : Room k X.A) (hx : Passes CX X E) : OpR X (compareOp .NotIn) (rInOwn C sp E true) := by
  intro pins s σ H x y v u Q I rx ry h
  obtain ⟨a, rfl, ⟨dx, fs, ea⟩, q⟩ := h
  cases (show u = Value.ref a from ry)
  obtain ⟨f, fd, hm, hb, F, FF⟩ := M.ex
  obtain ⟨ox, od, J⟩ := inst_of I ea
  obtain ⟨m, hF⟩ := I.fr
  refine PySem.W.notIn_K hF I.ok.mod.kin J hm.at_ hm.fn (wpAny_mono (own_call (us := [.ref a, v]) (vs := [.ref a, x]) hr I.env0 F hb hx I (.cons rfl (.cons rx .nil)) q) (fun v s' z => ?_) fun _ _ y => y)
  obtain ⟨v', H', I', rv, n, rfl, qz⟩ := z
  cases (show v = Value.bool n from rv)
  exact wpAny_truthy_bool ⟨.bl (!n), H', I', rfl, qz⟩
theorem k_getOwn (M : Mth X.prog X.w X.K X.mg X.base CX k C "__getitem__" q st ps sp) (hq : PySem.W.noSeq X.K C = true) (hr : Room k X.A) (hx : Passes CX X E) : OpR X getItem (rGetOwn C sp E) := by
  intro pins s σ H x y v u Q I rx ry h
  obtain ⟨a, rfl, ⟨dx, fs, ea⟩, q⟩ := h
  cases (show v = Value.ref a from rx)
  obtain ⟨f, fd, hm, hb, F, FF⟩ := M.ex
  obtain ⟨ox, od, J⟩ := inst_of I ea
  obtain ⟨m, hF⟩ := I.fr
  exact PySem.W.getItem_K hF I.ok.mod.kin J hq hm.at_ hm.fn (own_call (us := [.ref a, u]) (vs := [.ref a, y]) hr I.env0 F hb hx I (.cons rfl (.cons ry .nil)) q)
theorem k_unOwn (M : Mth X.prog X.w X.K X.mg X.base CX k C "__invert__" q st ps sp) (hr : Room k X.A) (hx : Passes CX X E) : UnR X (unaryOp .Invert) (rUnOwn C sp E) := by
  intro pins s σ H x v Q I rx h
  obtain ⟨a, rfl, ⟨dx, fs, ea⟩, q⟩ := h
  cases (show v = Value.ref a from rx)
  obtain ⟨f, fd, hm, hb, F, FF⟩ := M.ex
  obtain ⟨ox, od, J⟩ := inst_of I ea
  obtain ⟨m, hF⟩ := I.fr
  exact PySem.W.ksp_inv hF I.ok.mod.kin J hm.at_ hm.fn (own_call (us := [.ref a]) (vs := [.ref a]) hr I.env0 F hb hx I (.cons rfl .nil) q)
theorem k_binOwn {op : Operator} (M : Mth X.prog X.w X.K X.mg X.base CX k C (PySem.dunder op.info.2) q st ps sp) (hq : PySem.W.selfFirst X.K C = true) (hr : Room k X.A) (hx : Passes CX X E) : OpR X (binaryOp op) (rBinOwn C sp E) := by
  intro pins s σ H x y v u Q I rx ry h
  obtain ⟨a, b, rfl, rfl, ⟨dx, fs, ea⟩, ⟨dy, gs, eb⟩, q⟩ := h
  cases (show v = Value.ref a from rx)
  cases (show u = Value.ref b from ry)
  obtain ⟨f, fd, hm, hb, F, FF⟩ := M.ex
  obtain ⟨ox, od, J⟩ := inst_of I ea
  obtain ⟨oy, oe, J2⟩ := inst_of I eb
  obtain ⟨m, hF⟩ := I.fr
  refine PySem.W.binop_K hF I.ok.mod.kin J J2.type hq hm.at_ hm.fn (wpAny_mono (own_call (us := [.ref a, .ref b]) (vs := [.ref a, .ref b]) hr I.env0 F hb hx I (.cons rfl (.cons rfl .nil)) q) (fun v s' z => ?_) fun _ _ y => y)
  obtain ⟨v', H', I', rv, c, rfl, qz⟩ := z
  cases (show v = Value.ref c from rv)
  exact ⟨.ref c, H', I', rfl, qz⟩
end
/-! != by an own == -/
section
variable {M : Model} {prog : Program} {w : World} {A : Around} {E : Value → Shared → Prop} {s : Shared} {K : PySem.W.Frag} {x C f L : Addr} {h₀ : Heap} {m : Str → Option Value} {ox : Obj} {od : Option Obj} {b tb : Value}
theorem ifBound_objNe {args : List Value} {Q : Option Value → Shared → Prop} (X : K.In s.heap) (I : PySem.W.InstAt s.heap x ox C od) (hs : PySem.W.findIn K (.ref C) "__ne__" = some (some (.builtin "object.__ne__")))
    (h : wpAny M A (call (.builtin "object.__ne__") (.ref x :: args)) (fun v => Q (some v)) E s) : wpAny M A (callSpecialIfBound? (.ref x) "__ne__" args) Q E s := by
  simp only [callSpecialIfBound?, bindSpecialIfBound?]
  refine wpAny_holding (wpAny_bind (wpAny_bind (wpAny_bind (I.type.here ((PySem.W.looks_findIn X hs).here ?_)))))
  refine wpAny_bind (wpAny_askSetting (wpAny_ite ?_))
  have fin : wpAny M A (call (.builtin "object.__ne__") ([.ref x] ++ args) >>= fun v => pure (some v)) Q E s := wpAny_bind (wpAny_mono h (fun v s' h' => wpAny_pure h') fun _ _ h' => h')
  split
  · exact wpAny_bind (wpAny_of_eq (F.cmp_object.ne.bind _) (wpAny_pure (by exact fin)))
  · exact wpAny_tryCatch (wpAny_bind (wpAny_of_eq (F.cmp_object.ne.bind _) (wpAny_pure (by exact fin))))
theorem entry_ne (hu : A.units < cLine) {Q : Fin → Shared → Prop} (X : K.In s.heap) (I : PySem.W.InstAt s.heap x ox C od) (hs : PySem.W.findIn K (.ref C) "__eq__" = some (some (.ref f))) (hf : PySem.W.isFn K (.ref f) = true)
    (hcall : wpAny (model prog w) A (call (.ref f) [.ref x, b]) (fun v s' => ∃ c, v = .bool c ∧ Q (.done (.ret (.bool (!c)))) s') E s) :
    wpAny (model prog w) A (Builtin.«object.__ne__» ⟨[.ref x, b], []⟩) Q E s := by
  obtain ⟨h, g, d, t, os⟩ := s
  unfold Builtin.«object.__ne__»
  repeat (first
    | with_reducible refine wpAny_cRoomFor hu ?_
    | (refine wpAny_bind (m := callSpecialIfBound? (.ref x) (Str.ofString "__eq__") [b])
        (PySem.W.ifBound_K X I hs hf (wpAny_mono hcall (fun r s' hr => by
          obtain ⟨c, rfl, hq⟩ := hr
          repeat (first | exact hq | exact wpAny_pure hq | exact wpAny_truthy_bool hq | (refine wpAny_bind (m := truthy (.bool _)) (wpAny_truthy_bool ?_)) | wp_step)) fun _ _ e => e)))
    | wp_step)
theorem ne_own {Q : Value → Shared → Prop} (hu : A.units + 1 < cLine) (F₀ : Fr h₀ L s.heap m) (X₀ : K.In h₀) (I : PySem.W.InstAt s.heap x ox C od) (hb : PySem.W.Looks (model prog w) s.heap (typeOf b) tb) (hn : PySem.W.notFirst K C tb = true)
    (hne : PySem.W.findIn K (.ref C) "__ne__" = some (some (.builtin "object.__ne__"))) (hm : PySem.W.mroIn K C (.type "object") = some true) (hs : PySem.W.findIn K (.ref C) "__eq__" = some (some (.ref f))) (hf : PySem.W.isFn K (.ref f) = true)
    (h : wpAny (model prog w) A.in1 (call (.ref f) [.ref x, b]) (fun v s' => ∃ c, v = .bool c ∧ Q (.bool (!c)) s') E s) : wpAny (model prog w) A (richCompare .NotEq (.ref x) b) Q E s := by
  have X := X₀.keeps F₀.keep
  have one : wpAny (model prog w) A (tryCompare (.ref x) "__ne__" b) (fun r s' => ∃ v, r = some v ∧ Q v s') E s := by
    unfold tryCompare
    refine wpAny_bind (ifBound_objNe X I hne (wpAny_call (codeAny_call_builtin F.cmp_object.ne.plain F.cmpEntry_ne (PySem.W.check_slot F.cmpKind_ne F.cmpSplit_ne (I.type.andThen (PySem.W.looks_mroIn X hm)) (F.cmpArgs_ne _ _)
      (entry_ne (A := A.in1) hu X I hs hf (wpAny_mono h (fun v s' hv => ?_) fun _ _ e => e))))))
    obtain ⟨c, rfl, hq⟩ := hv
    refine ⟨c, rfl, ?_⟩
    first | exact wpAny_pure ⟨_, rfl, hq⟩ | exact wpAny_pure (wpAny_pure ⟨_, rfl, hq⟩)
  unfold richCompare
  simp only [oneThing_ref, cmpInfo_NotEq]
  refine wpAny_holding (wpAny_bind (wpAny_cRoomFor (Nat.lt_of_succ_lt hu) ?_))
  refine wpAny_bind (I.type.here (wpAny_bind (hb.here ?_)))
  split
  · rename_i q
    have e : PySem.W.subIn K tb (.ref C) = some false := by
      rcases Bool.or_eq_true_iff.mp hn with e | e
      · rw [beq_iff_eq.mp e] at q; simp at q
      · exact beq_iff_eq.mp e
    refine wpAny_bind ((PySem.W.looks_subIn X e).here ?_)
    simp only [Bool.false_eq_true, if_false]
    refine wpAny_bind (wpAny_mono one (fun r s' z => ?_) fun _ _ e => e)
    obtain ⟨v, rfl, hq⟩ := z
    exact wpAny_pure hq
  · refine wpAny_bind (wpAny_pure ?_)
    simp only [Bool.false_eq_true, if_false]
    refine wpAny_bind (wpAny_mono one (fun r s' z => ?_) fun _ _ e => e)
    obtain ⟨v, rfl, hq⟩ := z
    exact wpAny_pure hq
end
section
variable {X : Cx} {CX : CXT} {C : Addr} {ps : List Str} {sp : Sp} {k : Nat} {E : XK} {q : Str} {st : Stmt}
theorem looks_ty {pins : List (Addr × Obj)} {σ : L2.St} {H : Hp} {s : Shared} {y : V} {u t : Value} (I : Inv X pins σ H s) (r : RelV y u) (h : TyX X.K H y t) : PySem.W.Looks (model X.prog X.w) s.heap (typeOf u) t := by
  obtain ⟨P, Z, p, _⟩ := kit_of I r h
  exact Z.ty _ _ I.kIn p
theorem k_eqOwn (K : PySem.W.Frag) (M : Mth X.prog X.w X.K X.mg X.base CX k C "__eq__" q st ps sp) (hr : Room k X.A) (hx : Passes CX X E) (hK : X.K = K := by rfl) : OpR X (compareOp .Eq) (rEqOwn K C sp E false) := by
  subst hK
  intro pins s σ H x y v u Q I rx ry h
  obtain ⟨a, rfl, ⟨dx, fs, ea⟩, ⟨t, ty, hn⟩, q⟩ := h
  cases (show v = Value.ref a from rx)
  obtain ⟨f, fd, hm, hb, F, FF⟩ := M.ex
  obtain ⟨ox, od, J⟩ := inst_of I ea
  obtain ⟨m, hF⟩ := I.fr
  refine PySem.W.cmp_K (op := .Eq) hr.units0 hF I.ok.mod.kin J (looks_ty I ry ty) hn hm.at_ hm.fn (wpAny_mono (own_call (us := [.ref a, u]) (vs := [.ref a, y]) hr I.env0 F hb hx I (.cons rfl (.cons ry .nil)) q) (fun v s' z => ?_) fun _ _ y => y)
  obtain ⟨v', H', I', rv, n, rfl, qz⟩ := z
  cases (show v = Value.bool n from rv)
  exact ⟨.bl n, H', I', rfl, qz⟩
theorem k_neOwn (K : PySem.W.Frag) (M : Mth X.prog X.w X.K X.mg X.base CX k C "__eq__" q st ps sp) (hne : PySem.W.findIn X.K (.ref C) "__ne__" = some (some (.builtin "object.__ne__"))) (hm' : PySem.W.mroIn X.K C (.type "object") = some true)
    (hr : Room (k + 1) X.A) (hx : Passes CX X E) (hK : X.K = K := by rfl) : OpR X (compareOp .NotEq) (rEqOwn K C sp E true) := by
  subst hK
  intro pins s σ H x y v u Q I rx ry h
  obtain ⟨a, rfl, ⟨dx, fs, ea⟩, ⟨t, ty, hn⟩, q⟩ := h
  cases (show v = Value.ref a from rx)
  obtain ⟨f, fd, hm, hb, F, FF⟩ := M.ex
  obtain ⟨ox, od, J⟩ := inst_of I ea
  obtain ⟨m, hF⟩ := I.fr
  refine ne_own (hu_of hr) hF I.ok.mod.kin J (looks_ty I ry ty) hn hne hm' hm.at_ hm.fn (wpAny_mono (own_call (us := [.ref a, u]) (vs := [.ref a, y]) hr.in1 I.env0.in1 F hb hx I (.cons rfl (.cons ry .nil)) q) (fun v s' z => ?_) fun _ _ y => y)
  obtain ⟨v', H', I', rv, n, rfl, qz⟩ := z
  cases (show v = Value.bool n from rv)
  exact ⟨n, rfl, .bl (!n), H', I', rfl, qz⟩
end
/-! own subscripts, stores, calls, classes made -/
section
variable {X : Cx} {CX : CXT} {C : Addr} {ps : List Str} {sp : Sp} {k : Nat} {E : XK} {m x q : Str} {st : Stmt} {p pos apos : Pos} {a b o e : Expr} {es : List Expr} {kws : List Keyword} {ta tb : TE} {t tk : TA}
theorem pe_ixOwn (M : Mth X.prog X.w X.K X.mg X.base CX k C "__getitem__" q st ps sp) (hr : Room (k + 1) X.A) (hx : Passes CX X E) (ha : PE X a ta) (hb : PE X b tb)
    (hsl : ∀ (x : Addr) (i : Value), subscripted b true (.ref x) i = runValue (.builtin "lifetime.subscript" ⟨[.ref x, i], []⟩) := by intro _ _; with_unfolding_all rfl) : PE X (.Subscript a b pos) (tOp (rGetOwn C sp E) ta tb) := by
  refine ⟨fun pins s σ H Q I h => ?_⟩
  refine Subscript_ (binT ha hb I h fun v u s2 x y H2 I2 rx ry q => ?_)
  obtain ⟨a', rfl, ⟨dx, fs, ea⟩, q⟩ := q
  cases (show v = Value.ref a' from rx)
  obtain ⟨f, fd, hm, hb, F, FF⟩ := M.ex
  obtain ⟨_, _, _, _, _, _, _, _, _, _, lk, _⟩ := FF.ex
  have hfn : PySem.W.fnIn X.K f = true := by
    unfold PySem.W.fnIn
    rw [lk]
  obtain ⟨ox, od, J⟩ := inst_of I2 ea
  obtain ⟨m, hF⟩ := I2.fr
  exact PySem.W.sub_K hF I2.ok.mod.kin J hm.at_ hfn hm.fn (own_call (us := [.ref a', u]) (vs := [.ref a', y]) hr.in1 I2.env0.in1 F hb hx I2 (.cons rfl (.cons ry .nil)) q) (hsl _ _)
theorem k_setOwn (M : Mth X.prog X.w X.K X.mg X.base CX k C "__setitem__" q st ps sp) (hq : PySem.W.noSeq X.K C = true) (hr : Room k X.A) (hx : Passes CX X E) : PSet X (rSetOwn C sp E) := by
  intro pins s σ H o i v ov iv u Q I ro ri rv h
  obtain ⟨a', rfl, ⟨dx, fs, ea⟩, q⟩ := h
  cases (show ov = Value.ref a' from ro)
  obtain ⟨f, fd, hm, hb, F, FF⟩ := M.ex
  obtain ⟨ox, od, J⟩ := inst_of I ea
  obtain ⟨m, hF⟩ := I.fr
  refine PySem.W.ksp_setItem hF I.ok.mod.kin J hq hm.at_ hm.fn (wpAny_mono (own_call (us := [.ref a', iv, u]) (vs := [.ref a', i, v]) hr I.env0 F hb hx I (.cons rfl (.cons ri (.cons rv .nil))) q) (fun v s' z => ?_) fun _ _ y => y)
  obtain ⟨v', H', I', _, qz⟩ := z
  exact ⟨H', I', qz⟩
/-- o.m(e, ..) -/
theorem pe_mth {pl : Sem Bool} (he : PE X o ta) (c : Cls X.K C) (M : Mth X.prog X.w X.K X.mg X.base CX k C m q st ps sp) (hr : Room k X.A) (hx : Passes CX X E) (ha : PA X (e :: es) t)
    (hst : starEach (e :: es) X.env = (false, eval e X.env) :: starEach es X.env := by rfl) (hpl : (backTo pos (starEach es X.env)).any (·.1) = false := by rfl)
    (ht : eval (.Call (.Attribute o m apos) (e :: es) [] pos) X.env = (do
      let ov ← eval o X.env
      standAt apos.atName
      let (f, first) ← holding [ov] (getMethod ov m pl)
      callWith pos f first (backTo pos (starEach (e :: es) X.env)) (backToKw pos (keywordEach [] X.env))) := by rfl) :
    PE X (.Call (.Attribute o m apos) (e :: es) [] pos) (tMeth C m sp [] E ta t) := by
  obtain ⟨f, fd, hm, hb, F, FF⟩ := M.ex
  exact pe_meth he c hm F hr hb .nil hx ha hst hpl ht
theorem pe_mth0 {pl : Sem Bool} (he : PE X o ta) (c : Cls X.K C) (M : Mth X.prog X.w X.K X.mg X.base CX k C m q st ps sp) (hr : Room k X.A) (hx : Passes CX X E)
    (ht : eval (.Call (.Attribute o m apos) [] [] pos) X.env = (do
      let ov ← eval o X.env
      standAt apos.atName
      let (f, first) ← holding [ov] (getMethod ov m pl)
      callWith pos f first (backTo pos (starEach [] X.env)) (backToKw pos (keywordEach [] X.env))) := by rfl) :
    PE X (.Call (.Attribute o m apos) [] [] pos) (tMeth C m sp [] E ta tNil) := by
  obtain ⟨f, fd, hm, hb, F, FF⟩ := M.ex
  exact pe_meth0 he c hm F hr hb .nil hx ht
/-- o.m(k = v, ..) -/
def tMthK (C : Addr) (m : Str) (n : Nat) (perm : List Nat) (sp : Sp) (E : XK) (ta : TE) (tk : TA) : TE := fun σ H Q => ta σ H fun x H1 => ∃ a dx fs, x = .ref a ∧ H1 a = some (.ins C dx fs) ∧ fs.lookup m = none ∧
  tk σ H1 fun zs H2 => zs.length = n ∧ sp (ord perm (x :: zs)) H2 Q E
theorem pe_mthK0 {pl : Sem Bool} (he : PE X o ta) (c : Cls X.K C) (M : Mth X.prog X.w X.K X.mg X.base CX k C m q st ps sp) (hr : Room k X.A) (hx : Passes CX X E) (ks : List Str) (perm : List Nat)
    (hb : ∀ (kV doc pm : Value) (an : Option Addr) (cdv ct : Value) (us ws : List Value), us.length = 1 → ws.length = ks.length → bindArgs (PySem.W.fnOf m q (defArgs st) (defBody st) (defScope st) .none kV doc pm an cdv ct) ⟨us, ks.zip ws⟩ = pure (ps.zip (ord perm (us ++ ws))))
    (hkw : PK X kws tk) (hall : (backToKw pos (keywordEach kws X.env)).all (·.1.isSome) = true := by rfl) (hks : (backToKw pos (keywordEach kws X.env)).filterMap (·.1) = ks := by rfl)
    (hpl : ((backTo pos (starEach [] X.env)).any (·.1) || (backToKw pos (keywordEach kws X.env)).any (·.1.isNone)) = false := by rfl)
    (ht : eval (.Call (.Attribute o m apos) [] kws pos) X.env = (do
      let ov ← eval o X.env
      standAt apos.atName
      let (f, first) ← holding [ov] (getMethod ov m pl)
      callWith pos f first (backTo pos (starEach [] X.env)) (backToKw pos (keywordEach kws X.env))) := by rfl) :
    PE X (.Call (.Attribute o m apos) [] kws pos) (tMthK C m ks.length perm sp E ta tk) := by
  obtain ⟨f, fd, hm, _, F, FF⟩ := M.ex
  refine ⟨fun pins s σ H Q I h => ?_⟩
  refine PySem.W.methodCall_KW (pl := pl) (thn (he.run pins s σ H _ I h) fun u s1 ⟨x, H1, I1, rx, a, dx, fs, ex, ea, l, q⟩ => ?_) ht
  subst ex
  obtain rfl : u = Value.ref a := rx
  refine getmeth_ok I1 ea c hm l ?_
  refine PySem.W.callWith_KW0 (first := [.ref a]) (h₀ := X.base) I.ok.mod.kin hm.kp hall ?_ hpl
  refine thn (hkw.run pos pins s1 σ H1 _ I1 q) fun ws s2 ⟨zs, H2, I2, rz, l2, q2⟩ => ⟨I2.kIn, ?_⟩
  rw [hks]
  have B : KBn X.K fd ps 1 ks (fun us ws => ord perm (us ++ ws)) (fun vs zs => ord perm (vs ++ zs)) := by
    obtain ⟨oc, od, kV, doc, pm, an, cdv, ct, osl, e, lk, hcd⟩ := FF.ex
    rw [e]
    exact ⟨fun s us ws _ h1 h2 => .of_eq (hb kV doc pm an cdv ct us ws h1 h2), fun r1 r2 => vals_ord (r1.append r2) perm⟩
  exact run_fnN (us := [.ref a]) (vs := [.ref a]) F hr B hx I2 (.cons rfl .nil) rz rfl l2 q2
end
/-- a class made by its own __init__ -/
structure Ini (P : Program) (w : World) (K : PySem.W.Frag) (mg : Str → Option Value) (base : Heap) (CX : CXT) (k : Nat) (x q : Str) (st : Stmt) (ps : List Str) (sp : Sp) : Prop where
  ex : mg x = some (.ref (clsAt mg x)) ∧ ∃ (f : Addr) (fd : FuncData), Mk K (clsAt mg x) f ∧ Binds K fd ps [] ∧ FnOk P w K mg base CX k f fd ps sp ∧ Fun K "__init__" q st f fd
theorem ini_of {P : Program} {w : World} {K : PySem.W.Frag} {mg : Str → Option Value} {base : Heap} {CX : CXT} {k : Nat} {x q : Str} {st : Stmt} {ps : List Str} {sp : Sp} {at_ : List Str} (T : ClsD K mg x at_) (M : Mth P w K mg base CX k (clsAt mg x) "__init__" q st ps sp) : Ini P w K mg base CX k x q st ps sp := by
  obtain ⟨f, fd, h1, h2, h3, h4⟩ := M.ex
  exact ⟨T.mgC, f, fd, ⟨T.mkd, h1.at_, h1.fn, T.kp⟩, h2, h3, h4⟩
section
variable {X : Cx} {CX : CXT} {ps : List Str} {sp : Sp} {k : Nat} {E : XK} {m x q : Str} {st : Stmt} {p pos apos : Pos} {a b o e : Expr} {es : List Expr} {kws : List Keyword} {ta tb : TE} {t tk : TA}
theorem pe_mkC (mg : Str → Option Value) (I : Ini X.prog X.w X.K X.mg X.base CX k x q st ps sp) (hr : Room (k + 1) X.A) (hx : Passes CX X E) (ha : PA X (e :: es) t) (hmg : X.mg = mg := by rfl) (hg : Gl X x := by rfl) (hdb : (x == ("__debug__" : Str)) = false := by decide)
    (he : starEach (e :: es) X.env = (false, eval e X.env) :: starEach es X.env := by rfl) (hpl : (backTo pos (starEach es X.env)).any (·.1) = false := by rfl) : PE X (.Call (.Name x p) (e :: es) [] pos) (tMake (clsAt mg x) sp [] E t) := by
  subst hmg
  obtain ⟨hm, f, fd, M, hb, F, _⟩ := I.ex
  exact pe_make M F hr hg hm hb .nil hx ha hdb he hpl
theorem pe_mkK0 (mg : Str → Option Value) (I : Ini X.prog X.w X.K X.mg X.base CX k x q st ps sp) (hr : Room (k + 1) X.A) (hx : Passes CX X E) (ks : List Str) (perm : List Nat)
    (hb : ∀ (kV doc pm : Value) (an : Option Addr) (cdv ct : Value) (us ws : List Value), us.length = 1 → ws.length = ks.length → bindArgs (PySem.W.fnOf "__init__" q (defArgs st) (defBody st) (defScope st) .none kV doc pm an cdv ct) ⟨us, ks.zip ws⟩ = pure (ps.zip (ord perm (us ++ ws))))
    (hkw : PK X kws tk) (hmg : X.mg = mg := by rfl) (hg : Gl X x := by rfl) (hall : (backToKw pos (keywordEach kws X.env)).all (·.1.isSome) = true := by rfl) (hks : (backToKw pos (keywordEach kws X.env)).filterMap (·.1) = ks := by rfl) (hdb : (x == ("__debug__" : Str)) = false := by decide)
    (hpl : ((backTo pos (starEach [] X.env)).any (·.1) || (backToKw pos (keywordEach kws X.env)).any (·.1.isNone)) = false := by rfl) :
    PE X (.Call (.Name x p) [] kws pos) (tMakeK (clsAt mg x) 0 ks.length sp (fun vs zs => ord perm (vs ++ zs)) E tNil tk) := by
  subst hmg
  obtain ⟨hm, f, fd, M, _, F, FF⟩ := I.ex
  have B : KBn X.K fd ps 1 ks (fun us ws => ord perm (us ++ ws)) (fun vs zs => ord perm (vs ++ zs)) := by
    obtain ⟨oc, od, kV, doc, pm, an, cdv, ct, osl, e, lk, hcd⟩ := FF.ex
    rw [e]
    exact ⟨fun s us ws _ h1 h2 => .of_eq (hb kV doc pm an cdv ct us ws h1 h2), fun r1 r2 => vals_ord (r1.append r2) perm⟩
  exact pe_makeK0 M F hr hg hm B hx hkw hall hks hdb hpl
theorem pe_prp {C : Addr} (he : PE X e ta) (c : Cls X.K C) (R : Prp X.prog X.w X.K X.mg X.base CX0 k C m sp) (hr : Room (k + 1) X.A)
    (hab : attributeBase e m X.env (eval e X.env) = eval e X.env := by rfl) : PE X (.Attribute e m pos) (tProp C sp [] E0 ta) := by
  obtain ⟨p, f, fd, hp, hb, F⟩ := R.ex
  exact pe_prop he c hp F hr hb .nil (fun _ _ _ _ _ _ _ h => h.elim) hab
end
/-! readings -/
section
variable {K : PySem.W.Frag} {σ : L2.St} {H : Hp} {D : Ends} {ta tv to te : TE} {t tk : TA} {Q : VK} {QB : Bool → Hp → Prop} {sp : Sp} {E : XK} {a C dx : Addr} {fs : List (Str × V)} {m f : Str} {v x y : V} {dvs vs : List V} {b : Addr} {n : Nat} {perm : List Nat}
theorem rd_meth (h : ta σ H fun x H1 => ∃ a dx fs, x = .ref a ∧ H1 a = some (.ins C dx fs) ∧ fs.lookup m = none ∧ t σ H1 fun vs H2 => sp (x :: (vs ++ dvs)) H2 Q E) : tMeth C m sp dvs E ta t σ H Q := h
theorem rd_mthK (h : ta σ H fun x H1 => ∃ a dx fs, x = .ref a ∧ H1 a = some (.ins C dx fs) ∧ fs.lookup m = none ∧ tk σ H1 fun zs H2 => zs.length = n ∧ sp (ord perm (x :: zs)) H2 Q E) : tMthK C m n perm sp E ta tk σ H Q := h
theorem rd_obj {A : Prop} (h : H a = some (.ins C dx fs)) (l : fs.lookup m = none) (q : A) : ∃ a' dx fs, V.ref a = .ref a' ∧ H a' = some (.ins C dx fs) ∧ fs.lookup m = none ∧ A := ⟨a, dx, fs, rfl, h, l, q⟩
theorem rd_len1 {A : Prop} (h : vs.length = n) (q : A) : vs.length = n ∧ A := ⟨h, q⟩
theorem rd_prop (h : ta σ H fun x H1 => ∃ a dx fs, x = .ref a ∧ H1 a = some (.ins C dx fs) ∧ sp (.ref a :: dvs) H1 Q E) : tProp C sp dvs E ta σ H Q := h
theorem rd_pobj {P : Addr → Prop} (h : H a = some (.ins C dx fs)) (q : P a) : ∃ a' dx fs, V.ref a = .ref a' ∧ H a' = some (.ins C dx fs) ∧ P a' := ⟨a, dx, fs, rfl, h, q⟩
theorem rd_make (h : t σ H fun vs H1 => ∀ x dx, H1 x = none → H1 dx = none → dx ≠ x → sp (.ref x :: (vs ++ dvs)) (upd (upd H1 dx (.own x)) x (.ins C dx [])) (fun v H2 => v = .non ∧ Q (.ref x) H2) E) : tMake C sp dvs E t σ H Q := h
theorem rd_makeK {m : Nat} {gV : List V → List V → List V} (h : t σ H fun vs H1 => tk σ H1 fun zs H2 => vs.length = n ∧ zs.length = m ∧ ∀ x dx, H2 x = none → H2 dx = none → dx ≠ x →
    sp (gV (.ref x :: vs) zs) (upd (upd H2 dx (.own x)) x (.ins C dx [])) (fun v H3 => v = .non ∧ Q (.ref x) H3) E) : tMakeK C n m sp gV E t tk σ H Q := h
theorem rd_fld (h : ta σ H fun x H1 => ∃ a C dx fs v, x = .ref a ∧ H1 a = some (.ins C dx fs) ∧ Cls K C ∧ NoAttr K C f ∧ fs.lookup f = some v ∧ Q v H1) : tFld K ta f σ H Q := h
theorem rd_fldv {P : V → Prop} (h : H a = some (.ins C dx fs)) (c : Cls K C) (n : NoAttr K C f) (l : fs.lookup f = some v) (q : P v) : ∃ a' C dx fs v, V.ref a = .ref a' ∧ H a' = some (.ins C dx fs) ∧ Cls K C ∧ NoAttr K C f ∧ fs.lookup f = some v ∧ P v := ⟨a, C, dx, fs, v, rfl, h, c, n, l, q⟩
theorem rd_sfld (h : tv σ H fun y H1 => ta σ H1 fun x H2 => ∃ a C dx fs, x = .ref a ∧ H2 a = some (.ins C dx fs) ∧ Cls K C ∧ NoAttr K C f ∧ fs.length < 1000 ∧ D.nx σ (upd H2 a (.ins C dx (putF f y fs)))) : sFld K ta tv f D σ H := h
theorem rd_sfldv {P : Addr → Addr → Addr → List (Str × V) → Prop} (h : H a = some (.ins C dx fs)) (c : Cls K C) (n : NoAttr K C f) (l : fs.length < 1000) (q : P a C dx fs) : ∃ a' C dx fs, V.ref a = .ref a' ∧ H a' = some (.ins C dx fs) ∧ Cls K C ∧ NoAttr K C f ∧ fs.length < 1000 ∧ P a' C dx fs := ⟨a, C, dx, fs, rfl, h, c, n, l, q⟩
theorem rd_getOwn (h : InsAt H a C) (q : sp [.ref a, y] H Q E) : rGetOwn C sp E (.ref a) y H Q := ⟨a, rfl, h, q⟩
theorem rd_setOwn {QH : Hp → Prop} (h : InsAt H a C) (q : sp [.ref a, x, y] H (fun _ H' => QH H') E) : rSetOwn C sp E (.ref a) x y H QH := ⟨a, rfl, h, q⟩
theorem rd_lenOwn (h : InsAt H a C) (q : sp [.ref a] H (fun v H' => ∃ n : Int, v = .int n ∧ 0 ≤ n ∧ n < 2 ^ 63 ∧ Q (.int n) H') E) : rLenOwn C sp E [.ref a] H Q := ⟨a, rfl, h, q⟩
theorem rd_reprOwn (h : InsAt H a C) (q : sp [.ref a] H (fun v H' => ∃ z : Str, v = .str z ∧ Q (.str z) H') E) : rReprOwn C sp E [.ref a] H Q := ⟨a, rfl, h, q⟩
theorem rd_inOwn {neg : Bool} (h : InsAt H a C) (q : sp [.ref a, x] H (fun v H' => ∃ b : Bool, v = .bl b ∧ Q (.bl (if neg then !b else b)) H') E) : rInOwn C sp E neg x (.ref a) H Q := ⟨a, rfl, h, q⟩
theorem rd_binOwn (h : InsAt H a C) (h2 : InsAt H b C) (q : sp [.ref a, .ref b] H (fun v H' => ∃ c, v = .ref c ∧ Q (.ref c) H') E) : rBinOwn C sp E (.ref a) (.ref b) H Q := ⟨a, b, rfl, rfl, h, h2, q⟩
theorem rd_unOwn (h : InsAt H a C) (q : sp [.ref a] H Q E) : rUnOwn C sp E (.ref a) H Q := ⟨a, rfl, h, q⟩
theorem rd_eqOwn {neg : Bool} (h : InsAt H a C) (o : Other K C H y) (q : sp [.ref a, y] H (fun v H' => ∃ b : Bool, v = .bl b ∧ Q (.bl (if neg then !b else b)) H') E) : rEqOwn K C sp E neg (.ref a) y H Q := ⟨a, rfl, h, o, q⟩
end
theorem other_own {K : PySem.W.Frag} {mg : Str → Option Value} {x : Str} {at_ : List Str} {H : Hp} {b dx : Addr} {fs : List (Str × V)} (T : ClsD K mg x at_) (h : H b = some (.ins (clsAt mg x) dx fs)) : Other K (clsAt mg x) H (.ref b) :=
  ⟨_, .base (.ins h T.cl T.ca T.cn T.ct T.cm), by unfold PySem.W.notFirst; simp⟩
theorem other_kd {K : PySem.W.Frag} {C : Addr} {H : Hp} {y : V} {k : Kd} (h : Is K H y k) (n : PySem.W.notFirst K C (.type k.name) = true) : Other K C H y := ⟨_, h, n⟩
theorem sub_kd {K : PySem.W.Frag} {C : Addr} (k : Kd) : PySem.W.subIn K (.type k.name) (.ref C) = some false := by
    show (fastBuiltinMro k.name).map (·.contains (.ref C)) = some false
    have e1 : (match fastBuiltinMro k.name with | some l => l.all (fun v => match v with | .ref _ => false | _ => true) | none => false) = true := by
      cases k <;> decide +kernel
    cases e2 : fastBuiltinMro k.name with
    | none => rw [e2] at e1; cases e1
    | some l =>
    rw [e2] at e1
    have e3 : l.all (fun v => match v with | .ref _ => false | _ => true) = true := e1
    show some (l.contains (.ref C)) = some false
    congr 1
    rw [Bool.eq_false_iff]
    intro hc
    rw [List.contains_iff_mem] at hc
    have := List.all_eq_true.mp e3 _ hc
    cases this
theorem notFirst_kd {K : PySem.W.Frag} {C : Addr} (k : Kd) : PySem.W.notFirst K C (.type k.name) = true := by
  have e : PySem.W.subIn K (.type k.name) (.ref C) = some false := sub_kd k
  unfold PySem.W.notFirst
  rw [e]
  simp
theorem putF_nil (f : Str) (v : V) : putF f v [] = [(f, v)] := rfl

/-! the top's facts -/
section
variable {K : PySem.W.Frag} {mg : Str → Option Value} {x m q : Str} {st : Stmt} {C : Addr} {at_ : List Str}
theorem clsD_of (hm : mg x = some (.ref C)) (na : ∀ f ∈ at_, NoAttr K C f) (pg : PySem.W.plainGet K C Str.empty = true) (hd : PySem.W.hasDictIn K C = true) (po : PySem.W.plainOver K C = true)
    (sa : PySem.W.findIn K (.ref C) "__setattr__" = some (some (.builtin "object.__setattr__"))) (mk : PySem.W.makesIn K C = true) (kp : PySem.W.keepIn K (.ref C) = true)
    (ca : PySem.W.findIn K (.ref C) "__class__" = some (some (.builtin "object.__class__"))) (cn : PySem.W.specialIn K (.builtin "object.__class__") "__get__" = some (some (.builtin "getset_descriptor.__get__")))
    (ct : PySem.W.takesIn K (.builtin "object.__class__") = some true) (cm : PySem.W.mroIn K C (.type "object") = some true) (ne : PySem.W.findIn K (.ref C) "__ne__" = some (some (.builtin "object.__ne__")))
    (ns : PySem.W.noSeq K C = true) (sf : PySem.W.selfFirst K C = true) (kl : PySem.W.kitOne K (.type "list") (.ref C) = some false) : ClsD K mg x at_ := by
  have e : clsAt mg x = C := by unfold clsAt; rw [hm]
  subst e
  exact ⟨hm, ⟨pg, hd, po, sa⟩, na, mk, kp, ca, cn, ct, cm, ne, ns, sf, kl⟩
theorem na_nil : ∀ f ∈ ([] : List Str), NoAttr K C f := fun _ h => nomatch h
theorem na_cons {f : Str} {fs : List Str} (h : PySem.W.findIn K (.ref C) f = some none) (t : ∀ f ∈ fs, NoAttr K C f) : ∀ g ∈ f :: fs, NoAttr K C g := fun g hg => by
  rcases List.mem_cons.mp hg with rfl | h'
  · exact h
  · exact t g h'
theorem mthD_of {f : Addr} {fd : FuncData} (hm : mg x = some (.ref C)) (a : PySem.W.findIn K (.ref C) m = some (some (.ref f))) (i : PySem.W.isFn K (.ref f) = true) (k : PySem.W.keepIn K (.ref f) = true) (F : Fun K m q st f fd) : MthD K mg x m q st := by
  have e : clsAt mg x = C := by unfold clsAt; rw [hm]
  subst e
  exact ⟨f, fd, ⟨a, i, k⟩, F⟩
theorem prpD_of {p f : Addr} {fd : FuncData} {rest : List Value} (hm : mg x = some (.ref C)) (a : PySem.W.findIn K (.ref C) m = some (some (.ref p))) (g : PySem.W.specialIn K (.ref p) "__get__" = some (some (.builtin "property.__get__"))) (t : PySem.W.takesIn K (.ref p) = some true)
    (r : PySem.W.recIn K p "property" = some (.ref f :: rest)) (F : Fun K m q st f fd) : PrpD K mg x m q st := by
  have e : clsAt mg x = C := by unfold clsAt; rw [hm]
  subst e
  exact ⟨p, f, fd, ⟨a, g, t, rest, r⟩, F⟩
theorem ClsD.no (T : ClsD K mg x at_) (f : Str) (h : at_.contains f = true := by decide) : NoAttr K (clsAt mg x) f := T.na f (List.contains_iff_mem.mp h)
end
/-! isinstance with an own class -/
section
variable {K : PySem.W.Frag} {mg : Str → Option Value} {x : Str} {at_ : List Str} {H : Hp} {Q : VK} {b dx : Addr} {fs : List (Str × V)} {y : V}
theorem pe_own {X : Cx} {pos : Pos} (T : ClsD K mg x at_) (hmg : X.mg = mg := by rfl) (hg : Gl X x := by rfl) (hd : (x == ("__debug__" : Str)) = false := by decide) : PE X (.Name x pos) (tC (.ref (clsAt mg x))) := by
  subst hmg
  exact pe_glob hg T.mgC rfl hd
theorem kit_own_kd (T : ClsD K mg x at_) (k : Kd) : PySem.W.kitOne K (.type k.name) (.ref (clsAt mg x)) = some false := by
  have h := T.kl
  unfold PySem.W.kitOne at h ⊢
  rw [show (Value.type "list" == Value.ref (clsAt mg x)) = false from rfl] at h
  rw [show (Value.type k.name == Value.ref (clsAt mg x)) = false from rfl]
  simp only [Bool.false_eq_true, if_false] at h ⊢
  unfold PySem.W.kitCls at h ⊢
  simp only at h ⊢
  split at h
  · rename_i c
    rw [if_pos c]
    exact sub_kd k
  · cases h
theorem rd_isiKd {k : Kd} (T : ClsD K mg x at_) (h : Is K H y k) (q : Q (.bl false) H) : rIsi K [y, .ref (clsAt mg x)] H Q := ⟨y, .ref (clsAt mg x), _, _, _, rfl, .own _, h, kit_own_kd T k, q⟩
theorem rd_isiIns (T : ClsD K mg x at_) (h : H b = some (.ins (clsAt mg x) dx fs)) (q : Q (.bl true) H) : rIsi K [.ref b, .ref (clsAt mg x)] H Q :=
  ⟨_, .ref (clsAt mg x), _, _, _, rfl, .own _, .base (.ins h T.cl T.ca T.cn T.ct T.cm), by unfold PySem.W.kitOne; simp, q⟩
end
/-! f-strings; a list of one item, many times; str of an int -/
section
variable {σ : L2.St} {H : Hp} {Q : VK} {te : TE} {z : Str} {i : Int} {a : Addr} {x : V}
theorem rd_fmt (h : te σ H fun x H1 => (∃ y : Str, x = .str y ∧ y.length ≤ sizeLine ∧ Q (.str y) H1) ∨ ∃ i : Int, x = .int i ∧ i.natAbs.log2 < 1920 ∧ Q (.str (toString i)) H1) : tFmt te σ H Q := h
theorem rd_fmtS {P : Str → Prop} {P2 : Int → Prop} (hz : z.length ≤ sizeLine) (q : P z) : (∃ y : Str, V.str z = .str y ∧ y.length ≤ sizeLine ∧ P y) ∨ ∃ i : Int, V.str z = .int i ∧ i.natAbs.log2 < 1920 ∧ P2 i := .inl ⟨z, rfl, hz, q⟩
theorem rd_fmtI {P : Str → Prop} {P2 : Int → Prop} (hz : i.natAbs.log2 < 1920) (q : P2 i) : (∃ y : Str, V.int i = .str y ∧ y.length ≤ sizeLine ∧ P y) ∨ ∃ j : Int, V.int i = .int j ∧ j.natAbs.log2 < 1920 ∧ P2 j := .inr ⟨i, rfl, hz, q⟩
def tFs (ts : List TE) : TE := fun σ H Q => tJs ts Str.empty σ H fun out H1 => Q (.str out) H1
theorem k_fs {X : Cx} {v1 v2 : Expr} {rest : List Expr} {ts : List TE} {pos : Pos} (h : PJ X (v1 :: v2 :: rest) ts) : PE X (.JoinedStr (v1 :: v2 :: rest) pos) (tFs ts) := pe_joined h
theorem rd_fs {ts : List TE} (h : tJs ts Str.empty σ H fun out H1 => Q (.str out) H1) : tFs ts σ H Q := h
theorem rd_jsN {acc : Str} {QJ : Str → Hp → Prop} (h : QJ acc H) : tJs [] acc σ H QJ := h
theorem rd_jsC {t : TE} {ts : List TE} {acc : Str} {QJ : Str → Hp → Prop} (h : t σ H fun x H1 => ∃ y : Str, x = .str y ∧ (acc ++ y).length ≤ sizeLine ∧ tJs ts (acc ++ y) σ H1 QJ) : tJs (t :: ts) acc σ H QJ := h
theorem rd_jsS {P : Str → Prop} {acc : Str} (hz : (acc ++ z).length ≤ sizeLine) (q : P z) : ∃ y : Str, V.str z = .str y ∧ (acc ++ y).length ≤ sizeLine ∧ P y := ⟨z, rfl, hz, q⟩
theorem rd_rep1 (h : H a = some (.lst [x])) (h1 : 0 ≤ i) (h2 : i ≤ 1000000) (q : ∀ p, H p = none → Q (.ref p) (upd H p (.lst (List.replicate i.toNat x)))) : rRep (.ref a) (.int i) H Q := by
  refine ⟨a, i, [x], rfl, rfl, h, by omega, by omega, ?_, fun p hp => ?_⟩
  · refine Nat.le_trans (m := 1000000) ?_ (by decide)
    show 1 * i.toNat ≤ 1000000
    omega
  · have e : (List.replicate i.toNat [x]).flatten = List.replicate i.toNat x := by
      induction i.toNat with
      | zero => rfl
      | succ n ih => rw [List.replicate_succ, List.flatten_cons, ih]; rfl
    rw [e]
    exact q p hp
def rStrInt : List V → Hp → VK → Prop := fun xs H Q => ∃ i, xs = [.int i] ∧ i.natAbs.log2 < 1920 ∧ Q (.str (toString i)) H
theorem k_strInt {X : Cx} : CallR X (.type "str") rStrInt := call_str_int
theorem rd_strInt (h : i.natAbs.log2 < 1920) (q : Q (.str (toString i)) H) : rStrInt [.int i] H Q := ⟨i, rfl, h, q⟩
end
/-! comprehensions and loops over a list -/
section
variable {K : PySem.W.Frag} {σ : L2.St} {H H1 : Hp} {a : Addr} {xs : List V} {g : TG} {tt : TT} {te : TE} {vs : List Nat}
theorem lc_list {Da : Addr} {Qd : Hp → Prop} (Pv : Nat → Hp → Prop) (h0 : Pv 0 (upd H1 Da (.lst []))) (hat : ∀ i H, i ≤ xs.length → Pv i H → SqL K H a xs)
    (hs : ∀ i H x, i < xs.length → xs[i]? = some x → Pv i H → g x (wipe σ vs) H fun σ2 H2 => wipe σ2 vs = wipe σ vs ∧ tt σ2 H2 fun b H3 =>
      if b = true then te σ2 H3 fun y H4 => ∃ acc, H4 Da = some (.lst acc) ∧ acc.length < sizeLine ∧ Pv (i + 1) (upd H4 Da (.lst (acc ++ [y]))) else Pv (i + 1) H3) (hd : ∀ H, Pv xs.length H → Qd H) :
    ∃ W : Nat → Nat → Hp → Prop, (∃ m, W 0 m (upd H1 Da (.lst []))) ∧ ∀ i m H, W i m H →
      ((Itl K a).stop i H ∧ Qd H) ∨ ((Itl K a).go i H ∧ ∃ Nx : Hp → Prop, (∀ H', Nx H' → ∃ m', m' < m ∧ W (i + 1) m' H') ∧ ∀ x H', (Itl K a).yld i H x H' → g x (wipe σ vs) H' fun σ2 H2 => wipe σ2 vs = wipe σ vs ∧ tt σ2 H2 fun b H3 =>
        if b = true then te σ2 H3 fun y H4 => ∃ acc, H4 Da = some (.lst acc) ∧ acc.length < sizeLine ∧ Nx (upd H4 Da (.lst (acc ++ [y]))) else Nx H3) := by
  refine lc_it (J := Itl K a) xs.length Pv h0 (fun i H hi p => ⟨xs, xs[i], hat i H (Nat.le_of_lt hi) p, List.getElem?_eq_getElem hi⟩) (fun H p => ⟨xs, hat _ H (Nat.le_refl _) p, Nat.le_refl _⟩) ?_ hd
  rintro i H x H' hi p ⟨rfl, hx⟩
  exact hs i H' x hi (hx xs (hat i H' (Nat.le_of_lt hi) p)) p
end
end Ow

namespace My
open PySem PySem.Spec PyProof.Rows L2 Kt Ow
def top (i : Nat) : Stmt := PySem.Challenge.pw_backring_k18_whole_rings_written_and_rea.main.body.getD i (.Pass ⟨0, 0, 0, 0⟩)
structure Txt (K : PySem.W.Frag) (mg : Str → Option Value) : Prop where
  n_all : mg "all" = none
  n_bool : mg "bool" = none
  n_dict : mg "dict" = none
  n_int : mg "int" = none
  n_isinstance : mg "isinstance" = none
  n_len : mg "len" = none
  n_list : mg "list" = none
  n_range : mg "range" = none
  n_repr : mg "repr" = none
  n_str : mg "str" = none
  n_tuple : mg "tuple" = none
  n_zip : mg "zip" = none
  g_LETTERS : ∃ t, mg "LETTERS" = some (.str "abcdefghijklmnopqrstuvwxyz" t)
  g_LONGEST_NAME : ∃ t, mg "LONGEST_NAME" = some (.int 8 t)
  g_MOST_LENGTH : ∃ t, mg "MOST_LENGTH" = some (.int 1000 t)
  c_Ring : ClsD K mg "Ring" ["rows"]
  m_Ring___eq__ : MthD K mg "Ring" "__eq__" "Ring.__eq__" (inClass (top 13) 11)
  m_Ring___getitem__ : MthD K mg "Ring" "__getitem__" "Ring.__getitem__" (inClass (top 13) 7)
  m_Ring___init__ : MthD K mg "Ring" "__init__" "Ring.__init__" (inClass (top 13) 0)
  m_Ring___len__ : MthD K mg "Ring" "__len__" "Ring.__len__" (inClass (top 13) 10)
  m_Ring___repr__ : MthD K mg "Ring" "__repr__" "Ring.__repr__" (inClass (top 13) 12)
  m_Ring___setitem__ : MthD K mg "Ring" "__setitem__" "Ring.__setitem__" (inClass (top 13) 8)
  m_Ring_entries : MthD K mg "Ring" "entries" "Ring.entries" (inClass (top 13) 5)
  m_Ring_restore : MthD K mg "Ring" "restore" "Ring.restore" (inClass (top 13) 4)
  m_Ring_spot : MthD K mg "Ring" "spot" "Ring.spot" (inClass (top 13) 2)
  m_Ring_write : MthD K mg "Ring" "write" "Ring.write" (inClass (top 13) 3)
  p_Ring_length : PrpD K mg "Ring" "length" "Ring.length" (inClass (top 13) 1)
  d__law_any : Dfn K mg "_law_any" (top 17)
  d__law_bag : Dfn K mg "_law_bag" (top 15)
  d__law_draw : Dfn K mg "_law_draw" (top 16)
  d__law_like : Dfn K mg "_law_like" (top 18)
  d__law_ring_so : Dfn K mg "_law_ring_so" (top 20)
  d__law_words : Dfn K mg "_law_words" (top 19)
  d_is_name : Dfn K mg "is_name" (top 9)
  d_is_number : Dfn K mg "is_number" (top 10)
  d_law : Dfn K mg "law" (top 21)
local macro_rules | `(tactic| walk_at "ne") => `(tactic| first | assumption | (refine Ne.symm ?hne; assumption) | (refine' ne_new ?h1 ?h2 <;> assumption) | (refine Ne.symm ?hne; refine' ne_new ?h1 ?h2 <;> assumption) | ((refine' ne_new ?h1 ?h2); (case h1 => assumption); (case h2 => walk_at "hp")) | (refine Ne.symm ?hne; (refine' ne_new ?h1 ?h2); (case h1 => assumption); (case h2 => walk_at "hp")))
local macro_rules | `(tactic| walk_at "hp") => `(tactic| first | assumption | with_reducible exact upd_same | ((with_reducible refine' up_new ?h1 ?h2); (case h1 => assumption); (case h2 => walk_at "hp")) | ((with_reducible refine' up_ne ?h1 ?h2); (case h1 => walk_at "ne"); (case h2 => walk_at "hp")) | ((with_reducible refine' same_at ?h1 ?h2); (case h1 => assumption); (case h2 => walk_at "hp")) | ((with_reducible refine' but_at ?h1 ?h2 ?h3); (case h1 => assumption); (case h2 => walk_at "ne"); (case h3 => walk_at "hp")))
local macro_rules | `(tactic| walk_at "sq") => `(tactic| first | assumption | ((with_reducible refine' sq_new ?h1 ?h2); (case h1 => assumption); (case h2 => walk_at "sq")) | ((with_reducible refine' st_new ?h1 ?h2); (case h1 => assumption); (case h2 => walk_at "sq")) | ((with_reducible refine' SqL.of ?h1); (case h1 => walk_at "hp")) | ((with_reducible refine' SqT.of ?h1); (case h1 => walk_at "hp")) | ((with_reducible refine' Same.seq ?h1 ?h2); (case h1 => assumption); (case h2 => walk_at "sq")) | ((with_reducible refine' same_sqt ?h1 ?h2); (case h1 => assumption); (case h2 => walk_at "sq")) | ((with_reducible refine' but_sq ?h1 ?h2 ?h3); (case h1 => assumption); (case h2 => walk_at "ne"); (case h3 => walk_at "sq")) | ((with_reducible refine' but_st ?h1 ?h2 ?h3); (case h1 => assumption); (case h2 => walk_at "ne"); (case h3 => walk_at "sq")))
local macro_rules | `(tactic| walk_at "same") => `(tactic| first | assumption | with_reducible exact Same.refl _ | ((with_reducible refine' same_up ?h1 ?h2); (case h1 => assumption); (case h2 => walk_at "same")) | ((with_reducible refine' Same.trans ?h1 ?h2); (case h2 => assumption); (case h1 => walk_at "same")))
local macro_rules | `(tactic| walk_at "is") => `(tactic| first | assumption | with_reducible exact Is.int | with_reducible exact Is.str | with_reducible exact Is.bl | with_reducible exact Is.non | ((with_reducible refine' Is.lst ?h1); (case h1 => walk_at "sq")) | ((with_reducible refine' Is.tup ?h1); (case h1 => walk_at "sq")))
local macro_rules | `(tactic| walk_at "isi") => `(tactic| first
  | ((with_reducible refine' rd_isi_str ?hs ?_); (case hs => walk_at "is")) | ((with_reducible refine' rd_isi_int ?hs ?_); (case hs => walk_at "is")) | ((with_reducible refine' rd_isi_bool ?hs ?_); (case hs => walk_at "is"))
  | ((with_reducible refine' rd_isi_list ?hs ?_); (case hs => walk_at "is")) | ((with_reducible refine' rd_isi_tuple ?hs ?_); (case hs => walk_at "is")) | ((with_reducible refine' rd_isi_dict ?hs ?_); (case hs => walk_at "is"))
  | ((with_reducible refine' rd_isi_lt ?hs ?hp ?_); (case hs => walk_at "is"); (case hp => walk_at "hp")))
local macro_rules | `(tactic| walk_at "rdx") => `(tactic| first
  | with_reducible refine rd_cons ?_ | with_reducible refine rd_c ?_ | ((with_reducible refine' rd_var ?hv ?_); (case hv => rfl)) | with_reducible refine rd_nil ?_
  | with_reducible refine rd_op ?_ | with_reducible refine rd_cb ?_ | with_reducible refine rd_asg ?_ | with_reducible refine rd_name ?_ | with_reducible refine rd_next ?_
  | with_reducible refine rd_rI0 ?_ | with_reducible refine rd_ifs ?_ | with_reducible refine rd_test ?_ | with_reducible refine rd_bl ?_
  | ((with_reducible refine' rd_iteC ?hb ?_); (case hb => rfl)) | ((with_reducible refine' rd_iteD ?hb ?_); (case hb => rfl))
  | ((with_reducible refine rd_eq ?hs ?_); (case hs => rfl))
  | ((with_reducible refine rd_ne ?hs ?_); (case hs => rfl))
  | ((with_reducible refine' rd_ixL ?hs ?ha ?_); (case hs => walk_at "sq"); (case ha => rfl))
  | ((with_reducible refine' rd_lenL ?hs ?_); (case hs => walk_at "sq"))
  | with_reducible refine rd_call ?_ | with_reducible refine rd_ret ?_
  | ((with_reducible refine rd_rI ?hc ?_); (case hc => first | omega | (dsimp only; omega) | (simp only [CMul, CDiv, CPow]; omega) | decide))
  | with_reducible refine rd_B ?_ | with_reducible refine rd_and ?_ | with_reducible refine rd_or ?_ | with_reducible refine rd_not ?_ | with_reducible refine rd_andV ?_ | with_reducible refine rd_orV ?_ | with_reducible refine rd_notV ?_
  | with_reducible refine rd_ifE ?_ | with_reducible refine rd_tup ?_ | with_reducible refine rd_lst ?_
  | ((with_reducible refine rd_new ?hn ?_); (case hn => rfl); intro p hp)
  | with_reducible refine rd_drop ?_ | with_reducible refine rd_un ?_ | with_reducible refine rd_retN ?_
  | with_reducible refine rd_rU ?_ | with_reducible refine rd_gsub ?_ | with_reducible refine rd_chain ?_ | with_reducible refine rd_sl ?_
  | with_reducible refine rd_noPart ?_ | with_reducible refine rd_part ?_ | with_reducible refine rd_int ?_ | with_reducible refine rd_str ?_ | with_reducible refine rd_int1 ?_
  | walk_at "isi"
  | ((with_reducible refine' rd_ixT ?hs ?ha ?_); (case hs => walk_at "sq"); (case ha => rfl))
  | ((with_reducible refine' rd_setL ?hs ?ha ?_); (case hs => walk_at "hp"); (case ha => rfl))
  | ((with_reducible refine' rd_lenT ?hs ?_); (case hs => walk_at "sq"))
  | ((with_reducible refine' rd_slL ?hs ?_); (case hs => walk_at "sq"); intro p hp)
  | ((with_reducible refine' rd_listL ?hs ?_); (case hs => walk_at "sq"); intro p hp)
  | ((with_reducible refine' rd_listT ?hs ?_); (case hs => walk_at "sq"); intro p hp)
  | with_reducible refine rd_lc ?_ | with_reducible refine rd_for ?_ | with_reducible refine rd_iList ?_ | with_reducible refine rd_iTup ?_ | with_reducible refine rd_iStr ?_ | with_reducible refine rd_iRng1 ?_ | with_reducible refine rd_iRng2 ?_ | with_reducible refine rd_iEnum ?_ | with_reducible refine rd_iZipA ?_
  | ((with_reducible refine rd_rg1 ?hc ?_); (case hc => omega)) | ((with_reducible refine rd_rg2 ?hc ?_); (case hc => omega)) | ((with_reducible refine' rd_en ?hs ?_); (case hs => walk_at "sq"))
  | with_reducible refine rd_par ?_ | with_reducible refine rd_two ?_
  | ((with_reducible refine' rd_gTup2 ?hs ?_); (case hs => walk_at "sq")) | ((with_reducible refine' rd_gTup3 ?hs ?_); (case hs => walk_at "sq"))
  | ((with_reducible refine' rd_atL ?hs ?_); (case hs => walk_at "sq")) | ((with_reducible refine' rd_atT ?hs ?_); (case hs => walk_at "sq"))
  | with_reducible refine rd_yes ?_ | with_reducible refine rd_m1 ?_ | with_reducible refine rd_m0 ?_ | with_reducible refine rd_isStr ?_ | with_reducible refine rd_callN ?_ | ((with_reducible refine rd_lens ?h1 ?h2 ?_); (case h1 => rfl); (case h2 => rfl)) | with_reducible refine rd_inSign ?_ | with_reducible refine rd_isN ?_ | with_reducible refine rd_notN ?_
  | ((with_reducible refine' rd_lenS ?hs ?_); (case hs => first | assumption | decide | omega)) | walk_at "own")
local macro_rules | `(tactic| walk_at "rd1") => `(tactic| first | with_reducible refine rd_seq ?_ | walk_at "rdx")
local macro_rules | `(tactic| walk_at "rs1") => `(tactic| first | with_reducible refine rd_seqA ?_ | with_reducible refine rd_seqP ?_ | with_reducible refine rd_seqD ?_ | walk_at "rdx")
local macro_rules | `(tactic| walk_at "rd") => `(tactic| repeat walk_at "rd1")
local macro_rules | `(tactic| walk_at "rs") => `(tactic| repeat walk_at "rs1")
local macro_rules | `(tactic| walk_at "ia") => `(tactic| ((refine' ⟨_, _, ?hi⟩); (case hi => walk_at "hp")))
local macro_rules | `(tactic| walk_at "own") => `(tactic| first
  | with_reducible refine rd_fld ?_ | ((with_reducible refine' rd_fldv ?hp ?hc ?hn ?hl ?_); (case hp => walk_at "hp"); (case hc => assumption); (case hn => assumption); (case hl => rfl))
  | with_reducible refine rd_sfld ?_ | ((with_reducible refine' rd_sfldv ?hp ?hc ?hn ?hl ?_); (case hp => walk_at "hp"); (case hc => assumption); (case hn => assumption); (case hl => decide))
  | with_reducible refine rd_meth ?_ | with_reducible refine rd_mthK ?_ | ((with_reducible refine' rd_obj ?hp ?hl ?_); (case hp => walk_at "hp"); (case hl => rfl)) | ((with_reducible refine' rd_len1 ?hl ?_); (case hl => rfl))
  | with_reducible refine rd_prop ?_ | ((with_reducible refine' rd_pobj ?hp ?_); (case hp => walk_at "hp"))
  | with_reducible refine rd_make ?_ | with_reducible refine rd_makeK ?_
  | ((with_reducible refine' rd_getOwn ?hi ?_); (case hi => walk_at "ia")) | ((with_reducible refine' rd_setOwn ?hi ?_); (case hi => walk_at "ia"))
  | ((with_reducible refine' rd_lenOwn ?hi ?_); (case hi => walk_at "ia")) | ((with_reducible refine' rd_reprOwn ?hi ?_); (case hi => walk_at "ia"))
  | with_reducible refine rd_fmt ?_ | with_reducible refine rd_fs ?_ | with_reducible refine rd_jsN ?_ | with_reducible refine rd_jsC ?_)

/-- equal data of one make, nested less than n deep -/
def Lk (K : PySem.W.Frag) (H : Hp) : Nat → V → V → Prop
  | 0, _, _ => False
  | n + 1, x, y => (x = y ∧ Plain x) ∨ ∃ a b xs ys, x = .ref a ∧ y = .ref b ∧ ((SqL K H a xs ∧ SqL K H b ys) ∨ (SqT K H a xs ∧ SqT K H b ys)) ∧ xs.length = ys.length ∧ xs.length ≤ 100000 ∧
      ∀ (i : Nat) x y, xs[i]? = some x → ys[i]? = some y → Lk K H n x y
theorem Lk.mono {K : PySem.W.Frag} {H H' : Hp} (e : Same H H') : ∀ {n : Nat} {x y : V}, Lk K H n x y → Lk K H' n x y
  | 0, _, _, h => h
  | n + 1, x, y, h => by
    rcases h with h | ⟨a, b, xs, ys, rfl, rfl, h1, h2, h3, h4⟩
    · exact .inl h
    · refine .inr ⟨a, b, xs, ys, rfl, rfl, ?_, h2, h3, fun i x y hx hy => Lk.mono e (h4 i x y hx hy)⟩
      rcases h1 with ⟨p, q⟩ | ⟨p, q⟩
      · exact .inl ⟨e.seq p, e.seq q⟩
      · exact .inr ⟨same_sqt e p, same_sqt e q⟩
def spLike (K : PySem.W.Frag) (n : Nat) : Sp := fun vs H Q _ => ∃ x y, vs = [x, y] ∧ Lk K H n x y ∧ ∀ H', Same H H' → Q (.bl true) H'
theorem use_like {K : PySem.W.Frag} {n : Nat} {x y : V} {H : Hp} {Q : VK} {E : XK} (h : Lk K H n x y) (q : ∀ H', Same H H' → Q (.bl true) H') : spLike K n [x, y] H Q E := ⟨x, y, rfl, h, q⟩
section
variable {P : Program} {w : World} {K : PySem.W.Frag} {mg : Str → Option Value} {base : Heap}
abbrev s__law_like : Stmt := top 18
abbrev N__law_like : List Str := ["_law_found", "_law_due", "_law_key", "_law_one", "_law_two"]
theorem sc__law_like : FnScope N__law_like ["_law_found", "_law_due"] (defScope s__law_like) := ⟨rfl, rfl, rfl, by decide +kernel, rfl, by decide +kernel, by decide +kernel⟩

theorem like_step {n : Nat} (T : Txt K mg) (G__law_like : Cal P w K mg base CX0 n "_law_like" s__law_like ["_law_found", "_law_due"] (spLike K n)) :
    Cal P w K mg base CX0 (n + 1) "_law_like" s__law_like ["_law_found", "_law_due"] (spLike K (n + 1)) := by
  refine cal_of T.d__law_like sc__law_like (fun _ _ _ _ _ _ us hl => match us, hl with | [_, _], _ => rfl) (fun vs H Q E h => ?_) (fun f cdv A outer s H vs Q E hr h => ?_)
  · obtain ⟨x, y, rfl, _⟩ := h
    rfl
  obtain ⟨x, y, rfl, L, q⟩ := h
  refine ⟨_, (pss_cons (ps_if (pt_cmpR k_isN (pv 1) pe_non (nomark _))
 (pss_one (ps_ret (pe_cmpR k_isN (pv 0) pe_non (nomark _))))
 pss_nil)
 (pss_cons (ps_if (pt_val (pe_callB (k_isi K) (by rfl) T.n_isinstance (by decide +kernel) (pa_cons (pv 1) (pa_cons (pe_ty "dict" rfl T.n_dict (by decide +kernel)) pa_nil))))
 pss_never
 pss_nil)
 (pss_cons (ps_if (pt_val (pe_callB (k_isiT K) (by rfl) T.n_isinstance (by decide +kernel) (pa_cons (pv 1) (pa_cons (pe_tup (pa_cons (pe_ty "list" rfl T.n_list (by decide +kernel)) (pa_cons (pe_ty "tuple" rfl T.n_tuple (by decide +kernel)) pa_nil))) pa_nil))))
 (pss_cons (ps_if (PW.pt (pw_or (pt_cmpR op_ne (pe_callB (k_isi K) (by rfl) T.n_isinstance (by decide +kernel) (pa_cons (pv 0) (pa_cons (pe_ty "list" rfl T.n_list (by decide +kernel)) pa_nil))) (pe_callB (k_isi K) (by rfl) T.n_isinstance (by decide +kernel) (pa_cons (pv 1) (pa_cons (pe_ty "list" rfl T.n_list (by decide +kernel)) pa_nil))) (nomark _)) (pw_or1 (pt_cmpR op_ne (pe_callB (k_isi K) (by rfl) T.n_isinstance (by decide +kernel) (pa_cons (pv 0) (pa_cons (pe_ty "tuple" rfl T.n_tuple (by decide +kernel)) pa_nil))) (pe_callB (k_isi K) (by rfl) T.n_isinstance (by decide +kernel) (pa_cons (pv 1) (pa_cons (pe_ty "tuple" rfl T.n_tuple (by decide +kernel)) pa_nil))) (nomark _)))))
 (pss_one (ps_ret pe_bl))
 pss_nil)
 (pss_one (ps_ret (pe_and (pe_cmpR op_eq (pe_callB (k_len K) (by rfl) T.n_len PySem.boot_len (pa_cons (pv 0) pa_nil)) (pe_callB (k_len K) (by rfl) T.n_len PySem.boot_len (pa_cons (pv 1) pa_nil)) (nomark _)) (pe_one (pe_callB (k_all K) (by rfl) T.n_all (by decide +kernel) (pa_cons (pe_lc (own := [("_law_one", 3), ("_law_two", 4)]) (g := gTup K 2 (gCons (gName 3) (gCons (gName 4) gNil))) (tt := tYes) rfl sc__law_like.nd (kpi_zip K (by rfl) T.n_zip (pa_cons (pv 0) (pa_cons (pv 1) pa_nil))) (blkOk_by (own := [("_law_one", 3), ("_law_two", 4)]) (N := N__law_like) (sc := defScope s__law_like) (by decide +kernel)) (fun _ _ _ _ _ => (kpg_tup K (n := 2) (pgs_cons (pg_name (i := 3) sc__law_like.nd rfl (by first | exact Or.inl rfl | exact Or.inr rfl)) (pgs_cons (pg_name (i := 4) sc__law_like.nd rfl (by first | exact Or.inl rfl | exact Or.inr rfl)) pgs_nil)))) (fun _ _ _ _ _ => pts_nil) (fun _ _ _ _ _ => (pe_cal G__law_like (hr.mono (by omega)) pass0 (pa_cons (pv 3) (pa_cons (pv 4) pa_nil))))) pa_nil)))))))
 pss_nil)
 (pss_cons (ps_if (PW.pt (pw_or (pt_cmpR op_ne (pe_callB (k_isi K) (by rfl) T.n_isinstance (by decide +kernel) (pa_cons (pv 0) (pa_cons (pe_ty "bool" rfl T.n_bool (by decide +kernel)) pa_nil))) (pe_callB (k_isi K) (by rfl) T.n_isinstance (by decide +kernel) (pa_cons (pv 1) (pa_cons (pe_ty "bool" rfl T.n_bool (by decide +kernel)) pa_nil))) (nomark _)) (pw_or1 (pt_cmpR op_ne (pe_callB (k_isi K) (by rfl) T.n_isinstance (by decide +kernel) (pa_cons (pv 0) (pa_cons (pe_ty "int" rfl T.n_int (by decide +kernel)) pa_nil))) (pe_callB (k_isi K) (by rfl) T.n_isinstance (by decide +kernel) (pa_cons (pv 1) (pa_cons (pe_ty "int" rfl T.n_int (by decide +kernel)) pa_nil))) (nomark _)))))
 (pss_one (ps_ret pe_bl))
 pss_nil)
 (pss_one (ps_ret (pe_and (pe_cmpR op_eq (pe_callB (k_isi K) (by rfl) T.n_isinstance (by decide +kernel) (pa_cons (pv 0) (pa_cons (pe_ty "str" rfl T.n_str (by decide +kernel)) pa_nil))) (pe_callB (k_isi K) (by rfl) T.n_isinstance (by decide +kernel) (pa_cons (pv 1) (pa_cons (pe_ty "str" rfl T.n_str (by decide +kernel)) pa_nil))) (nomark _)) (pe_one (pe_cmpR op_eq (pv 0) (pv 1) (nomark _)))))))))), ?_⟩
  have q' : ∀ b H', b = true → Same H H' → Q (.bl b) H' := fun b H' e s => by rw [e]; exact q H' s
  rcases L with ⟨rfl, p⟩ | ⟨a, b, xs, ys, rfl, rfl, h1, hl, hz, h4⟩
  · cases x with
    | non =>
      walk_at "rd"
      exact q _ (Same.refl H)
    | bl i =>
      walk_at "rd"
      exact q' _ _ (decide_eq_true rfl) (by walk_at "same")
    | int i =>
      walk_at "rd"
      exact q' _ _ (decide_eq_true rfl) (by walk_at "same")
    | str i =>
      walk_at "rd"
      exact q' _ _ (decide_eq_true rfl) (by walk_at "same")
    | _ => exact p.elim
  · rcases h1 with ⟨ha, hb⟩ | ⟨ha, hb⟩
    · walk_at "rd"
      refine rd_iteC (by rw [hl]; exact decide_eq_true rfl) ?_
      walk_at "rd"
      refine ⟨a, b, xs, ys, rfl, .inl ⟨by walk_at "sq", by walk_at "sq", fun D hD => ?_⟩⟩
      have hD0 : H D = none := Same.free (by walk_at "same") hD
      refine lc_it xs.length (fun i H' => Same H H' ∧ H' D = some (.lst (List.replicate i (V.bl true)))) ?_ ?_ ?_ ?_ ?_
      · exact ⟨by walk_at "same", upd_same⟩
      · rintro i H' hi ⟨sm, -⟩
        exact ⟨xs, ys, xs[i], ys[i]'(hl ▸ hi), sm.seq ha, sm.seq hb, List.getElem?_eq_getElem hi, List.getElem?_eq_getElem (hl ▸ hi)⟩
      · rintro H' ⟨sm, -⟩
        exact ⟨xs, ys, sm.seq ha, sm.seq hb, .inl (Nat.le_refl _)⟩
      · rintro i H' x H2 hi ⟨sm, hd⟩ ⟨Tp, x1, y1, rfl, hT, rfl, f1, f2⟩
        walk_at "rd"
        refine ⟨rfl, ?_⟩
        walk_at "rd"
        refine use_like (Lk.mono (sm.trans (same_new hT _)) (h4 i x1 y1 (f1 xs (sm.seq ha)) (f2 ys (sm.seq hb)))) fun H4 s4 => ?_
        refine ⟨_, s4 D _ ((upd_ne (ne_of_none hd hT)).trans hd), ?_, same_mut ((sm.trans (same_new hT _)).trans s4) hD0, ?_⟩
        · rw [List.length_replicate]
          exact Nat.lt_of_lt_of_le (Nat.lt_of_lt_of_le hi hz) (by decide)
        · rw [upd_same, List.replicate_succ']
      · rintro H' ⟨sm, hd⟩
        walk_at "rd"
        refine rd_all (bs := List.replicate xs.length true) (SqL.of (by rw [List.map_replicate]; exact hd)) ?_
        exact q' _ _ (by simp) sm
    · walk_at "rd"
      refine rd_iteC (by rw [hl]; exact decide_eq_true rfl) ?_
      walk_at "rd"
      refine ⟨a, b, xs, ys, rfl, .inr ⟨by walk_at "sq", by walk_at "sq", fun D hD => ?_⟩⟩
      have hD0 : H D = none := Same.free (by walk_at "same") hD
      refine lc_it xs.length (fun i H' => Same H H' ∧ H' D = some (.lst (List.replicate i (V.bl true)))) ?_ ?_ ?_ ?_ ?_
      · exact ⟨by walk_at "same", upd_same⟩
      · rintro i H' hi ⟨sm, -⟩
        exact ⟨xs, ys, xs[i], ys[i]'(hl ▸ hi), same_sqt sm ha, same_sqt sm hb, List.getElem?_eq_getElem hi, List.getElem?_eq_getElem (hl ▸ hi)⟩
      · rintro H' ⟨sm, -⟩
        exact ⟨xs, ys, same_sqt sm ha, same_sqt sm hb, .inl (Nat.le_refl _)⟩
      · rintro i H' x H2 hi ⟨sm, hd⟩ ⟨Tp, x1, y1, rfl, hT, rfl, f1, f2⟩
        walk_at "rd"
        refine ⟨rfl, ?_⟩
        walk_at "rd"
        refine use_like (Lk.mono (sm.trans (same_new hT _)) (h4 i x1 y1 (f1 xs (same_sqt sm ha)) (f2 ys (same_sqt sm hb)))) fun H4 s4 => ?_
        refine ⟨_, s4 D _ ((upd_ne (ne_of_none hd hT)).trans hd), ?_, same_mut ((sm.trans (same_new hT _)).trans s4) hD0, ?_⟩
        · rw [List.length_replicate]
          exact Nat.lt_of_lt_of_le (Nat.lt_of_lt_of_le hi hz) (by decide)
        · rw [upd_same, List.replicate_succ']
      · rintro H' ⟨sm, hd⟩
        walk_at "rd"
        refine rd_all (bs := List.replicate xs.length true) (SqL.of (by rw [List.map_replicate]; exact hd)) ?_
        exact q' _ _ (by simp) sm
theorem ok_like (T : Txt K mg) : ∀ n : Nat, Cal P w K mg base CX0 n "_law_like" s__law_like ["_law_found", "_law_due"] (spLike K n)
  | 0 => cal_never T.d__law_like (fun _ _ _ _ _ _ us hl => match us, hl with | [_, _], _ => rfl) fun vs H Q E h => by
    obtain ⟨x, y, _, h, _⟩ := h
    exact h
  | n + 1 => like_step T (ok_like T n)
end

structure BagAt (H : Hp) (b l : Addr) : Prop where
  ex : ∃ (ns : List Int) (i g s : Int), H b = some (.lst [.ref l, .int i, .int g, .int s]) ∧ H l = some (.lst (ns.map V.int)) ∧ 0 ≤ i ∧ ns.length ≤ 1000 ∧ 0 ≤ g ∧ 0 ≤ s ∧ s < 2147483587
  ne : b ≠ l
theorem BagAt.mk' {H : Hp} {b l : Addr} {ns : List Int} {i g s : Int} (hb : H b = some (.lst [.ref l, .int i, .int g, .int s])) (hl : H l = some (.lst (ns.map V.int))) (ne : b ≠ l) (i0 : 0 ≤ i) (nl : ns.length ≤ 1000) (g0 : 0 ≤ g) (s0 : 0 ≤ s) (s1 : s < 2147483587) : BagAt H b l :=
  ⟨⟨ns, i, g, s, hb, hl, i0, nl, g0, s0, s1⟩, ne⟩
theorem bag_mk {H H' : Hp} {b l : Addr} {ns : List Int} {i g s : Int} {xs : List V} (hl : H l = some (.lst (ns.map V.int))) (ne : b ≠ l) (bt : But b H H') (e : xs = [.ref l, .int i, .int g, .int s]) (i0 : 0 ≤ i) (nl : ns.length ≤ 1000) (g0 : 0 ≤ g) (s0 : 0 ≤ s) (s1 : s < 2147483587) : BagAt (upd H' b (.lst xs)) b l :=
  .mk' (by rw [e]; exact upd_same) ((upd_ne ne.symm).trans (bt l _ ne.symm hl)) ne i0 nl g0 s0 s1
def spDraw : Sp := fun vs H Q _ => ∃ (b l : Addr) (m : Int), vs = [.ref b, .int m] ∧ BagAt H b l ∧ 1 ≤ m ∧ m < 1073741824 ∧ ∀ r H', 0 ≤ r → r < m → BagAt H' b l → But b H H' → Q (.int r) H'
section
variable {P : Program} {w : World} {K : PySem.W.Frag} {mg : Str → Option Value} {base : Heap}
abbrev s__law_draw : Stmt := top 16
abbrev N__law_draw : List Str := ["_law_bag_here", "_law_many", "_law_cell", "_law_found", "_law_old"]
theorem sc__law_draw : FnScope N__law_draw ["_law_bag_here", "_law_many"] (defScope s__law_draw) := ⟨rfl, rfl, rfl, by decide +kernel, rfl, by decide +kernel, by decide +kernel⟩

theorem ok_draw (T : Txt K mg) : Cal P w K mg base CX0 1 "_law_draw" s__law_draw ["_law_bag_here", "_law_many"] spDraw := by
  refine cal_of T.d__law_draw sc__law_draw (fun _ _ _ _ _ _ us hl => match us, hl with | [_, _], _ => rfl) (fun vs H Q E h => ?_) (fun f cdv A outer s H vs Q E hr h => ?_)
  · obtain ⟨b, l, m, rfl, _⟩ := h
    rfl
  obtain ⟨b, l, m, rfl, B, m1, m2, q⟩ := h
  refine ⟨_, (pss_cons (ps_if (PW.pt (pw_and (pt_cmpR op_eq (pe_ix (k_ixL K) (pv 0) pe_int (fun _ _ => rfl)) pe_int (nomark _)) (pw_and1 (pt_cmpR op_lt (pe_ix (k_ixL K) (pv 0) pe_int (fun _ _ => rfl)) (pe_callB (k_len K) (by rfl) T.n_len PySem.boot_len (pa_cons (pe_ix (k_ixL K) (pv 0) pe_int (fun _ _ => rfl)) pa_nil)) (nomark _)))))
 (pss_cons (ps_set (i := 2) sc__law_draw.nd rfl (by first | exact Or.inl rfl | exact Or.inr rfl) (pe_ix (k_ixL K) (pe_ix (k_ixL K) (pv 0) pe_int (fun _ _ => rfl)) (pe_ix (k_ixL K) (pv 0) pe_int (fun _ _ => rfl)) (fun _ _ => rfl)))
 (pss_cons (ps_asg (pe_op op_add (pe_ix (k_ixL K) (pv 0) pe_int (fun _ _ => rfl)) pe_int) (pg_sub (pv 0) pe_int set_list))
 (pss_one (ps_if (pt_cmpR op_ge (pv 2) (pe_op op_pow pe_int pe_int) (nomark _))
 (pss_one (ps_asg (pv 2) (pg_sub (pv 0) pe_int set_list)))
 (pss_one (ps_asg (pe_op op_mod (pe_callTy k_int1 (by rfl) T.n_int (by decide +kernel) (pa_cons (pe_op op_add (pe_op op_add (pe_op op_mul (pe_ix (k_ixL K) (pv 0) pe_int (fun _ _ => rfl)) pe_int) (pe_op op_mul (pe_op op_mod (pe_callTy k_int1 (by rfl) T.n_int (by decide +kernel) (pa_cons (pv 2) pa_nil)) pe_int) pe_int)) (pe_ix (k_ixL K) (pv 0) pe_int (fun _ _ => rfl))) pa_nil)) pe_int) (pg_sub (pv 0) pe_int set_list)))))))
 pss_nil)
 (pss_cons (ps_if (pt_cmpR op_gt (pe_ix (k_ixL K) (pv 0) pe_int (fun _ _ => rfl)) pe_int (nomark _))
 (pss_cons (ps_set (i := 3) sc__law_draw.nd rfl (by first | exact Or.inl rfl | exact Or.inr rfl) (pe_op op_mod (pe_callTy k_int1 (by rfl) T.n_int (by decide +kernel) (pa_cons (pe_ix (k_ixL K) (pv 0) pe_int (fun _ _ => rfl)) pa_nil)) (pv 1)))
 (pss_cons (ps_asg (pe_op op_fdiv (pe_ix (k_ixL K) (pv 0) pe_int (fun _ _ => rfl)) (pv 1)) (pg_sub (pv 0) pe_int set_list))
 (pss_one (ps_ret (pv 3)))))
 pss_nil)
 (pss_cons (ps_set (i := 4) sc__law_draw.nd rfl (by first | exact Or.inl rfl | exact Or.inr rfl) (pe_ix (k_ixL K) (pv 0) pe_int (fun _ _ => rfl)))
 (pss_cons (ps_asg (pe_op op_mod (pe_callTy k_int1 (by rfl) T.n_int (by decide +kernel) (pa_cons (pe_op op_add (pe_op op_add (pe_op op_mul (pv 4) (pv 4)) (pe_op op_mul (pv 4) pe_int)) pe_int) pa_nil)) pe_int) (pg_sub (pv 0) pe_int set_list))
 (pss_one (ps_ret (pe_op op_mod (pe_callTy k_int1 (by rfl) T.n_int (by decide +kernel) (pa_cons (pe_op op_add (pe_op op_fdiv (pe_ix (k_ixL K) (pv 0) pe_int (fun _ _ => rfl)) pe_int) (pe_op op_mul (pe_op op_mod (pe_callTy k_int1 (by rfl) T.n_int (by decide +kernel) (pa_cons (pe_ix (k_ixL K) (pv 0) pe_int (fun _ _ => rfl)) pa_nil)) pe_int) pe_int)) pa_nil)) (pv 1)))))))), ?_⟩
  obtain ⟨⟨ns, i, g, sd, hb, hl, i0, nl, g0, s0, s1⟩, ne⟩ := id B
  refine rd_cut (fun σ' H' => ∃ c x, σ' = [some (.ref b), some (.int m), c, x, none] ∧ BagAt H' b l ∧ But b H H') (fun nx hnx => ?_) ?_
  · walk_at "rd"
    refine ite2 (fun c => ?_) (fun c => ?_)
    · walk_at "rd"
      refine ite2 (fun c2 => ?_) (fun c2 => ?_)
      · have c3 : i < ((ns.map V.int).length : Int) := of_decide_eq_true c2
        have c4 : i.toNat < ns.length := by rw [List.length_map] at c3; omega
        have ea : atI (ns.map V.int) i = some (.int ns[i.toNat]) := by
          have q1 : atI (ns.map V.int) ((i.toNat : Nat) : Int) = some (.int ns[i.toNat]) := atI_nat (by rw [List.getElem?_map, List.getElem?_eq_getElem c4] <;> rfl)
          rw [Int.toNat_of_nonneg i0] at q1
          exact q1
        walk_at "rd"
        refine rd_ixL (by walk_at "sq") ea ?_
        walk_at "rd"
        refine ite2 (fun c5 => ?_) (fun c5 => ?_)
        · have c6 : (10 ^ 18 : Int) ≤ ns[i.toNat] := of_decide_eq_true c5
          walk_at "rd"
          exact hnx _ _ ⟨_, _, rfl, bag_mk hl ne But.upd rfl (by omega) nl (by omega) s0 s1, But.upd.up⟩
        · walk_at "rd"
          exact hnx _ _ ⟨_, _, rfl, bag_mk hl ne But.upd rfl (by omega) nl g0 (by omega) (by omega), But.upd.up⟩
      · walk_at "rd"
        exact hnx _ _ ⟨_, _, rfl, B, But.refl b H⟩
    · walk_at "rd"
      exact hnx _ _ ⟨_, _, rfl, B, But.refl b H⟩
  · rintro σ' H' ⟨c, x, rfl, B', bt⟩
    obtain ⟨⟨ns, i, g, sd, hb, hl, i0, nl, g0, s0, s1⟩, -⟩ := B'
    walk_at "rd"
    refine ite2 (fun c => ?_) (fun c => ?_)
    · have c3 : 0 < g := of_decide_eq_true c
      walk_at "rd"
      have h0 := Int.emod_nonneg g (show m ≠ 0 by omega)
      have h1 := Int.emod_lt_of_pos g (show 0 < m by omega)
      have h2 := Int.ediv_nonneg (a := g) (b := m) (by omega) (by omega)
      exact q _ _ h0 h1 (bag_mk hl ne (But.refl b H') rfl i0 nl h2 s0 s1) bt.up
    · walk_at "rd"
      refine q _ _ (Int.emod_nonneg _ (by omega)) (Int.emod_lt_of_pos _ (by omega)) (bag_mk hl ne (But.refl b H') rfl i0 nl g0 (Int.emod_nonneg _ (by omega)) (Int.emod_lt_of_pos _ (by omega))) bt.up
theorem use_draw {b l : Addr} {m : Int} {H : Hp} {Q : VK} {E : XK} (B : BagAt H b l) (h1 : 1 ≤ m) (h2 : m < 1073741824) (q : ∀ r H', 0 ≤ r → r < m → BagAt H' b l → But b H H' → Q (.int r) H') : spDraw [.ref b, .int m] H Q E := ⟨b, l, m, rfl, B, h1, h2, q⟩
/-! the bag -/
def spBag (K : PySem.W.Frag) : Sp := fun vs H Q _ => ∃ (a : Addr) (ns : List Int), vs = [.ref a] ∧ SqL K H a (ns.map V.int) ∧ ns.length ≤ 63 ∧ ∀ b l H', H b = none → H l = none → Same H H' → BagAt H' b l → Q (.ref b) H'
theorem cut_ints (ns : List Int) (lo hi : Option Int) : ∃ ms : List Int, cutV (ns.map V.int) lo hi = ms.map V.int ∧ ms.length ≤ ns.length := by
  unfold cutV
  rw [← List.map_drop, ← List.map_take]
  refine ⟨_, rfl, ?_⟩
  rw [List.length_take, List.length_drop]
  omega
theorem int_at {ns : List Int} {i : Nat} {x : V} (h : (ns.map V.int)[i]? = some x) : ∃ n, x = .int n := by
  rw [List.getElem?_map] at h
  cases e : ns[i]? with
  | none => rw [e] at h; cases h
  | some z => rw [e] at h; exact ⟨z, (Option.some.inj h).symm⟩
abbrev s__law_bag : Stmt := top 15
abbrev N__law_bag : List Str := ["_law_script", "_law_seed", "_law_cell"]
theorem sc__law_bag : FnScope N__law_bag ["_law_script"] (defScope s__law_bag) := ⟨rfl, rfl, rfl, by decide +kernel, rfl, by decide +kernel, by decide +kernel⟩

theorem ok_bag (T : Txt K mg) : Cal P w K mg base CX0 1 "_law_bag" s__law_bag ["_law_script"] (spBag K) := by
  refine cal_of T.d__law_bag sc__law_bag (fun _ _ _ _ _ _ us hl => match us, hl with | [_], _ => rfl) (fun vs H Q E h => ?_) (fun f cdv A outer s H vs Q E hr h => ?_)
  · obtain ⟨a, ns, rfl, _⟩ := h
    rfl
  obtain ⟨a, ns, rfl, hS, hn, q⟩ := h
  refine ⟨_, (pss_cons (ps_set (i := 1) sc__law_bag.nd rfl (by first | exact Or.inl rfl | exact Or.inr rfl) (pe_op op_add pe_int (pe_op op_mul pe_int (pe_callB (k_len K) (by rfl) T.n_len PySem.boot_len (pa_cons (pe_slice (k_slL K) (pv 0) po_none (po_some pe_int)) pa_nil)))))
 (pss_cons (ps_for PassesOwn.never rfl (kpi_list K (pe_slice (k_slL K) (pv 0) po_none (po_some pe_int))) (pg_name (i := 2) sc__law_bag.nd rfl (by first | exact Or.inl rfl | exact Or.inr rfl))
 (pss_one (ps_set (i := 1) sc__law_bag.nd rfl (by first | exact Or.inl rfl | exact Or.inr rfl) (pe_op op_mod (pe_callTy k_int1 (by rfl) T.n_int (by decide +kernel) (pa_cons (pe_op op_add (pe_op op_add (pe_op op_mul (pv 1) pe_int) (pe_op op_mod (pe_callTy k_int1 (by rfl) T.n_int (by decide +kernel) (pa_cons (pv 2) pa_nil)) pe_int)) pe_int) pa_nil)) pe_int))))
 (pss_one (ps_ret (pe_lst (pa_cons (pe_callTy (k_list K) (by rfl) T.n_list (by decide +kernel) (pa_cons (pe_slice (k_slL K) (pv 0) po_none (po_some pe_int)) pa_nil)) (pa_cons pe_int (pa_cons pe_int (pa_cons (pv 1) pa_nil))))))))), ?_⟩
  obtain ⟨ms, em, lm⟩ := cut_ints ns none (some 63)
  walk_at "rd"
  rename_i p1 hp1 p2 hp2
  rw [em] at hp2 ⊢
  refine for_list (xs := ms.map V.int) (fun i σ H' => ∃ (sd : Int) (c : Option V), σ = [some (.ref a), some (.int sd), c] ∧ Same H H' ∧ H' p2 = some (.lst (ms.map V.int)) ∧ 0 ≤ sd ∧ sd < 2147483587) ?_ ?_ ?_ ?_
  · refine ⟨_, none, rfl, by walk_at "same", upd_same, ?_, ?_⟩
    · rw [List.length_map]; omega
    · rw [List.length_map]; omega
  · rintro i σ H' hi ⟨sd, c, rfl, sm, h2, _⟩
    exact SqL.of h2
  · rintro i x σ H' hx ⟨sd, c, rfl, sm, h2, h3, h4⟩
    obtain ⟨n, rfl⟩ := int_at hx
    walk_at "rd"
    exact ⟨_, _, rfl, sm, h2, Int.emod_nonneg _ (by decide), Int.emod_lt_of_pos _ (by decide)⟩
  · rintro σ H' ⟨sd, c, rfl, sm, h2, h3, h4⟩
    have hS' : SqL K H' a (ns.map V.int) := sm.seq hS
    walk_at "rd"
    rename_i p3 hp3 p4 hp4 p5 hp5
    have f5 : H p5 = none := Same.free (by walk_at "same") hp5
    have f4 : H p4 = none := Same.free (by walk_at "same") hp4
    refine q p5 p4 _ f5 f4 (by walk_at "same") ⟨⟨ms, 0, 0, sd, upd_same, ?_, by omega, by omega, by omega, h3, h4⟩, ?_⟩
    · rw [← em]; walk_at "hp"
    · exact Ne.symm (ne_of_none upd_same hp5)
end

/-- a row to draw from, with its items -/
def RowAt (K : PySem.W.Frag) (H : Hp) (b : Addr) : V → List V → Prop
  | .ref p, xs => p ≠ b ∧ (SqL K H p xs ∨ SqT K H p xs)
  | .str z, xs => xs = z.cps.toList.map (fun c => V.str ⟨#[c]⟩) ∧ z.length ≤ sizeLine
  | _, _ => False
theorem RowAt.len {K : PySem.W.Frag} {H : Hp} {b : Addr} {x : V} {xs : List V} (h : RowAt K H b x xs) : LenV K x H xs.length := by
  cases x with
  | ref p =>
    rcases h.2 with h | h
    · exact .inl ⟨xs, h, rfl⟩
    · exact .inr ⟨xs, h, rfl⟩
  | str z =>
    obtain ⟨rfl, h2⟩ := h
    exact ⟨h2, by rw [List.length_map]; simp [Str.length]⟩
  | _ => exact h.elim
def spAny (K : PySem.W.Frag) : Sp := fun vs H Q _ => ∃ (b l : Addr) (x : V) (xs : List V), vs = [.ref b, x] ∧ BagAt H b l ∧ RowAt K H b x xs ∧ 1 ≤ xs.length ∧ xs.length < 1073741824 ∧
  ∀ (i : Nat) (v : V) (H' : Hp), xs[i]? = some v → BagAt H' b l → But b H H' → Q v H'
theorem use_any {K : PySem.W.Frag} {b l : Addr} {x : V} {xs : List V} {H : Hp} {Q : VK} {E : XK} (B : BagAt H b l) (h : RowAt K H b x xs) (h1 : 1 ≤ xs.length) (h2 : xs.length < 1073741824)
    (q : ∀ (i : Nat) (v : V) (H' : Hp), xs[i]? = some v → BagAt H' b l → But b H H' → Q v H') : spAny K [.ref b, x] H Q E := ⟨b, l, x, xs, rfl, B, h, h1, h2, q⟩
section
variable {P : Program} {w : World} {K : PySem.W.Frag} {mg : Str → Option Value} {base : Heap}
abbrev s__law_any : Stmt := top 17
abbrev N__law_any : List Str := ["_law_bag_here", "_law_row"]
theorem sc__law_any : FnScope N__law_any ["_law_bag_here", "_law_row"] (defScope s__law_any) := ⟨rfl, rfl, rfl, by decide +kernel, rfl, by decide +kernel, by decide +kernel⟩

theorem ok_any (T : Txt K mg) : Cal P w K mg base CX0 2 "_law_any" s__law_any ["_law_bag_here", "_law_row"] (spAny K) := by
  have G__law_draw : Cal P w K mg base CX0 1 "_law_draw" s__law_draw ["_law_bag_here", "_law_many"] spDraw := ok_draw T
  refine cal_of T.d__law_any sc__law_any (fun _ _ _ _ _ _ us hl => match us, hl with | [_, _], _ => rfl) (fun vs H Q E h => ?_) (fun f cdv A outer s H vs Q E hr h => ?_)
  · obtain ⟨b, l, x, xs, rfl, _⟩ := h
    rfl
  obtain ⟨b, l, x, xs, rfl, B, hx, h1, h2, q⟩ := h
  refine ⟨_, (pss_one (ps_ret (pe_ix (k_ixA K) (pv 1) (pe_cal G__law_draw (hr.mono (by omega)) pass0 (pa_cons (pv 0) (pa_cons (pe_callB (k_lenA K) (by rfl) T.n_len PySem.boot_len (pa_cons (pv 1) pa_nil)) pa_nil))) (fun _ _ => rfl)))), ?_⟩
  walk_at "rd"
  refine ⟨x, _, rfl, hx.len, ?_⟩
  walk_at "rd"
  refine use_draw B (by omega) (by omega) fun r H' r0 r1 B' bt => ?_
  have hk : r.toNat < xs.length := by omega
  have ea : ∀ {ys : List V}, ys = xs → atI ys r = some xs[r.toNat] := by
    rintro ys rfl
    have q1 : atI ys ((r.toNat : Nat) : Int) = some ys[r.toNat] := atI_nat (List.getElem?_eq_getElem hk)
    rw [Int.toNat_of_nonneg r0] at q1
    exact q1
  have fin := q r.toNat xs[r.toNat] H' (List.getElem?_eq_getElem hk) B' bt
  cases x with
  | ref p =>
    rcases hx with ⟨n, h | h⟩
    · exact .inl ⟨p, xs, r, _, rfl, rfl, but_sq bt n h, ea rfl, fin⟩
    · exact .inr (.inl ⟨p, xs, r, _, rfl, rfl, but_st bt n h, ea rfl, fin⟩)
  | str z =>
    obtain ⟨e, h2⟩ := hx
    have hk2 : r.toNat < z.cps.toList.length := by rw [e, List.length_map] at hk; exact hk
    refine .inr (.inr ⟨z, r, z.cps.toList[r.toNat], rfl, rfl, h2, ?_, ?_⟩)
    · have q1 : atI z.cps.toList ((r.toNat : Nat) : Int) = some z.cps.toList[r.toNat] := atI_nat (List.getElem?_eq_getElem hk2)
      rw [Int.toNat_of_nonneg r0] at q1
      exact q1
    · have e2 : xs[r.toNat] = V.str ⟨#[z.cps.toList[r.toNat]]⟩ := by
        have := List.getElem?_eq_getElem hk
        have e3 : xs[r.toNat]? = some (V.str ⟨#[z.cps.toList[r.toNat]]⟩) := by rw [e, List.getElem?_map, List.getElem?_eq_getElem hk2]; rfl
        rw [this] at e3
        exact Option.some.inj e3
      rw [← e2]
      exact fin
  | _ => exact hx.elim
end

/-- the kind of a value, exactly -/
def fits : Kd → V → Prop
  | .non, .non => True | .bl, .bl _ => True | .int, .int _ => True | .str, .str _ => True | .lst, .ref _ => True | .tup, .ref _ => True | .dct, .ref _ => True
  | _, _ => False
structure Kin (K : PySem.W.Frag) (H : Hp) (v : V) (k : Kd) : Prop where
  is : Is K H v k
  fit : fits k v
section
variable {K : PySem.W.Frag} {H : Hp} {a : Addr} {xs : List V}
theorem Kin.non : Kin K H .non .non := ⟨Is.non, trivial⟩
theorem Kin.bl {b : Bool} : Kin K H (.bl b) .bl := ⟨Is.bl, trivial⟩
theorem Kin.int {i : Int} : Kin K H (.int i) .int := ⟨Is.int, trivial⟩
theorem Kin.str {z : Str} : Kin K H (.str z) .str := ⟨Is.str, trivial⟩
theorem Kin.lst (h : SqL K H a xs) : Kin K H (.ref a) .lst := ⟨Is.lst h, trivial⟩
theorem Kin.tup (h : SqT K H a xs) : Kin K H (.ref a) .tup := ⟨Is.tup h, trivial⟩
end
/-- a lower case letter -/
def low (c : Nat) : Bool := decide (97 ≤ c) && decide (c ≤ 122)
def nameS (z : Str) : Bool := decide (1 ≤ z.length) && decide (z.length ≤ 8) && z.cps.toList.all low
def nameV : V → Bool
  | .str z => nameS z
  | _ => false
def numV : V → V → V → Bool
  | .int i, .int a, .int b => decide (a ≤ i) && decide (i ≤ b)
  | _, _, _ => false
theorem numV_int (i a b : Int) : numV (.int i) (.int a) (.int b) = (decide (a ≤ i) && decide (i ≤ b)) := rfl
def spName (K : PySem.W.Frag) : Sp := fun vs H Q _ => ∃ v k, vs = [v] ∧ Kin K H v k ∧ (∀ z, v = .str z → z.length ≤ sizeLine) ∧ ∀ H', Same H H' → Q (.bl (nameV v)) H'
def spNumber (K : PySem.W.Frag) : Sp := fun vs H Q _ => ∃ v x y k, vs = [v, x, y] ∧ Kin K H v k ∧ (∀ i, v = .int i → (∃ a, x = .int a) ∧ ∃ b, y = .int b) ∧ Q (.bl (numV v x y)) H
theorem use_name {K : PySem.W.Frag} {v : V} {k : Kd} {H : Hp} {Q : VK} {E : XK} (h : Kin K H v k) (hz : ∀ z, v = .str z → z.length ≤ sizeLine) (q : ∀ H', Same H H' → Q (.bl (nameV v)) H') : spName K [v] H Q E := ⟨v, k, rfl, h, hz, q⟩
theorem use_number {K : PySem.W.Frag} {v x y : V} {k : Kd} {H : Hp} {Q : VK} {E : XK} (h : Kin K H v k) (hz : ∀ i, v = .int i → (∃ a, x = .int a) ∧ ∃ b, y = .int b) (q : Q (.bl (numV v x y)) H) : spNumber K [v, x, y] H Q E := ⟨v, x, y, k, rfl, h, hz, q⟩
theorem in_letters (c : Nat) : decide (c ∈ (Str.ofString "abcdefghijklmnopqrstuvwxyz").cps.toList) = low c := by
  have e : (Str.ofString "abcdefghijklmnopqrstuvwxyz").cps.toList = List.range' 97 26 := by decide +kernel
  rw [e]
  unfold low
  rw [← Bool.decide_and]
  apply decide_eq_decide.mpr
  rw [List.mem_range'_1]
  omega
theorem Kin.same {K : PySem.W.Frag} {H H' : Hp} {v : V} {k : Kd} (e : Same H H') (h : Kin K H v k) : Kin K H' v k := ⟨same_is e h.is, h.fit⟩
section
variable {P : Program} {w : World} {K : PySem.W.Frag} {mg : Str → Option Value} {base : Heap}
abbrev s_is_name : Stmt := top 9
abbrev N_is_name : List Str := ["value", "sign"]
theorem sc_is_name : FnScope N_is_name ["value"] (defScope s_is_name) := ⟨rfl, rfl, rfl, by decide +kernel, rfl, by decide +kernel, by decide +kernel⟩
abbrev s_is_number : Stmt := top 10
abbrev N_is_number : List Str := ["value", "least", "most"]
theorem sc_is_number : FnScope N_is_number ["value", "least", "most"] (defScope s_is_number) := ⟨rfl, rfl, rfl, by decide +kernel, rfl, by decide +kernel, by decide +kernel⟩

theorem ok_is_name (T : Txt K mg) : Cal P w K mg base CX0 1 "is_name" s_is_name ["value"] (spName K) := by
  refine cal_of T.d_is_name sc_is_name (fun _ _ _ _ _ _ us hl => match us, hl with | [_], _ => rfl) (fun vs H Q E h => ?_) (fun f cdv A outer s H vs Q E hr h => ?_)
  · obtain ⟨v, k, rfl, _⟩ := h
    rfl
  obtain ⟨v, k, rfl, ⟨hi, hf⟩, hz, q⟩ := h
  refine ⟨_, (pss_cons (ps_if (PW.pt (pw_or (pt_not (pt_val (pe_callB (k_isi K) (by rfl) T.n_isinstance (by decide +kernel) (pa_cons (pv 0) (pa_cons (pe_ty "str" rfl T.n_str (by decide +kernel)) pa_nil))))) (pw_or1 (pt_not (pt_chain op_le op_le pe_int (pe_callB k_lenS (by rfl) T.n_len PySem.boot_len (pa_cons (pv 0) pa_nil)) (pe_gint rfl T.g_LONGEST_NAME))))))
 (pss_one (ps_ret pe_bl))
 pss_nil)
 (pss_one (ps_ret (pe_callB (k_all K) (by rfl) T.n_all (by decide +kernel) (pa_cons (pe_lc (own := [("sign", 1)]) (g := gName 1) (tt := tYes) rfl sc_is_name.nd (pi_str (pv 0)) (blkOk_by (own := [("sign", 1)]) (N := N_is_name) (sc := defScope s_is_name) (by decide +kernel)) (fun _ _ _ _ _ => (pg_name (i := 1) sc_is_name.nd rfl (by first | exact Or.inl rfl | exact Or.inr rfl))) (fun _ _ _ _ _ => pts_nil) (fun _ _ _ _ _ => (pe_cmpR k_inSign (pv 1) (pe_gstr rfl T.g_LETTERS) (by rfl)))) pa_nil))))), ?_⟩
  walk_at "rd"
  by_cases hs : k.sub .str = true
  · cases k <;> cases v <;> first | exact hf.elim | exact absurd hs (by decide) | skip
    rename_i z
    walk_at "rd"
    have hz' := hz z rfl
    refine rd_lenS hz' ?_
    walk_at "rd"
    have h1 : nameV (.str z) = (decide ((1 : Int) ≤ z.length) && decide ((z.length : Int) ≤ 8) && z.cps.toList.all low) := by
      show (decide (1 ≤ z.length) && decide (z.length ≤ 8) && z.cps.toList.all low) = _
      congr 2
      · exact decide_eq_decide.mpr (by omega)
      · exact decide_eq_decide.mpr (by omega)
    refine ite2 (fun c => ?_) (fun c => ?_)
    · walk_at "rd"
      refine ite2 (fun c2 => ?_) (fun c2 => ?_)
      · have c3 : decide ((z.length : Int) ≤ 8) = false := by simpa using c2
        walk_at "rd"
        have e : nameV (.str z) = false := by rw [h1, c3]; simp
        exact e ▸ q _ (Same.refl H)
      · have c3 : decide ((z.length : Int) ≤ 8) = true := by simpa using c2
        walk_at "rd"
        intro D hD
        refine lc_it z.cps.toList.length (fun i H' => Same H H' ∧ H' D = some (.lst ((z.cps.toList.take i).map (fun c => V.bl (low c))))) ?_ ?_ ?_ ?_ ?_
        · exact ⟨by walk_at "same", upd_same⟩
        · rintro i H' hi -
          show i < z.cps.size
          simpa using hi
        · rintro H' -
          show z.cps.size ≤ z.cps.toList.length
          simp
        · rintro i H' x H2 hi ⟨sm, hd⟩ ⟨rfl, ch, hc, rfl⟩
          walk_at "rd"
          refine ⟨rfl, ?_⟩
          walk_at "rd"
          rw [in_letters]
          refine ⟨_, hd, ?_, same_mut sm hD, ?_⟩
          · rw [List.length_map, List.length_take]
            have : z.length = z.cps.toList.length := by simp [Str.length]
            have h8 : (z.length : Int) ≤ 8 := of_decide_eq_true c3
            exact Nat.lt_of_le_of_lt (show _ ≤ 8 by omega) (by decide)
          · have hc' : z.cps.toList[i]? = some ch := by rw [Array.getElem?_toList]; exact hc
            rw [upd_same, List.take_add_one, hc', List.map_append]
            rfl
        · rintro H' ⟨sm, hd⟩
          walk_at "rd"
          refine rd_all (bs := z.cps.toList.map low) (SqL.of (by rw [List.take_length] at hd; rw [List.map_map]; exact hd)) ?_
          have e : nameV (.str z) = (z.cps.toList.map low).all id := by
            rw [h1, c3, c, List.all_map]
            simp
          exact e ▸ q _ sm
    · have c3 : decide ((1 : Int) ≤ z.length) = false := by simpa using c
      walk_at "rd"
      have e : nameV (.str z) = false := by rw [h1, c3]; simp
      exact e ▸ q _ (Same.refl H)
  · have hs' : k.sub .str = false := by simpa using hs
    refine rd_iteC (by rw [hs']; rfl) ?_
    walk_at "rd"
    have e : nameV v = false := by cases k <;> cases v <;> first | exact hf.elim | rfl | exact absurd hs' (by decide)
    exact e ▸ q _ (Same.refl H)
theorem ok_is_number (T : Txt K mg) : Cal P w K mg base CX0 1 "is_number" s_is_number ["value", "least", "most"] (spNumber K) := by
  refine cal_of T.d_is_number sc_is_number (fun _ _ _ _ _ _ us hl => match us, hl with | [_, _, _], _ => rfl) (fun vs H Q E h => ?_) (fun f cdv A outer s H vs Q E hr h => ?_)
  · obtain ⟨v, x, y, k, rfl, _⟩ := h
    rfl
  obtain ⟨v, x, y, k, rfl, ⟨hi, hf⟩, hz, q⟩ := h
  refine ⟨_, (pss_one (ps_ret (pe_and (pe_callB (k_isi K) (by rfl) T.n_isinstance (by decide +kernel) (pa_cons (pv 0) (pa_cons (pe_ty "int" rfl T.n_int (by decide +kernel)) pa_nil))) (pe_and (pe_not (pe_callB (k_isi K) (by rfl) T.n_isinstance (by decide +kernel) (pa_cons (pv 0) (pa_cons (pe_ty "bool" rfl T.n_bool (by decide +kernel)) pa_nil)))) (pe_one (pe_chain op_le op_le (pv 1) (pv 0) (pv 2))))))), ?_⟩
  walk_at "rd"
  cases k <;> cases v <;> first | exact hf.elim | skip
  all_goals walk_at "rd"
  all_goals try exact q
  rename_i i
  obtain ⟨⟨a, rfl⟩, b, rfl⟩ := hz i rfl
  walk_at "rd"
  refine ite2 (fun c => ?_) (fun c => ?_)
  · walk_at "rd"
    have e : numV (.int i) (.int a) (.int b) = decide (i ≤ b) := by show (decide (a ≤ i) && decide (i ≤ b)) = _; rw [c]; rfl
    exact e ▸ q
  · have c' : decide (a ≤ i) = false := by simpa using c
    have e : numV (.int i) (.int a) (.int b) = false := by show (decide (a ≤ i) && decide (i ≤ b)) = _; rw [c']; rfl
    exact e ▸ q
end

theorem but_none {H H' : Hp} {b p : Addr} (e : But b H H') (n : p ≠ b) (h : H' p = none) : H p = none := by
  cases e1 : H p with
  | none => rfl
  | some o =>
    rw [e p o n e1] at h
    cases h
theorem but_mut {H H' : Hp} {b p : Addr} {o : HO} (e : But b H H') (h : H p = none) : But b H (upd H' p o) := fun a u n ha => by
  rw [upd_ne (ne_of_none ha h)]
  exact e a u n ha
theorem BagAt.same {H H' : Hp} {b l : Addr} (e : Same H H') (B : BagAt H b l) : BagAt H' b l := by
  obtain ⟨⟨ns, i, g, s, h1, h2, h3⟩, ne⟩ := B
  exact ⟨⟨ns, i, g, s, e _ _ h1, e _ _ h2, h3⟩, ne⟩
theorem BagAt.new {H : Hp} {b l p : Addr} {o : HO} (hp : H p = none) (B : BagAt H b l) : BagAt (upd H p o) b l := B.same (same_new hp o)
theorem BagAt.off {H : Hp} {b l p : Addr} (hp : H p = none) (B : BagAt H b l) : p ≠ b := by
  obtain ⟨⟨ns, i, g, s, h1, _⟩, ne⟩ := B
  exact Ne.symm (ne_of_none h1 hp)
theorem BagAt.offl {H : Hp} {b l p : Addr} (hp : H p = none) (B : BagAt H b l) : p ≠ l := by
  obtain ⟨⟨ns, i, g, s, h1, h2, _⟩, ne⟩ := B
  exact Ne.symm (ne_of_none h2 hp)
theorem BagAt.mut {H : Hp} {b l p : Addr} {o : HO} (n1 : p ≠ b) (n2 : p ≠ l) (B : BagAt H b l) : BagAt (upd H p o) b l := by
  obtain ⟨⟨ns, i, g, s, h1, h2, h3⟩, ne⟩ := B
  exact ⟨⟨ns, i, g, s, (upd_ne n1.symm).trans h1, (upd_ne n2.symm).trans h2, h3⟩, ne⟩
theorem len_app (x y : Str) : (x ++ y).length = x.length + y.length := by
  show (x.cps ++ y.cps).size = _
  rw [Array.size_append]; rfl
theorem all_app {p : Nat → Bool} (x y : Str) : (x ++ y).cps.toList.all p = (x.cps.toList.all p && y.cps.toList.all p) := by
  show (x.cps ++ y.cps).toList.all p = _
  rw [Array.toList_append, List.all_append]
local macro_rules | `(tactic| walk_at "bag") => `(tactic| first | assumption | ((with_reducible refine' BagAt.new ?h1 ?h2); (case h1 => assumption); (case h2 => walk_at "bag")) | ((with_reducible refine' BagAt.same ?h1 ?h2); (case h1 => assumption); (case h2 => walk_at "bag")))
theorem Lk.plain {K : PySem.W.Frag} {H : Hp} {n : Nat} {x : V} (h : Plain x) : Lk K H (n + 1) x x := .inl ⟨rfl, h⟩
theorem Lk.eq {K : PySem.W.Frag} {H : Hp} {n : Nat} {x y : V} (e : x = y) (h : Plain x) : Lk K H (n + 1) x y := .inl ⟨e, h⟩
theorem Lk.lists {K : PySem.W.Frag} {H : Hp} {n : Nat} {a b : Addr} {xs ys : List V} (ha : SqL K H a xs) (hb : SqL K H b ys) (e : xs = ys) (hz : xs.length ≤ 100000) (hp : ∀ x ∈ xs, Plain x) : Lk K H (n + 2) (.ref a) (.ref b) := by
  subst e
  refine .inr ⟨a, b, xs, xs, rfl, rfl, .inl ⟨ha, hb⟩, rfl, hz, fun i x y h1 h2 => ?_⟩
  rw [h1] at h2
  cases h2
  exact .inl ⟨rfl, hp x (List.mem_of_getElem? h1)⟩
def spLaw (K : PySem.W.Frag) : Sp := fun vs H Q _ => ∃ (a : Addr) (ns : List Int), vs = [.ref a] ∧ SqL K H a (ns.map V.int) ∧ ns.length ≤ 63 ∧ ∀ H', Q (.bl true) H'
theorem rd_bm {K : PySem.W.Frag} {T : String} {r : V → List V → Hp → VK → Prop} {to : TE} {t : TA} {σ : L2.St} {H : Hp} {Q : VK} (h : to σ H fun x H1 => tyV K T x H1 ∧ t σ H1 fun xs H2 => r x xs H2 Q) : tBM K T r to t σ H Q := h
theorem rd_tyL {K : PySem.W.Frag} {a : Addr} {H : Hp} {xs : List V} {A : Prop} (h : H a = some (.lst xs)) (q : A) : tyV K "list" (.ref a) H ∧ A := ⟨.inl ⟨rfl, xs, SqL.of h⟩, q⟩
theorem rd_append {a : Addr} {H : Hp} {xs : List V} {y : V} {Q : VK} (h : H a = some (.lst xs)) (hz : xs.length < sizeLine) (q : Q .non (upd H a (.lst (xs ++ [y])))) : rAppend (.ref a) [y] H Q := ⟨a, xs, y, rfl, rfl, h, hz, q⟩

/-- an entry of a ring -/
def Ent : V → Prop
  | .non => True
  | .str z => nameS z = true
  | _ => False
theorem Ent.plain {v : V} (h : Ent v) : Plain v := by
  cases v <;> first | exact h.elim | trivial
structure RingAt (K : PySem.W.Frag) (C : Addr) (H : Hp) (a r : Addr) (xs : List V) : Prop where
  a_ : ∃ dx, H a = some (.ins C dx [("rows", .ref r)])
  r_ : H r = some (.lst xs)
  n1 : 1 ≤ xs.length
  n2 : xs.length ≤ 1000
  en : ∀ v ∈ xs, Ent v
theorem RingAt.ne {K : PySem.W.Frag} {C : Addr} {H : Hp} {a r : Addr} {xs : List V} (R : RingAt K C H a r xs) : a ≠ r := by
  obtain ⟨dx, h⟩ := R.a_
  rintro rfl
  rw [R.r_] at h
  cases h
theorem RingAt.same {K : PySem.W.Frag} {C : Addr} {H H' : Hp} {a r : Addr} {xs : List V} (e : Same H H') (R : RingAt K C H a r xs) : RingAt K C H' a r xs := by
  obtain ⟨⟨dx, h⟩, h2, h3, h4, h5⟩ := R
  exact ⟨⟨dx, e _ _ h⟩, e _ _ h2, h3, h4, h5⟩
theorem RingAt.but {K : PySem.W.Frag} {C : Addr} {H H' : Hp} {a r b : Addr} {xs : List V} (e : But b H H') (n1 : a ≠ b) (n2 : r ≠ b) (R : RingAt K C H a r xs) : RingAt K C H' a r xs := by
  obtain ⟨⟨dx, h⟩, h2, h3, h4, h5⟩ := R
  exact ⟨⟨dx, e _ _ n1 h⟩, e _ _ n2 h2, h3, h4, h5⟩
theorem ent_set {xs : List V} {v : V} {k : Nat} (h : ∀ v ∈ xs, Ent v) (e : Ent v) : ∀ u ∈ xs.set k v, Ent u := fun u hu => by
  rcases List.mem_or_eq_of_mem_set hu with h' | rfl
  · exact h u h'
  · exact e
theorem RingAt.set {K : PySem.W.Frag} {C : Addr} {H H' : Hp} {a r : Addr} {xs : List V} {v : V} {k : Nat} (R : RingAt K C H a r xs) (e : But r H H') (h : H' r = some (.lst (xs.set k v))) (ev : Ent v) : RingAt K C H' a r (xs.set k v) := by
  obtain ⟨⟨dx, h1⟩, h2, h3, h4, h5⟩ := id R
  exact ⟨⟨dx, e _ _ R.ne h1⟩, h, by rw [List.length_set]; exact h3, by rw [List.length_set]; exact h4, ent_set h5 ev⟩
/-- the spot of a depth -/
def spotN (d : Int) (n : Nat) : Nat := (d % (n : Int)).toNat
theorem spot_lt {d : Int} {n : Nat} (h : 1 ≤ n) : spotN d n < n := by
  have h1 := Int.emod_lt_of_pos d (show (0 : Int) < n by omega)
  have h0 := Int.emod_nonneg d (show (n : Int) ≠ 0 by omega)
  unfold spotN
  omega
theorem spot_eq {d : Int} {n : Nat} (h : 1 ≤ n) : d % (n : Int) = (spotN d n : Int) := by
  have h0 := Int.emod_nonneg d (show (n : Int) ≠ 0 by omega)
  unfold spotN
  omega
def at0 (xs : List V) (k : Nat) : V := xs.getD k .non
theorem at0_at {xs : List V} {k : Nat} (h : k < xs.length) : atI xs (k : Int) = some (at0 xs k) := atI_nat (by unfold at0; rw [List.getD_eq_getElem?_getD, List.getElem?_eq_getElem h]; rfl)
theorem at0_ent {xs : List V} {k : Nat} (h : ∀ v ∈ xs, Ent v) : Ent (at0 xs k) := by
  unfold at0
  rw [List.getD_eq_getElem?_getD]
  cases e : xs[k]? with
  | none => trivial
  | some v => exact h v (List.mem_of_getElem? e)
/-- how repr shows the entries -/
def word : V → Str
  | .str z => z
  | _ => "-"
def faceR (xs : List V) : Str := ((((("Ring(" : Str) ++ (Str.ofString (toString (xs.length : Int)))) ++ (": " : Str)) ++ Txt.join " " (xs.map word)) ++ (")" : Str))
def toD : V → PyData
  | .str z => .str z
  | _ => .none
theorem eqv_ent {xs : List V} : ∀ {ys : List V}, (∀ v ∈ xs, Ent v) → (∀ v ∈ ys, Ent v) → PyData.eqvAll (xs.map toD) (ys.map toD) = decide (xs = ys) := by
  induction xs with
  | nil =>
    intro ys _ _
    cases ys with
    | nil => rfl
    | cons y ys => rfl
  | cons x xs ih =>
    intro ys h1 h2
    cases ys with
    | nil => rfl
    | cons y ys =>
      show (PyData.eqv (toD x) (toD y) && PyData.eqvAll (xs.map toD) (ys.map toD)) = _
      rw [ih (fun v h => h1 v (List.mem_cons_of_mem _ h)) (fun v h => h2 v (List.mem_cons_of_mem _ h))]
      have e : PyData.eqv (toD x) (toD y) = decide (x = y) := by
        have a := h1 x (List.mem_cons_self ..)
        have b := h2 y (List.mem_cons_self ..)
        cases x <;> first | exact a.elim | skip
        all_goals cases y <;> first | exact b.elim | skip
        · rfl
        · rfl
        · rfl
        · rename_i z1 z2
          show (z1 == z2) = _
          rw [Bool.eq_iff_iff]
          simp
      rw [e, ← Bool.decide_and]
      exact decide_eq_decide.mpr (by simp)
theorem dp_ents {K : PySem.W.Frag} {H : Hp} {xs : List V} (h : ∀ v ∈ xs, Ent v) : DpAll K H xs (xs.map toD) := by
  induction xs with
  | nil => exact .nil
  | cons x xs ih =>
    refine .cons ?_ (ih fun v hv => h v (List.mem_cons_of_mem _ hv))
    have a := h x (List.mem_cons_self ..)
    cases x <;> first | exact a.elim | skip
    · exact .non
    · exact .str _
theorem name_len {z : Str} (h : nameS z = true) : z.length ≤ 8 := by
  unfold nameS at h
  rw [Bool.and_eq_true, Bool.and_eq_true] at h
  exact of_decide_eq_true h.1.2
theorem small {n : Nat} (h : n ≤ 100000) : n ≤ sizeLine := Nat.le_trans h (by rw [sizeLine_eq]; decide)
theorem shaped_ents {xs : List V} (en : ∀ v ∈ xs, Ent v) : SeqAt.shaped (.list (xs.map toD)) = true := by
  have h1 : PyData.canLayAll0 (xs.map toD) = true := by
    induction xs with
    | nil => rfl
    | cons x xs ih =>
      show (PyData.canLay0 (toD x) && PyData.canLayAll0 (xs.map toD)) = true
      rw [ih fun v hv => en v (List.mem_cons_of_mem _ hv), Bool.and_true]
      have a := en x (List.mem_cons_self ..)
      cases x <;> first | exact a.elim | rfl | skip
      rename_i z
      have a' : nameS z = true := a
      unfold nameS at a'
      rw [Bool.and_eq_true] at a'
      show PySem.PyData.strOk z = true
      unfold PySem.PyData.strOk
      rw [← Array.all_toList, List.all_eq_true]
      intro c hc
      have hl := List.all_eq_true.mp a'.2 c hc
      unfold low at hl
      rw [Bool.and_eq_true] at hl
      have h2 := of_decide_eq_true hl.2
      exact decide_eq_true (by omega)
  have h2 : ∀ xs : List V, PyData.depthAll (xs.map toD) ≤ 1 := by
    intro xs
    induction xs with
    | nil => decide
    | cons x xs ih =>
      show max (PyData.depth (toD x)) (PyData.depthAll (xs.map toD)) ≤ 1
      have : PyData.depth (toD x) ≤ 1 := by cases x <;> simp [toD, PyData.depth]
      omega
  show (PyData.canLayAll0 (xs.map toD) && decide (PyData.depthAll (xs.map toD) + 1 ≤ 64)) = true
  rw [h1, Bool.true_and]
  exact decide_eq_true (by have := h2 xs; omega)
theorem join_len (a : Str) : ∀ ys : List Str, (Txt.join a ys).length ≤ (ys.map (·.length)).sum + ys.length * a.length := by
  intro ys
  rw [show Txt.join a ys = Str.join a ys from PySem.StrLaws.glued_eq_join a ys]
  induction ys with
  | nil => exact Nat.zero_le _
  | cons y ys ih =>
    cases ys with
    | nil =>
      show y.length ≤ y.length + 0 + 1 * a.length
      omega
    | cons z ys =>
      show (y ++ a ++ Str.join a (z :: ys)).length ≤ y.length + ((z :: ys).map (·.length)).sum + ((z :: ys).length + 1) * a.length
      rw [len_app, len_app, Nat.add_mul]
      omega
theorem words_sum {xs : List V} (h : ∀ v ∈ xs, Ent v) : ((xs.map word).map (·.length)).sum ≤ 8 * xs.length := by
  induction xs with
  | nil => decide
  | cons x xs ih =>
    have h1 := ih fun v hv => h v (List.mem_cons_of_mem _ hv)
    have h2 : (word x).length ≤ 8 := by
      have a := h x (List.mem_cons_self ..)
      cases x <;> first | exact a.elim | skip
      · decide +kernel
      · rename_i z
        have a' : nameS z = true := a
        unfold nameS at a'
        rw [Bool.and_eq_true, Bool.and_eq_true] at a'
        exact of_decide_eq_true a'.1.2
    show (word x).length + ((xs.map word).map (·.length)).sum ≤ 8 * (xs.length + 1)
    omega
theorem dig_len {n : Nat} (h : n ≤ 1000) : (Str.ofString (toString (n : Int))).length ≤ 11 := by
  have e := int_text_length_le (a := (n : Int)) (k := 10) (by decide) (by
    show n.log2 < 10
    by_cases h0 : n = 0
    · subst h0; decide
    · exact (Nat.log2_lt h0).mpr (by omega))
  rw [PySem.ofString_length]
  exact e
theorem none_upd {H : Hp} {l p : Addr} {o : HO} (h : upd H l o p = none) : H p = none := by
  by_cases e : p = l
  · subst e; rw [upd_same] at h; cases h
  · rwa [upd_ne e] at h
theorem empty_app (x : Str) : Str.empty ++ x = x := by
  show (⟨#[] ++ x.cps⟩ : Str) = x
  simp
def spRing (K : PySem.W.Frag) (C : Addr) : Sp := fun vs H Q _ => ∃ (x dx : Addr) (n : Int), vs = [.ref x, .int n] ∧ H x = some (.ins C dx []) ∧ 1 ≤ n ∧ n ≤ 1000 ∧
  ∀ r H', H r = none → But x H H' → RingAt K C H' x r (List.replicate n.toNat .non) → Q .non H'
def spLen (K : PySem.W.Frag) (C : Addr) : Sp := fun vs H Q _ => ∃ (a r : Addr) (xs : List V), vs = [.ref a] ∧ RingAt K C H a r xs ∧ Q (.int xs.length) H
def spSpot (K : PySem.W.Frag) (C : Addr) : Sp := fun vs H Q _ => ∃ (a r : Addr) (xs : List V) (d : Int), vs = [.ref a, .int d] ∧ RingAt K C H a r xs ∧ 0 ≤ d ∧ Q (.int (spotN d xs.length : Nat)) H
def spWrite (K : PySem.W.Frag) (C : Addr) : Sp := fun vs H Q _ => ∃ (a r : Addr) (xs : List V) (d : Int) (z : Str), vs = [.ref a, .int d, .str z] ∧ RingAt K C H a r xs ∧ 0 ≤ d ∧ nameS z = true ∧
  ∀ H', But r H H' → RingAt K C H' a r (xs.set (spotN d xs.length) (.str z)) → Q (at0 xs (spotN d xs.length)) H'
def spRestore (K : PySem.W.Frag) (C : Addr) : Sp := fun vs H Q _ => ∃ (a r : Addr) (xs : List V) (d : Int) (v : V), vs = [.ref a, .int d, v] ∧ RingAt K C H a r xs ∧ 0 ≤ d ∧ Ent v ∧
  ∀ H', But r H H' → RingAt K C H' a r (xs.set (spotN d xs.length) v) → Q .non H'
def spEntries (K : PySem.W.Frag) (C : Addr) : Sp := fun vs H Q _ => ∃ (a r : Addr) (xs : List V), vs = [.ref a] ∧ RingAt K C H a r xs ∧ ∀ l, H l = none → Q (.ref l) (upd H l (.lst xs))
def spGet (K : PySem.W.Frag) (C : Addr) : Sp := fun vs H Q _ => ∃ (a r : Addr) (xs : List V) (d : Int), vs = [.ref a, .int d] ∧ RingAt K C H a r xs ∧ 0 ≤ d ∧ Q (at0 xs (spotN d xs.length)) H
def spEqR (K : PySem.W.Frag) (C : Addr) : Sp := fun vs H Q _ => ∃ (a r : Addr) (xs : List V) (y : V), vs = [.ref a, y] ∧ RingAt K C H a r xs ∧
  ((∃ b r2 ys, y = .ref b ∧ RingAt K C H b r2 ys ∧ Q (.bl (decide (xs = ys))) H) ∨ (∃ k, Is K H y k ∧ Q (.bl false) H))
def spRepr (K : PySem.W.Frag) (C : Addr) : Sp := fun vs H Q _ => ∃ (a r : Addr) (xs : List V), vs = [.ref a] ∧ RingAt K C H a r xs ∧ ∀ H', Same H H' → Q (.str (faceR xs)) H'
theorem ixN_nat {n j : Nat} (hj : j < n) : ixN n (j : Int) = some j := by
  unfold ixN
  rw [if_pos (by omega), if_pos (by omega)]
  simp
theorem log_small {n : Nat} (h : n ≤ 1000000) : (n : Int).natAbs.log2 < 1920 := by
  show n.log2 < 1920
  by_cases h0 : n = 0
  · subst h0; decide
  · exact Nat.lt_of_lt_of_le ((Nat.log2_lt (k := 20) h0).mpr (by omega)) (by decide)

local macro_rules | `(tactic| walk_at "bag") => `(tactic| first | assumption | ((with_reducible refine' BagAt.new ?h1 ?h2); (case h1 => assumption); (case h2 => walk_at "bag")) | ((with_reducible refine' BagAt.same ?h1 ?h2); (case h1 => assumption); (case h2 => walk_at "bag")))

def tails : List Str := ["", "a", "qq", "xyz", "mmmmmmm"]
def mk1 (t : Str) (n c : Nat) : Str := (cutS t none (some (n : Int)) ++ ⟨#[c]⟩) ++ cutS t (some (n : Int)) none
/-- a word of _law_words: a name, and not the one that the law puts in last -/
def Wd (z : Str) : Prop := nameS z = true ∧ z ≠ "zzzzzzzz"
theorem mk1_all : (tails.all fun t => decide (t.length ≤ 7) && (List.range (t.length + 1)).all fun n => (List.range' 97 26).all fun c => nameS (mk1 t n c) && decide ((cutS t none (some (n : Int))).length ≤ 7 ∧ (cutS t (some (n : Int)) none).length ≤ 7) && decide (mk1 t n c ≠ "zzzzzzzz")) = true := by decide +kernel
theorem mk1_ok {t : Str} {n c : Nat} (ht : t ∈ tails) (hn : n ≤ t.length) (hc : c ∈ List.range' 97 26) : Wd (mk1 t n c) ∧ (cutS t none (some (n : Int))).length ≤ 7 ∧ (cutS t (some (n : Int)) none).length ≤ 7 := by
  have h := List.all_eq_true.mp mk1_all t ht
  rw [Bool.and_eq_true] at h
  have h2 := List.all_eq_true.mp (List.all_eq_true.mp h.2 n (List.mem_range.mpr (by omega))) c hc
  rw [Bool.and_eq_true, Bool.and_eq_true] at h2
  exact ⟨⟨h2.1.1, of_decide_eq_true h2.2⟩, of_decide_eq_true h2.1.2⟩
theorem letter_at {i : Int} (h0 : 0 ≤ i) (h1 : i < 26) : ∃ c, c ∈ List.range' 97 26 ∧ atI (Str.ofString "abcdefghijklmnopqrstuvwxyz").cps.toList i = some c := by
  have e : (Str.ofString "abcdefghijklmnopqrstuvwxyz").cps.toList = List.range' 97 26 := by decide +kernel
  obtain ⟨j, rfl⟩ := Int.eq_ofNat_of_zero_le h0
  refine ⟨97 + j, List.mem_range'_1.mpr (by omega), ?_⟩
  rw [e]
  exact atI_nat (by rw [List.getElem?_range' (by omega)]; simp)
def spWords : Sp := fun vs H Q _ => ∃ (b l : Addr) (m : Int), vs = [.ref b, .int m] ∧ BagAt H b l ∧ 0 ≤ m ∧ m ≤ 1000 ∧
  ∀ (D : Addr) (H' : Hp) (zs : List Str), H D = none → zs.length = m.toNat → (∀ z ∈ zs, Wd z) → BagAt H' b l → But b H H' → H' D = some (.lst (zs.map V.str)) → Q (.ref D) H'
section
variable {P : Program} {w : World} {K : PySem.W.Frag} {mg : Str → Option Value} {base : Heap}
abbrev s__law_words : Stmt := top 19
abbrev N__law_words : List Str := ["_law_bag_here", "_law_many", "_law_tail", "_law_at", "_law_start", "_law_letters", "_law_k"]
theorem sc__law_words : FnScope N__law_words ["_law_bag_here", "_law_many"] (defScope s__law_words) := ⟨rfl, rfl, rfl, by decide +kernel, rfl, by decide +kernel, by decide +kernel⟩

theorem ok_words (T : Txt K mg) : Cal P w K mg base CX0 3 "_law_words" s__law_words ["_law_bag_here", "_law_many"] spWords := by
  have G__law_draw := ok_draw (P := P) (w := w) (base := base) T
  have G__law_any := ok_any (P := P) (w := w) (base := base) T
  refine cal_of T.d__law_words sc__law_words (fun _ _ _ _ _ _ us hl => match us, hl with | [_, _], _ => rfl) (fun vs H Q E h => ?_) (fun f cdv A outer s H vs Q E hr h => ?_)
  · obtain ⟨b, l, m, rfl, _⟩ := h
    rfl
  obtain ⟨b, l, m, rfl, B, m0, m1, q⟩ := h
  refine ⟨_, (pss_cons (ps_set (i := 2) sc__law_words.nd rfl (by first | exact Or.inl rfl | exact Or.inr rfl) (pe_cal G__law_any (hr.mono (by omega)) pass0 (pa_cons (pv 0) (pa_cons (pe_lst (pa_cons pe_str (pa_cons pe_str (pa_cons pe_str (pa_cons pe_str (pa_cons pe_str pa_nil)))))) pa_nil))))
 (pss_cons (ps_asg (pe_tup (pa_cons (pe_cal G__law_draw (hr.mono (by omega)) pass0 (pa_cons (pv 0) (pa_cons (pe_op op_add (pe_callB k_lenS (by rfl) T.n_len PySem.boot_len (pa_cons (pv 2) pa_nil)) pe_int) pa_nil))) (pa_cons (pe_cal G__law_draw (hr.mono (by omega)) pass0 (pa_cons (pv 0) (pa_cons pe_int pa_nil))) pa_nil))) (kpg_tup K (n := 2) (pgs_cons (pg_name (i := 3) sc__law_words.nd rfl (by first | exact Or.inl rfl | exact Or.inr rfl)) (pgs_cons (pg_name (i := 4) sc__law_words.nd rfl (by first | exact Or.inl rfl | exact Or.inr rfl)) pgs_nil))))
 (pss_cons (ps_set (i := 5) sc__law_words.nd rfl (by first | exact Or.inl rfl | exact Or.inr rfl) pe_str)
 (pss_one (ps_ret (pe_lc (own := [("_law_k", 6)]) (g := gName 6) (tt := tYes) rfl sc__law_words.nd (pi_range1 (by rfl) T.n_range (pa_cons (pv 1) pa_nil)) (blkOk_by (own := [("_law_k", 6)]) (N := N__law_words) (sc := defScope s__law_words) (by decide +kernel)) (fun _ _ _ _ _ => (pg_name (i := 6) sc__law_words.nd rfl (by first | exact Or.inl rfl | exact Or.inr rfl))) (fun _ _ _ _ _ => pts_nil) (fun _ _ _ _ _ => (pe_op k_addS (pe_op k_addS (pe_slice sl_str (pv 2) po_none (po_some (pv 3))) (pe_ix ix_str (pv 5) (pe_op op_mod (pe_callTy k_int1 (by rfl) T.n_int (by decide +kernel) (pa_cons (pe_op op_add (pv 4) (pe_op op_mul pe_int (pv 6))) pa_nil)) pe_int) (fun _ _ => rfl))) (pe_slice sl_str (pv 2) (po_some (pv 3)) po_none))))))))), ?_⟩
  walk_at "rd"
  rename_i p1 hp1
  refine use_any (BagAt.new hp1 B) (x := .ref p1) ⟨B.off hp1, .inl (SqL.of upd_same)⟩ (by decide) (by decide) fun j v H1 hv B1 bt1 => ?_
  obtain ⟨t, ht, rfl⟩ : ∃ t, t ∈ tails ∧ v = .str t := by
    match j, hv with
    | 0, hv => cases hv; exact ⟨_, by decide, rfl⟩
    | 1, hv => cases hv; exact ⟨_, by decide, rfl⟩
    | 2, hv => cases hv; exact ⟨_, by decide, rfl⟩
    | 3, hv => cases hv; exact ⟨_, by decide, rfl⟩
    | 4, hv => cases hv; exact ⟨_, by decide, rfl⟩
    | n + 5, hv => cases hv
  have t7 : t.length ≤ 7 := by
    have h := List.all_eq_true.mp mk1_all t ht
    rw [Bool.and_eq_true] at h
    exact of_decide_eq_true h.1
  have hz : t.length ≤ sizeLine := small (by omega)
  walk_at "rd"
  refine use_draw B1 (by omega) (by omega) fun at1 H2 a0 a1 B2 bt2 => ?_
  walk_at "rd"
  refine use_draw B2 (by omega) (by omega) fun st H3 s0 s1 B3 bt3 => ?_
  walk_at "rd"
  intro D hD
  have nD : D ≠ b := B3.off (none_upd hD)
  have nDl : D ≠ l := B3.offl (none_upd hD)
  have hD0 : H D = none := none_upd (but_none bt1 nD (but_none bt2 nD (but_none bt3 nD (none_upd hD))))
  refine lc_range (lo := 0) (n := m.toNat) (fun i H' => ∃ zs : List Str, zs.length = i ∧ (∀ z ∈ zs, Wd z) ∧ BagAt H' b l ∧ But b H H' ∧ H' D = some (.lst (zs.map V.str))) ?_ ?_ ?_
  · refine ⟨[], rfl, (fun _ h => nomatch h), by walk_at "bag", ?_, upd_same⟩
    exact ((((But.of (same_new hp1 _)).trans bt1).trans bt2).trans bt3).trans ((But.of (same_new (by assumption) _)).trans (But.of (same_new hD _)))
  · rintro i H4 hi ⟨zs, hl, hW, B4, bt4, hd⟩
    walk_at "rd"
    refine ⟨rfl, ?_⟩
    walk_at "rd"
    refine rd_slS hz ?_
    walk_at "rd"
    obtain ⟨c, hc, hat⟩ := letter_at (i := (st + 7 * (0 + (i : Int))) % 26) (Int.emod_nonneg _ (by decide)) (Int.emod_lt_of_pos _ (by decide))
    obtain ⟨n, hn⟩ := Int.eq_ofNat_of_zero_le a0
    subst hn
    obtain ⟨hWd, c1, c2⟩ := mk1_ok (c := c) (n := n) ht (by omega) hc
    have lc : (⟨#[c]⟩ : Str).length = 1 := rfl
    refine ⟨_, _, c, rfl, rfl, by decide +kernel, hat, ?_⟩
    refine rd_addS (small (by rw [lc]; omega)) ?_
    walk_at "rd"
    refine rd_slS hz ?_
    refine rd_addS (small (by rw [len_app, lc]; omega)) ?_
    refine ⟨_, hd, ?_, zs ++ [mk1 t n c], by rw [List.length_append, hl]; rfl, ?_, B4.mut nD nDl, ?_, ?_⟩
    · rw [List.length_map, hl]
      exact Nat.lt_of_lt_of_le (show i < 1001 by omega) (small (by decide))
    · intro z hz'
      rcases List.mem_append.mp hz' with h | h
      · exact hW z h
      · rw [List.mem_singleton.mp h]; exact hWd
    · exact but_mut bt4 hD0
    · rw [upd_same, List.map_append]
      rfl
  · rintro H4 ⟨zs, hl, hW, B4, bt4, hd⟩
    walk_at "rd"
    exact q D H4 zs hD0 hl hW B4 bt4 hd
end


section
variable {P : Program} {w : World} {K : PySem.W.Frag} {mg : Str → Option Value} {base : Heap}
abbrev s_Ring___init__ : Stmt := inClass (top 13) 0
abbrev N_Ring___init__ : List Str := ["self", "length"]
theorem sc_Ring___init__ : FnScope N_Ring___init__ ["self", "length"] (defScope s_Ring___init__) := ⟨rfl, rfl, rfl, by decide +kernel, rfl, by decide +kernel, by decide +kernel⟩
abbrev s_Ring_length : Stmt := inClass (top 13) 1
abbrev N_Ring_length : List Str := ["self"]
theorem sc_Ring_length : FnScope N_Ring_length ["self"] (defScope s_Ring_length) := ⟨rfl, rfl, rfl, by decide +kernel, rfl, by decide +kernel, by decide +kernel⟩
abbrev s_Ring_spot : Stmt := inClass (top 13) 2
abbrev N_Ring_spot : List Str := ["self", "depth"]
theorem sc_Ring_spot : FnScope N_Ring_spot ["self", "depth"] (defScope s_Ring_spot) := ⟨rfl, rfl, rfl, by decide +kernel, rfl, by decide +kernel, by decide +kernel⟩
abbrev s_Ring_write : Stmt := inClass (top 13) 3
abbrev N_Ring_write : List Str := ["self", "depth", "place", "spot", "before"]
theorem sc_Ring_write : FnScope N_Ring_write ["self", "depth", "place"] (defScope s_Ring_write) := ⟨rfl, rfl, rfl, by decide +kernel, rfl, by decide +kernel, by decide +kernel⟩
abbrev s_Ring_restore : Stmt := inClass (top 13) 4
abbrev N_Ring_restore : List Str := ["self", "depth", "entry", "spot"]
theorem sc_Ring_restore : FnScope N_Ring_restore ["self", "depth", "entry"] (defScope s_Ring_restore) := ⟨rfl, rfl, rfl, by decide +kernel, rfl, by decide +kernel, by decide +kernel⟩
abbrev s_Ring_entries : Stmt := inClass (top 13) 5
abbrev N_Ring_entries : List Str := ["self"]
theorem sc_Ring_entries : FnScope N_Ring_entries ["self"] (defScope s_Ring_entries) := ⟨rfl, rfl, rfl, by decide +kernel, rfl, by decide +kernel, by decide +kernel⟩
abbrev s_Ring___getitem__ : Stmt := inClass (top 13) 7
abbrev N_Ring___getitem__ : List Str := ["self", "depth"]
theorem sc_Ring___getitem__ : FnScope N_Ring___getitem__ ["self", "depth"] (defScope s_Ring___getitem__) := ⟨rfl, rfl, rfl, by decide +kernel, rfl, by decide +kernel, by decide +kernel⟩
abbrev s_Ring___setitem__ : Stmt := inClass (top 13) 8
abbrev N_Ring___setitem__ : List Str := ["self", "depth", "entry"]
theorem sc_Ring___setitem__ : FnScope N_Ring___setitem__ ["self", "depth", "entry"] (defScope s_Ring___setitem__) := ⟨rfl, rfl, rfl, by decide +kernel, rfl, by decide +kernel, by decide +kernel⟩
abbrev s_Ring___len__ : Stmt := inClass (top 13) 10
abbrev N_Ring___len__ : List Str := ["self"]
theorem sc_Ring___len__ : FnScope N_Ring___len__ ["self"] (defScope s_Ring___len__) := ⟨rfl, rfl, rfl, by decide +kernel, rfl, by decide +kernel, by decide +kernel⟩
abbrev s_Ring___eq__ : Stmt := inClass (top 13) 11
abbrev N_Ring___eq__ : List Str := ["self", "other"]
theorem sc_Ring___eq__ : FnScope N_Ring___eq__ ["self", "other"] (defScope s_Ring___eq__) := ⟨rfl, rfl, rfl, by decide +kernel, rfl, by decide +kernel, by decide +kernel⟩
abbrev s_Ring___repr__ : Stmt := inClass (top 13) 12
abbrev N_Ring___repr__ : List Str := ["self", "entry", "words"]
theorem sc_Ring___repr__ : FnScope N_Ring___repr__ ["self"] (defScope s_Ring___repr__) := ⟨rfl, rfl, rfl, by decide +kernel, rfl, by decide +kernel, by decide +kernel⟩

theorem ok_Ring (T : Txt K mg) : Mth P w K mg base CX0 3 (clsAt mg "Ring") "__init__" "Ring.__init__" s_Ring___init__ ["self", "length"] (spRing K (clsAt mg "Ring")) := by
  have G_is_number := ok_is_number (P := P) (w := w) (base := base) T
  have cC := T.c_Ring.cl
  have nC := T.c_Ring.no "rows"
  refine mth_of T.m_Ring___init__ sc_Ring___init__ (fun _ _ _ _ _ _ us hl => match us, hl with | [_, _], _ => rfl) (fun vs H Q E h => ?_) (fun f cdv A outer s H vs Q E hr h => ?_)
  · obtain ⟨x, dx, n, rfl, _⟩ := h
    rfl
  obtain ⟨x, dx, n, rfl, hx, n1, n2, q⟩ := h
  refine ⟨_, (pss_cons (ps_if (pt_not (pt_val (pe_cal G_is_number (hr.mono (by omega)) pass0 (pa_cons (pv 1) (pa_cons pe_int (pa_cons (pe_gint rfl T.g_MOST_LENGTH) pa_nil))))))
 pss_never
 pss_nil)
 (pss_one (ps_fld (pv 0) (pe_op op_rep (pe_lst (pa_cons pe_non pa_nil)) (pv 1)) rfl))), ?_⟩
  walk_at "rd"
  refine use_number Kin.int (fun i e => ⟨⟨_, rfl⟩, _, rfl⟩) ?_
  rw [numV_int, decide_eq_true n1, decide_eq_true n2]
  walk_at "rd"
  refine rd_rep1 (by walk_at "hp") (by omega) (by omega) fun p hp => ?_
  walk_at "rd"
  have hp' := none_upd hp
  have nx : x ≠ p := ne_of_none hx hp'
  refine q p _ hp' ?_ ⟨⟨dx, upd_same⟩, ?_, ?_, ?_, ?_⟩
  · exact (((But.of (same_new (by assumption) _)).trans (But.of (same_new hp _)))).up
  · rw [upd_ne nx.symm, upd_same]
  · rw [List.length_replicate]; omega
  · rw [List.length_replicate]; omega
  · intro v hv
    rw [List.eq_of_mem_replicate hv]
    trivial
theorem ok_length (T : Txt K mg) : Prp P w K mg base CX0 1 (clsAt mg "Ring") "length" (spLen K (clsAt mg "Ring")) := by
  have cC := T.c_Ring.cl
  have nC := T.c_Ring.no "rows"
  refine prp_of T.p_Ring_length sc_Ring_length (fun _ _ _ _ _ _ us hl => match us, hl with | [_], _ => rfl) (fun vs H Q E h => ?_) (fun f cdv A outer s H vs Q E hr h => ?_)
  · obtain ⟨a, r, xs, rfl, _⟩ := h
    rfl
  obtain ⟨a, r, xs, rfl, ⟨⟨dx, ha⟩, hR, n1, n2, en⟩, q⟩ := h
  refine ⟨_, (pss_one (ps_ret (pe_callB (k_len K) (by rfl) T.n_len PySem.boot_len (pa_cons (pe_fld (pv 0) rfl) pa_nil)))), ?_⟩
  walk_at "rd"
  exact q
theorem ok_len (T : Txt K mg) : Mth P w K mg base CX0 1 (clsAt mg "Ring") "__len__" "Ring.__len__" s_Ring___len__ ["self"] (spLen K (clsAt mg "Ring")) := by
  have cC := T.c_Ring.cl
  have nC := T.c_Ring.no "rows"
  refine mth_of T.m_Ring___len__ sc_Ring___len__ (fun _ _ _ _ _ _ us hl => match us, hl with | [_], _ => rfl) (fun vs H Q E h => ?_) (fun f cdv A outer s H vs Q E hr h => ?_)
  · obtain ⟨a, r, xs, rfl, _⟩ := h
    rfl
  obtain ⟨a, r, xs, rfl, ⟨⟨dx, ha⟩, hR, n1, n2, en⟩, q⟩ := h
  refine ⟨_, (pss_one (ps_ret (pe_callB (k_len K) (by rfl) T.n_len PySem.boot_len (pa_cons (pe_fld (pv 0) rfl) pa_nil)))), ?_⟩
  walk_at "rd"
  exact q
theorem ok_spot (T : Txt K mg) : Mth P w K mg base CX0 2 (clsAt mg "Ring") "spot" "Ring.spot" s_Ring_spot ["self", "depth"] (spSpot K (clsAt mg "Ring")) := by
  have G_is_number := ok_is_number (P := P) (w := w) (base := base) T
  have cC := T.c_Ring.cl
  have nC := T.c_Ring.no "rows"
  refine mth_of T.m_Ring_spot sc_Ring_spot (fun _ _ _ _ _ _ us hl => match us, hl with | [_, _], _ => rfl) (fun vs H Q E h => ?_) (fun f cdv A outer s H vs Q E hr h => ?_)
  · obtain ⟨a, r, xs, d, rfl, _⟩ := h
    rfl
  obtain ⟨a, r, xs, d, rfl, ⟨⟨dx, ha⟩, hR, n1, n2, en⟩, d0, q⟩ := h
  refine ⟨_, (pss_cons (ps_if (pt_not (pt_val (pe_cal G_is_number (hr.mono (by omega)) pass0 (pa_cons (pv 1) (pa_cons pe_int (pa_cons (pv 1) pa_nil))))))
 pss_never
 pss_nil)
 (pss_one (ps_ret (pe_op op_mod (pv 1) (pe_callB (k_len K) (by rfl) T.n_len PySem.boot_len (pa_cons (pe_fld (pv 0) rfl) pa_nil)))))), ?_⟩
  walk_at "rd"
  refine use_number Kin.int (fun i e => ⟨⟨_, rfl⟩, _, rfl⟩) ?_
  rw [numV_int, decide_eq_true d0, decide_eq_true (Int.le_refl d)]
  walk_at "rd"
  rw [spot_eq n1]
  exact q
theorem ok_write (T : Txt K mg) : Mth P w K mg base CX0 3 (clsAt mg "Ring") "write" "Ring.write" s_Ring_write ["self", "depth", "place"] (spWrite K (clsAt mg "Ring")) := by
  have G_is_name := ok_is_name (P := P) (w := w) (base := base) T
  have M_Ring_spot := ok_spot (P := P) (w := w) (base := base) T
  have cC := T.c_Ring.cl
  have nC := T.c_Ring.no "rows"
  refine mth_of T.m_Ring_write sc_Ring_write (fun _ _ _ _ _ _ us hl => match us, hl with | [_, _, _], _ => rfl) (fun vs H Q E h => ?_) (fun f cdv A outer s H vs Q E hr h => ?_)
  · obtain ⟨a, r, xs, d, z, rfl, _⟩ := h
    rfl
  obtain ⟨a, r, xs, d, z, rfl, R, d0, hz, q⟩ := h
  refine ⟨_, (pss_cons (ps_set (i := 3) sc_Ring_write.nd rfl (by first | exact Or.inl rfl | exact Or.inr rfl) (pe_mth (pv 0) T.c_Ring.cl M_Ring_spot (hr.mono (by omega)) pass0 (pa_cons (pv 1) pa_nil)))
 (pss_cons (ps_if (pt_not (pt_val (pe_cal G_is_name (hr.mono (by omega)) pass0 (pa_cons (pv 2) pa_nil))))
 pss_never
 pss_nil)
 (pss_cons (ps_set (i := 4) sc_Ring_write.nd rfl (by first | exact Or.inl rfl | exact Or.inr rfl) (pe_ix (k_ixL K) (pe_fld (pv 0) rfl) (pv 3) (fun _ _ => rfl)))
 (pss_cons (ps_asg (pv 2) (pg_sub (pe_fld (pv 0) rfl) (pv 3) set_list))
 (pss_one (ps_ret (pv 4))))))), ?_⟩
  obtain ⟨⟨dx, ha⟩, hR, n1, n2, en⟩ := id R
  walk_at "rd"
  refine ⟨a, r, xs, d, rfl, R, d0, ?_⟩
  walk_at "rd"
  refine use_name Kin.str (fun z e => by cases e; exact small (Nat.le_trans (name_len hz) (by decide))) fun H1 s1 => ?_
  rw [show nameV (.str z) = true from hz]
  walk_at "rd"
  refine rd_ixL (by walk_at "sq") (at0_at (spot_lt n1)) ?_
  walk_at "rd"
  refine rd_setL (by walk_at "hp") (ixN_nat (spot_lt n1)) ?_
  walk_at "rd"
  exact q _ (But.of s1).up (R.set (But.of s1).up upd_same hz)
theorem ok_restore (T : Txt K mg) : Mth P w K mg base CX0 3 (clsAt mg "Ring") "restore" "Ring.restore" s_Ring_restore ["self", "depth", "entry"] (spRestore K (clsAt mg "Ring")) := by
  have G_is_name := ok_is_name (P := P) (w := w) (base := base) T
  have M_Ring_spot := ok_spot (P := P) (w := w) (base := base) T
  have cC := T.c_Ring.cl
  have nC := T.c_Ring.no "rows"
  refine mth_of T.m_Ring_restore sc_Ring_restore (fun _ _ _ _ _ _ us hl => match us, hl with | [_, _, _], _ => rfl) (fun vs H Q E h => ?_) (fun f cdv A outer s H vs Q E hr h => ?_)
  · obtain ⟨a, r, xs, d, z, rfl, _⟩ := h
    rfl
  obtain ⟨a, r, xs, d, v, rfl, R, d0, ev, q⟩ := h
  refine ⟨_, (pss_cons (ps_set (i := 3) sc_Ring_restore.nd rfl (by first | exact Or.inl rfl | exact Or.inr rfl) (pe_mth (pv 0) T.c_Ring.cl M_Ring_spot (hr.mono (by omega)) pass0 (pa_cons (pv 1) pa_nil)))
 (pss_cons (ps_if (PW.pt (pw_and (pt_cmpR k_notN (pv 2) pe_non (nomark _)) (pw_and1 (pt_not (pt_val (pe_cal G_is_name (hr.mono (by omega)) pass0 (pa_cons (pv 2) pa_nil)))))))
 pss_never
 pss_nil)
 (pss_one (ps_asg (pv 2) (pg_sub (pe_fld (pv 0) rfl) (pv 3) set_list))))), ?_⟩
  obtain ⟨⟨dx, ha⟩, hR, n1, n2, en⟩ := id R
  walk_at "rd"
  refine ⟨a, r, xs, d, rfl, R, d0, ?_⟩
  walk_at "rd"
  cases v <;> first | exact ev.elim | skip
  · walk_at "rd"
    refine rd_setL (by walk_at "hp") (ixN_nat (spot_lt n1)) ?_
    walk_at "rd"
    exact q _ But.upd (R.set But.upd upd_same trivial)
  · rename_i z
    have hz : nameS z = true := ev
    walk_at "rd"
    refine use_name Kin.str (fun z e => by cases e; exact small (Nat.le_trans (name_len hz) (by decide))) fun H1 s1 => ?_
    rw [show nameV (.str z) = true from hz]
    walk_at "rd"
    refine rd_setL (by walk_at "hp") (ixN_nat (spot_lt n1)) ?_
    walk_at "rd"
    exact q _ (But.of s1).up (R.set (But.of s1).up upd_same hz)
theorem ok_entries (T : Txt K mg) : Mth P w K mg base CX0 1 (clsAt mg "Ring") "entries" "Ring.entries" s_Ring_entries ["self"] (spEntries K (clsAt mg "Ring")) := by
  have cC := T.c_Ring.cl
  have nC := T.c_Ring.no "rows"
  refine mth_of T.m_Ring_entries sc_Ring_entries (fun _ _ _ _ _ _ us hl => match us, hl with | [_], _ => rfl) (fun vs H Q E h => ?_) (fun f cdv A outer s H vs Q E hr h => ?_)
  · obtain ⟨a, r, xs, rfl, _⟩ := h
    rfl
  obtain ⟨a, r, xs, rfl, ⟨⟨dx, ha⟩, hR, n1, n2, en⟩, q⟩ := h
  refine ⟨_, (pss_one (ps_ret (pe_callTy (k_list K) (by rfl) T.n_list (by decide +kernel) (pa_cons (pe_fld (pv 0) rfl) pa_nil)))), ?_⟩
  walk_at "rd"
  exact q _ (by assumption)
theorem ok_get (T : Txt K mg) : Mth P w K mg base CX0 3 (clsAt mg "Ring") "__getitem__" "Ring.__getitem__" s_Ring___getitem__ ["self", "depth"] (spGet K (clsAt mg "Ring")) := by
  have M_Ring_spot := ok_spot (P := P) (w := w) (base := base) T
  have cC := T.c_Ring.cl
  have nC := T.c_Ring.no "rows"
  refine mth_of T.m_Ring___getitem__ sc_Ring___getitem__ (fun _ _ _ _ _ _ us hl => match us, hl with | [_, _], _ => rfl) (fun vs H Q E h => ?_) (fun f cdv A outer s H vs Q E hr h => ?_)
  · obtain ⟨a, r, xs, d, rfl, _⟩ := h
    rfl
  obtain ⟨a, r, xs, d, rfl, R, d0, q⟩ := h
  obtain ⟨⟨dx, ha⟩, hR, n1, n2, en⟩ := id R
  refine ⟨_, (pss_one (ps_ret (pe_ix (k_ixL K) (pe_fld (pv 0) rfl) (pe_mth (pv 0) T.c_Ring.cl M_Ring_spot (hr.mono (by omega)) pass0 (pa_cons (pv 1) pa_nil)) (fun _ _ => rfl)))), ?_⟩
  walk_at "rd"
  refine ⟨a, r, xs, d, rfl, R, d0, ?_⟩
  walk_at "rd"
  refine rd_ixL (by walk_at "sq") (at0_at (spot_lt n1)) ?_
  exact q
theorem ok_set (T : Txt K mg) : Mth P w K mg base CX0 4 (clsAt mg "Ring") "__setitem__" "Ring.__setitem__" s_Ring___setitem__ ["self", "depth", "entry"] (spRestore K (clsAt mg "Ring")) := by
  have M_Ring_restore := ok_restore (P := P) (w := w) (base := base) T
  refine mth_of T.m_Ring___setitem__ sc_Ring___setitem__ (fun _ _ _ _ _ _ us hl => match us, hl with | [_, _, _], _ => rfl) (fun vs H Q E h => ?_) (fun f cdv A outer s H vs Q E hr h => ?_)
  · obtain ⟨a, r, xs, d, z, rfl, _⟩ := h
    rfl
  obtain ⟨a, r, xs, d, v, rfl, R, d0, ev, q⟩ := h
  obtain ⟨⟨dx, ha⟩, hR, n1, n2, en⟩ := id R
  refine ⟨_, (pss_one (ps_expr (pe_mth (pv 0) T.c_Ring.cl M_Ring_restore (hr.mono (by omega)) pass0 (pa_cons (pv 1) (pa_cons (pv 2) pa_nil))))), ?_⟩
  walk_at "rd"
  exact ⟨a, r, xs, d, v, rfl, R, d0, ev, q⟩
theorem ok_eq (T : Txt K mg) : Mth P w K mg base CX0 1 (clsAt mg "Ring") "__eq__" "Ring.__eq__" s_Ring___eq__ ["self", "other"] (spEqR K (clsAt mg "Ring")) := by
  have cC := T.c_Ring.cl
  have nC := T.c_Ring.no "rows"
  refine mth_of T.m_Ring___eq__ sc_Ring___eq__ (fun _ _ _ _ _ _ us hl => match us, hl with | [_, _], _ => rfl) (fun vs H Q E h => ?_) (fun f cdv A outer s H vs Q E hr h => ?_)
  · obtain ⟨a, r, xs, y, rfl, _⟩ := h
    rfl
  obtain ⟨a, r, xs, y, rfl, ⟨⟨dx, ha⟩, hR, n1, n2, en⟩, h⟩ := h
  refine ⟨_, (pss_one (ps_ret (pe_and (pe_callB (k_isi K) (by rfl) T.n_isinstance (by decide +kernel) (pa_cons (pv 1) (pa_cons (pe_own T.c_Ring) pa_nil))) (pe_one (pe_cmpR (k_eqD K hr.units) (pe_fld (pv 0) rfl) (pe_fld (pv 1) rfl) (nomark _)))))), ?_⟩
  walk_at "rd"
  rcases h with ⟨b, r2, ys, rfl, ⟨⟨dx2, hb⟩, hR2, m1, m2, en2⟩, q⟩ | ⟨k, hk, q⟩
  · refine rd_isiIns T.c_Ring hb ?_
    walk_at "rd"
    refine rd_eqD (.lst (SqL.of hR) (dp_ents en)) (.lst (SqL.of hR2) (dp_ents en2)) (shaped_ents en) (shaped_ents en2) ?_
    rw [show PyData.eqv (.list (xs.map toD)) (.list (ys.map toD)) = PyData.eqvAll (xs.map toD) (ys.map toD) from rfl, eqv_ent en en2]
    exact q
  · refine rd_isiKd T.c_Ring hk ?_
    walk_at "rd"
    exact q
theorem ok_repr (T : Txt K mg) : Mth P w K mg base CX0 1 (clsAt mg "Ring") "__repr__" "Ring.__repr__" s_Ring___repr__ ["self"] (spRepr K (clsAt mg "Ring")) := by
  have cC := T.c_Ring.cl
  have nC := T.c_Ring.no "rows"
  refine mth_of T.m_Ring___repr__ sc_Ring___repr__ (fun _ _ _ _ _ _ us hl => match us, hl with | [_], _ => rfl) (fun vs H Q E h => ?_) (fun f cdv A outer s H vs Q E hr h => ?_)
  · obtain ⟨a, r, xs, rfl, _⟩ := h
    rfl
  obtain ⟨a, r, xs, rfl, ⟨⟨dx, ha⟩, hR, n1, n2, en⟩, q⟩ := h
  refine ⟨_, (pss_cons (ps_setLc (i := 2) (own := [("entry", 1)]) (g := gName 1) (tt := tYes) rfl sc_Ring___repr__.nd rfl rfl (sw_true rfl rfl rfl (by decide +kernel)) (kpi_list K (pe_fld (pv 0) rfl)) (blkOk_by (own := [("entry", 1)]) (N := N_Ring___repr__) (sc := defScope s_Ring___repr__) (by decide +kernel)) (fun _ _ _ _ _ => (pg_name (i := 1) sc_Ring___repr__.nd rfl (by first | exact Or.inl rfl | exact Or.inr rfl))) (fun _ _ _ _ _ => pts_nil) (fun _ _ _ _ _ => (pe_ifExp (pt_cmpR k_isN (pv 1) pe_non (nomark _)) pe_str (pv 1))))
 (pss_one (ps_ret (k_fs (PJ.cons pe_str (PJ.cons (pe_fmt (pe_callB (k_len K) (by rfl) T.n_len PySem.boot_len (pa_cons (pe_fld (pv 0) rfl) pa_nil))) (PJ.cons pe_str (PJ.cons (pe_fmt (k_join K pe_str (pv 2))) (PJ.cons pe_str PJ.nil))))))))), ?_⟩
  walk_at "rd"
  intro D hD
  refine Ow.lc_list (K := K) (xs := xs) (fun i H' => Same H H' ∧ H' D = some (.lst (((xs.take i).map word).map V.str))) ?_ ?_ ?_ ?_
  · exact ⟨by walk_at "same", upd_same⟩
  · rintro i H' hi ⟨sm, hd⟩
    walk_at "sq"
  · rintro i H' x hi hx ⟨sm, hd⟩
    have ex := en x (List.mem_of_getElem? hx)
    have fin : ∃ acc, H' D = some (.lst acc) ∧ acc.length < sizeLine ∧ (Same H (upd H' D (.lst (acc ++ [.str (word x)]))) ∧ upd H' D (.lst (acc ++ [.str (word x)])) D = some (.lst (((xs.take (i + 1)).map word).map V.str))) := by
      refine ⟨_, hd, ?_, same_mut sm hD, ?_⟩
      · rw [List.length_map, List.length_map, List.length_take]
        exact Nat.lt_of_le_of_lt (show _ ≤ 1000 by omega) (by rw [sizeLine_eq]; decide)
      · rw [upd_same, List.take_add_one, hx, List.map_append, List.map_append]
        rfl
    walk_at "rd"
    refine ⟨rfl, ?_⟩
    cases x <;> first | exact ex.elim | skip
    · walk_at "rd"
      exact fin
    · walk_at "rd"
      exact fin
  · rintro H1 ⟨sm, hd⟩
    rw [List.take_length] at hd
    have l0 : ("Ring(" : Str).length = 5 := by decide +kernel
    have l1 : (": " : Str).length = 2 := by decide +kernel
    have l2 : (")" : Str).length = 1 := by decide +kernel
    have l3 : (" " : Str).length = 1 := by decide +kernel
    have hj := join_len " " (xs.map word)
    have hw := words_sum en
    have hg := dig_len n2
    rw [List.length_map, l3] at hj
    walk_at "rd"
    rw [empty_app]
    refine ⟨small (by rw [l0]; decide), ?_⟩
    walk_at "rd"
    refine rd_fmtI (log_small (Nat.le_trans n2 (by decide))) ?_
    refine ⟨_, rfl, small (by rw [len_app, l0]; omega), ?_⟩
    walk_at "rd"
    refine ⟨small (by rw [len_app, len_app, l0, l1]; omega), ?_⟩
    walk_at "rd"
    refine ⟨" ", D, xs.map word, rfl, rfl, .inl (SqL.of hd), by rw [List.length_map, l3]; omega, ?_⟩
    refine rd_fmtS (small (by omega)) ?_
    refine ⟨_, rfl, small (by rw [len_app, len_app, len_app, l0, l1]; omega), ?_⟩
    walk_at "rd"
    refine ⟨small (by rw [len_app, len_app, len_app, len_app, l0, l1, l2]; omega), ?_⟩
    walk_at "rd"
    exact q _ sm
end


inductive LkAll (K : PySem.W.Frag) (H : Hp) (n : Nat) : List V → List V → Prop
  | nil : LkAll K H n [] []
  | cons {x y : V} {xs ys : List V} (h : Lk K H n x y) (t : LkAll K H n xs ys) : LkAll K H n (x :: xs) (y :: ys)
theorem LkAll.len {K : PySem.W.Frag} {H : Hp} {n : Nat} {xs ys : List V} (h : LkAll K H n xs ys) : xs.length = ys.length := by
  induction h with
  | nil => rfl
  | cons _ _ ih => rw [List.length_cons, List.length_cons, ih]
theorem LkAll.at_ {K : PySem.W.Frag} {H : Hp} {n : Nat} {xs ys : List V} (h : LkAll K H n xs ys) : ∀ (i : Nat) x y, xs[i]? = some x → ys[i]? = some y → Lk K H n x y := by
  induction h with
  | nil => intro i x y h; cases h
  | cons h _ ih =>
    intro i x y hx hy
    cases i with
    | zero => cases hx; cases hy; exact h
    | succ i => exact ih i x y hx hy
theorem Lk.row {K : PySem.W.Frag} {H : Hp} {n : Nat} {a b : Addr} {xs ys : List V} (ha : SqL K H a xs) (hb : SqL K H b ys) (hz : xs.length ≤ 100000) (h : LkAll K H n xs ys) : Lk K H (n + 1) (.ref a) (.ref b) :=
  .inr ⟨a, b, xs, ys, rfl, rfl, .inl ⟨ha, hb⟩, h.len, hz, h.at_⟩
theorem spotN_small {k n : Nat} (h : k < n) : spotN (k : Int) n = k := by
  unfold spotN
  rw [Int.emod_eq_of_lt (by omega) (by omega)]
  rfl
def spSo (K : PySem.W.Frag) (C : Addr) : Sp := fun vs H Q _ => ∃ (a r p : Addr) (xs : List V), vs = [.ref a, .ref p] ∧ RingAt K C H a r xs ∧ H p = some (.lst xs) ∧ ∀ H', Same H H' → Q (.bl true) H'
section
variable {P : Program} {w : World} {K : PySem.W.Frag} {mg : Str → Option Value} {base : Heap}
abbrev s__law_ring_so : Stmt := top 20
abbrev N__law_ring_so : List Str := ["_law_ring", "_law_rows", "_law_entry", "_law_face", "_law_k", "_law_found"]
theorem sc__law_ring_so : FnScope N__law_ring_so ["_law_ring", "_law_rows"] (defScope s__law_ring_so) := ⟨rfl, rfl, rfl, by decide +kernel, rfl, by decide +kernel, by decide +kernel⟩

theorem ok_so (T : Txt K mg) : Cal P w K mg base CX0 6 "_law_ring_so" s__law_ring_so ["_law_ring", "_law_rows"] (spSo K (clsAt mg "Ring")) := by
  have G__law_like := ok_like (P := P) (w := w) (base := base) T 5
  have M_Ring_entries := ok_entries (P := P) (w := w) (base := base) T
  have R_Ring_length := ok_length (P := P) (w := w) (base := base) T
  have M_Ring___len__ := ok_len (P := P) (w := w) (base := base) T
  have M_Ring___repr__ := ok_repr (P := P) (w := w) (base := base) T
  have M_Ring___getitem__ := ok_get (P := P) (w := w) (base := base) T
  refine cal_of T.d__law_ring_so sc__law_ring_so (fun _ _ _ _ _ _ us hl => match us, hl with | [_, _], _ => rfl) (fun vs H Q E h => ?_) (fun f cdv A outer s H vs Q E hr h => ?_)
  · obtain ⟨a, r, p, xs, rfl, _⟩ := h
    rfl
  obtain ⟨a, r, p, xs, rfl, R, hP, q⟩ := h
  obtain ⟨⟨dx, ha⟩, hR, n1, n2, en⟩ := id R
  refine ⟨_, (pss_cons (ps_set (i := 3) sc__law_ring_so.nd rfl (by first | exact Or.inl rfl | exact Or.inr rfl) (pe_op k_addS (pe_op k_addS (pe_op k_addS (pe_op k_addS pe_str (pe_callTy k_strInt (by rfl) T.n_str (by decide +kernel) (pa_cons (pe_callB (k_len K) (by rfl) T.n_len PySem.boot_len (pa_cons (pv 1) pa_nil)) pa_nil))) pe_str) (k_join K pe_str (pe_lc (own := [("_law_entry", 2)]) (g := gName 2) (tt := tYes) rfl sc__law_ring_so.nd (kpi_list K (pv 1)) (blkOk_by (own := [("_law_entry", 2)]) (N := N__law_ring_so) (sc := defScope s__law_ring_so) (by decide +kernel)) (fun _ _ _ _ _ => (pg_name (i := 2) sc__law_ring_so.nd rfl (by first | exact Or.inl rfl | exact Or.inr rfl))) (fun _ _ _ _ _ => pts_nil) (fun _ _ _ _ _ => (pe_ifExp (pt_cmpR k_isN (pv 2) pe_non (nomark _)) pe_str (pv 2)))))) pe_str))
 (pss_cons (ps_set (i := 5) sc__law_ring_so.nd rfl (by first | exact Or.inl rfl | exact Or.inr rfl) (pe_lst (pa_cons (pe_mth0 (pv 0) T.c_Ring.cl M_Ring_entries (hr.mono (by omega)) pass0) (pa_cons (pe_prp (pv 0) T.c_Ring.cl R_Ring_length (hr.mono (by omega))) (pa_cons (pe_callB (k_lenOwn M_Ring___len__ (hr.mono (by omega)) pass0) (by rfl) T.n_len PySem.boot_len (pa_cons (pv 0) pa_nil)) (pa_cons (pe_callB (k_reprOwn M_Ring___repr__ (hr.mono (by omega)) pass0) (by rfl) T.n_repr (by decide +kernel) (pa_cons (pv 0) pa_nil)) (pa_cons (pe_lc (own := [("_law_k", 4)]) (g := gName 4) (tt := tYes) rfl sc__law_ring_so.nd (pi_range1 (by rfl) T.n_range (pa_cons (pe_callB (k_len K) (by rfl) T.n_len PySem.boot_len (pa_cons (pv 1) pa_nil)) pa_nil)) (blkOk_by (own := [("_law_k", 4)]) (N := N__law_ring_so) (sc := defScope s__law_ring_so) (by decide +kernel)) (fun _ _ _ _ _ => (pg_name (i := 4) sc__law_ring_so.nd rfl (by first | exact Or.inl rfl | exact Or.inr rfl))) (fun _ _ _ _ _ => pts_nil) (fun _ _ _ _ _ => (pe_ixOwn M_Ring___getitem__ (hr.mono (by omega)) pass0 (pv 0) (pv 4)))) pa_nil)))))))
 (pss_cons (ps_expr (pe_bm PySem.F.plainAttrs_list PySem.F.slot_list_append PySem.F.type_list_append mt_append (pe_mth0 (pv 0) T.c_Ring.cl M_Ring_entries (hr.mono (by omega)) pass0) (pa_cons pe_str pa_nil)))
 (pss_one (ps_ret (pe_cal G__law_like (hr.mono (by omega)) pass0 (pa_cons (pv 5) (pa_cons (pe_lst (pa_cons (pv 1) (pa_cons (pe_callB (k_len K) (by rfl) T.n_len PySem.boot_len (pa_cons (pv 1) pa_nil)) (pa_cons (pe_callB (k_len K) (by rfl) T.n_len PySem.boot_len (pa_cons (pv 1) pa_nil)) (pa_cons (pv 3) (pa_cons (pv 1) pa_nil)))))) pa_nil)))))))), ?_⟩
  have l0 : ("Ring(" : Str).length = 5 := by decide +kernel
  have l1 : (": " : Str).length = 2 := by decide +kernel
  have l2 : (")" : Str).length = 1 := by decide +kernel
  have l3 : (" " : Str).length = 1 := by decide +kernel
  have hj := join_len " " (xs.map word)
  have hw := words_sum en
  have hg := dig_len n2
  rw [List.length_map, l3] at hj
  have cs : xs.length < sizeLine := Nat.lt_of_lt_of_le (show xs.length < 100000 by omega) (small (Nat.le_refl _))
  walk_at "rd"
  refine rd_strInt (log_small (Nat.le_trans n2 (by decide))) ?_
  refine rd_addS (small (by omega)) ?_
  walk_at "rd"
  refine rd_addS (small (by rw [len_app, l0, l1]; omega)) ?_
  walk_at "rd"
  intro D hD
  refine Ow.lc_list (K := K) (xs := xs) (fun i H' => Same H H' ∧ H' D = some (.lst (((xs.take i).map word).map V.str))) ?_ ?_ ?_ ?_
  · exact ⟨by walk_at "same", upd_same⟩
  · rintro i H' hi ⟨sm, hd⟩
    walk_at "sq"
  · rintro i H' x hi hx ⟨sm, hd⟩
    have ex := en x (List.mem_of_getElem? hx)
    have fin : ∃ acc, H' D = some (.lst acc) ∧ acc.length < sizeLine ∧ (Same H (upd H' D (.lst (acc ++ [.str (word x)]))) ∧ upd H' D (.lst (acc ++ [.str (word x)])) D = some (.lst (((xs.take (i + 1)).map word).map V.str))) := by
      refine ⟨_, hd, ?_, same_mut sm hD, ?_⟩
      · rw [List.length_map, List.length_map, List.length_take]
        exact Nat.lt_of_le_of_lt (Nat.min_le_right ..) cs
      · rw [upd_same, List.take_add_one, hx, List.map_append, List.map_append]
        rfl
    walk_at "rd"
    refine ⟨rfl, ?_⟩
    cases x <;> first | exact ex.elim | skip
    · walk_at "rd"
      exact fin
    · walk_at "rd"
      exact fin
  · rintro H1 ⟨sm, hd⟩
    rw [List.take_length] at hd
    refine ⟨" ", D, xs.map word, rfl, rfl, .inl (SqL.of hd), by rw [List.length_map, l3]; omega, ?_⟩
    refine rd_addS (small (by rw [len_app, len_app, l0, l1]; omega)) ?_
    walk_at "rd"
    refine rd_addS (small (by rw [len_app, len_app, len_app, l0, l1, l2]; omega)) ?_
    walk_at "rd"
    have R1 := R.same sm
    refine ⟨a, r, xs, rfl, R1, fun e he => ?_⟩
    have R2 := R1.same (same_new (o := .lst xs) he)
    walk_at "rd"
    refine ⟨a, r, xs, rfl, R2, ?_⟩
    walk_at "rd"
    refine ⟨a, r, xs, rfl, R2, ?_⟩
    refine ⟨_, rfl, by omega, by omega, ?_⟩
    walk_at "rd"
    refine ⟨a, r, xs, rfl, R2, fun H2 s2 => ?_⟩
    have R3 := R2.same s2
    have sm3 : Same H H2 := (sm.trans (same_new he _)).trans s2
    have he2 : H2 e = some (.lst xs) := s2 _ _ upd_same
    refine ⟨_, rfl, ?_⟩
    walk_at "rd"
    intro G hG
    refine lc_range (lo := 0) (n := xs.length) (fun i H' => Same H2 H' ∧ H' G = some (.lst (xs.take i))) ?_ ?_ ?_
    · exact ⟨by walk_at "same", upd_same⟩
    · rintro i H' hi ⟨s4, hd4⟩
      have R4 := R3.same s4
      obtain ⟨⟨dx4, ha4⟩, -⟩ := id R4
      walk_at "rd"
      refine ⟨rfl, ?_⟩
      walk_at "rd"
      refine ⟨a, r, xs, 0 + (i : Int), rfl, R4, by omega, ?_⟩
      rw [Int.zero_add, spotN_small hi]
      refine ⟨_, hd4, ?_, same_mut s4 hG, ?_⟩
      · rw [List.length_take]
        exact Nat.lt_of_le_of_lt (Nat.min_le_right ..) cs
      · rw [upd_same, List.take_add_one, List.getElem?_eq_getElem hi]
        unfold at0
        rw [List.getD_eq_getElem?_getD, List.getElem?_eq_getElem hi]
        rfl
    · rintro H4 ⟨s4, hd4⟩
      rw [List.take_length] at hd4
      have R4 := R3.same s4
      have sm4 := sm3.trans s4
      obtain ⟨⟨dx4, ha4⟩, -⟩ := id R4
      walk_at "rd"
      rename_i f1 hf1
      have he4 := s4 _ _ he2
      have hp4 := sm4 _ _ hP
      refine rd_bm ?_
      walk_at "rd"
      refine ⟨a, r, xs, rfl, R4.same (same_new hf1 _), fun g hg => ?_⟩
      refine rd_tyL upd_same ?_
      walk_at "rd"
      refine rd_append upd_same cs ?_
      walk_at "rd"
      rename_i q1 hq1
      have g1 : e ≠ g := ne_of_none he4 (none_upd hg)
      have g2 : p ≠ g := ne_of_none hp4 (none_upd hg)
      have g3 : G ≠ g := ne_of_none hd4 (none_upd hg)
      have g4 : f1 ≠ g := fun h => by
        subst h
        rw [upd_same] at hg
        cases hg
      have pl : ∀ v ∈ xs, Plain v := fun v hv => (en v hv).plain
      have le : xs.length ≤ 100000 := by omega
      refine use_like (Lk.row (ys := [.ref p, .int xs.length, .int xs.length, .str _, .ref p]) (by refine SqL.of (up_new hq1 (up_ne g4 (up_ne g4 upd_same)))) (SqL.of upd_same) (by show 5 ≤ 100000; decide)
        (.cons (Lk.lists (xs := xs) (ys := xs) (by walk_at "sq") (by walk_at "sq") rfl le pl) (.cons (Lk.plain trivial) (.cons (Lk.plain trivial) (.cons (Lk.eq rfl trivial) (.cons (Lk.lists (xs := xs) (ys := xs) (by walk_at "sq") (by walk_at "sq") rfl le pl) .nil)))))) fun H6 s6 => ?_
      refine q H6 ((sm4.trans ?_).trans s6)
      exact same_up hq1 (same_mut ((same_new hf1 _).trans (same_new hg _)) (none_upd hg))
end

structure Sit (K : PySem.W.Frag) (C : Addr) (b l D a r p : Addr) (zs : List Str) (xs ys : List V) (H : Hp) : Prop where
  B : BagAt H b l
  D_ : H D = some (.lst (zs.map V.str))
  R : RingAt K C H a r xs
  p_ : H p = some (.lst ys)
  zw : ∀ z ∈ zs, Wd z
  zl : zs.length = 4
  Db : D ≠ b
  ab : a ≠ b
  rb : r ≠ b
  pb : p ≠ b
  rl : r ≠ l
  Dr : D ≠ r
  pr : p ≠ r
  pl : p ≠ l
  Dp : D ≠ p
  ap : a ≠ p
section
variable {K : PySem.W.Frag} {C b l D a r p : Addr} {zs : List Str} {xs ys : List V} {H H' : Hp}
theorem Sit.same (e : Same H H') (S : Sit K C b l D a r p zs xs ys H) : Sit K C b l D a r p zs xs ys H' := by
  obtain ⟨h1, h2, h3, h4, h5⟩ := S
  exact ⟨h1.same e, e _ _ h2, h3.same e, e _ _ h4, h5, by assumption, by assumption, by assumption, by assumption, by assumption, by assumption, by assumption, by assumption, by assumption, by assumption, by assumption⟩
theorem Sit.draw (B : BagAt H' b l) (e : But b H H') (S : Sit K C b l D a r p zs xs ys H) : Sit K C b l D a r p zs xs ys H' := by
  obtain ⟨h1, h2, h3, h4, h5, h6, n1, n2, n3, n4, n5⟩ := S
  exact ⟨B, e _ _ n1 h2, h3.but e n2 n3, e _ _ n4 h4, h5, by assumption, by assumption, by assumption, by assumption, by assumption, by assumption, by assumption, by assumption, by assumption, by assumption, by assumption⟩
theorem BagAt.but {q : Addr} (e : But q H H') (n1 : b ≠ q) (n2 : l ≠ q) (B : BagAt H b l) : BagAt H' b l := by
  obtain ⟨⟨ns, i, g, s, h1, h2, h3⟩, ne⟩ := B
  exact ⟨⟨ns, i, g, s, e _ _ n1 h1, e _ _ n2 h2, h3⟩, ne⟩
/-- the ring's own rows have changed -/
theorem Sit.put {xs' : List V} (R : RingAt K C H' a r xs') (e : But r H H') (S : Sit K C b l D a r p zs xs ys H) : Sit K C b l D a r p zs xs' ys H' := by
  obtain ⟨h1, h2, h3, h4, h5, h6, n1, n2, n3, n4, n5, n6, n7, n8, n9, n10⟩ := S
  exact ⟨h1.but e n3.symm n5.symm, e _ _ n6 h2, R, e _ _ n7 h4, h5, by assumption, by assumption, by assumption, by assumption, by assumption, by assumption, by assumption, by assumption, by assumption, by assumption, by assumption⟩
/-- the law's rows have changed -/
theorem Sit.row {ys' : List V} (S : Sit K C b l D a r p zs xs ys H) : Sit K C b l D a r p zs xs ys' (upd H p (.lst ys')) := by
  obtain ⟨h1, h2, h3, h4, h5, h6, n1, n2, n3, n4, n5, n6, n7, n8, n9, n10⟩ := S
  exact ⟨h1.mut n4 n8, (upd_ne n9).trans h2, h3.but But.upd n10 n7.symm, upd_same, h5, by assumption, by assumption, by assumption, by assumption, by assumption, by assumption, by assumption, by assumption, by assumption, by assumption, by assumption⟩
/-- another object has changed -/
theorem Sit.off {q : Addr} (e : But q H H') (n1 : b ≠ q) (n2 : l ≠ q) (n3 : D ≠ q) (n4 : a ≠ q) (n5 : r ≠ q) (n6 : p ≠ q) (S : Sit K C b l D a r p zs xs ys H) : Sit K C b l D a r p zs xs ys H' := by
  obtain ⟨h1, h2, h3, h4, h5, h6, _⟩ := S
  exact ⟨h1.but e n1 n2, e _ _ n3 h2, h3.but e n4 n5, e _ _ n6 h4, h5, by assumption, by assumption, by assumption, by assumption, by assumption, by assumption, by assumption, by assumption, by assumption, by assumption, by assumption⟩
end
/-- the entries of the law's ring -/
def En (v : V) : Prop := v = .non ∨ ∃ z, v = .str z ∧ Wd z
theorem En.ent {v : V} (h : En v) : Ent v := by
  rcases h with rfl | ⟨z, rfl, h⟩
  · trivial
  · exact h.1
theorem use_ring {K : PySem.W.Frag} {C : Addr} {n : Int} {H1 : Hp} {Q : Addr → Hp → Prop} {E : XK} (n1 : 1 ≤ n) (n2 : n ≤ 1000)
    (q : ∀ x r H', H1 x = none → H1 r = none → Same H1 H' → RingAt K C H' x r (List.replicate n.toNat .non) → Q x H') :
    ∀ x dx, H1 x = none → H1 dx = none → dx ≠ x → spRing K C (.ref x :: ([.int n] ++ [])) (upd (upd H1 dx (.own x)) x (.ins C dx [])) (fun v H2 => v = .non ∧ Q x H2) E := by
  intro x dx hx hdx ne
  refine ⟨x, dx, n, rfl, upd_same, n1, n2, fun r H' hr bt R => ⟨rfl, q x r H' hx (none_upd (none_upd hr)) (fun c o hc => ?_) R⟩⟩
  refine bt c o (ne_of_none hc hx) ?_
  rw [upd_ne (ne_of_none hc hx), upd_ne (ne_of_none hc hdx)]
  exact hc
theorem at0_get {xs : List V} {k : Nat} (h : k < xs.length) : xs[k]? = some (at0 xs k) := by
  unfold at0
  rw [List.getD_eq_getElem?_getD, List.getElem?_eq_getElem h]
  rfl
theorem at0_set {xs : List V} {k : Nat} {v : V} (h : k < xs.length) : at0 (xs.set k v) k = v := by
  unfold at0
  rw [List.getD_eq_getElem?_getD, List.getElem?_set]
  simp [h]
theorem en_at {xs : List V} {k : Nat} (h : ∀ v ∈ xs, En v) : En (at0 xs k) := by
  unfold at0
  rw [List.getD_eq_getElem?_getD]
  cases e : xs[k]? with
  | none => exact .inl rfl
  | some v => exact h v (List.mem_of_getElem? e)
theorem en_set {xs : List V} {v : V} {k : Nat} (h : ∀ v ∈ xs, En v) (e : En v) : ∀ u ∈ xs.set k v, En u := fun u hu => by
  rcases List.mem_or_eq_of_mem_set hu with h' | rfl
  · exact h u h'
  · exact e
theorem spot_more {d : Int} {n : Nat} : spotN (d + (n : Int)) n = spotN d n := by
  unfold spotN
  rw [Int.add_emod_right]
/-- the first i entries are copied, the others are free -/
def Cp (xs xs2 : List V) (i : Nat) : Prop := xs2.length = xs.length ∧ ∀ j, j < xs.length → xs2[j]? = if j < i then xs[j]? else some .non
theorem Cp.start {xs : List V} : Cp xs (List.replicate xs.length .non) 0 := ⟨List.length_replicate, fun j h => by rw [if_neg (Nat.not_lt_zero j), List.getElem?_replicate, if_pos h]⟩
theorem Cp.put {xs xs2 : List V} {i : Nat} (h : Cp xs xs2 i) (hi : i < xs.length) : Cp xs (xs2.set i (at0 xs i)) (i + 1) := by
  refine ⟨by rw [List.length_set]; exact h.1, fun j hj => ?_⟩
  rw [List.getElem?_set]
  by_cases e : i = j
  · subst e
    rw [if_pos rfl, if_pos (by rw [h.1]; exact hi), if_pos (Nat.lt_succ_self i), at0_get hi]
  · rw [if_neg e, h.2 j hj]
    by_cases c : j < i
    · rw [if_pos c, if_pos (by omega)]
    · rw [if_neg c, if_neg (by omega)]
theorem Cp.skip {xs xs2 : List V} {i : Nat} (h : Cp xs xs2 i) (hi : i < xs.length) (e : at0 xs i = .non) : Cp xs xs2 (i + 1) := by
  refine ⟨h.1, fun j hj => ?_⟩
  rw [h.2 j hj]
  by_cases c : j < i
  · rw [if_pos c, if_pos (by omega)]
  · rw [if_neg c]
    by_cases c2 : j = i
    · subst c2
      rw [if_pos (by omega), at0_get hi, e]
    · rw [if_neg (by omega)]
theorem Cp.done {xs xs2 : List V} (h : Cp xs xs2 xs.length) : xs2 = xs := by
  apply List.ext_getElem?
  intro j
  by_cases c : j < xs.length
  · rw [h.2 j c, if_pos c]
  · rw [List.getElem?_eq_none (by rw [h.1]; omega), List.getElem?_eq_none (by omega)]
theorem spot_back {k n : Nat} {d : Int} (h : k < n) : spotN ((k : Int) + (n : Int) * d) n = k := by
  unfold spotN
  rw [Int.add_mul_emod_self_left, Int.emod_eq_of_lt (by omega) (by omega)]
  rfl
theorem set_new {xs : List V} {k : Nat} (hk : k < xs.length) (h : ∀ v ∈ xs, En v) : xs ≠ xs.set k (.str "zzzzzzzz") := by
  intro e
  have h1 : at0 xs k = .str "zzzzzzzz" := by
    have := at0_set (v := V.str "zzzzzzzz") hk
    rwa [← e] at this
  have h2 := en_at (k := k) h
  rw [h1] at h2
  rcases h2 with h2 | ⟨z, h2, h3⟩
  · cases h2
  · cases h2
    exact h3.2 rfl
section
variable {P : Program} {w : World} {K : PySem.W.Frag} {mg : Str → Option Value} {base : Heap}
abbrev s_law : Stmt := top 21
abbrev N_law : List Str := ["_law_script", "_law_bag_here", "_law_many", "_law_names", "_law_ring", "_law_rows", "_law_step", "_law_depth_z", "_law_way", "_law_entry", "_law_spot", "_law_found", "_law_other", "_law_k"]
theorem sc_law : FnScope N_law ["_law_script"] (defScope s_law) := ⟨rfl, rfl, rfl, by decide +kernel, rfl, by decide +kernel, by decide +kernel⟩

theorem ok_law (T : Txt K mg) : Cal P w K mg base CX0 60 "law" s_law ["_law_script"] (spLaw K) := by
  have G__law_bag := ok_bag (P := P) (w := w) (base := base) T
  have G__law_draw := ok_draw (P := P) (w := w) (base := base) T
  have G__law_any := ok_any (P := P) (w := w) (base := base) T
  have G__law_like := ok_like (P := P) (w := w) (base := base) T 5
  have G__law_words := ok_words (P := P) (w := w) (base := base) T
  have G__law_ring_so := ok_so (P := P) (w := w) (base := base) T
  have I_Ring := ini_of T.c_Ring (ok_Ring (P := P) (w := w) (base := base) T)
  have M_Ring_write := ok_write (P := P) (w := w) (base := base) T
  have M_Ring_restore := ok_restore (P := P) (w := w) (base := base) T
  have M_Ring___getitem__ := ok_get (P := P) (w := w) (base := base) T
  have M_Ring___setitem__ := ok_set (P := P) (w := w) (base := base) T
  have M_Ring___eq__ := ok_eq (P := P) (w := w) (base := base) T
  refine cal_of T.d_law sc_law (fun _ _ _ _ _ _ us hl => match us, hl with | [_], _ => rfl) (fun vs H Q E h => ?_) (fun f cdv A outer s H vs Q E hr h => ?_)
  · obtain ⟨a, ns, rfl, _⟩ := h
    rfl
  obtain ⟨sc, ns, rfl, hS, hn, q⟩ := h
  refine ⟨_, (pss_cons (ps_set (i := 1) sc_law.nd rfl (by first | exact Or.inl rfl | exact Or.inr rfl) (pe_cal G__law_bag (hr.mono (by omega)) pass0 (pa_cons (pv 0) pa_nil)))
 (pss_cons (ps_par (i := 2) (j := 3) rfl sc_law.nd rfl rfl (by decide) rfl rfl (pa_cons (pe_op op_add pe_int (pe_cal G__law_draw (hr.mono (by omega)) pass0 (pa_cons (pv 1) (pa_cons pe_int pa_nil)))) (pa_cons (pe_cal G__law_words (hr.mono (by omega)) pass0 (pa_cons (pv 1) (pa_cons pe_int pa_nil))) pa_nil)) (by rfl))
 (pss_cons (ps_par (i := 4) (j := 5) rfl sc_law.nd rfl rfl (by decide) rfl rfl (pa_cons (pe_mkC mg I_Ring (hr.mono (by omega)) pass0 (pa_cons (pv 2) pa_nil)) (pa_cons (pe_op op_rep (pe_lst (pa_cons pe_non pa_nil)) (pv 2)) pa_nil)) (by rfl))
 (pss_cons (ps_for PassesOwn.never rfl (pi_range1 (by rfl) T.n_range (pa_cons (pe_cal G__law_draw (hr.mono (by omega)) pass0 (pa_cons (pv 1) (pa_cons pe_int pa_nil))) pa_nil)) (pg_name (i := 6) sc_law.nd rfl (by first | exact Or.inl rfl | exact Or.inr rfl))
 (pss_cons (ps_par (i := 7) (j := 8) rfl sc_law.nd rfl rfl (by decide) rfl rfl (pa_cons (pe_cal G__law_any (hr.mono (by omega)) pass0 (pa_cons (pv 1) (pa_cons (pe_lst (pa_cons (pe_cal G__law_draw (hr.mono (by omega)) pass0 (pa_cons (pv 1) (pa_cons pe_int pa_nil))) (pa_cons (pe_cal G__law_draw (hr.mono (by omega)) pass0 (pa_cons (pv 1) (pa_cons (pe_op op_pow pe_int pe_int) pa_nil))) pa_nil))) pa_nil))) (pa_cons (pe_cal G__law_draw (hr.mono (by omega)) pass0 (pa_cons (pv 1) (pa_cons pe_int pa_nil))) pa_nil)) (by rfl))
 (pss_cons (ps_par (i := 9) (j := 10) rfl sc_law.nd rfl rfl (by decide) rfl rfl (pa_cons (pe_cal G__law_any (hr.mono (by omega)) pass0 (pa_cons (pv 1) (pa_cons (pv 3) pa_nil))) (pa_cons (pe_op op_mod (pe_callTy k_int1 (by rfl) T.n_int (by decide +kernel) (pa_cons (pv 7) pa_nil)) (pv 2)) pa_nil)) (by rfl))
 (pss_cons (ps_if (pt_cmpR op_lt (pv 8) pe_int (nomark _))
 (pss_cons (ps_set (i := 11) sc_law.nd rfl (by first | exact Or.inl rfl | exact Or.inr rfl) (pe_ifExp (pt_cmpR op_eq (pv 8) pe_int (nomark _)) (pe_mth (pv 4) T.c_Ring.cl M_Ring_write (hr.mono (by omega)) pass0 (pa_cons (pv 7) (pa_cons (pv 9) pa_nil))) (pe_mthK0 (pv 4) T.c_Ring.cl M_Ring_write (hr.mono (by omega)) pass0 ["place", "depth"] [0, 2, 1] (fun _ _ _ _ _ _ us ws hu hw => match us, hu, ws, hw with | [_], _, [_, _], _ => rfl) (pk_cons (pv 9) (pk_cons (pv 7) pk_nil)))))
 (pss_one (ps_if (pt_not (pt_val (pe_cal G__law_like (hr.mono (by omega)) pass0 (pa_cons (pv 11) (pa_cons (pe_ix (k_ixL K) (pv 5) (pv 10) (fun _ _ => rfl)) pa_nil)))))
 (pss_one (ps_ret pe_bl))
 pss_nil)))
 (pss_cons (ps_set (i := 9) sc_law.nd rfl (by first | exact Or.inl rfl | exact Or.inr rfl) (pe_cal G__law_any (hr.mono (by omega)) pass0 (pa_cons (pv 1) (pa_cons (pe_lst (pa_cons (pv 9) (pa_cons pe_non pa_nil))) pa_nil))))
 (pss_one (ps_if (pt_cmpR op_eq (pv 8) pe_int (nomark _))
 (pss_one (ps_expr (pe_mth (pv 4) T.c_Ring.cl M_Ring_restore (hr.mono (by omega)) pass0 (pa_cons (pv 7) (pa_cons (pv 9) pa_nil)))))
 (pss_one (ps_asg (pv 9) (pg_sub (pv 4) (pv 7) (k_setOwn M_Ring___setitem__ T.c_Ring.ns (hr.mono (by omega)) pass0))))))))
 (pss_cons (ps_asg (pv 9) (pg_sub (pv 5) (pv 10) set_list))
 (pss_one (ps_if (PW.pt (pw_or (pt_not (pt_val (pe_cal G__law_ring_so (hr.mono (by omega)) pass0 (pa_cons (pv 4) (pa_cons (pv 5) pa_nil))))) (pw_or1 (pt_not (pt_val (pe_cal G__law_like (hr.mono (by omega)) pass0 (pa_cons (pe_lst (pa_cons (pe_ixOwn M_Ring___getitem__ (hr.mono (by omega)) pass0 (pv 4) (pv 7)) (pa_cons (pe_ixOwn M_Ring___getitem__ (hr.mono (by omega)) pass0 (pv 4) (pe_op op_add (pv 7) (pv 2))) pa_nil))) (pa_cons (pe_lst (pa_cons (pv 9) (pa_cons (pv 9) pa_nil))) pa_nil))))))))
 (pss_one (ps_ret pe_bl))
 pss_nil)))))))
 (pss_cons (ps_set (i := 12) sc_law.nd rfl (by first | exact Or.inl rfl | exact Or.inr rfl) (pe_mkK0 mg I_Ring (hr.mono (by omega)) pass0 ["length"] [0, 1] (fun _ _ _ _ _ _ us ws hu hw => match us, hu, ws, hw with | [_], _, [_], _ => rfl) (pk_cons (pv 2) pk_nil)))
 (pss_cons (ps_for PassesOwn.never rfl (pi_range1 (by rfl) T.n_range (pa_cons (pv 2) pa_nil)) (pg_name (i := 13) sc_law.nd rfl (by first | exact Or.inl rfl | exact Or.inr rfl))
 (pss_one (ps_if (pt_cmpR k_notN (pe_ix (k_ixL K) (pv 5) (pv 13) (fun _ _ => rfl)) pe_non (nomark _))
 (pss_one (ps_expr (pe_mth (pv 12) T.c_Ring.cl M_Ring_write (hr.mono (by omega)) pass0 (pa_cons (pe_op op_add (pv 13) (pe_op op_mul (pv 2) (pe_cal G__law_draw (hr.mono (by omega)) pass0 (pa_cons (pv 1) (pa_cons pe_int pa_nil))))) (pa_cons (pe_ix (k_ixL K) (pv 5) (pv 13) (fun _ _ => rfl)) pa_nil)))))
 pss_nil)))
 (pss_cons (ps_if (pt_not (pt_val (pe_cal G__law_like (hr.mono (by omega)) pass0 (pa_cons (pe_lst (pa_cons (pe_cmpR (k_eqOwn K M_Ring___eq__ (hr.mono (by omega)) pass0) (pv 4) (pv 12) (nomark _)) (pa_cons (pe_cmpR (k_neOwn K M_Ring___eq__ T.c_Ring.ne T.c_Ring.cm (hr.mono (by omega)) pass0) (pv 4) (pv 12) (nomark _)) (pa_cons (pe_cmpR (k_eqOwn K M_Ring___eq__ (hr.mono (by omega)) pass0) (pv 4) (pv 5) (nomark _)) pa_nil)))) (pa_cons (pe_lst (pa_cons pe_bl (pa_cons pe_bl (pa_cons pe_bl pa_nil)))) pa_nil)))))
 (pss_one (ps_ret pe_bl))
 pss_nil)
 (pss_cons (ps_expr (pe_mth (pv 12) T.c_Ring.cl M_Ring_restore (hr.mono (by omega)) pass0 (pa_cons (pe_cal G__law_draw (hr.mono (by omega)) pass0 (pa_cons (pv 1) (pa_cons (pv 2) pa_nil))) (pa_cons pe_str pa_nil))))
 (pss_one (ps_ret (pe_and (pe_cmpR (k_neOwn K M_Ring___eq__ T.c_Ring.ne T.c_Ring.cm (hr.mono (by omega)) pass0) (pv 4) (pv 12) (nomark _)) (pe_and (pe_cmpR (k_neOwn K M_Ring___eq__ T.c_Ring.ne T.c_Ring.cm (hr.mono (by omega)) pass0) (pe_mkC mg I_Ring (hr.mono (by omega)) pass0 (pa_cons (pv 2) pa_nil)) (pe_mkC mg I_Ring (hr.mono (by omega)) pass0 (pa_cons (pe_op op_add (pv 2) pe_int) pa_nil)) (nomark _)) (pe_one (pe_cal G__law_ring_so (hr.mono (by omega)) pass0 (pa_cons (pe_mkC mg I_Ring (hr.mono (by omega)) pass0 (pa_cons (pv 2) pa_nil)) (pa_cons (pe_op op_rep (pe_lst (pa_cons pe_non pa_nil)) (pv 2)) pa_nil)))))))))))))))), ?_⟩
  walk_at "rd"
  refine ⟨sc, ns, rfl, hS, hn, fun b l H1 hb0 hl0 s1 B1 => ?_⟩
  walk_at "rs"
  refine use_draw B1 (by omega) (by omega) fun r0 H2 r1 r2 B2 bt2 => ?_
  walk_at "rs"
  refine ⟨b, l, 4, rfl, B2, by omega, by omega, fun D H3 zs hD zl zw B3 bt3 hD3 => ?_⟩
  walk_at "rs"
  dsimp only
  generalize hm : (1 + r0 : Int) = many at *
  have m1 : 1 ≤ many := by omega
  have m2 : many ≤ 8 := by omega
  refine use_ring m1 (by omega) fun a r H4 ha4 hr4 s4 R4 => ?_
  have B4 := B3.same s4
  walk_at "rs"
  refine rd_rep1 (by walk_at "hp") (by omega) (by omega) fun p hp => ?_
  rename_i l1 hl1
  have hp4 := none_upd hp
  have zl4 : zs.length = 4 := zl
  have S0 : Sit K (clsAt mg "Ring") b l D a r p zs (List.replicate many.toNat .non) (List.replicate many.toNat .non) (upd (upd H4 l1 (.lst [.non])) p (.lst (List.replicate many.toNat .non))) := by
    have sN : Same H4 (upd (upd H4 l1 (.lst [.non])) p (.lst (List.replicate many.toNat .non))) := same_up hp (same_new hl1 _)
    obtain ⟨dx4, ha4'⟩ := R4.a_
    exact ⟨B4.same sN, sN _ _ (s4 _ _ hD3), R4.same sN, upd_same, zw, zl4, B2.off hD, B3.off ha4, B3.off hr4, B4.off hp4, B3.offl hr4, ne_of_none hD3 hr4, (ne_of_none R4.r_ hp4).symm, B4.offl hp4, ne_of_none (s4 _ _ hD3) hp4, ne_of_none ha4' hp4⟩
  generalize (upd (upd H4 l1 (.lst [.non])) p (.lst (List.replicate many.toNat .non))) = H5 at *
  walk_at "rs"
  with_reducible refine rd_cut (fun σ' H' => ∃ x6 x7 x8 x9 x10 x11 x12 x13, σ' = [some (.ref sc), some (.ref b), some (.int many), some (.ref D), some (.ref a), some (.ref p), x6, x7, x8, x9, x10, x11, x12, x13] ∧ ∃ xs, xs.length = many.toNat ∧ (∀ v ∈ xs, En v) ∧ Sit K (clsAt mg "Ring") b l D a r p zs xs xs H') (fun nx hnx => ?_) ?_
  · walk_at "rd"
    refine use_draw S0.B (by omega) (by omega) fun rn H6 rn0 rn1 B6 bt6 => ?_
    walk_at "rd"
    have S6 := S0.draw B6 bt6
    refine for_range (lo := 0) (n := rn.toNat) (fun i σ' H' => ∃ x6 x7 x8 x9 x10 x11 x12 x13, σ' = [some (.ref sc), some (.ref b), some (.int many), some (.ref D), some (.ref a), some (.ref p), x6, x7, x8, x9, x10, x11, x12, x13] ∧ ∃ xs, xs.length = many.toNat ∧ (∀ v ∈ xs, En v) ∧ Sit K (clsAt mg "Ring") b l D a r p zs xs xs H') ?_ ?_ ?_
    · exact ⟨_, _, _, _, _, _, _, _, rfl, _, List.length_replicate, (fun v hv => .inl (List.eq_of_mem_replicate hv)), S6⟩
    · rintro i σ H7 hi ⟨x6, x7, x8, x9, x10, x11, x12, x13, rfl, xs, xl, xe, S7⟩
      walk_at "rs"
      refine use_draw S7.B (by omega) (by omega) fun e1 H8 e10 e11 B8 bt8 => ?_
      have S8 := S7.draw B8 bt8
      walk_at "rs"
      refine use_draw S8.B (by decide) (by decide) fun e2 H9 e20 e21 B9 bt9 => ?_
      have S9 := S8.draw B9 bt9
      walk_at "rs"
      rename_i p6 hp6
      refine use_any (BagAt.new hp6 S9.B) (x := .ref p6) ⟨S9.B.off hp6, .inl (SqL.of upd_same)⟩ (by show 1 ≤ 2; decide) (by show 2 < 1073741824; decide) fun j v H10 hv B10 bt10 => ?_
      obtain ⟨dz, dz0, rfl⟩ : ∃ dz : Int, 0 ≤ dz ∧ v = .int dz := by
        match j, hv with
        | 0, hv => cases hv; exact ⟨_, e10, rfl⟩
        | 1, hv => cases hv; exact ⟨_, e20, rfl⟩
        | n + 2, hv => cases hv
      have S10 := (S9.same (same_new hp6 _)).draw B10 bt10
      walk_at "rs"
      refine use_draw S10.B (by decide) (by decide) fun way H11 w0 w1 B11 bt11 => ?_
      have S11 := S10.draw B11 bt11
      walk_at "rs"
      refine use_any S11.B (x := .ref D) ⟨S11.Db, .inl (SqL.of S11.D_)⟩ (by rw [List.length_map, S11.zl]; decide) (by rw [List.length_map, S11.zl]; decide) fun j2 v H12 hv2 B12 bt12 => ?_
      obtain ⟨z, hz, rfl⟩ : ∃ z, Wd z ∧ v = .str z := by
        rw [List.getElem?_map] at hv2
        cases e : zs[j2]? with
        | none => rw [e] at hv2; cases hv2
        | some z =>
          rw [e] at hv2
          exact ⟨z, S11.zw z (List.mem_of_getElem? e), (Option.some.inj hv2).symm⟩
      have S12 := S11.draw B12 bt12
      have hmx : ((xs.length : Nat) : Int) = many := by rw [xl]; omega
      have n1x : 1 ≤ xs.length := by omega
      have hk := spot_lt (d := dz) n1x
      have es : dz % many = (spotN dz xs.length : Nat) := by rw [← hmx]; exact spot_eq n1x
      walk_at "rs"
      dsimp only
      rw [es]
      with_reducible refine rd_cut (fun σ' H' => ∃ x9 x11 v, σ' = [some (.ref sc), some (.ref b), some (.int many), some (.ref D), some (.ref a), some (.ref p), some (.int (0 + (i : Int))), some (.int dz), some (.int way), some v, some (.int (spotN dz xs.length : Nat)), x11, x12, x13] ∧ x9 = v ∧ En v ∧ Sit K (clsAt mg "Ring") b l D a r p zs (xs.set (spotN dz xs.length) v) xs H') (fun nx2 hnx2 => ?_) ?_
      · obtain ⟨dxA, haA⟩ := S12.R.a_
        have pA := S12.p_
        walk_at "rd"
        refine ite2 (fun c1 => ?_) (fun c1 => ?_)
        · walk_at "rd"
          refine ite2 (fun c2 => ?_) (fun c2 => ?_)
          · walk_at "rd"
            refine ⟨a, r, xs, dz, z, rfl, S12.R, dz0, hz.1, fun H13 bt13 R13 => ?_⟩
            have S13 := S12.put R13 bt13
            have p13 := S13.p_
            walk_at "rd"
            refine rd_ixL (by walk_at "sq") (at0_at hk) ?_
            walk_at "rd"
            refine use_like (Lk.plain (en_at xe).ent.plain) fun H14 s14 => ?_
            walk_at "rd"
            exact hnx2 _ _ ⟨_, _, _, rfl, rfl, .inr ⟨z, rfl, hz⟩, S13.same s14⟩
          · walk_at "rd"
            refine ⟨a, r, xs, dz, z, rfl, S12.R, dz0, hz.1, fun H13 bt13 R13 => ?_⟩
            have S13 := S12.put R13 bt13
            have p13 := S13.p_
            walk_at "rd"
            refine rd_ixL (by walk_at "sq") (at0_at hk) ?_
            walk_at "rd"
            refine use_like (Lk.plain (en_at xe).ent.plain) fun H14 s14 => ?_
            walk_at "rd"
            exact hnx2 _ _ ⟨_, _, _, rfl, rfl, .inr ⟨z, rfl, hz⟩, S13.same s14⟩
        · walk_at "rd"
          rename_i p7 hp7
          refine use_any (BagAt.new hp7 S12.B) (x := .ref p7) ⟨S12.B.off hp7, .inl (SqL.of upd_same)⟩ (by show 1 ≤ 2; decide) (by show 2 < 1073741824; decide) fun j3 v H13 hv3 B13 bt13 => ?_
          have ev : En v := by
            match j3, hv3 with
            | 0, hv3 => cases hv3; exact .inr ⟨z, rfl, hz⟩
            | 1, hv3 => cases hv3; exact .inl rfl
            | n + 2, hv3 => cases hv3
          have S13 := (S12.same (same_new hp7 _)).draw B13 bt13
          obtain ⟨dxB, haB⟩ := S13.R.a_
          walk_at "rd"
          refine ite2 (fun c2 => ?_) (fun c2 => ?_)
          · walk_at "rd"
            refine ⟨a, r, xs, dz, v, rfl, S13.R, dz0, ev.ent, fun H14 bt14 R14 => ?_⟩
            walk_at "rd"
            exact hnx2 _ _ ⟨_, _, _, rfl, rfl, ev, S13.put R14 bt14⟩
          · walk_at "rd"
            refine ⟨a, r, xs, dz, v, rfl, S13.R, dz0, ev.ent, fun H14 bt14 R14 => ?_⟩
            exact hnx2 _ _ ⟨_, _, _, rfl, rfl, ev, S13.put R14 bt14⟩
      · rintro σ2 H13 ⟨x9, x11, v, rfl, -, ev, S13⟩
        have p13 := S13.p_
        walk_at "rd"
        refine rd_setL p13 (ixN_nat hk) ?_
        have S14 := S13.row (ys' := xs.set (spotN dz xs.length) v)
        walk_at "rd"
        refine ⟨a, r, p, _, rfl, S14.R, S14.p_, fun H15 s15 => ?_⟩
        have S15 := S14.same s15
        obtain ⟨dxC, haC⟩ := S15.R.a_
        walk_at "rd"
        have e1 : at0 (xs.set (spotN dz xs.length) v) (spotN dz (xs.set (spotN dz xs.length) v).length) = v := by
          rw [List.length_set]; exact at0_set hk
        have e2 : at0 (xs.set (spotN dz xs.length) v) (spotN (dz + many) (xs.set (spotN dz xs.length) v).length) = v := by
          rw [List.length_set, ← hmx, spot_more]; exact at0_set hk
        refine ⟨a, r, _, dz, rfl, S15.R, dz0, ?_⟩
        walk_at "rd"
        refine ⟨a, r, _, dz + many, rfl, S15.R, by omega, ?_⟩
        walk_at "rd"
        rename_i p8 hp8 p9 hp9
        refine use_like (Lk.row (SqL.of (up_new hp9 upd_same)) (SqL.of upd_same) (by show 2 ≤ 100000; decide) (.cons (Lk.eq e1 (by rw [e1]; exact ev.ent.plain)) (.cons (Lk.eq e2 (by rw [e2]; exact ev.ent.plain)) .nil))) fun H16 s16 => ?_
        walk_at "rd"
        exact ⟨_, _, _, _, _, _, _, _, rfl, _, by rw [List.length_set]; exact xl, en_set xe ev, S15.same ((same_up hp9 (same_new hp8 _)).trans s16)⟩
    · rintro σ H7 h
      exact hnx _ _ h
  · rintro σ H7 ⟨x6, x7, x8, x9, x10, x11, x12, x13, rfl, xs, xl, xe, S7⟩
    walk_at "rs"
    have hmx : ((xs.length : Nat) : Int) = many := by rw [xl]; omega
    have n1x : 1 ≤ xs.length := by omega
    refine use_ring m1 (by omega) fun a2 r2 H8 ha2 hr2 s8 R8 => ?_
    have S8 := S7.same s8
    have n1b : a2 ≠ b := S7.B.off ha2
    have n2b : r2 ≠ b := S7.B.off hr2
    have n2l : r2 ≠ l := S7.B.offl hr2
    have nD : D ≠ r2 := ne_of_none S7.D_ hr2
    have np : p ≠ r2 := ne_of_none S7.p_ hr2
    have nr : r ≠ r2 := ne_of_none S7.R.r_ hr2
    have na : a ≠ r2 := by
      obtain ⟨dd, h⟩ := S7.R.a_
      exact ne_of_none h hr2
    walk_at "rs"
    obtain ⟨dxO, haO⟩ := id R8.a_
    with_reducible refine rd_cut (fun σ' H' => ∃ x6 x7 x8 x9 x10 x11 x13, σ' = [some (.ref sc), some (.ref b), some (.int many), some (.ref D), some (.ref a), some (.ref p), x6, x7, x8, x9, x10, x11, some (.ref a2), x13] ∧ Sit K (clsAt mg "Ring") b l D a r p zs xs xs H' ∧ RingAt K (clsAt mg "Ring") H' a2 r2 xs) (fun nx hnx => ?_) ?_
    · walk_at "rd"
      refine for_range (lo := 0) (n := many.toNat) (fun i σ' H' => ∃ x6 x7 x8 x9 x10 x11 x13, σ' = [some (.ref sc), some (.ref b), some (.int many), some (.ref D), some (.ref a), some (.ref p), x6, x7, x8, x9, x10, x11, some (.ref a2), x13] ∧ Sit K (clsAt mg "Ring") b l D a r p zs xs xs H' ∧ ∃ xs2, Cp xs xs2 i ∧ RingAt K (clsAt mg "Ring") H' a2 r2 xs2) ?_ ?_ ?_
      · refine ⟨_, _, _, _, _, _, _, rfl, S8, _, ?_, R8⟩
        rw [← xl]
        exact Cp.start
      · rintro i σ H9 hi ⟨x6, x7, x8, x9, x10, x11, x13, rfl, S9, xs2, cp, R9⟩
        have hix : i < xs.length := by omega
        have p9 := S9.p_
        obtain ⟨dxP, haP⟩ := id R9.a_
        walk_at "rd"
        have e0 : (0 + (i : Int)) = (i : Int) := Int.zero_add _
        rw [e0]
        refine rd_ixL (by walk_at "sq") (at0_at hix) ?_
        walk_at "rd"
        have eni := en_at (k := i) xe
        generalize hvv : at0 xs i = vv at *
        rcases eni with rfl | ⟨z, rfl, hz⟩
        · walk_at "rd"
          exact ⟨_, _, _, _, _, _, _, rfl, S9, xs2, cp.skip hix hvv, R9⟩
        · walk_at "rd"
          refine use_draw S9.B (by omega) (by omega) fun d3 H10 d30 d31 B10 bt10 => ?_
          have S10 := S9.draw B10 bt10
          have R10 := R9.but bt10 n1b n2b
          have p10 := S10.p_
          walk_at "rd"
          refine rd_ixL (by walk_at "sq") (at0_at hix) ?_
          rw [hvv]
          walk_at "rd"
          have es : spotN ((i : Int) + many * d3) xs2.length = i := by rw [cp.1, ← hmx]; exact spot_back hix
          refine ⟨a2, r2, xs2, (i : Int) + many * d3, z, rfl, R10, Int.add_nonneg (by omega) (Int.mul_nonneg (by omega) d30), hz.1, fun H11 bt11 R11 => ?_⟩
          rw [es, ← hvv] at R11
          exact ⟨_, _, _, _, _, _, _, rfl, S10.off bt11 n2b.symm n2l.symm nD na nr np, _, cp.put hix, R11⟩
      · rintro σ H9 ⟨x6, x7, x8, x9, x10, x11, x13, rfl, S9, xs2, cp, R9⟩
        rw [← xl] at cp
        have := cp.done
        subst this
        exact hnx _ _ ⟨_, _, _, _, _, _, _, rfl, S9, R9⟩
    · rintro σ H9 ⟨x6, x7, x8, x9, x10, x11, x13, rfl, S9, R9⟩
      obtain ⟨dxQ, haQ⟩ := id S9.R.a_
      obtain ⟨dxW, haW⟩ := id R9.a_
      have p9 := S9.p_
      walk_at "rd"
      refine rd_eqOwn ⟨_, _, haQ⟩ (other_own T.c_Ring haW) ?_
      refine ⟨a, r, xs, .ref a2, rfl, S9.R, .inl ⟨a2, r2, xs, rfl, R9, ?_⟩⟩
      refine ⟨_, rfl, ?_⟩
      rw [decide_eq_true rfl]
      walk_at "rd"
      refine rd_eqOwn ⟨_, _, haQ⟩ (other_own T.c_Ring haW) ?_
      refine ⟨a, r, xs, .ref a2, rfl, S9.R, .inl ⟨a2, r2, xs, rfl, R9, ?_⟩⟩
      refine ⟨_, rfl, ?_⟩
      rw [decide_eq_true rfl]
      walk_at "rd"
      refine rd_eqOwn ⟨_, _, haQ⟩ (other_kd (k := .lst) (Is.lst (SqL.of p9)) (notFirst_kd _)) ?_
      refine ⟨a, r, xs, .ref p, rfl, S9.R, .inr ⟨.lst, Is.lst (SqL.of p9), ?_⟩⟩
      refine ⟨_, rfl, ?_⟩
      walk_at "rd"
      rename_i q1 hq1 q2 hq2
      refine use_like (Lk.row (SqL.of (up_new hq2 upd_same)) (SqL.of upd_same) (by show 3 ≤ 100000; decide) (.cons (Lk.eq rfl trivial) (.cons (Lk.eq rfl trivial) (.cons (Lk.eq rfl trivial) .nil)))) fun H10 s10 => ?_
      have sT := (same_up hq2 (same_new hq1 _)).trans s10
      have S10 := S9.same sT
      have R10 := R9.same sT
      obtain ⟨dxU, haU⟩ := id R10.a_
      clear sT s10
      walk_at "rd"
      refine use_draw S10.B (by omega) (by omega) fun d4 H11 d40 d41 B11 bt11 => ?_
      have S11 := S10.draw B11 bt11
      have R11 := R10.but bt11 n1b n2b
      walk_at "rd"
      refine ⟨a2, r2, xs, d4, .str "zzzzzzzz", rfl, R11, d40, (by show nameS _ = true; decide +kernel), fun H12 bt12 R12 => ?_⟩
      have S12 := S11.off bt12 n2b.symm n2l.symm nD na nr np
      obtain ⟨dxV, haV⟩ := id S12.R.a_
      obtain ⟨dxZ, haZ⟩ := id R12.a_
      walk_at "rd"
      refine rd_eqOwn ⟨_, _, haV⟩ (other_own T.c_Ring haZ) ?_
      refine ⟨a, r, xs, .ref a2, rfl, S12.R, .inl ⟨a2, r2, _, rfl, R12, ?_⟩⟩
      refine ⟨_, rfl, ?_⟩
      rw [decide_eq_false (set_new (spot_lt n1x) xe)]
      walk_at "rd"
      refine use_ring m1 (by omega) fun a3 r3 H13 ha3 hr3 s13 R13 => ?_
      walk_at "rd"
      refine use_ring (by omega) (by omega) fun a4 r4 H14 ha4 hr4 s14 R14 => ?_
      have R13' := R13.same s14
      obtain ⟨dx3, hb3⟩ := id R13'.a_
      obtain ⟨dx4, hb4⟩ := id R14.a_
      walk_at "rd"
      refine rd_eqOwn ⟨_, _, hb3⟩ (other_own T.c_Ring hb4) ?_
      refine ⟨a3, r3, _, .ref a4, rfl, R13', .inl ⟨a4, r4, _, rfl, R14, ?_⟩⟩
      refine ⟨_, rfl, ?_⟩
      rw [decide_eq_false (by
        intro e
        have := congrArg List.length e
        rw [List.length_replicate, List.length_replicate] at this
        omega)]
      walk_at "rd"
      refine use_ring m1 (by omega) fun a5 r5 H15 ha5 hr5 s15 R15 => ?_
      walk_at "rd"
      refine rd_rep1 (by walk_at "hp") (by omega) (by omega) fun p5 hp5 => ?_
      walk_at "rd"
      refine ⟨a5, r5, p5, _, rfl, R15.same (same_up hp5 (same_new (by assumption) _)), upd_same, fun H' s' => ?_⟩
      exact q _
end

end My
namespace My
open PySem PySem.Spec PyProof.Rows L2 Kt Ow
theorem all_mk {K : PySem.W.Frag} {h : Heap} {mg : Str → Option Value} (X : K.In h) (G : h.Ns mainGlobals mg)
    (n_all : PySem.W.nsIn K mainGlobals "all" = some none)
    (n_bool : PySem.W.nsIn K mainGlobals "bool" = some none)
    (n_dict : PySem.W.nsIn K mainGlobals "dict" = some none)
    (n_int : PySem.W.nsIn K mainGlobals "int" = some none)
    (n_isinstance : PySem.W.nsIn K mainGlobals "isinstance" = some none)
    (n_len : PySem.W.nsIn K mainGlobals "len" = some none)
    (n_list : PySem.W.nsIn K mainGlobals "list" = some none)
    (n_range : PySem.W.nsIn K mainGlobals "range" = some none)
    (n_repr : PySem.W.nsIn K mainGlobals "repr" = some none)
    (n_str : PySem.W.nsIn K mainGlobals "str" = some none)
    (n_tuple : PySem.W.nsIn K mainGlobals "tuple" = some none)
    (n_zip : PySem.W.nsIn K mainGlobals "zip" = some none)
    {t_LETTERS : Tok} (g_LETTERS : PySem.W.nsIn K mainGlobals "LETTERS" = some (some (.str "abcdefghijklmnopqrstuvwxyz" t_LETTERS)))
    {t_LONGEST_NAME : Tok} (g_LONGEST_NAME : PySem.W.nsIn K mainGlobals "LONGEST_NAME" = some (some (.int 8 t_LONGEST_NAME)))
    {t_MOST_LENGTH : Tok} (g_MOST_LENGTH : PySem.W.nsIn K mainGlobals "MOST_LENGTH" = some (some (.int 1000 t_MOST_LENGTH)))
    {C_Ring : Addr} (a_C_Ring : PySem.W.nsIn K mainGlobals "Ring" = some (some (.ref C_Ring))) (na_Ring_rows : PySem.W.findIn K (.ref C_Ring) "rows" = some none) (pg_Ring : PySem.W.plainGet K C_Ring Str.empty = true) (hd_Ring : PySem.W.hasDictIn K C_Ring = true) (po_Ring : PySem.W.plainOver K C_Ring = true) (sa_Ring : PySem.W.findIn K (.ref C_Ring) "__setattr__" = some (some (.builtin "object.__setattr__"))) (mk_Ring : PySem.W.makesIn K C_Ring = true) (kp_Ring : PySem.W.keepIn K (.ref C_Ring) = true) (ca_Ring : PySem.W.findIn K (.ref C_Ring) "__class__" = some (some (.builtin "object.__class__"))) (cn_Ring : PySem.W.specialIn K (.builtin "object.__class__") "__get__" = some (some (.builtin "getset_descriptor.__get__"))) (ct_Ring : PySem.W.takesIn K (.builtin "object.__class__") = some true) (cm_Ring : PySem.W.mroIn K C_Ring (.type "object") = some true) (ne_Ring : PySem.W.findIn K (.ref C_Ring) "__ne__" = some (some (.builtin "object.__ne__"))) (ns_Ring : PySem.W.noSeq K C_Ring = true) (sf_Ring : PySem.W.selfFirst K C_Ring = true) (kl_Ring : PySem.W.kitOne K (.type "list") (.ref C_Ring) = some false)
    {f_Ring___eq__ : Addr} {od_Ring___eq__ an_Ring___eq__ : Option Addr} {sl_Ring___eq__ : Array (Option Value)} {oc_Ring___eq__ kV_Ring___eq__ dc_Ring___eq__ pm_Ring___eq__ cd_Ring___eq__ ct_Ring___eq__ : Value} (a_Ring___eq__ : PySem.W.findIn K (.ref C_Ring) "__eq__" = some (some (.ref f_Ring___eq__))) (i_Ring___eq__ : PySem.W.isFn K (.ref f_Ring___eq__) = true) (l_Ring___eq__ : K.lookup f_Ring___eq__ = some ⟨oc_Ring___eq__, od_Ring___eq__, .func (PySem.W.fnOf "__eq__" "Ring.__eq__" (defArgs (inClass (top 13) 11)) (defBody (inClass (top 13) 11)) (defScope (inClass (top 13) 11)) .none kV_Ring___eq__ dc_Ring___eq__ pm_Ring___eq__ an_Ring___eq__ cd_Ring___eq__ ct_Ring___eq__), sl_Ring___eq__⟩) (c_Ring___eq__ : PySem.W.codeIn K cd_Ring___eq__ "Ring.__eq__" = true) (k_Ring___eq__ : PySem.W.keepIn K (.ref f_Ring___eq__) = true)
    {f_Ring___getitem__ : Addr} {od_Ring___getitem__ an_Ring___getitem__ : Option Addr} {sl_Ring___getitem__ : Array (Option Value)} {oc_Ring___getitem__ kV_Ring___getitem__ dc_Ring___getitem__ pm_Ring___getitem__ cd_Ring___getitem__ ct_Ring___getitem__ : Value} (a_Ring___getitem__ : PySem.W.findIn K (.ref C_Ring) "__getitem__" = some (some (.ref f_Ring___getitem__))) (i_Ring___getitem__ : PySem.W.isFn K (.ref f_Ring___getitem__) = true) (l_Ring___getitem__ : K.lookup f_Ring___getitem__ = some ⟨oc_Ring___getitem__, od_Ring___getitem__, .func (PySem.W.fnOf "__getitem__" "Ring.__getitem__" (defArgs (inClass (top 13) 7)) (defBody (inClass (top 13) 7)) (defScope (inClass (top 13) 7)) .none kV_Ring___getitem__ dc_Ring___getitem__ pm_Ring___getitem__ an_Ring___getitem__ cd_Ring___getitem__ ct_Ring___getitem__), sl_Ring___getitem__⟩) (c_Ring___getitem__ : PySem.W.codeIn K cd_Ring___getitem__ "Ring.__getitem__" = true) (k_Ring___getitem__ : PySem.W.keepIn K (.ref f_Ring___getitem__) = true)
    {f_Ring___init__ : Addr} {od_Ring___init__ an_Ring___init__ : Option Addr} {sl_Ring___init__ : Array (Option Value)} {oc_Ring___init__ kV_Ring___init__ dc_Ring___init__ pm_Ring___init__ cd_Ring___init__ ct_Ring___init__ : Value} (a_Ring___init__ : PySem.W.findIn K (.ref C_Ring) "__init__" = some (some (.ref f_Ring___init__))) (i_Ring___init__ : PySem.W.isFn K (.ref f_Ring___init__) = true) (l_Ring___init__ : K.lookup f_Ring___init__ = some ⟨oc_Ring___init__, od_Ring___init__, .func (PySem.W.fnOf "__init__" "Ring.__init__" (defArgs (inClass (top 13) 0)) (defBody (inClass (top 13) 0)) (defScope (inClass (top 13) 0)) .none kV_Ring___init__ dc_Ring___init__ pm_Ring___init__ an_Ring___init__ cd_Ring___init__ ct_Ring___init__), sl_Ring___init__⟩) (c_Ring___init__ : PySem.W.codeIn K cd_Ring___init__ "Ring.__init__" = true) (k_Ring___init__ : PySem.W.keepIn K (.ref f_Ring___init__) = true)
    {f_Ring___len__ : Addr} {od_Ring___len__ an_Ring___len__ : Option Addr} {sl_Ring___len__ : Array (Option Value)} {oc_Ring___len__ kV_Ring___len__ dc_Ring___len__ pm_Ring___len__ cd_Ring___len__ ct_Ring___len__ : Value} (a_Ring___len__ : PySem.W.findIn K (.ref C_Ring) "__len__" = some (some (.ref f_Ring___len__))) (i_Ring___len__ : PySem.W.isFn K (.ref f_Ring___len__) = true) (l_Ring___len__ : K.lookup f_Ring___len__ = some ⟨oc_Ring___len__, od_Ring___len__, .func (PySem.W.fnOf "__len__" "Ring.__len__" (defArgs (inClass (top 13) 10)) (defBody (inClass (top 13) 10)) (defScope (inClass (top 13) 10)) .none kV_Ring___len__ dc_Ring___len__ pm_Ring___len__ an_Ring___len__ cd_Ring___len__ ct_Ring___len__), sl_Ring___len__⟩) (c_Ring___len__ : PySem.W.codeIn K cd_Ring___len__ "Ring.__len__" = true) (k_Ring___len__ : PySem.W.keepIn K (.ref f_Ring___len__) = true)
    {f_Ring___repr__ : Addr} {od_Ring___repr__ an_Ring___repr__ : Option Addr} {sl_Ring___repr__ : Array (Option Value)} {oc_Ring___repr__ kV_Ring___repr__ dc_Ring___repr__ pm_Ring___repr__ cd_Ring___repr__ ct_Ring___repr__ : Value} (a_Ring___repr__ : PySem.W.findIn K (.ref C_Ring) "__repr__" = some (some (.ref f_Ring___repr__))) (i_Ring___repr__ : PySem.W.isFn K (.ref f_Ring___repr__) = true) (l_Ring___repr__ : K.lookup f_Ring___repr__ = some ⟨oc_Ring___repr__, od_Ring___repr__, .func (PySem.W.fnOf "__repr__" "Ring.__repr__" (defArgs (inClass (top 13) 12)) (defBody (inClass (top 13) 12)) (defScope (inClass (top 13) 12)) .none kV_Ring___repr__ dc_Ring___repr__ pm_Ring___repr__ an_Ring___repr__ cd_Ring___repr__ ct_Ring___repr__), sl_Ring___repr__⟩) (c_Ring___repr__ : PySem.W.codeIn K cd_Ring___repr__ "Ring.__repr__" = true) (k_Ring___repr__ : PySem.W.keepIn K (.ref f_Ring___repr__) = true)
    {f_Ring___setitem__ : Addr} {od_Ring___setitem__ an_Ring___setitem__ : Option Addr} {sl_Ring___setitem__ : Array (Option Value)} {oc_Ring___setitem__ kV_Ring___setitem__ dc_Ring___setitem__ pm_Ring___setitem__ cd_Ring___setitem__ ct_Ring___setitem__ : Value} (a_Ring___setitem__ : PySem.W.findIn K (.ref C_Ring) "__setitem__" = some (some (.ref f_Ring___setitem__))) (i_Ring___setitem__ : PySem.W.isFn K (.ref f_Ring___setitem__) = true) (l_Ring___setitem__ : K.lookup f_Ring___setitem__ = some ⟨oc_Ring___setitem__, od_Ring___setitem__, .func (PySem.W.fnOf "__setitem__" "Ring.__setitem__" (defArgs (inClass (top 13) 8)) (defBody (inClass (top 13) 8)) (defScope (inClass (top 13) 8)) .none kV_Ring___setitem__ dc_Ring___setitem__ pm_Ring___setitem__ an_Ring___setitem__ cd_Ring___setitem__ ct_Ring___setitem__), sl_Ring___setitem__⟩) (c_Ring___setitem__ : PySem.W.codeIn K cd_Ring___setitem__ "Ring.__setitem__" = true) (k_Ring___setitem__ : PySem.W.keepIn K (.ref f_Ring___setitem__) = true)
    {f_Ring_entries : Addr} {od_Ring_entries an_Ring_entries : Option Addr} {sl_Ring_entries : Array (Option Value)} {oc_Ring_entries kV_Ring_entries dc_Ring_entries pm_Ring_entries cd_Ring_entries ct_Ring_entries : Value} (a_Ring_entries : PySem.W.findIn K (.ref C_Ring) "entries" = some (some (.ref f_Ring_entries))) (i_Ring_entries : PySem.W.isFn K (.ref f_Ring_entries) = true) (l_Ring_entries : K.lookup f_Ring_entries = some ⟨oc_Ring_entries, od_Ring_entries, .func (PySem.W.fnOf "entries" "Ring.entries" (defArgs (inClass (top 13) 5)) (defBody (inClass (top 13) 5)) (defScope (inClass (top 13) 5)) .none kV_Ring_entries dc_Ring_entries pm_Ring_entries an_Ring_entries cd_Ring_entries ct_Ring_entries), sl_Ring_entries⟩) (c_Ring_entries : PySem.W.codeIn K cd_Ring_entries "Ring.entries" = true) (k_Ring_entries : PySem.W.keepIn K (.ref f_Ring_entries) = true)
    {f_Ring_restore : Addr} {od_Ring_restore an_Ring_restore : Option Addr} {sl_Ring_restore : Array (Option Value)} {oc_Ring_restore kV_Ring_restore dc_Ring_restore pm_Ring_restore cd_Ring_restore ct_Ring_restore : Value} (a_Ring_restore : PySem.W.findIn K (.ref C_Ring) "restore" = some (some (.ref f_Ring_restore))) (i_Ring_restore : PySem.W.isFn K (.ref f_Ring_restore) = true) (l_Ring_restore : K.lookup f_Ring_restore = some ⟨oc_Ring_restore, od_Ring_restore, .func (PySem.W.fnOf "restore" "Ring.restore" (defArgs (inClass (top 13) 4)) (defBody (inClass (top 13) 4)) (defScope (inClass (top 13) 4)) .none kV_Ring_restore dc_Ring_restore pm_Ring_restore an_Ring_restore cd_Ring_restore ct_Ring_restore), sl_Ring_restore⟩) (c_Ring_restore : PySem.W.codeIn K cd_Ring_restore "Ring.restore" = true) (k_Ring_restore : PySem.W.keepIn K (.ref f_Ring_restore) = true)
    {f_Ring_spot : Addr} {od_Ring_spot an_Ring_spot : Option Addr} {sl_Ring_spot : Array (Option Value)} {oc_Ring_spot kV_Ring_spot dc_Ring_spot pm_Ring_spot cd_Ring_spot ct_Ring_spot : Value} (a_Ring_spot : PySem.W.findIn K (.ref C_Ring) "spot" = some (some (.ref f_Ring_spot))) (i_Ring_spot : PySem.W.isFn K (.ref f_Ring_spot) = true) (l_Ring_spot : K.lookup f_Ring_spot = some ⟨oc_Ring_spot, od_Ring_spot, .func (PySem.W.fnOf "spot" "Ring.spot" (defArgs (inClass (top 13) 2)) (defBody (inClass (top 13) 2)) (defScope (inClass (top 13) 2)) .none kV_Ring_spot dc_Ring_spot pm_Ring_spot an_Ring_spot cd_Ring_spot ct_Ring_spot), sl_Ring_spot⟩) (c_Ring_spot : PySem.W.codeIn K cd_Ring_spot "Ring.spot" = true) (k_Ring_spot : PySem.W.keepIn K (.ref f_Ring_spot) = true)
    {f_Ring_write : Addr} {od_Ring_write an_Ring_write : Option Addr} {sl_Ring_write : Array (Option Value)} {oc_Ring_write kV_Ring_write dc_Ring_write pm_Ring_write cd_Ring_write ct_Ring_write : Value} (a_Ring_write : PySem.W.findIn K (.ref C_Ring) "write" = some (some (.ref f_Ring_write))) (i_Ring_write : PySem.W.isFn K (.ref f_Ring_write) = true) (l_Ring_write : K.lookup f_Ring_write = some ⟨oc_Ring_write, od_Ring_write, .func (PySem.W.fnOf "write" "Ring.write" (defArgs (inClass (top 13) 3)) (defBody (inClass (top 13) 3)) (defScope (inClass (top 13) 3)) .none kV_Ring_write dc_Ring_write pm_Ring_write an_Ring_write cd_Ring_write ct_Ring_write), sl_Ring_write⟩) (c_Ring_write : PySem.W.codeIn K cd_Ring_write "Ring.write" = true) (k_Ring_write : PySem.W.keepIn K (.ref f_Ring_write) = true)
    {f_Ring_length : Addr} {od_Ring_length an_Ring_length : Option Addr} {sl_Ring_length : Array (Option Value)} {oc_Ring_length kV_Ring_length dc_Ring_length pm_Ring_length cd_Ring_length ct_Ring_length : Value} {p_Ring_length : Addr} {rs_Ring_length : List Value} (a_Ring_length : PySem.W.findIn K (.ref C_Ring) "length" = some (some (.ref p_Ring_length))) (g_Ring_length : PySem.W.specialIn K (.ref p_Ring_length) "__get__" = some (some (.builtin "property.__get__"))) (t_Ring_length : PySem.W.takesIn K (.ref p_Ring_length) = some true) (r_Ring_length : PySem.W.recIn K p_Ring_length "property" = some (.ref f_Ring_length :: rs_Ring_length)) (l_Ring_length : K.lookup f_Ring_length = some ⟨oc_Ring_length, od_Ring_length, .func (PySem.W.fnOf "length" "Ring.length" (defArgs (inClass (top 13) 1)) (defBody (inClass (top 13) 1)) (defScope (inClass (top 13) 1)) .none kV_Ring_length dc_Ring_length pm_Ring_length an_Ring_length cd_Ring_length ct_Ring_length), sl_Ring_length⟩) (c_Ring_length : PySem.W.codeIn K cd_Ring_length "Ring.length" = true) (k_Ring_length : PySem.W.keepIn K (.ref f_Ring_length) = true)
    {f__law_any : Addr} {od__law_any an__law_any : Option Addr} {sl__law_any : Array (Option Value)} {oc__law_any kV__law_any dc__law_any pm__law_any cd__law_any ct__law_any : Value} (a__law_any : PySem.W.nsIn K mainGlobals "_law_any" = some (some (.ref f__law_any))) (l__law_any : K.lookup f__law_any = some ⟨oc__law_any, od__law_any, .func (PySem.W.fnOf "_law_any" "_law_any" (defArgs (top 17)) (defBody (top 17)) (defScope (top 17)) .none kV__law_any dc__law_any pm__law_any an__law_any cd__law_any ct__law_any), sl__law_any⟩) (c__law_any : PySem.W.codeIn K cd__law_any "_law_any" = true) (k__law_any : PySem.W.keepIn K (.ref f__law_any) = true)
    {f__law_bag : Addr} {od__law_bag an__law_bag : Option Addr} {sl__law_bag : Array (Option Value)} {oc__law_bag kV__law_bag dc__law_bag pm__law_bag cd__law_bag ct__law_bag : Value} (a__law_bag : PySem.W.nsIn K mainGlobals "_law_bag" = some (some (.ref f__law_bag))) (l__law_bag : K.lookup f__law_bag = some ⟨oc__law_bag, od__law_bag, .func (PySem.W.fnOf "_law_bag" "_law_bag" (defArgs (top 15)) (defBody (top 15)) (defScope (top 15)) .none kV__law_bag dc__law_bag pm__law_bag an__law_bag cd__law_bag ct__law_bag), sl__law_bag⟩) (c__law_bag : PySem.W.codeIn K cd__law_bag "_law_bag" = true) (k__law_bag : PySem.W.keepIn K (.ref f__law_bag) = true)
    {f__law_draw : Addr} {od__law_draw an__law_draw : Option Addr} {sl__law_draw : Array (Option Value)} {oc__law_draw kV__law_draw dc__law_draw pm__law_draw cd__law_draw ct__law_draw : Value} (a__law_draw : PySem.W.nsIn K mainGlobals "_law_draw" = some (some (.ref f__law_draw))) (l__law_draw : K.lookup f__law_draw = some ⟨oc__law_draw, od__law_draw, .func (PySem.W.fnOf "_law_draw" "_law_draw" (defArgs (top 16)) (defBody (top 16)) (defScope (top 16)) .none kV__law_draw dc__law_draw pm__law_draw an__law_draw cd__law_draw ct__law_draw), sl__law_draw⟩) (c__law_draw : PySem.W.codeIn K cd__law_draw "_law_draw" = true) (k__law_draw : PySem.W.keepIn K (.ref f__law_draw) = true)
    {f__law_like : Addr} {od__law_like an__law_like : Option Addr} {sl__law_like : Array (Option Value)} {oc__law_like kV__law_like dc__law_like pm__law_like cd__law_like ct__law_like : Value} (a__law_like : PySem.W.nsIn K mainGlobals "_law_like" = some (some (.ref f__law_like))) (l__law_like : K.lookup f__law_like = some ⟨oc__law_like, od__law_like, .func (PySem.W.fnOf "_law_like" "_law_like" (defArgs (top 18)) (defBody (top 18)) (defScope (top 18)) .none kV__law_like dc__law_like pm__law_like an__law_like cd__law_like ct__law_like), sl__law_like⟩) (c__law_like : PySem.W.codeIn K cd__law_like "_law_like" = true) (k__law_like : PySem.W.keepIn K (.ref f__law_like) = true)
    {f__law_ring_so : Addr} {od__law_ring_so an__law_ring_so : Option Addr} {sl__law_ring_so : Array (Option Value)} {oc__law_ring_so kV__law_ring_so dc__law_ring_so pm__law_ring_so cd__law_ring_so ct__law_ring_so : Value} (a__law_ring_so : PySem.W.nsIn K mainGlobals "_law_ring_so" = some (some (.ref f__law_ring_so))) (l__law_ring_so : K.lookup f__law_ring_so = some ⟨oc__law_ring_so, od__law_ring_so, .func (PySem.W.fnOf "_law_ring_so" "_law_ring_so" (defArgs (top 20)) (defBody (top 20)) (defScope (top 20)) .none kV__law_ring_so dc__law_ring_so pm__law_ring_so an__law_ring_so cd__law_ring_so ct__law_ring_so), sl__law_ring_so⟩) (c__law_ring_so : PySem.W.codeIn K cd__law_ring_so "_law_ring_so" = true) (k__law_ring_so : PySem.W.keepIn K (.ref f__law_ring_so) = true)
    {f__law_words : Addr} {od__law_words an__law_words : Option Addr} {sl__law_words : Array (Option Value)} {oc__law_words kV__law_words dc__law_words pm__law_words cd__law_words ct__law_words : Value} (a__law_words : PySem.W.nsIn K mainGlobals "_law_words" = some (some (.ref f__law_words))) (l__law_words : K.lookup f__law_words = some ⟨oc__law_words, od__law_words, .func (PySem.W.fnOf "_law_words" "_law_words" (defArgs (top 19)) (defBody (top 19)) (defScope (top 19)) .none kV__law_words dc__law_words pm__law_words an__law_words cd__law_words ct__law_words), sl__law_words⟩) (c__law_words : PySem.W.codeIn K cd__law_words "_law_words" = true) (k__law_words : PySem.W.keepIn K (.ref f__law_words) = true)
    {f_is_name : Addr} {od_is_name an_is_name : Option Addr} {sl_is_name : Array (Option Value)} {oc_is_name kV_is_name dc_is_name pm_is_name cd_is_name ct_is_name : Value} (a_is_name : PySem.W.nsIn K mainGlobals "is_name" = some (some (.ref f_is_name))) (l_is_name : K.lookup f_is_name = some ⟨oc_is_name, od_is_name, .func (PySem.W.fnOf "is_name" "is_name" (defArgs (top 9)) (defBody (top 9)) (defScope (top 9)) .none kV_is_name dc_is_name pm_is_name an_is_name cd_is_name ct_is_name), sl_is_name⟩) (c_is_name : PySem.W.codeIn K cd_is_name "is_name" = true) (k_is_name : PySem.W.keepIn K (.ref f_is_name) = true)
    {f_is_number : Addr} {od_is_number an_is_number : Option Addr} {sl_is_number : Array (Option Value)} {oc_is_number kV_is_number dc_is_number pm_is_number cd_is_number ct_is_number : Value} (a_is_number : PySem.W.nsIn K mainGlobals "is_number" = some (some (.ref f_is_number))) (l_is_number : K.lookup f_is_number = some ⟨oc_is_number, od_is_number, .func (PySem.W.fnOf "is_number" "is_number" (defArgs (top 10)) (defBody (top 10)) (defScope (top 10)) .none kV_is_number dc_is_number pm_is_number an_is_number cd_is_number ct_is_number), sl_is_number⟩) (c_is_number : PySem.W.codeIn K cd_is_number "is_number" = true) (k_is_number : PySem.W.keepIn K (.ref f_is_number) = true)
    {f_law : Addr} {od_law an_law : Option Addr} {sl_law : Array (Option Value)} {oc_law kV_law dc_law pm_law cd_law ct_law : Value} (a_law : PySem.W.nsIn K mainGlobals "law" = some (some (.ref f_law))) (l_law : K.lookup f_law = some ⟨oc_law, od_law, .func (PySem.W.fnOf "law" "law" (defArgs (top 21)) (defBody (top 21)) (defScope (top 21)) .none kV_law dc_law pm_law an_law cd_law ct_law), sl_law⟩) (c_law : PySem.W.codeIn K cd_law "law" = true) (k_law : PySem.W.keepIn K (.ref f_law) = true) :
    Txt K mg :=
  ⟨PySem.W.mg_none_of X G n_all,
   PySem.W.mg_none_of X G n_bool,
   PySem.W.mg_none_of X G n_dict,
   PySem.W.mg_none_of X G n_int,
   PySem.W.mg_none_of X G n_isinstance,
   PySem.W.mg_none_of X G n_len,
   PySem.W.mg_none_of X G n_list,
   PySem.W.mg_none_of X G n_range,
   PySem.W.mg_none_of X G n_repr,
   PySem.W.mg_none_of X G n_str,
   PySem.W.mg_none_of X G n_tuple,
   PySem.W.mg_none_of X G n_zip,
   ⟨_, PySem.W.mg_of X G g_LETTERS⟩,
   ⟨_, PySem.W.mg_of X G g_LONGEST_NAME⟩,
   ⟨_, PySem.W.mg_of X G g_MOST_LENGTH⟩,
   clsD_of (PySem.W.mg_of X G a_C_Ring) (na_cons na_Ring_rows na_nil) pg_Ring hd_Ring po_Ring sa_Ring mk_Ring kp_Ring ca_Ring cn_Ring ct_Ring cm_Ring ne_Ring ns_Ring sf_Ring kl_Ring,
   mthD_of (PySem.W.mg_of X G a_C_Ring) a_Ring___eq__ i_Ring___eq__ k_Ring___eq__ (fun_mk (st := (inClass (top 13) 11)) l_Ring___eq__ c_Ring___eq__ k_Ring___eq__),
   mthD_of (PySem.W.mg_of X G a_C_Ring) a_Ring___getitem__ i_Ring___getitem__ k_Ring___getitem__ (fun_mk (st := (inClass (top 13) 7)) l_Ring___getitem__ c_Ring___getitem__ k_Ring___getitem__),
   mthD_of (PySem.W.mg_of X G a_C_Ring) a_Ring___init__ i_Ring___init__ k_Ring___init__ (fun_mk (st := (inClass (top 13) 0)) l_Ring___init__ c_Ring___init__ k_Ring___init__),
   mthD_of (PySem.W.mg_of X G a_C_Ring) a_Ring___len__ i_Ring___len__ k_Ring___len__ (fun_mk (st := (inClass (top 13) 10)) l_Ring___len__ c_Ring___len__ k_Ring___len__),
   mthD_of (PySem.W.mg_of X G a_C_Ring) a_Ring___repr__ i_Ring___repr__ k_Ring___repr__ (fun_mk (st := (inClass (top 13) 12)) l_Ring___repr__ c_Ring___repr__ k_Ring___repr__),
   mthD_of (PySem.W.mg_of X G a_C_Ring) a_Ring___setitem__ i_Ring___setitem__ k_Ring___setitem__ (fun_mk (st := (inClass (top 13) 8)) l_Ring___setitem__ c_Ring___setitem__ k_Ring___setitem__),
   mthD_of (PySem.W.mg_of X G a_C_Ring) a_Ring_entries i_Ring_entries k_Ring_entries (fun_mk (st := (inClass (top 13) 5)) l_Ring_entries c_Ring_entries k_Ring_entries),
   mthD_of (PySem.W.mg_of X G a_C_Ring) a_Ring_restore i_Ring_restore k_Ring_restore (fun_mk (st := (inClass (top 13) 4)) l_Ring_restore c_Ring_restore k_Ring_restore),
   mthD_of (PySem.W.mg_of X G a_C_Ring) a_Ring_spot i_Ring_spot k_Ring_spot (fun_mk (st := (inClass (top 13) 2)) l_Ring_spot c_Ring_spot k_Ring_spot),
   mthD_of (PySem.W.mg_of X G a_C_Ring) a_Ring_write i_Ring_write k_Ring_write (fun_mk (st := (inClass (top 13) 3)) l_Ring_write c_Ring_write k_Ring_write),
   prpD_of (PySem.W.mg_of X G a_C_Ring) a_Ring_length g_Ring_length t_Ring_length r_Ring_length (fun_mk (st := (inClass (top 13) 1)) l_Ring_length c_Ring_length k_Ring_length),
   ⟨_, _, PySem.W.mg_of X G a__law_any, fun_mk (st := (top 17)) l__law_any c__law_any k__law_any⟩,
   ⟨_, _, PySem.W.mg_of X G a__law_bag, fun_mk (st := (top 15)) l__law_bag c__law_bag k__law_bag⟩,
   ⟨_, _, PySem.W.mg_of X G a__law_draw, fun_mk (st := (top 16)) l__law_draw c__law_draw k__law_draw⟩,
   ⟨_, _, PySem.W.mg_of X G a__law_like, fun_mk (st := (top 18)) l__law_like c__law_like k__law_like⟩,
   ⟨_, _, PySem.W.mg_of X G a__law_ring_so, fun_mk (st := (top 20)) l__law_ring_so c__law_ring_so k__law_ring_so⟩,
   ⟨_, _, PySem.W.mg_of X G a__law_words, fun_mk (st := (top 19)) l__law_words c__law_words k__law_words⟩,
   ⟨_, _, PySem.W.mg_of X G a_is_name, fun_mk (st := (top 9)) l_is_name c_is_name k_is_name⟩,
   ⟨_, _, PySem.W.mg_of X G a_is_number, fun_mk (st := (top 10)) l_is_number c_is_number k_is_number⟩,
   ⟨_, _, PySem.W.mg_of X G a_law, fun_mk (st := (top 21)) l_law c_law k_law⟩⟩
theorem walk {l : PySem.W.OpenLaw} {q : Program} {loose : List Str} {XP : (Str → Option Value) → Heap → Prop} {YP : World → Heap → Prop} {d : DefRec} {K : Params → PySem.W.Frag} (hn : l.most = some 63) (hdf : d.params.defaults = [])
    (hnm : d.name = "law") (hY : ∀ (w : World) (h : Heap), YP w h → (K w.params).In h)
    (F : ∀ (w : World) (mg : Str → Option Value) (h : Heap), (K w.params).In h → h.Ns mainGlobals mg → Txt (K w.params) mg) :
    PySem.W.WalkO q loose XP YP l.row.toRowW d [] (fun f vs => PySem.call f vs) :=
  L2.walk_of (n := 63) (k := 60) (x := "_law_script") (CX := fun _ => CX0) (sp := fun w => spLaw (K w.params)) hn (by decide) hdf ⟨rfl, by decide, by decide⟩ hY
    (fun w mg fa h X G hfa => fn_of_cal (F w mg h X G).d_law (by rw [← hnm]; exact hfa) (fun _ _ _ _ _ _ us hl => match us, hl with | [_], _ => rfl) fun base kb nb => ok_law (F w mg base kb nb))
    (fun _ _ a ns hl _ hS => ⟨a, ns, rfl, hS, hl, fun _ => rfl⟩) fun _ _ _ _ _ z => z
end My
open PySem PySem.W PyProof.Rows
set_option maxRecDepth 100000 in
set_option maxHeartbeats 0 in
theorem PySem.Challenge.cw_backring_k18_whole_rings_written_and_rea_holds : PySem.Challenge.rw_backring_k18_whole_rings_written_and_rea.Holds := by
  w_on; o_law; k_head; (case hw => w_witness2)
  k_fill
  refine My.walk (l := PySem.Challenge.rw_backring_k18_whole_rings_written_and_rea) rfl rfl rfl (fun w h Y => PySem.W.kIn_of Y) ?F
  case F =>
    intro w mg h KX G
    refine' My.all_mk KX G ?n_all ?n_bool ?n_dict ?n_int ?n_isinstance ?n_len ?n_list ?n_range ?n_repr ?n_str ?n_tuple ?n_zip ?g_LETTERS ?g_LONGEST_NAME ?g_MOST_LENGTH ?a_C_Ring ?na_Ring_rows ?pg_Ring ?hd_Ring ?po_Ring ?sa_Ring ?mk_Ring ?kp_Ring ?ca_Ring ?cn_Ring ?ct_Ring ?cm_Ring ?ne_Ring ?ns_Ring ?sf_Ring ?kl_Ring ?a_Ring___eq__ ?i_Ring___eq__ ?l_Ring___eq__ ?c_Ring___eq__ ?k_Ring___eq__ ?a_Ring___getitem__ ?i_Ring___getitem__ ?l_Ring___getitem__ ?c_Ring___getitem__ ?k_Ring___getitem__ ?a_Ring___init__ ?i_Ring___init__ ?l_Ring___init__ ?c_Ring___init__ ?k_Ring___init__ ?a_Ring___len__ ?i_Ring___len__ ?l_Ring___len__ ?c_Ring___len__ ?k_Ring___len__ ?a_Ring___repr__ ?i_Ring___repr__ ?l_Ring___repr__ ?c_Ring___repr__ ?k_Ring___repr__ ?a_Ring___setitem__ ?i_Ring___setitem__ ?l_Ring___setitem__ ?c_Ring___setitem__ ?k_Ring___setitem__ ?a_Ring_entries ?i_Ring_entries ?l_Ring_entries ?c_Ring_entries ?k_Ring_entries ?a_Ring_restore ?i_Ring_restore ?l_Ring_restore ?c_Ring_restore ?k_Ring_restore ?a_Ring_spot ?i_Ring_spot ?l_Ring_spot ?c_Ring_spot ?k_Ring_spot ?a_Ring_write ?i_Ring_write ?l_Ring_write ?c_Ring_write ?k_Ring_write ?a_Ring_length ?g_Ring_length ?t_Ring_length ?r_Ring_length ?l_Ring_length ?c_Ring_length ?k_Ring_length ?a__law_any ?l__law_any ?c__law_any ?k__law_any ?a__law_bag ?l__law_bag ?c__law_bag ?k__law_bag ?a__law_draw ?l__law_draw ?c__law_draw ?k__law_draw ?a__law_like ?l__law_like ?c__law_like ?k__law_like ?a__law_ring_so ?l__law_ring_so ?c__law_ring_so ?k__law_ring_so ?a__law_words ?l__law_words ?c__law_words ?k__law_words ?a_is_name ?l_is_name ?c_is_name ?k_is_name ?a_is_number ?l_is_number ?c_is_number ?k_is_number ?a_law ?l_law ?c_law ?k_law
    (case n_all => k_is)
    (case n_bool => k_is)
    (case n_dict => k_is)
    (case n_int => k_is)
    (case n_isinstance => k_is)
    (case n_len => k_is)
    (case n_list => k_is)
    (case n_range => k_is)
    (case n_repr => k_is)
    (case n_str => k_is)
    (case n_tuple => k_is)
    (case n_zip => k_is)
    (case g_LETTERS => k_is)
    (case g_LONGEST_NAME => k_is)
    (case g_MOST_LENGTH => k_is)
    (case a_C_Ring => k_is)
    (case na_Ring_rows => k_is)
    (case pg_Ring => k_is)
    (case hd_Ring => k_is)
    (case po_Ring => k_is)
    (case sa_Ring => k_is)
    (case mk_Ring => k_is)
    (case kp_Ring => k_is)
    (case ca_Ring => k_is)
    (case cn_Ring => k_is)
    (case ct_Ring => k_is)
    (case cm_Ring => k_is)
    (case ne_Ring => k_is)
    (case ns_Ring => k_is)
    (case sf_Ring => k_is)
    (case kl_Ring => kit_is)
    (case a_Ring___eq__ => k_is)
    (case i_Ring___eq__ => k_is)
    (case l_Ring___eq__ => k_is)
    (case c_Ring___eq__ => k_is)
    (case k_Ring___eq__ => k_is)
    (case a_Ring___getitem__ => k_is)
    (case i_Ring___getitem__ => k_is)
    (case l_Ring___getitem__ => k_is)
    (case c_Ring___getitem__ => k_is)
    (case k_Ring___getitem__ => k_is)
    (case a_Ring___init__ => k_is)
    (case i_Ring___init__ => k_is)
    (case l_Ring___init__ => k_is)
    (case c_Ring___init__ => k_is)
    (case k_Ring___init__ => k_is)
    (case a_Ring___len__ => k_is)
    (case i_Ring___len__ => k_is)
    (case l_Ring___len__ => k_is)
    (case c_Ring___len__ => k_is)
    (case k_Ring___len__ => k_is)
    (case a_Ring___repr__ => k_is)
    (case i_Ring___repr__ => k_is)
    (case l_Ring___repr__ => k_is)
    (case c_Ring___repr__ => k_is)
    (case k_Ring___repr__ => k_is)
    (case a_Ring___setitem__ => k_is)
    (case i_Ring___setitem__ => k_is)
    (case l_Ring___setitem__ => k_is)
    (case c_Ring___setitem__ => k_is)
    (case k_Ring___setitem__ => k_is)
    (case a_Ring_entries => k_is)
    (case i_Ring_entries => k_is)
    (case l_Ring_entries => k_is)
    (case c_Ring_entries => k_is)
    (case k_Ring_entries => k_is)
    (case a_Ring_restore => k_is)
    (case i_Ring_restore => k_is)
    (case l_Ring_restore => k_is)
    (case c_Ring_restore => k_is)
    (case k_Ring_restore => k_is)
    (case a_Ring_spot => k_is)
    (case i_Ring_spot => k_is)
    (case l_Ring_spot => k_is)
    (case c_Ring_spot => k_is)
    (case k_Ring_spot => k_is)
    (case a_Ring_write => k_is)
    (case i_Ring_write => k_is)
    (case l_Ring_write => k_is)
    (case c_Ring_write => k_is)
    (case k_Ring_write => k_is)
    (case a_Ring_length => k_is)
    (case g_Ring_length => k_is)
    (case t_Ring_length => k_is)
    (case r_Ring_length => k_is)
    (case l_Ring_length => k_is)
    (case c_Ring_length => k_is)
    (case k_Ring_length => k_is)
    (case a__law_any => k_is)
    (case l__law_any => k_is)
    (case c__law_any => k_is)
    (case k__law_any => k_is)
    (case a__law_bag => k_is)
    (case l__law_bag => k_is)
    (case c__law_bag => k_is)
    (case k__law_bag => k_is)
    (case a__law_draw => k_is)
    (case l__law_draw => k_is)
    (case c__law_draw => k_is)
    (case k__law_draw => k_is)
    (case a__law_like => k_is)
    (case l__law_like => k_is)
    (case c__law_like => k_is)
    (case k__law_like => k_is)
    (case a__law_ring_so => k_is)
    (case l__law_ring_so => k_is)
    (case c__law_ring_so => k_is)
    (case k__law_ring_so => k_is)
    (case a__law_words => k_is)
    (case l__law_words => k_is)
    (case c__law_words => k_is)
    (case k__law_words => k_is)
    (case a_is_name => k_is)
    (case l_is_name => k_is)
    (case c_is_name => k_is)
    (case k_is_name => k_is)
    (case a_is_number => k_is)
    (case l_is_number => k_is)
    (case c_is_number => k_is)
    (case k_is_number => k_is)
    (case a_law => k_is)
    (case l_law => k_is)
    (case c_law => k_is)
    (case k_law => k_is)
