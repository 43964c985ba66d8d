import PyProof.Rows.All
import Wide.All
import OpenK.AllK
import Wide.FinOn
import HandS.Base
import HandS.Call
import HandS.List
import HandS.Comp
import HandS.Ends
import HandS.Iter
import HandS.Text
import HandS.Words
import HandS.WordsList
import HandS.Replace
import HandS.IsInst
import HandS.Flow
import PyProof.ReprRoads
import HandS.Exc
import HandS.ExcOwn
import HandS.ExcIs
import HandS.HotCalls
import HandS.ExcInit
import HandS.Nested
import KE.KExcSuper
import HandS.Walk
import HandS.ExcValue
import KE.KExcIs
import HandS.Style
import PySem.Challenge.RW_hallofwords_k00_errors_stand_apart
set_option Elab.async false
set_option linter.all false
set_option maxRecDepth 100000
set_option maxHeartbeats 4000000
/-! a layer over the hand layer: defs that know that nothing is being shown (guards), deep data, frozen heaps -/
namespace Hw
open PySem PySem.Spec PyProof.Rows L2

/-- as the hand layer's FnOk, for callers around whom no repr runs -/
structure FnG (P : Program) (w : World) (K : PySem.W.Frag) (mg : Str → Option Value) (base : Heap) (CX : CXT) (k : Nat) (f : Addr) (fd : FuncData) (ps : List Str) (sp : Sp) : Prop where
  size : ∀ vs H Q E, sp vs H Q E → vs.length = ps.length
  go : ∀ (A : Around) (out : List Env) (z : Shared) (H : Hp) (ar : Args) (us : List Value) (vs : List V) (Q : VK) (E : XK), A.guards = some [] → Room k A →
    Env0 P w K mg base A out z H → BindsTo z fd ar (ps.zip us) → Vals vs us → sp vs H Q E → codeAny (model P w) A (.call (.ref f) ar) (CR CX out P w H z Q E) z
section
variable {P : Program} {w : World} {K : PySem.W.Frag} {mg : Str → Option Value} {base : Heap} {CX : CXT} {k j : Nat} {f : Addr} {fd : FuncData} {ps N : List Str} {sp sp' : Sp}
theorem FnG.ofOk (F : FnOk P w K mg base CX k f fd ps sp) : FnG P w K mg base CX k f fd ps sp :=
  ⟨F.len, fun A out z H ar us vs Q E _ => F.run A out z H ar us vs Q E⟩
theorem FnG.up (F : FnG P w K mg base CX j f fd ps sp) (h : j ≤ k) : FnG P w K mg base CX k f fd ps sp :=
  ⟨F.size, fun A out z H ar us vs Q E g r => F.go A out z H ar us vs Q E g (r.mono h)⟩
theorem FnG.weaker (F : FnG P w K mg base CX k f fd ps sp) (h : ∀ vs H Q E, sp' vs H Q E → sp vs H Q E) : FnG P w K mg base CX k f fd ps sp' :=
  ⟨fun vs H Q E q => F.size vs H Q E (h _ _ _ _ q), fun A out z H ar us vs Q E g r e b v q => F.go A out z H ar us vs Q E g r e b v (h _ _ _ _ q)⟩

/-- a def of the text keeps its promise, by its body -/
theorem FnG.body {x qual : Str} {st : Stmt} (F : Fun K x qual st f fd) (S : FnScope N ps (defScope st)) (sz : ∀ vs H Q E, sp vs H Q E → vs.length = ps.length)
    (bd : ∀ (cd : Value) (A : Around) (out : List Env) (z : Shared) (H : Hp) (vs : List V) (Q : VK) (E : XK), (A.deeper (envOfC qual (defScope st) z.heap.objs.size f cd)).guards = some [] →
      Room k (A.deeper (envOfC qual (defScope st) z.heap.objs.size f cd)) → sp vs H Q E →
      ∃ t, PSs (cxOf CX P w K mg base N qual (defScope st) f cd A out z H E) (defBody st) t ∧ t { nx := fun _ H' => Q .non H', rt := Q } (start N vs) H) : FnG P w K mg base CX (k + 1) f fd ps sp := by
  obtain ⟨oc, od, kV, dc, pm, an, cd, ct, sl, rfl, look, isC⟩ := F.ex
  refine ⟨sz, ?_⟩
  intro A out z H ar us vs Q E gd room en bi va pr
  have many := sz _ _ _ _ pr
  have stays : ∀ b o, base.get? b = some o → z.heap.get? b = some o := fun b o e => (en.bs b o e).1
  have inK : K.In z.heap := en.mod.kin.keeps stays
  have noL : z.heap.NoLimit := en.mod.nolimit.keeps stays
  have kinds : ∀ y ∈ ps.zip us, (defScope st).names.lookup y.1 = some .local ∨ ((defScope st).names.lookup y.1 = some .cell ∧ ((cellsFrom (z.heap.objs.size + 1) (defScope st).names []).lookup y.1).isSome = true) := by
    rintro ⟨n, v⟩ hy
    cases S.par n (List.of_mem_zip hy).1 with
    | inl q => exact .inl q
    | inr q => exact .inr ⟨q, PySem.W.cellsFrom_some _ _ _ (.inl q)⟩
  refine codeAny_call_function room.depth (inK _ _ look) rfl S.co S.gen rfl (PySem.W.codeRec_of inK isC) (bi _ _ _ _ ?_)
  refine wpAny_newFunctionEnv_cells S.kind kinds fun env e0 z1 c => ?_
  subst e0
  obtain ⟨t, ht, q⟩ := bd cd A out z H vs Q E gd (room.deeper _) pr
  have I := inv_start (CX := CX) (E := E) S room.hd en many va c
  refine ⟨noL.keeps c.toInCall.keep, codeAny_func (wpAny_mono (ht.run [] z1 _ H _ I q) (fun fl z2 r => ?_) fun _ _ r => r)⟩
  cases fl with
  | next =>
    obtain ⟨_, H2, J, q2⟩ := r
    exact ⟨.non, H2, J.os, J.bare, J.base, J.hok, rfl, q2⟩
  | ret u =>
    obtain ⟨v, _, H2, J, rv, q2⟩ := r
    exact ⟨v, H2, J.os, J.bare, J.base, J.hok, rv, q2⟩
  | brk => exact r.choose_spec.choose_spec.2.elim
  | cont => exact r.choose_spec.choose_spec.2.elim
/-- the same where no exception leaves -/
theorem FnG.calm {x qual : Str} {st : Stmt} (F : Fun K x qual st f fd) (S : FnScope N ps (defScope st)) (sz : ∀ vs H Q E, sp vs H Q E → vs.length = ps.length)
    (bd : ∀ (cd : Value) (A : Around) (out : List Env) (z : Shared) (H : Hp) (vs : List V) (Q : VK) (E : XK), (A.deeper (envOfC qual (defScope st) z.heap.objs.size f cd)).guards = some [] →
      Room k (A.deeper (envOfC qual (defScope st) z.heap.objs.size f cd)) → sp vs H Q E →
      ∃ t, PSs (cxOf CX0 P w K mg base N qual (defScope st) f cd A out z H E).nox (defBody st) t ∧ t { nx := fun _ H' => Q .non H', rt := Q } (start N vs) H) : FnG P w K mg base CX0 (k + 1) f fd ps sp :=
  FnG.body F S sz fun cd A out z H vs Q E g r q => let ⟨t, h, h2⟩ := bd cd A out z H vs Q E g r q; ⟨t, h.nox, h2⟩
end

/-- a def by its name: where it stands, what it promises, how it is bound -/
def DefG (P : Program) (w : World) (K : PySem.W.Frag) (mg : Str → Option Value) (base : Heap) (CX : CXT) (k : Nat) (x : Str) (ps : List Str) (sp : Sp) : Prop :=
  ∃ (f : Addr) (fd : FuncData), FnG P w K mg base CX k f fd ps sp ∧ mg x = some (.ref f) ∧ PySem.W.keepIn K (.ref f) = true ∧ Binds K fd ps []
theorem DefG.up {P : Program} {w : World} {K : PySem.W.Frag} {mg : Str → Option Value} {base : Heap} {CX : CXT} {k j : Nat} {x : Str} {ps : List Str} {sp : Sp} (D : DefG P w K mg base CX j x ps sp) (h : j ≤ k) : DefG P w K mg base CX k x ps sp :=
  let ⟨f, fd, F, r⟩ := D; ⟨f, fd, F.up h, r⟩
theorem DefG.weaker {P : Program} {w : World} {K : PySem.W.Frag} {mg : Str → Option Value} {base : Heap} {CX : CXT} {k : Nat} {x : Str} {ps : List Str} {sp sp' : Sp} (D : DefG P w K mg base CX k x ps sp) (h : ∀ vs H Q E, sp' vs H Q E → sp vs H Q E) : DefG P w K mg base CX k x ps sp' :=
  let ⟨f, fd, F, r⟩ := D; ⟨f, fd, F.weaker h, r⟩
section
variable {X : Cx} {CX : CXT} {k : Nat} {x : Str} {ps : List Str} {sp : Sp} {p pos : Pos} {e : Expr} {es : List Expr} {t : TA}
theorem go_call {f : Addr} {fd : FuncData} {pins : List (Addr × Obj)} {σ : L2.St} {H : Hp} {s : Shared} {Q : VK} {E : XK} {us : List Value} {vs : List V} (F : FnG X.prog X.w X.K X.mg X.base CX k f fd ps sp) (bi : Binds X.K fd ps []) (gd : X.A.guards = some []) (hr : Room k X.A)
    (out : ∀ e s', CX X.stack H s E e s' → X.xe e s') (I : Inv X pins σ H s) (va : Vals vs us) (q : sp vs H Q E) : wpAny (model X.prog X.w) X.A (call (.ref f) us) (EP X pins σ Q) X.xe s := by
  have len : us.length = ps.length := va.length ▸ F.size _ _ _ _ q
  have b := bi s us I.kIn (by rw [List.append_nil]; exact len)
  rw [List.append_nil] at b
  refine wpAny_call (codeAny_mono (F.go X.A X.stack s H _ us vs Q E gd hr I.env0 b va q) fun r s2 h => ?_)
  match r, h with
  | .error e, h => exact out e s2 h
  | .ok (.ret u), h => exact I.after h
  | .ok .next, h => exact h.elim
  | .ok .brk, h => exact h.elim
  | .ok .cont, h => exact h.elim
/-- f(e, ..) of a def that lets nothing out -/
theorem pe_fn (D : DefG X.prog X.w X.K X.mg X.base CX0 k x ps sp) (gd : X.A.guards = some []) (hr : Room k X.A) (ha : PA X (e :: es) t) (hg : Gl X x := by rfl) (hdb : (x == ("__debug__" : Str)) = false := by decide)
    (he : starEach (e :: es) X.env = (false, eval e X.env) :: starEach es X.env := by rfl) (hpl : (backTo pos (starEach es X.env)).any (·.1) = false := by rfl) : PE X (.Call (.Name x p) (e :: es) [] pos) (tCall sp [] E0 t) := by
  obtain ⟨f, fd, F, hm, kp, bi⟩ := D
  refine ⟨fun pins s σ H Q I q => wpAny_Call_Name_kw (ld_glob I hg hm ?_ hdb)⟩
  refine PySem.W.callWith_K (h₀ := X.base) I.ok.mod.kin kp (thn (ha.run pos pins s σ H _ I q) fun us s1 r => ?_) he hpl
  obtain ⟨vs, H1, J, va, q1⟩ := r
  rw [List.append_nil] at q1
  exact ⟨J.kIn, go_call F bi gd hr (fun _ _ z => z.elim) J va q1⟩
theorem pe_fn0 (D : DefG X.prog X.w X.K X.mg X.base CX0 k x ps sp) (gd : X.A.guards = some []) (hr : Room k X.A) (hg : Gl X x := by rfl) (hdb : (x == ("__debug__" : Str)) = false := by decide) : PE X (.Call (.Name x p) [] [] pos) (tCall sp [] E0 tNil) := by
  obtain ⟨f, fd, F, hm, kp, bi⟩ := D
  refine ⟨fun pins s σ H Q I q => wpAny_Call_Name_kw (ld_glob I hg hm ?_ hdb)⟩
  exact PySem.W.callWith_K0 I.kIn kp (go_call F bi gd hr (fun _ _ z => z.elim) I .nil q)
end

/-! ### repr of data -/
/-- what is read of a value of data: a leaf, or an object -/
theorem call_reprD {X : Cx} (gd : X.A.guards = some []) (hu : X.A.units + 200 < cLine) :
    CallR X (.builtin "repr") (fun xs H Q => ∃ a d, xs = [V.ref a] ∧ Dp X.K H (.ref a) d ∧ d.showable = true ∧ d.hasDict = false ∧ d.depth ≤ 100 ∧ d.shown.length ≤ sizeLine ∧ Q (.str d.shown) H) := by
  intro pins s σ H vs us Q I rv h
  obtain ⟨a, d, rfl, hd, h1, h2, h3, h4, q⟩ := h
  cases rv with
  | cons r rr =>
    cases rr
    have r' : _ = Value.ref a := r
    subst r'
    obtain ⟨as, rd⟩ := Dp.reads I d _ _ hd rfl
    refine repr_of_reads' rd h1 (fun z => by rw [h2] at z; cases z) gd (by omega) (fun _ _ e => e) (fun h' u tk kp => ?_) h4
    exact ⟨.str d.shown, H, I.kept (t' := tk) kp, ⟨u, rfl⟩, q⟩
theorem hu_rep {A : Around} {k : Nat} (hr : Room k A) : A.units + 200 < cLine := by have := hr.un; omega

/-! ### the rules that speak of the written part, it being named: a block's reading must not speak of the block -/
section
variable {X : Cx} (K : PySem.W.Frag)
theorem ixL (h : X.K = K := by rfl) : IxR X (rIxL K) := by subst h; exact ix_list
theorem ixT (h : X.K = K := by rfl) : IxR X (rIxT K) := by subst h; exact ix_tup
theorem slL (h : X.K = K := by rfl) : SlR X (rSlL K) := by subst h; exact sl_list
theorem slT (h : X.K = K := by rfl) : SlR X (rSlT K) := by subst h; exact sl_tup
theorem inQ (h : X.K = K := by rfl) : OpR X (compareOp .In) (rIn K false) := by subst h; exact op_in_seq
theorem notInQ (h : X.K = K := by rfl) : OpR X (compareOp .NotIn) (rIn K true) := by subst h; exact op_notIn_seq
theorem lenQ (h : X.K = K := by rfl) : CallR X (.builtin "len") (fun xs H Q => ∃ p ys, xs = [.ref p] ∧ (SqL K H p ys ∨ SqT K H p ys) ∧ Q (.int ys.length) H) := by subst h; exact call_len_seq
theorem listQ (h : X.K = K := by rfl) : CallR X (.type "list") (fun xs H Q => ∃ p ys, xs = [.ref p] ∧ (SqL K H p ys ∨ SqT K H p ys) ∧ ∀ l, H l = none → Q (.ref l) (upd H l (.lst ys))) := by subst h; exact call_list_of
theorem tupQ (h : X.K = K := by rfl) : CallR X (.type "tuple") (fun xs H Q => ∃ p ys, xs = [.ref p] ∧ ((SqL K H p ys ∧ ∀ l, H l = none → Q (.ref l) (upd H l (.tup ys))) ∨ (SqT K H p ys ∧ Q (.ref p) H))) := by subst h; exact call_tuple_of
theorem sumQ (hc : X.calm = true) (h : X.K = K := by rfl) : CallR X (.builtin "sum") (rSum K) := by subst h; exact cr_sum hc
theorem maxQ (hc : X.calm = true) (h : X.K = K := by rfl) : CallR X (.builtin "max") (rMax K) := by subst h; exact cr_max hc
theorem minQ (hc : X.calm = true) (h : X.K = K := by rfl) : CallR X (.builtin "min") (rMin K) := by subst h; exact cr_min hc
theorem anyQ (hc : X.calm = true) (h : X.K = K := by rfl) : CallR X (.builtin "any") (rAny K) := by subst h; exact cr_any hc
theorem allQ (hc : X.calm = true) (h : X.K = K := by rfl) : CallR X (.builtin "all") (rAll K) := by subst h; exact cr_all hc
theorem sortedQ (h : X.K = K := by rfl) : CallR X (.builtin "sorted") (rSorted K) := by subst h; exact cr_sorted
theorem isiQ (h : X.K = K := by rfl) : CallR X (.builtin "isinstance") (rIsi K) := by subst h; exact call_isi
variable {tg l e e2 : Expr} {tl : TE} {ta : TA} {p pos tpos apos : Pos} {elts es : List Expr} {kk k n : Nat} {t : TGs}
theorem piL (hl : PE X l tl) (h : X.K = K := by rfl) : PI X tg l (iList K tl) := by subst h; exact pi_list hl
theorem piT (hl : PE X l tl) (h : X.K = K := by rfl) : PI X tg l (iTup K tl) := by subst h; exact pi_tup hl
theorem piEnum (hg : Gl X "enumerate") (hm : X.mg "enumerate" = none) (ha : PA X [e] ta) (hs : starEach [e] X.env = [(false, eval e X.env)] := by rfl) (h : X.K = K := by rfl) :
    PI X (.Tuple elts kk tpos) (.Call (.Name "enumerate" p) [e] [] pos) (iEnum K ta) := by subst h; exact pi_enum hg hm ha hs
theorem piZip (hg : Gl X "zip") (hm : X.mg "zip" = none) (ha : PA X [e, e2] ta) (hs : starEach [e, e2] X.env = (false, eval e X.env) :: starEach [e2] X.env := by rfl)
    (hpl : (backTo pos (starEach [e2] X.env)).any (·.1) = false := by rfl) (h : X.K = K := by rfl) : PI X (.Tuple elts kk tpos) (.Call (.Name "zip" p) [e, e2] [] pos) (iZip K ta) := by subst h; exact pi_zip hg hm ha hs hpl
theorem piRev (hg : Gl X "reversed") (hm : X.mg "reversed" = none) (ha : PA X [e] ta) (hs : starEach [e] X.env = [(false, eval e X.env)] := by rfl) (h : X.K = K := by rfl) :
    PI X tg (.Call (.Name "reversed" p) [e] [] pos) (iRev K ta) := by subst h; exact pi_reversed hg hm ha hs
theorem gT (hc : X.calm = true) (hp : PGs X es t) (hn : (assignEach es X.env).length = n := by rfl) (hst : (assignEach es X.env).findIdx? (·.1) = none := by rfl) (h : X.K = K := by rfl) : PG X (.Tuple es k pos) (gTup K n t) := by
  subst h; exact pg_tup hc hp hn hst
theorem joinQ {o : Expr} {to te : TE} (ho : PE X o to) (he : PE X e te) (hs : starEach [e] X.env = [(false, eval e X.env)] := by rfl) (hb : attributeBase o "join" X.env (eval o X.env) = eval o X.env := by rfl) (hl : (apos.endLine == pos.line) = true := by rfl) (h : X.K = K := by rfl) :
    PE X (.Call (.Attribute o "join" apos) [e] [] pos) (tM1 (fun x xs H Q => ∃ a p, ∃ ys : List Str, x = .str a ∧ xs = [.ref p] ∧ (SqL K H p (ys.map V.str) ∨ SqT K H p (ys.map V.str)) ∧
      (ys.map (·.length)).sum + ys.length * a.length ≤ 16777216 ∧ Q (.str (Txt.join a ys)) H) to te) := by subst h; exact pe_join ho he hs hb hl
end
/-- text.index(sign), found -/
theorem pe_sindex {X : Cx} {o e : Expr} {to te : TE} {apos pos : Pos} (ho : PE X o to) (he : PE X e te) (hs : starEach [e] X.env = [(false, eval e X.env)] := by rfl) (hb : attributeBase o "index" X.env (eval o X.env) = eval o X.env := by rfl) (hl : (apos.endLine == pos.line) = true := by rfl) :
    PE X (.Call (.Attribute o "index" apos) [e] [] pos) (tM1 (fun x xs H Q => ∃ a b i rest, x = .str a ∧ xs = [.str b] ∧ Builtin.Str.occurrences a b 0 a.length 1 = i :: rest ∧ Q (.int (i : Nat)) H) to te) :=
  pe_m1 F.slot_str_index F.type_str_index mt_sindex ho he hs hb hl
end Hw

/-! calls of defs that may let an exception out -/
namespace Hw
open PySem PySem.Spec PyProof.Rows L2
section
variable {X : Cx} {CX : CXT} {k : Nat} {x : Str} {ps : List Str} {sp : Sp} {E : L2.St → XK} {p pos : Pos} {e : Expr} {es : List Expr} {t : TA}
/-- f(e, ..): what leaves it is as E tells, by the slots at the call -/
theorem pe_fnS (D : DefG X.prog X.w X.K X.mg X.base CX k x ps sp) (gd : X.A.guards = some []) (hr : Room k X.A) (hx : ∀ σ, PassesAt CX X σ (E σ)) (ha : PA X (e :: es) t) (hg : Gl X x := by rfl) (hdb : (x == ("__debug__" : Str)) = false := by decide)
    (he : starEach (e :: es) X.env = (false, eval e X.env) :: starEach es X.env := by rfl) (hpl : (backTo pos (starEach es X.env)).any (·.1) = false := by rfl) : PE X (.Call (.Name x p) (e :: es) [] pos) (tCallS sp E t) := by
  obtain ⟨f, fd, F, hm, kp, bi⟩ := D
  refine ⟨fun pins s σ H Q I q => wpAny_Call_Name_kw (ld_glob I hg hm ?_ hdb)⟩
  refine PySem.W.callWith_K (h₀ := X.base) I.ok.mod.kin kp (thn (ha.run pos pins s σ H _ I q) fun us s1 r => ?_) he hpl
  obtain ⟨vs, H1, J, va, q1⟩ := r
  refine ⟨J.kIn, ?_⟩
  have len : us.length = ps.length := va.length ▸ F.size _ _ _ _ q1
  have b := bi s1 us J.kIn (by rw [List.append_nil]; exact len)
  rw [List.append_nil] at b
  refine wpAny_call (codeAny_mono (F.go X.A X.stack s1 H1 _ us vs Q (E σ) gd hr J.env0 b va q1) fun r s2 h => ?_)
  match r, h with
  | .error e, h => exact hx σ pins H1 s1 e s2 J h
  | .ok (.ret u), h => exact J.after h
  | .ok .next, h => exact h.elim
  | .ok .brk, h => exact h.elim
  | .ok .cont, h => exact h.elim
/-- the same inside a try or a def that lets W out -/
theorem pe_fnW {W : WX} (D : DefG X.prog X.w X.K X.mg X.base (L2.CX X.prog X.w) k x ps sp) (gd : X.A.guards = some []) (hr : Room k X.A) (tk : Takes X W) (ha : PA X (e :: es) t) (hg : Gl X x := by rfl) (hdb : (x == ("__debug__" : Str)) = false := by decide)
    (he : starEach (e :: es) X.env = (false, eval e X.env) :: starEach es X.env := by rfl) (hpl : (backTo pos (starEach es X.env)).any (·.1) = false := by rfl) : PE X (.Call (.Name x p) (e :: es) [] pos) (tCallS sp (WE W) t) :=
  pe_fnS D gd hr (passAt tk) ha hg hdb he hpl
end
section
variable {X : Cx} {C : Addr} {bmB : List Value} {B newId initId : String}
/-- X(): an own class without own __init__, no arguments -/
theorem pmk_own0 {x : Str} {p pos : Pos} (F : ExcBaseFacts B newId initId bmB) (q : PySem.W.excIn X.K C bmB newId = true) (gC : X.mg x = some (.ref C)) (kC : PySem.W.keepIn X.K (.ref C) = true) (r : Raises X (.ref C)) (hg : Gl X x)
    (hdb : (x == ("__debug__" : Str)) = false := by decide) : PMk X (.Call (.Name x p) [] [] pos) (fun _ H Q => Q (.ref C) none H) := by
  intro pins s σ H Q I h
  refine wpAny_Call_Name_kw (ld_glob I hg gC ?_ hdb)
  refine PySem.W.callWith_K0 I.kIn kC ?_
  show wpAny _ _ (call (.ref C) []) _ _ _
  obtain ⟨bm, N, nm, qn, bs, hdct, sn, sub, ab, col, dd, k0, k1, k2, k3, k5, mN, hC, hN, hni, T⟩ := exc_obj I.kIn q
  refine wpAny_call_exc_subT F T hC hN hni (fun h' e hm => ?_) (Nat.zero_le _)
  exact mk_of I hm r h (I.hok.gone hm.new)
end
end Hw

/-! own exception classes: their facts, defs that are called with a caught error in an except suite -/
namespace Hw
open PySem PySem.Spec PyProof.Rows L2
/-- an own class stands at its name -/
structure OwnC (K : PySem.W.Frag) (mg : Str → Option Value) (x : Str) (C : Addr) : Prop where
  g : mg x = some (.ref C)
  kp : PySem.W.keepIn K (.ref C) = true
  b : PySem.W.subIn K (.ref C) (.type "BaseException") = some true
  t : PySem.W.typeIn K (.ref C) = some (.type "type")
  h : PySem.W.hasDictIn K C = true
/-- it is one that takes any arguments, and is raised -/
structure PlainC (K : PySem.W.Frag) (C : Addr) : Prop where
  e : PySem.W.excIn K C [.type "ValueError", .type "Exception", .type "BaseException", .type "object"] "ValueError.__new__" = true
  is : ExcC K C
  ve : PySem.W.kitOne K (.ref C) (.type "ValueError") = some true
theorem OwnC.catch {K : PySem.W.Frag} {mg : Str → Option Value} {x : Str} {C : Addr} {cls : Value} {b : Bool} (o : OwnC K mg x C) (s : PySem.W.subIn K cls (.ref C) = some b) : PySem.W.exmOne K cls (.ref C) = some b :=
  PySem.W.exm_ref o.b o.h o.t s
theorem takesNo {X : Cx} : Takes X (fun _ _ _ _ => False) := fun _ _ x => by
  obtain ⟨_, _, _, _, _, _, _, _, _, _, _, _, _, _, _, _, w⟩ := x
  exact w.elim
/-- isinstance(e, C) of a pinned error -/
theorem isEQ {X : Cx} (K : PySem.W.Frag) {a D : Addr} {oe : Obj} (hp : (a, oe) ∈ X.pn) (C : ExcC K D) (hz : Zc (.ref D) none oe) (hf : ∃ vs, oe.data = .fields vs) (hK : X.K = K := by rfl) : CallR X (.builtin "isinstance") (rIsE K D a) := by
  subst hK
  intro pins s σ H xs us Q I r h
  obtain ⟨c, cv, b, rfl, hcv, e, q⟩ := h
  match us, r with
  | [_, _], .cons rx (.cons rt .nil) =>
    cases rx
    cases hcv _ rt
    have hget := (I.pin (a, oe) (List.mem_append_left _ hp)).1
    obtain ⟨vs, hv⟩ := hf
    have J : PySem.W.InstAt s.heap a oe D none := by
      obtain ⟨oc, od, oda, osl⟩ := oe
      obtain ⟨h1, h2⟩ := hz
      cases h1
      cases h2
      cases hv
      exact ⟨hget, rfl, rfl, trivial⟩
    exact PySem.W.kia_one (PySem.W.handS_kitx_exc C.hg C.hk C.hs C.hd C.ha C.hn C.ht C.hm) I.kIn J e (fun z => nomatch z) fun tk => ⟨.bl b, H, I.kept (t' := tk) fun _ _ z => z, rfl, q⟩
/-- what a def promises that is called with a caught error: its place, its class, its dict -/
structure FnP (P : Program) (w : World) (K : PySem.W.Frag) (mg : Str → Option Value) (base : Heap) (k : Nat) (f : Addr) (fd : FuncData) (ps : List Str) (sp : Addr → Value → Option Addr → Sp) : Prop where
  size : ∀ a c d vs H Q E, sp a c d vs H Q E → vs.length = ps.length
  go : ∀ (A : Around) (out : List Env) (z : Shared) (H : Hp) (ar : Args) (us : List Value) (vs : List V) (Q : VK) (E : XK) (p : Addr × Obj) (c : Value) (d : Option Addr), L2H.RoomH k A → L2H.PinOk out H z p → Zc c d p.2 → (∃ ws, p.2.data = .fields ws) →
    Env0 P w K mg base A out z H → BindsTo z fd ar (ps.zip us) → Vals vs us → sp p.1 c d vs H Q E → codeAny (model P w) A (.call (.ref f) ar) (CR CX0 out P w H z Q E) z
theorem FnP.body {P : Program} {w : World} {K : PySem.W.Frag} {mg : Str → Option Value} {base : Heap} {k : Nat} {f : Addr} {fd : FuncData} {N ps : List Str} {sp : Addr → Value → Option Addr → Sp} {x qual : Str} {st : Stmt} (F : Fun K x qual st f fd) (S : FnScope N ps (defScope st))
    (sz : ∀ a c d vs H Q E, sp a c d vs H Q E → vs.length = ps.length)
    (bd : ∀ (cd : Value) (A : Around) (out : List Env) (z : Shared) (H : Hp) (vs : List V) (Q : VK) (E : XK) (p : Addr × Obj) (c : Value) (d : Option Addr), L2H.RoomH k (A.deeper (envOfC qual (defScope st) z.heap.objs.size f cd)) → Zc c d p.2 → (∃ ws, p.2.data = .fields ws) → sp p.1 c d vs H Q E →
      ∃ t, PSs (L2H.cxH CX0 P w K mg base N qual (defScope st) f cd A out z H E p).nox (defBody st) t ∧ t { nx := fun _ H' => Q .non H', rt := Q } (L2.start N vs) H) : FnP P w K mg base (k + 1) f fd ps sp := by
  obtain ⟨oc, od, kV, dc, pm, an, cd, ct, sl, rfl, look, isC⟩ := F.ex
  refine ⟨sz, ?_⟩
  intro A out z H ar us vs Q E p c d room pk hz hf en bi va pr
  have many := sz _ _ _ _ _ _ _ pr
  have stays : ∀ b o, base.get? b = some o → z.heap.get? b = some o := fun b o e => (en.bs b o e).1
  have inK : K.In z.heap := en.mod.kin.keeps stays
  have noL : z.heap.NoLimit := en.mod.nolimit.keeps stays
  have kinds : ∀ y ∈ ps.zip us, (defScope st).names.lookup y.1 = some .local ∨ ((defScope st).names.lookup y.1 = some .cell ∧ ((cellsFrom (z.heap.objs.size + 1) (defScope st).names []).lookup y.1).isSome = true) := by
    rintro ⟨n, v⟩ hy
    cases S.par n (List.of_mem_zip hy).1 with
    | inl q => exact .inl q
    | inr q => exact .inr ⟨q, PySem.W.cellsFrom_some _ _ _ (.inl q)⟩
  refine codeAny_call_function room.depth (inK _ _ look) rfl S.co S.gen rfl (PySem.W.codeRec_of inK isC) (bi _ _ _ _ ?_)
  refine wpAny_newFunctionEnv_cells S.kind kinds fun env e0 z1 w1 => ?_
  subst e0
  obtain ⟨t, ht, q⟩ := bd cd A out z H vs Q E p c d (room.deeper _) hz hf pr
  have I := L2H.inv_startH (CX := CX0) (E := E) S pk en many va w1
  refine ⟨noL.keeps w1.toInCall.keep, codeAny_func (wpAny_mono (ht.nox.run [] z1 _ H _ I q) (fun fl z2 r => ?_) fun _ _ r => r)⟩
  cases fl with
  | next =>
    obtain ⟨_, H2, J, q2⟩ := r
    exact ⟨.non, H2, J.os, J.bare, J.base, J.hok, rfl, q2⟩
  | ret u =>
    obtain ⟨v, _, H2, J, rv, q2⟩ := r
    exact ⟨v, H2, J.os, J.bare, J.base, J.hok, rv, q2⟩
  | brk => exact r.choose_spec.choose_spec.2.elim
  | cont => exact r.choose_spec.choose_spec.2.elim
def DefP (P : Program) (w : World) (K : PySem.W.Frag) (mg : Str → Option Value) (base : Heap) (k : Nat) (x : Str) (ps : List Str) (sp : Addr → Value → Option Addr → Sp) : Prop :=
  ∃ (f : Addr) (fd : FuncData), FnP P w K mg base k f fd ps sp ∧ mg x = some (.ref f) ∧ PySem.W.keepIn K (.ref f) = true ∧ Binds K fd ps []
/-- f(e, ..) in an except suite -/
theorem pe_fnP {X : Cx} {k : Nat} {x : Str} {ps : List Str} {sp : Addr → Value → Option Addr → Sp} {p pos : Pos} {e : Expr} {es : List Expr} {t : TA} {a : Addr} {oe : Obj} {c : Value} {d : Option Addr}
    (D : DefP X.prog X.w X.K X.mg X.base k x ps sp) (hr : L2H.RoomH k X.A) (hp : (a, oe) ∈ X.pn) (hz : Zc c d oe) (hf : ∃ ws, oe.data = .fields ws) (ha : PA X (e :: es) t) (hg : Gl X x := by rfl) (hdb : (x == ("__debug__" : Str)) = false := by decide)
    (he : starEach (e :: es) X.env = (false, eval e X.env) :: starEach es X.env := by rfl) (hpl : (backTo pos (starEach es X.env)).any (·.1) = false := by rfl) : PE X (.Call (.Name x p) (e :: es) [] pos) (tCall (sp a c d) [] E0 t) := by
  obtain ⟨f, fd, F, hm, kp, bi⟩ := D
  refine ⟨fun pins s σ H Q I q => wpAny_Call_Name_kw (ld_glob I hg hm ?_ hdb)⟩
  refine PySem.W.callWith_K (h₀ := X.base) I.ok.mod.kin kp (thn (ha.run pos pins s σ H _ I q) fun us s1 r => ?_) he hpl
  obtain ⟨vs, H1, J, va, q1⟩ := r
  rw [List.append_nil] at q1
  refine ⟨J.kIn, ?_⟩
  have len : us.length = ps.length := va.length ▸ F.size _ _ _ _ _ _ _ q1
  have b := bi s1 us J.kIn (by rw [List.append_nil]; exact len)
  rw [List.append_nil] at b
  have pn := J.pin (a, oe) (List.mem_append_left _ hp)
  have pk : L2H.PinOk X.stack H1 s1 (a, oe) := ⟨pn.1, pn.2.1, fun m => (List.mem_cons.mp (J.stkSub a m)).elim pn.2.2.1 pn.2.2.2.1, pn.2.2.2.2⟩
  refine wpAny_call (codeAny_mono (F.go X.A X.stack s1 H1 _ us vs Q E0 (a, oe) c d hr pk hz hf J.env0 b va q1) fun r s2 h => ?_)
  match r, h with
  | .error e, h => exact h.elim
  | .ok (.ret u), h => exact J.after h
  | .ok .next, h => exact h.elim
  | .ok .brk, h => exact h.elim
  | .ok .cont, h => exact h.elim
theorem roomS {k j : Nat} {A : Around} {h : Option Value} (r : Room k A) (l : j ≤ k) : L2H.RoomH j (A.mark h) := ⟨(r.mono l).dp, (r.mono l).un⟩
end Hw

/-! own errors whose __init__ says super().__init__(..) first, then lays fields -/
namespace Hw
open PySem PySem.Spec PyProof.Rows L2
/-- what the written part says of the class at C and of its __init__ at f -/
structure SuC (P : Program) (K : PySem.W.Frag) (mg : Str → Option Value) (C f cc : Addr) (F : NdefX.NF) : Prop where
  ob : OexC K C
  it : PySem.W.findIn K (.ref C) "__init__" = some (some (.ref f))
  ty : PySem.W.typeIn K (.ref f) = some (.type "function")
  fn : ∃ oc od doc pm ctv sl, K.lookup f = some ⟨oc, od, .func (F.fd doc pm ctv), sl⟩
  cl : F.cl = [(("__class__" : Str), cc)]
  cd : PySem.W.codeIn K (.ref F.c) F.qual = true
  co : ∃ ccl cdd vs ccs file tf, K.lookup F.c = some ⟨ccl, cdd, .fields vs, ccs⟩ ∧ vs[2]? = some (.str file tf) ∧ ((P.main.file : Str) == file) = true
  tp : (P.main.scope.names.lookup ("super" : Str)).isSome = false
  ce : ∃ a b d, K.lookup cc = some ⟨a, b, .cell (some (.ref C)), d⟩
  mr : PySem.W.mroIn K C (.ref C) = some true
  sp : mg "super" = none
  op : PySem.W.nsIn K cStatics "thirdparty.any" = some none
  su : PySem.W.ks_superIn K C C "__init__" = some (some (.builtin "ValueError.__init__"))
  ve : PySem.W.subIn K (.ref C) (.type "ValueError") = some true
section
variable {P : Program} {w : World} {K : PySem.W.Frag} {mg : Str → Option Value} {base : Heap} {C f cc : Addr} {F : NdefX.NF} {N ps : List Str}
/-- the arguments are told to the built-in __init__ -/
theorem mw_call {A : Around} {E : Value → Shared → Prop} {X : Cx} {pins : List (Addr × Obj)} {σ : L2.St} {H : Hp} {s : Shared} {a u : Addr} {us : List Value} {Q : Value → Shared → Prop} (T : OexC X.K C) (I : Inv X pins σ H s) (e : H a = some (exo a C none))
    (hu : s.heap.get? u = some (PySem.W.kxs_mw "ValueError.__init__" a)) (hl : us.length ≤ sizeLine) (h : ∀ s', Inv X pins σ H s' → Q .none s') : wpAny (model X.prog X.w) A (call (.ref u) us) Q E s := by
  obtain ⟨nm, q, N, bs, bm, sn, sub, ab, col, dd, k0, k1, k2, k3, k5, hC, hbm⟩ := T.cls
  obtain ⟨t1, ho⟩ := exo_at I.hok e
  have hC' := I.kIn _ _ hC
  obtain ⟨hp, g, d, t, os⟩ := s
  refine wpAny_call (codeAny_of_tree ?_)
  show wpAny _ A.in1 (callAny (.ref u) ⟨us, []⟩) _ _ _
  simp only [callAny]
  refine wpAny_bind (wpAny_load hu ?_)
  simp only [PySem.W.kxs_mw, show (Value.type "method-wrapper" == Value.type "method" || Value.type "method-wrapper" == Value.type "builtin_function_or_method" || Value.type "method-wrapper" == Value.type "method-wrapper") = true by decide, if_true]
  refine PySem.W.KFB.if_so (by decide) ?_
  refine wpAny_bind (PySem.W.check_bound_init PySem.F.excBase_ValueError.toExcCallFacts hC' ho rfl ?_)
  refine wpAny_bind (wpAny_pure (wpAny_pure ?_))
  refine ⟨plainId_quiet PySem.F.excBase_ValueError.init.plain _, codeAny_builtin PySem.F.excBase_ValueError.initEntry ?_⟩
  refine PySem.W.exc_init_tree (cls := .ref C) (t0 := t1) (dv := none) (c2 := .none) (c3 := .none) (b4 := .bool false) ho hl fun h' k hx _ => ?_
  have J := I.write (t' := t) (x := a) (e := a) (o := exo a C none) (by rw [e]; exact True.intro) (.inl rfl) k ⟨_, hx⟩ (exo_ok hx)
  have eu : upd H a (exo a C none) = H := by
    funext b
    by_cases hb : b = a
    · rw [hb, upd_same, e]
    · rw [upd_ne hb]
  rw [eu] at J
  exact h _ J
/-- the body: super().__init__(e, ..), then rest -/
theorem fn_su {k : Nat} {fd : FuncData} {sp : Sp} {p0 p1 p2 p3 p4 : Pos} {e : Expr} {es : List Expr} {rest : List Stmt} {oc : Value} {od : Option Addr} {doc pm ctv : Value} {sl : Array (Option Value)} {sf : Str} {ps' : List Str} {ar : Arg}
    (S : SuC P K mg C f cc F) (NS : NdefX.NScope N ps ["__class__"] F.scope) (lk : K.lookup f = some ⟨oc, od, .func (F.fd doc pm ctv), sl⟩)
    (hb : F.body = .Expr (.Call (.Attribute (.Call (.Name "super" p0) [] [] p1) "__init__" p2) (e :: es) [] p3) p4 :: rest) (hps : ps = sf :: ps') (har : (F.params.posonlyargs ++ F.params.args).head? = some ar) (hsf : ar.arg = sf)
    (hks : F.scope.names.lookup ("super" : Str) = some .globalImplicit)
    (len : ∀ vs H Q E, sp vs H Q E → vs.length = ps.length)
    (he : ∀ env : Env, starEach (e :: es) env = (false, eval e env) :: starEach es env) (hpl : ∀ (env : Env) (pos : Pos), (backTo pos (starEach es env)).any (·.1) = false)
    (hc : ∀ env : Env, ∃ pl, eval (.Call (.Attribute (.Call (.Name "super" p0) [] [] p1) "__init__" p2) (e :: es) [] p3) env = (do
      let ov ← attributeBase (.Call (.Name "super" p0) [] [] p1) "__init__" env (eval (.Call (.Name "super" p0) [] [] p1) env)
      standAt p2.atName
      let (f, first) ← holding [ov] (getMethod ov "__init__" pl)
      callWith p3 f first (backTo p3 (starEach (e :: es) env)) []))
    (hi : ∀ (L : Addr), interactive (NdefX.envF F f L) = false) (hsw : ∀ (L : Addr), swapsWith (.Call (.Attribute (.Call (.Name "super" p0) [] [] p1) "__init__" p2) (e :: es) [] p3) none p4.line (NdefX.envF F f L) = pure false)
    (bd : ∀ (A : Around) (out : List Env) (z : Shared) (H : Hp) (vs : List V) (Q : VK) (E : XK), sp vs H Q E →
      ∃ (a : Addr) (vs' : List V) (ta : TA) (t : TS), vs = .ref a :: vs' ∧ H a = some (exo a C none) ∧ PA (NdefX.ncx CX0 P w K mg base N F f A out z H E) (e :: es) ta ∧ ta (NdefX.startF N vs [none]) H (fun us H1 => us.length ≤ 1000 ∧ H1 = H) ∧
        PSs (NdefX.ncx CX0 P w K mg base N F f A out z H E) rest t ∧ t { nx := fun _ H' => Q .non H', rt := Q } (NdefX.startF N vs [none]) H) :
    FnOk P w K mg base CX0 (k + 1) f (F.fd doc pm ctv) ps sp := by
  refine ⟨len, fun A outer s H args us vs Q E hr e0 hbi r hsp => ?_⟩
  have hl := len _ _ _ _ hsp
  have stays : ∀ b o, base.get? b = some o → s.heap.get? b = some o := fun b o e => (e0.bs b o e).1
  have inK : K.In s.heap := e0.mod.kin.keeps stays
  have noL : s.heap.NoLimit := e0.mod.nolimit.keeps stays
  obtain ⟨a, vs', ta, t, rfl, ea, ha, qa, ht, qt⟩ := bd A outer s H vs Q E hsp
  obtain ⟨ca, cb, cd', lcc⟩ := S.ce
  have hcc : base.get? cc = some _ := e0.mod.kin _ _ lcc
  refine ks_codeAny_call_defAt (fd := F.fd doc pm ctv) (body := F.body) (binds := ps.zip us) hr.depth (inK _ _ lk) rfl noL (PySem.W.codeRec_of inK S.cd) rfl hbi NS.nocell (fun ⟨n, _⟩ hy => NS.par n (List.of_mem_zip hy).1) (fun h₁ hns hk₁ => ?_) NS.co NS.gen NS.kind
  show _root_.PySem.wpAt (model P w) (A.deeper (NdefX.envF F f s.heap.objs.size)) (.func F.body (NdefX.envF F f s.heap.objs.size)) (execs F.body (NdefX.envF F f s.heap.objs.size)) _ _ _
  have cells : NdefX.CellsAt F.cl ["__class__"] [none] s.heap H := by
    rw [S.cl]
    have look : ∀ {y : Str} {c : Addr}, ([(("__class__" : Str), cc)] : List (Str × Addr)).lookup y = some c → y = "__class__" ∧ c = cc := fun {y c} h => by
      rw [List.lookup_cons] at h
      cases hy : y == ("__class__" : Str) with
      | true => rw [hy] at h; exact ⟨eq_of_beq hy, (Option.some.inj h).symm⟩
      | false => rw [hy] at h; cases h
    refine ⟨rfl, fun y c h => ?_, fun x y c h1 h2 => ?_, fun i y h => ?_⟩
    · obtain ⟨_, rfl⟩ := look h
      exact ⟨(e0.bs _ _ hcc).2, _, _, inK _ _ lcc, rfl⟩
    · rw [(look h1).1, (look h2).1]
    · match i, h with
      | 0, h =>
        cases h
        exact ⟨cc, rfl, fun v z => by cases z⟩
      | i + 1, h => simp at h
  have kcc : H cc = none := (e0.bs _ _ hcc).2
  have kf : F.scope.names.lookup ("__class__" : Str) = some .free := NS.frk _ List.mem_cons_self
  let X : Cx := NdefX.ncx CX0 P w K mg base N F f A outer s H E
  have I : Inv X [] (NdefX.startF N (V.ref a :: vs') [none]) H { s with heap := h₁, toks := s.toks + (ps.zip us).length } := NdefX.inv_startN (f := f) NS hr.hd e0 hl r cells hns hk₁
  rw [hb]
  refine ks_wpAt_execs_cons (ks_wpAt_Expr_any ?_ (hi _) (hsw _))
  obtain ⟨pl, hev⟩ := hc (NdefX.envF F f s.heap.objs.size)
  refine ks_wpAt_MethodCall (pl := pl) ?_ hev
  obtain ⟨ccl, cdd, cvs, ccs, file, tf, lco, hcvs, hfile⟩ := S.co
  refine ks_wpAt_super_base (env := NdefX.envF F f s.heap.objs.size) hks kf (by decide) rfl (I.kIn _ _ lk) rfl har rfl (I.kIn _ _ lco) rfl hcvs hfile S.tp ?_
  obtain ⟨mb, hmb, hmbx⟩ := e0.mod.blt
  refine PySem.W.ks_loadName_global NS.kind hks (Calls.loadGlobal_builtin (e0.mod.glob.keeps I.bk) S.sp (hmb.keeps I.bk) ((hmbx _ (by decide)).trans (by decide +kernel)) ⟨rfl, ?_⟩)
  refine wpAny_loadName_free NS.kind kf (by show F.cl.lookup _ = _; rw [S.cl]; rfl) ⟨_, I.kIn _ _ lcc, rfl⟩ ?_
  have sfl : F.scope.names.lookup sf = some .local := NS.par _ (by rw [hps]; exact List.mem_cons_self)
  obtain ⟨m0, hns0, hlo⟩ := I.loc
  have n0 : N[0]? = some sf := by
    have q := congrArg (fun l => l[0]?) NS.pre
    rw [hps] at q
    simpa using q
  obtain ⟨u0, ru0, lo0⟩ := hlo 0 sf (.ref a) n0 rfl (.inl sfl)
  cases ru0
  have m0a : m0 sf = some (.ref a) := by
    rcases lo0 with ⟨_, h⟩ | ⟨h, _⟩
    · exact h
    · have h' : F.scope.names.lookup sf = some .cell ∨ F.scope.names.lookup sf = some .free := h
      rw [sfl] at h'
      rcases h' with h' | h' <;> cases h'
  rw [hsf]
  refine wpAny_loadName_local NS.kind sfl hns0 m0a ?_
  have T := S.ob
  obtain ⟨nm, q, N', bs, bm, sn, sub, ab, col, dd, k0, k1, k2, k3, k5, hCl, hbm⟩ := T.cls
  have hcl : PySem.W.clsIn K C = some { name := nm, bases := bs, mro := .ref C :: bm, ns := N', qualname := q, hasDict := true, slotNames := sn, subclasses := sub, abstract := ab, collection := col, hasDel := false } := by unfold PySem.W.clsIn; rw [hCl] <;> rfl
  have su := S.su
  unfold PySem.W.ks_superIn at su
  rw [hcl, Option.bind_some] at su
  obtain ⟨t1, hx⟩ := exo_at I.hok ea
  have hD := I.kIn _ _ hCl
  refine ks_wpAny_isType_cls hD rfl ⟨rfl, ?_⟩
  refine ks_wpAny_call_super hD rfl hx rfl (fun c z => by cases z) (PySem.W.looks_mroIn I.kIn S.mr) (fun h2 hso k2' => ?_)
  have I1 := I.kept (t' := s.toks + (ps.zip us).length) k2'
  obtain ⟨t2, hx2⟩ := exo_at I1.hok ea
  have J1 : PySem.W.InstAt h2 a _ C none := ⟨hx2, rfl, rfl, trivial⟩
  refine PySem.W.kxs_getMethod PySem.W.kxs_ValueError hso (PySem.W.looks_opaque I1.kIn S.op) (l₀ := .ref C :: bm) (fun A Q E s k q => wpAny_bind ((PySem.W.looks_clsIn I1.kIn hcl) A _ E s k (wpAny_pure q))) rfl I1.kIn su (J1.type.andThen (PySem.W.looks_subIn I1.kIn S.ve)) (PySem.W.ks_ne I1.kIn J1 hcl) (by decide) ?_
  have I2 := I1.kept (t' := s.toks + (ps.zip us).length + 1) (h' := h2.push (PySem.W.kxs_mw "ValueError.__init__" a)) (fun b o e => Heap.get?_push_of_some _ e)
  have hu : (h2.push (PySem.W.kxs_mw "ValueError.__init__" a)).get? h2.objs.size = some (PySem.W.kxs_mw "ValueError.__init__" a) := Heap.get?_push_at rfl rfl
  have fp := I1.fpOk (H' := H) (Nat.le_refl _) (I1.hok.fresh (Nat.le_refl _))
  have I3 : Inv X [(h2.objs.size, PySem.W.kxs_mw "ValueError.__init__" a)] (NdefX.startF N (V.ref a :: vs') [none]) H _ := ⟨I2.ok, I2.os, I2.bare, I2.base, I2.loc, I2.cell, I2.free, I2.freeC, fun p hp => by
    have e : p = (h2.objs.size, PySem.W.kxs_mw "ValueError.__init__" a) := by simpa using (show p ∈ ([] : List (Addr × Obj)) ++ [(h2.objs.size, PySem.W.kxs_mw "ValueError.__init__" a)] from hp)
    subst e
    exact ⟨hu, fp.1, fp.2.1, fp.2.2.1, fun v z => by cases z⟩, I2.hok, I2.len⟩
  show wpAny (model P w) X.A (callWith p3 (.ref h2.objs.size) [] (backTo p3 (starEach (e :: es) X.env)) []) _ X.xe _
  have hrun := ha.run p3 _ _ _ _ _ I3 qa
  rw [show starEach (e :: es) X.env = _ from he X.env]
  rw [show starEach (e :: es) (NdefX.ncx CX0 P w K mg base N F f A outer s H E).env = _ from he X.env] at hrun
  refine PySem.W.kxs_callWith (i := "ValueError.__init__") (x := a) (by show (false || (backTo p3 (starEach es X.env)).any (·.1)) = false; rw [hpl]; rfl) (Calls.evalArgs_plain (thn hrun fun ws s4 r4 => ?_))
  obtain ⟨vs4, H4, I4, va4, wl4, rfl⟩ := r4
  have hu4 : s4.heap.get? h2.objs.size = some (PySem.W.kxs_mw "ValueError.__init__" a) := (I4.pin _ (List.mem_append_right _ List.mem_cons_self)).1
  refine ⟨hu4, ?_⟩
  refine mw_call (X := X) S.ob I4 ea hu4 (by show ws.length ≤ sizeLine; rw [← va4.length, sizeLine_eq]; omega) fun s5 I5 => ?_
  have I6 : Inv X [] (NdefX.startF N (V.ref a :: vs') [none]) H4 s5 := ⟨I5.ok, I5.os, I5.bare, I5.base, I5.loc, I5.cell, I5.free, I5.freeC, fun p hp => absurd (show p ∈ ([] : List (Addr × Obj)) ++ [] from hp) (by simp), I5.hok, I5.len⟩
  refine _root_.PySem.wpAt_of_wpAny (wpAny_mono (ht.run [] s5 _ H4 _ I6 qt) (fun fl s' hs => ?_) fun e s' hs => hs)
  have fin : ∀ {σ' : L2.St} {H' : Hp} {v : V} {u : Value}, Inv X [] σ' H' s' → RelV v u → Q v H' → CE outer P w H4 s Q u s' := fun {σ' H' v u} J rv q => ⟨v, H', J.os, J.bare, J.base, J.hok, rv, q⟩
  cases fl with
  | ret u =>
    obtain ⟨v, σ', H', J, rv, q⟩ := hs
    exact fin J rv q
  | next =>
    obtain ⟨σ', H', J, q⟩ := hs
    exact fin (v := V.non) (u := Value.none) J rfl q
  | brk =>
    obtain ⟨_, _, _, q⟩ := hs
    exact False.elim q
  | cont =>
    obtain ⟨_, _, _, q⟩ := hs
    exact False.elim q
end
end Hw

/-! heaps: what is frozen (G) beside what changes; deep data and their encodings -/
namespace Hw
open PySem PySem.Spec PyProof.Rows L2

/-! ### frozen parts -/
theorem same_new {G H : Hp} {p : Addr} {o : HO} (s : Same G H) (n : H p = none) : Same G (upd H p o) := fun b u e => by
  rw [upd_ne (ne_of_none (s b u e) n)]; exact s b u e
theorem same_mut {G H : Hp} {p : Addr} {o : HO} (s : Same G H) (n : G p = none) : Same G (upd H p o) := fun b u e => by
  rw [upd_ne (ne_of_none e n)]; exact s b u e
/-- what stands at p is frozen too -/
theorem same_add {G H : Hp} {p : Addr} {o : HO} (s : Same G H) (e : H p = some o) : Same (upd G p o) H := fun b u h => by
  by_cases hb : b = p
  · subst hb; rw [upd_same] at h; rw [e]; exact h
  · rw [upd_ne hb] at h; exact s b u h
theorem same_sub {G : Hp} {p : Addr} {o : HO} (n : G p = none) : Same G (upd G p o) := same_new (Same.refl G) n
theorem free_of {G H : Hp} {p : Addr} (s : Same G H) (n : H p = none) : G p = none := s.free n
/-- the heap without one object -/
def off (H : Hp) (a : Addr) : Hp := fun b => if b = a then none else H b
theorem off_same {H : Hp} {a : Addr} : Same (off H a) H := fun b u e => by
  unfold off at e
  by_cases h : b = a
  · rw [if_pos h] at e; cases e
  · rw [if_neg h] at e; exact e
theorem off_at {H : Hp} {a : Addr} : off H a a = none := by unfold off; exact if_pos rfl
theorem off_ne {H : Hp} {a b : Addr} (h : b ≠ a) : off H a b = H b := by unfold off; exact if_neg h
/-- all but the one object stands as it stood -/
def Keep (a : Addr) (H H' : Hp) : Prop := ∀ b o, b ≠ a → H b = some o → H' b = some o
theorem Keep.refl (a : Addr) (H : Hp) : Keep a H H := fun _ _ _ h => h
theorem Keep.trans {a : Addr} {H H1 H2 : Hp} (x : Keep a H H1) (y : Keep a H1 H2) : Keep a H H2 := fun b o n h => y b o n (x b o n h)
theorem Keep.same {a : Addr} {G H H' : Hp} (x : Keep a H H') (s : Same G H) (n : G a = none) : Same G H' := fun b o h => x b o (ne_of_none h n) (s b o h)
theorem Keep.of {a : Addr} {H H' : Hp} (s : Same (off H a) H') : Keep a H H' := fun b o n h => s b o (by rw [off_ne n]; exact h)
theorem Keep.upd {a : Addr} {H : Hp} {o : HO} : Keep a H (upd H a o) := fun b u n h => by rw [upd_ne n]; exact h
theorem same_off {a : Addr} {G H : Hp} (s : Same G H) (n : G a = none) : Same G (off H a) := fun b o h => by
  rw [off_ne (ne_of_none h n)]; exact s b o h
theorem keep_same {a : Addr} {H H' : Hp} (s : Same H H') : Keep a H H' := fun b o _ h => s b o h

/-! ### deep data: lists and tuples that are tracked, of leaves -/
mutual
inductive Dq (H : Hp) : V → PyData → Prop
  | non : Dq H .non .none
  | bl (b : Bool) : Dq H (.bl b) (.bool b)
  | int (i : Int) : Dq H (.int i) (.int i)
  | str (x : Str) : Dq H (.str x) (.str x)
  | lst {a : Addr} {xs : List V} {ds : List PyData} : H a = some (.lst xs) → DqAll H xs ds → Dq H (.ref a) (.list ds)
  | tup {a : Addr} {xs : List V} {ds : List PyData} : H a = some (.tup xs) → DqAll H xs ds → Dq H (.ref a) (.tuple ds)
inductive DqAll (H : Hp) : List V → List PyData → Prop
  | nil : DqAll H [] []
  | cons {v : V} {vs : List V} {d : PyData} {ds : List PyData} : Dq H v d → DqAll H vs ds → DqAll H (v :: vs) (d :: ds)
end
mutual
theorem Dq_mono {G H : Hp} (e : Same G H) : ∀ (d : PyData) (v : V), Dq G v d → Dq H v d
  | .none, _, h => by cases h; exact .non
  | .bool _, _, h => by cases h; exact .bl _
  | .int _, _, h => by cases h; exact .int _
  | .str _, _, h => by cases h; exact .str _
  | .list ds, _, h => by
    cases h with
    | lst hs ha => exact .lst (e _ _ hs) (DqAll_mono e ds _ ha)
  | .tuple ds, _, h => by
    cases h with
    | tup hs ha => exact .tup (e _ _ hs) (DqAll_mono e ds _ ha)
  | .dict _, _, h => by cases h
theorem DqAll_mono {G H : Hp} (e : Same G H) : ∀ (ds : List PyData) (vs : List V), DqAll G vs ds → DqAll H vs ds
  | [], _, h => by cases h; exact .nil
  | d :: ds, _, h => by
    cases h with
    | cons h1 h2 => exact .cons (Dq_mono e d _ h1) (DqAll_mono e ds _ h2)
end
mutual
theorem Dq_Dp {K : PySem.W.Frag} {H : Hp} : ∀ (d : PyData) (v : V), Dq H v d → Dp K H v d
  | .none, _, h => by cases h; exact .non
  | .bool _, _, h => by cases h; exact .bl _
  | .int _, _, h => by cases h; exact .int _
  | .str _, _, h => by cases h; exact .str _
  | .list ds, _, h => by
    cases h with
    | lst hs ha => exact .lst (SqL.of hs) (DqAll_Dp ds _ ha)
  | .tuple ds, _, h => by
    cases h with
    | tup hs ha => exact .tup (SqT.of hs) (DqAll_Dp ds _ ha)
  | .dict _, _, h => by cases h
theorem DqAll_Dp {K : PySem.W.Frag} {H : Hp} : ∀ (ds : List PyData) (vs : List V), DqAll H vs ds → DpAll K H vs ds
  | [], _, h => by cases h; exact .nil
  | d :: ds, _, h => by
    cases h with
    | cons h1 h2 => exact .cons (Dq_Dp d _ h1) (DqAll_Dp ds _ h2)
end
section
variable {G H : Hp} {v : V} {vs : List V} {d : PyData} {ds es : List PyData}
theorem dp_up (h : Dq G v d) (e : Same G H) : Dq H v d := Dq_mono e d v h
theorem dps_up (h : DqAll G vs ds) (e : Same G H) : DqAll H vs ds := DqAll_mono e ds vs h
theorem dp_of {K : PySem.W.Frag} (h : Dq G v d) : Dp K G v d := Dq_Dp d v h
theorem dp_list (h : Dq G v (.list ds)) : ∃ a xs, v = .ref a ∧ G a = some (.lst xs) ∧ DqAll G xs ds := by
  cases h with
  | lst hs ha => exact ⟨_, _, rfl, hs, ha⟩
theorem dp_tuple (h : Dq G v (.tuple ds)) : ∃ a xs, v = .ref a ∧ G a = some (.tup xs) ∧ DqAll G xs ds := by
  cases h with
  | tup hs ha => exact ⟨_, _, rfl, hs, ha⟩
theorem dp_int {i : Int} (h : Dq G v (.int i)) : v = .int i := by cases h; rfl
theorem dp_bool {b : Bool} (h : Dq G v (.bool b)) : v = .bl b := by cases h; rfl
theorem dp_str {x : Str} (h : Dq G v (.str x)) : v = .str x := by cases h; rfl
theorem dp_none (h : Dq G v .none) : v = .non := by cases h; rfl
theorem dps_len : ∀ {vs : List V} {ds : List PyData}, DqAll G vs ds → vs.length = ds.length
  | _, _, .nil => rfl
  | _, _, .cons _ h => by rw [List.length_cons, List.length_cons, dps_len h]
theorem dps_get : ∀ {vs : List V} {ds : List PyData} {i : Nat} {d : PyData}, DqAll G vs ds → ds[i]? = some d → ∃ v, vs[i]? = some v ∧ Dq G v d
  | _, _, _, _, .nil, e => by simp at e
  | _, _, 0, _, .cons h _, e => by simp at e; subst e; exact ⟨_, rfl, h⟩
  | _, _, i + 1, d, .cons _ h, e => by
    obtain ⟨v, h1, h2⟩ := dps_get (i := i) (d := d) h (by simpa using e)
    exact ⟨v, by simpa using h1, h2⟩
theorem dps_get' : ∀ {vs : List V} {ds : List PyData} {i : Nat} {v : V}, DqAll G vs ds → vs[i]? = some v → ∃ d, ds[i]? = some d ∧ Dq G v d
  | _, _, _, _, .nil, e => by simp at e
  | _, _, 0, _, .cons h _, e => by simp at e; subst e; exact ⟨_, rfl, h⟩
  | _, _, i + 1, v, .cons _ h, e => by
    obtain ⟨d, h1, h2⟩ := dps_get' (i := i) (v := v) h (by simpa using e)
    exact ⟨d, by simpa using h1, h2⟩
theorem dps_app : ∀ {vs ws : List V} {ds es : List PyData}, DqAll G vs ds → DqAll G ws es → DqAll G (vs ++ ws) (ds ++ es)
  | _, _, _, _, .nil, h => h
  | _, _, _, _, .cons a b, h => .cons a (dps_app b h)
theorem dps_snoc (h : DqAll G vs ds) (h1 : Dq G v d) : DqAll G (vs ++ [v]) (ds ++ [d]) := dps_app h (.cons h1 .nil)
theorem dps_ints : ∀ {vs : List V} {ns : List Int}, DqAll G vs (ns.map PyData.int) → vs = ns.map V.int
  | _, [], h => by cases h; rfl
  | _, n :: ns, h => by
    cases h with
    | cons h1 h2 => rw [dp_int h1, dps_ints h2]; rfl
theorem dps_bools : ∀ {vs : List V} {ns : List Bool}, DqAll G vs (ns.map PyData.bool) → vs = ns.map V.bl
  | _, [], h => by cases h; rfl
  | _, n :: ns, h => by
    cases h with
    | cons h1 h2 => rw [dp_bool h1, dps_bools h2]; rfl
theorem dps_strs : ∀ {vs : List V} {ns : List Str}, DqAll G vs (ns.map PyData.str) → vs = ns.map V.str
  | _, [], h => by cases h; rfl
  | _, n :: ns, h => by
    cases h with
    | cons h1 h2 => rw [dp_str h1, dps_strs h2]; rfl
theorem ints_dps : ∀ {ns : List Int}, DqAll G (ns.map V.int) (ns.map PyData.int)
  | [] => .nil
  | n :: _ => .cons (.int n) ints_dps
theorem bools_dps : ∀ {ns : List Bool}, DqAll G (ns.map V.bl) (ns.map PyData.bool)
  | [] => .nil
  | n :: _ => .cons (.bl n) bools_dps
theorem strs_dps : ∀ {ns : List Str}, DqAll G (ns.map V.str) (ns.map PyData.str)
  | [] => .nil
  | n :: _ => .cons (.str n) strs_dps
end
/-! encodings -/
abbrev DI (ns : List Int) : PyData := .list (ns.map .int)
abbrev DB (bs : List Bool) : PyData := .list (bs.map .bool)
abbrev DS (xs : List Str) : PyData := .list (xs.map .str)
abbrev DT (t : List (List Int)) : PyData := .list (t.map DI)
/-- a machine -/
structure Mach where
  tab : List (List Int)
  ends : List Bool
abbrev DM (m : Mach) : PyData := .tuple [DT m.tab, DB m.ends]
section
variable {G H : Hp} {v : V} {a : Addr}
theorem dI {ns : List Int} (h : Dq G v (DI ns)) : ∃ a, v = .ref a ∧ G a = some (.lst (ns.map V.int)) := by
  obtain ⟨a, xs, e, hs, ha⟩ := dp_list h
  exact ⟨a, e, dps_ints ha ▸ hs⟩
theorem dB {ns : List Bool} (h : Dq G v (DB ns)) : ∃ a, v = .ref a ∧ G a = some (.lst (ns.map V.bl)) := by
  obtain ⟨a, xs, e, hs, ha⟩ := dp_list h
  exact ⟨a, e, dps_bools ha ▸ hs⟩
theorem dS {ns : List Str} (h : Dq G v (DS ns)) : ∃ a, v = .ref a ∧ G a = some (.lst (ns.map V.str)) := by
  obtain ⟨a, xs, e, hs, ha⟩ := dp_list h
  exact ⟨a, e, dps_strs ha ▸ hs⟩
theorem Idp {ns : List Int} (h : G a = some (.lst (ns.map V.int))) : Dq G (.ref a) (DI ns) := .lst h ints_dps
theorem Bdp {ns : List Bool} (h : G a = some (.lst (ns.map V.bl))) : Dq G (.ref a) (DB ns) := .lst h bools_dps
theorem Sdp {ns : List Str} (h : G a = some (.lst (ns.map V.str))) : Dq G (.ref a) (DS ns) := .lst h strs_dps
/-- a pair's parts -/
theorem dP {d e : PyData} (h : Dq G v (.tuple [d, e])) : ∃ a x y, v = .ref a ∧ G a = some (.tup [x, y]) ∧ Dq G x d ∧ Dq G y e := by
  obtain ⟨a, xs, e, hs, ha⟩ := dp_tuple h
  cases ha with
  | cons h1 h2 =>
    cases h2 with
    | cons h3 h4 =>
      cases h4
      exact ⟨a, _, _, e, hs, h1, h3⟩
/-- a machine's two lists -/
theorem dM {m : Mach} (h : Dq G v (DM m)) : ∃ a x y, v = .ref a ∧ G a = some (.tup [x, y]) ∧ Dq G x (DT m.tab) ∧ Dq G y (DB m.ends) := dP h
theorem Mdp {m : Mach} {x y : V} (h : G a = some (.tup [x, y])) (h1 : Dq G x (DT m.tab)) (h2 : Dq G y (DB m.ends)) : Dq G (.ref a) (DM m) := .tup h (.cons h1 (.cons h2 .nil))
/-- a table's row -/
theorem dT_row {t : List (List Int)} {xs : List V} {i : Nat} {r : List Int} (ha : DqAll G xs (t.map DI)) (e : t[i]? = some r) : ∃ b, xs[i]? = some (.ref b) ∧ G b = some (.lst (r.map V.int)) := by
  obtain ⟨v, h1, h2⟩ := dps_get (i := i) (d := DI r) ha (by rw [List.getElem?_map, e]; rfl)
  obtain ⟨b, rfl, h3⟩ := dI h2
  exact ⟨b, h1, h3⟩
end
theorem getI {ns : List Int} {i : Nat} {n : Int} (h : ns[i]? = some n) : (ns.map V.int)[i]? = some (.int n) := by rw [List.getElem?_map, h]; rfl
theorem getB {ns : List Bool} {i : Nat} {n : Bool} (h : ns[i]? = some n) : (ns.map V.bl)[i]? = some (.bl n) := by rw [List.getElem?_map, h]; rfl
theorem getS {ns : List Str} {i : Nat} {n : Str} (h : ns[i]? = some n) : (ns.map V.str)[i]? = some (.str n) := by rw [List.getElem?_map, h]; rfl
/-- at an int that is a place -/
theorem atI_of {α : Type} {xs : List α} {k : Int} {v : α} (h0 : 0 ≤ k) (h : xs[k.toNat]? = some v) : atI xs k = some v := by
  have e : ((k.toNat : Nat) : Int) = k := Int.toNat_of_nonneg h0
  rw [← e]; exact atI_nat h
theorem ixN_of {n : Nat} {k : Int} (h0 : 0 ≤ k) (h : k < n) : ixN n k = some k.toNat := by
  unfold ixN; rw [if_pos h0, if_pos h]
theorem exists_at {α : Type} {xs : List α} {k : Int} (h0 : 0 ≤ k) (h : k < xs.length) : ∃ v, xs[k.toNat]? = some v := by
  have : k.toNat < xs.length := by omega
  exact ⟨xs[k.toNat], List.getElem?_eq_getElem this⟩

/-! ### the drawn numbers: a place, then numbers below 60 -/
def PoolOk (H : Hp) (pa : Addr) : Prop := ∃ (p0 : Int) (ps : List Int), H pa = some (.lst ((p0 :: ps).map V.int)) ∧ 300 ≤ ps.length ∧ ps.length ≤ 5000 ∧ 0 ≤ p0 ∧ ∀ x ∈ ps, 0 ≤ x ∧ x < 60
theorem PoolOk.keep {H H' : Hp} {pa : Addr} (h : PoolOk H pa) (e : H' pa = H pa) : PoolOk H' pa := by
  obtain ⟨p0, ps, h1, h2⟩ := h
  exact ⟨p0, ps, by rw [e]; exact h1, h2⟩
theorem PoolOk.new {H : Hp} {pa p : Addr} {o : HO} (h : PoolOk H pa) (n : H p = none) : PoolOk (upd H p o) pa := by
  refine h.keep (upd_ne ?_)
  obtain ⟨p0, ps, h1, h2⟩ := h
  exact ne_of_none h1 n
theorem PoolOk.other {H : Hp} {pa p : Addr} {o : HO} (h : PoolOk H pa) (n : p ≠ pa) : PoolOk (upd H p o) pa := h.keep (upd_ne n.symm)

/-! ### what may happen between two moments -/
/-- S: the objects that may change (the drawn numbers); the others stay, none goes -/
structure Step (S : Addr → Prop) (H H' : Hp) : Prop where
  keep : ∀ b o, ¬ S b → H b = some o → H' b = some o
  dom : ∀ b, H' b = none → H b = none
abbrev NoS : Addr → Prop := fun _ => False
abbrev At (pa : Addr) : Addr → Prop := fun b => b = pa
section
variable {S S' : Addr → Prop} {H H1 H2 G G1 G2 H0 G0 : Hp} {p : Addr} {o : HO}
theorem Step.refl (S : Addr → Prop) (H : Hp) : Step S H H := ⟨fun _ _ _ h => h, fun _ h => h⟩
theorem Step.trans (a : Step S H H1) (b : Step S H1 H2) : Step S H H2 := ⟨fun c o n h => b.keep c o n (a.keep c o n h), fun c h => a.dom c (b.dom c h)⟩
theorem Step.wide (a : Step NoS H H1) : Step S H H1 := ⟨fun c o _ h => a.keep c o (fun z => z) h, a.dom⟩
theorem Step.same (a : Step NoS H H1) : Same H H1 := fun c o h => a.keep c o (fun z => z) h
theorem Step.new (n : H p = none) : Step S H (upd H p o) := ⟨fun b u _ h => by rw [upd_ne (ne_of_none h n)]; exact h, fun b h => by
  by_cases e : b = p
  · subst e; exact n
  · rw [upd_ne e] at h; exact h⟩
theorem Step.mut (s : S p) (n : H p ≠ none) : Step S H (upd H p o) := ⟨fun b u nb h => by rw [upd_ne (by rintro rfl; exact nb s)]; exact h, fun b h => by
  by_cases e : b = p
  · subst e; rw [upd_same] at h; cases h
  · rw [upd_ne e] at h; exact h⟩
/-- an object of one's own changes -/
theorem Step.own (a : Step S H0 H) (n : H0 p = none) : Step S H0 (upd H p o) := ⟨fun b u nb h => by rw [upd_ne (ne_of_none h n)]; exact a.keep b u nb h, fun b h => by
  by_cases e : b = p
  · subst e; exact n
  · rw [upd_ne e] at h; exact a.dom b h⟩
theorem Step.free (a : Step S H H1) (n : H1 p = none) : H p = none := a.dom p n
theorem Step.there (a : Step S H H1) (n : H p ≠ none) : H1 p ≠ none := fun z => n (a.dom p z)

/-- the drawn numbers are in order -/
def Pools (S : Addr → Prop) (H : Hp) : Prop := ∀ b, S b → PoolOk H b
theorem Pools.none : Pools NoS H := fun _ z => z.elim
theorem Pools.at {pa : Addr} (h : PoolOk H pa) : Pools (At pa) H := fun b e => by rw [show b = pa from e]; exact h
theorem Pools.ok {pa : Addr} (h : Pools (At pa) H) : PoolOk H pa := h pa rfl
theorem PoolOk.some {pa : Addr} (h : PoolOk H pa) : H pa ≠ Option.none := by
  obtain ⟨_, _, e, _⟩ := h
  rw [e]; exact fun z => nomatch z
theorem Pools.new (h : Pools S H) (n : H p = Option.none) : Pools S (upd H p o) := fun b s => (h b s).new n
theorem Pools.other (h : Pools S H) (n : ¬ S p) : Pools S (upd H p o) := fun b s => (h b s).other (by rintro rfl; exact n s)
theorem Pools.step (h : Pools S H) (a : Step NoS H H1) : Pools S H1 := fun b s => by
  obtain ⟨p0, ps, e, r⟩ := h b s
  exact ⟨p0, ps, a.same _ _ e, r⟩

/-- G is frozen in H, away from the drawn numbers -/
structure Ok (S : Addr → Prop) (H G : Hp) : Prop where
  same : Same G H
  pools : Pools S H
  out : ∀ b, S b → G b = none
/-- the frozen part has grown by new objects alone -/
structure Grow (G H G' : Hp) : Prop where
  same : Same G G'
  free : ∀ b, G b = none → H b ≠ none → G' b = none
/-- from H0 with its frozen part G0 to H with its frozen part G -/
structure Fz (S : Addr → Prop) (H0 G0 H G : Hp) : Prop where
  step : Step S H0 H
  grow : Grow G0 H0 G
  ok : Ok S H G
theorem Ok.fz (h : Ok S H G) : Fz S H G H G := ⟨Step.refl _ _, ⟨Same.refl _, fun _ h _ => h⟩, h⟩
theorem Ok.narrow (h : Ok S H G) : Ok NoS H G := ⟨h.same, Pools.none, fun _ z => z.elim⟩
theorem Fz.same (h : Fz S H0 G0 H G) : Same G H := h.ok.same
theorem Fz.up (h : Fz S H0 G0 H G) : Same G0 G := h.grow.same
theorem Fz.trans (a : Fz S H0 G0 H1 G1) (b : Fz S H1 G1 H2 G2) : Fz S H0 G0 H2 G2 :=
  ⟨a.step.trans b.step, ⟨a.grow.same.trans b.grow.same, fun c h n => b.grow.free c (a.grow.free c h n) (a.step.there n)⟩, b.ok⟩
/-- behind a call of a def that draws nothing -/
theorem Fz.call (a : Fz S H0 G0 H1 G1) (b : Fz NoS H1 G1 H2 G2) : Fz S H0 G0 H2 G2 :=
  ⟨a.step.trans b.step.wide, ⟨a.grow.same.trans b.grow.same, fun c h n => b.grow.free c (a.grow.free c h n) (a.step.there n)⟩,
    ⟨b.ok.same, a.ok.pools.step b.step, fun c s => b.grow.free c (a.ok.out c s) (a.ok.pools c s).some⟩⟩
/-- behind a call that hands back no object -/
theorem Fz.stepS (a : Fz S H0 G0 H1 G1) (b : Step S H1 H2) (po : Pools S H2) : Fz S H0 G0 H2 G1 :=
  ⟨a.step.trans b, a.grow, ⟨fun c o h => b.keep c o (fun s => by rw [a.ok.out c s] at h; cases h) (a.ok.same c o h), po, a.ok.out⟩⟩
theorem Fz.step0 (a : Fz S H0 G0 H1 G1) (b : Step NoS H1 H2) : Fz S H0 G0 H2 G1 := a.stepS b.wide (a.ok.pools.step b)
/-- a new object, frozen at once -/
theorem Fz.new (a : Fz S H0 G0 H G) (n : H p = none) : Fz S H0 G0 (upd H p o) (upd G p o) :=
  ⟨a.step.trans (Step.new n), ⟨a.grow.same.trans (same_sub (free_of a.ok.same n)), fun c h m => by
    rw [upd_ne (by rintro rfl; exact m (a.step.dom c n))]; exact a.grow.free c h m⟩,
    ⟨same_add (same_new a.ok.same n) upd_same, a.ok.pools.new n, fun b s => by
      rw [upd_ne (by rintro rfl; exact (a.ok.pools b s).some n)]; exact a.ok.out b s⟩⟩
/-- a new object that will change -/
theorem Fz.loc (a : Fz S H0 G0 H G) (n : H p = none) : Fz S H0 G0 (upd H p o) G :=
  ⟨a.step.trans (Step.new n), a.grow, ⟨same_new a.ok.same n, a.ok.pools.new n, a.ok.out⟩⟩
/-- it changes -/
theorem Fz.put (a : Fz S H0 G0 H G) (n : H0 p = none) (g : G p = none) (s : ¬ S p) : Fz S H0 G0 (upd H p o) G :=
  ⟨a.step.own n, a.grow, ⟨same_mut a.ok.same g, a.ok.pools.other s, a.ok.out⟩⟩
/-- it changes no more -/
theorem Fz.fix (a : Fz S H0 G0 H G) (n : H0 p = none) (e : H p = some o) (s : ¬ S p) : Fz S H0 G0 H (upd G p o) := by
  refine ⟨a.step, ⟨fun b u h => ?_, fun c h m => ?_⟩, ⟨same_add a.ok.same e, a.ok.pools, fun b t => ?_⟩⟩
  · by_cases hb : b = p
    · subst hb
      have := a.ok.same _ _ (a.grow.same _ _ h)
      rw [e] at this
      rw [upd_same]; exact this
    · rw [upd_ne hb]; exact a.grow.same _ _ h
  · rw [upd_ne (by rintro rfl; exact m n)]; exact a.grow.free c h m
  · rw [upd_ne (by rintro rfl; exact s t)]; exact a.ok.out b t
/-- many own objects change no more -/
theorem Fz.fixAll (a : Fz S H0 G0 H G) (as : List Addr) (n : ∀ p ∈ as, H0 p = none) (s : ∀ p ∈ as, ¬ S p) : Fz S H0 G0 H (fun b => if b ∈ as then H b else G b) := by
  refine ⟨a.step, ⟨fun b u h => ?_, fun c h m => ?_⟩, ⟨fun b u h => ?_, a.ok.pools, fun b t => ?_⟩⟩
  · show (if b ∈ as then H b else G b) = some u
    by_cases hb : b ∈ as
    · rw [if_pos hb]; exact a.ok.same _ _ (a.grow.same b u h)
    · rw [if_neg hb]; exact a.grow.same b u h
  · show (if c ∈ as then H c else G c) = none
    rw [if_neg fun z => m (n c z)]; exact a.grow.free c h m
  · by_cases hb : b ∈ as
    · have h' : (if b ∈ as then H b else G b) = some u := h
      rw [if_pos hb] at h'; exact h'
    · have h' : (if b ∈ as then H b else G b) = some u := h
      rw [if_neg hb] at h'; exact a.ok.same b u h'
  · show (if b ∈ as then H b else G b) = none
    rw [if_neg fun z => s b z t]; exact a.ok.out b t
theorem Fz.pool {pa : Addr} (a : Fz (At pa) H0 G0 H G) : PoolOk H pa := a.ok.pools pa rfl
theorem Ok.pool {pa : Addr} (a : Ok (At pa) H G) : PoolOk H pa := a.pools pa rfl
/-- an own object is none of the drawn numbers -/
theorem Ok.ne (h : Ok S H G) (n : H p = none) : ¬ S p := fun s => (h.pools p s).some n
/-- an own object stays behind a step -/
theorem Step.own_stays {u : HO} (a : Step S H H1) (s : ¬ S p) (e : H p = some u) : H1 p = some u := a.keep _ _ s e
theorem Grow.out {u : HO} (a : Grow G H G1) (g : G p = none) (e : H p = some u) : G1 p = none := a.free _ g (by rw [e]; exact fun z => nomatch z)
end

/-! ### comprehensions -/
section
variable {J : It} {items : List V} {Gd : Hp → Prop} {g : TG} {tt : TT} {te : TE} {vs : List Nat} {σ : L2.St} {H1 : Hp} {D : Addr} {Qd : Hp → Prop}
/-- elements that change nothing -/
theorem lc_map (w : Walk J items.length Gd (YAt items)) (F : V → V) (p : V → Bool) (hz : items.length ≤ 100000) (hG : ∀ acc, Gd (upd H1 D (.lst acc)))
    (hs : ∀ (i : Nat) (x : V) (acc : List V) (N : Hp → Prop), items[i]? = some x → (p x = true → ∃ acc', upd H1 D (.lst acc) D = some (.lst acc') ∧ acc'.length < sizeLine ∧ N (upd (upd H1 D (.lst acc)) D (.lst (acc' ++ [F x])))) → (p x = false → N (upd H1 D (.lst acc))) →
      g x (wipe σ vs) (upd H1 D (.lst acc)) fun σ2 H2 => wipe σ2 vs = wipe σ vs ∧ tt σ2 H2 fun b H3 => if b = true then te σ2 H3 fun y H4 => ∃ acc, H4 D = some (.lst acc) ∧ acc.length < sizeLine ∧ N (upd H4 D (.lst (acc ++ [y]))) else N H3)
    (hd : Qd (upd H1 D (.lst ((items.filter p).map F)))) :
    ∃ W : Nat → Nat → Hp → Prop, (∃ m, W 0 m (upd H1 D (.lst []))) ∧ ∀ i m H, W i m H →
      (J.stop i H ∧ Qd H) ∨ (J.go i H ∧ ∃ Nx : Hp → Prop, (∀ H', Nx H' → ∃ m', m' < m ∧ W (i + 1) m' H') ∧ ∀ x H', J.yld i H x H' → g x (wipe σ vs) H' fun σ2 H2 => wipe σ2 vs = wipe σ vs ∧ tt σ2 H2 fun b H3 =>
        if b = true then te σ2 H3 fun y H4 => ∃ acc, H4 D = some (.lst acc) ∧ acc.length < sizeLine ∧ Nx (upd H4 D (.lst (acc ++ [y]))) else Nx H3) := by
  have len : ∀ i, (((items.take i).filter p).map F).length ≤ items.length := fun i => by
    rw [List.length_map]
    exact Nat.le_trans (List.length_filter_le _ _) (by rw [List.length_take]; omega)
  refine lc_it w (fun i H => H = upd H1 D (.lst (((items.take i).filter p).map F))) rfl (fun i H _ e => by rw [e]; exact hG _) (fun i x H H' hi e y => ?_) (fun H e => ?_)
  · obtain ⟨rfl, hx⟩ := y
    subst e
    have hsn : (items.take (i + 1)).filter p = (items.take i).filter p ++ (if p x = true then [x] else []) := by
      rw [List.take_add_one, hx, List.filter_append]
      show _ ++ List.filter p [x] = _
      unfold List.filter
      cases p x <;> rfl
    refine hs i x _ _ hx (fun hp => ⟨_, upd_same, Nat.lt_of_le_of_lt (Nat.le_trans (len i) hz) (by decide), ?_⟩) (fun hp => ?_)
    · show _ = upd H1 D _
      rw [upd_upd, hsn, if_pos hp, List.map_append]
      rfl
    · show _ = upd H1 D _
      rw [hsn, if_neg (by rw [hp]; exact Bool.false_ne_true), List.append_nil]
  · rw [e, List.take_of_length_le (Nat.le_refl _)]
    exact hd
/-- elements that may draw and make new data; R tells of the item at each place; the list may change later -/
theorem lc_drawU {S : Addr → Prop} {G1 : Hp} {R : Nat → PyData → Prop} (w : Walk J items.length Gd (YAt items)) (hz : items.length ≤ 100000) (ok : Ok S H1 G1) (nD : H1 D = none) (hG : ∀ H, Same G1 H → Gd H)
    (hs : ∀ (i : Nat) (x : V) (H G : Hp) (N : Hp → Prop), items[i]? = some x → i < items.length → Fz S H1 G1 H G → (∀ y H4 G4 d, Fz S H G H4 G4 → Dq G4 y d → R i d → ∃ acc, H4 D = some (.lst acc) ∧ acc.length < sizeLine ∧ N (upd H4 D (.lst (acc ++ [y])))) →
      g x (wipe σ vs) H fun σ2 H2 => wipe σ2 vs = wipe σ vs ∧ tt σ2 H2 fun b H3 => if b = true then te σ2 H3 fun y H4 => ∃ acc, H4 D = some (.lst acc) ∧ acc.length < sizeLine ∧ N (upd H4 D (.lst (acc ++ [y]))) else N H3)
    (hd : ∀ H G acc ds, Fz S H1 G1 H G → G D = none → H D = some (.lst acc) → DqAll G acc ds → ds.length = items.length → (∀ (i : Nat) d, ds[i]? = some d → R i d) → Qd H) :
    ∃ W : Nat → Nat → Hp → Prop, (∃ m, W 0 m (upd H1 D (.lst []))) ∧ ∀ i m H, W i m H →
      (J.stop i H ∧ Qd H) ∨ (J.go i H ∧ ∃ Nx : Hp → Prop, (∀ H', Nx H' → ∃ m', m' < m ∧ W (i + 1) m' H') ∧ ∀ x H', J.yld i H x H' → g x (wipe σ vs) H' fun σ2 H2 => wipe σ2 vs = wipe σ vs ∧ tt σ2 H2 fun b H3 =>
        if b = true then te σ2 H3 fun y H4 => ∃ acc, H4 D = some (.lst acc) ∧ acc.length < sizeLine ∧ Nx (upd H4 D (.lst (acc ++ [y]))) else Nx H3) := by
  have sD : ¬ S D := ok.ne nD
  refine lc_it w (fun i H => ∃ G acc ds, Fz S H1 G1 H G ∧ G D = none ∧ H D = some (.lst acc) ∧ DqAll G acc ds ∧ ds.length = i ∧ ∀ (j : Nat) d, ds[j]? = some d → R j d)
    ⟨G1, [], [], ok.fz.loc nD, free_of ok.same nD, upd_same, .nil, rfl, fun j d e => by simp at e⟩ (fun i H _ e => ?_) (fun i x H H' hi e y => ?_) (fun H e => ?_)
  · obtain ⟨G, _, _, z, _⟩ := e
    exact hG H (z.up.trans z.same)
  · obtain ⟨rfl, hx⟩ := y
    obtain ⟨G, acc, ds, z, gD, hD, dp, dl, hR⟩ := e
    refine hs i x H' G _ hx hi z fun y H4 G4 d z4 d4 r4 => ?_
    have hD4 : H4 D = some (.lst acc) := z4.step.own_stays sD hD
    have gD4 : G4 D = none := z4.grow.out gD hD
    have la := dps_len dp
    refine ⟨acc, hD4, Nat.lt_of_le_of_lt (show acc.length ≤ 100000 by omega) (by decide), G4, acc ++ [y], ds ++ [d], (z.trans z4).put nD gD4 sD, gD4, upd_same, dps_snoc (dps_up dp z4.up) d4, by rw [List.length_append, dl]; rfl, fun j e he => ?_⟩
    by_cases hj : j < ds.length
    · rw [List.getElem?_append_left hj] at he
      exact hR j e he
    · rw [List.getElem?_append_right (by omega)] at he
      have : j - ds.length = 0 := by
        cases h : j - ds.length with
        | zero => rfl
        | succ m => rw [h] at he; simp at he
      have hji : j = i := by omega
      subst hji
      rw [this] at he
      simp at he
      subst he
      exact r4
  · obtain ⟨G, acc, ds, z, gD, hD, dp, dl, hR⟩ := e
    exact hd H G acc ds z gD hD dp dl hR
/-- the same, the list frozen -/
theorem lc_draw {S : Addr → Prop} {G1 : Hp} {R : Nat → PyData → Prop} (w : Walk J items.length Gd (YAt items)) (hz : items.length ≤ 100000) (ok : Ok S H1 G1) (nD : H1 D = none) (hG : ∀ H, Same G1 H → Gd H)
    (hs : ∀ (i : Nat) (x : V) (H G : Hp) (N : Hp → Prop), items[i]? = some x → i < items.length → Fz S H1 G1 H G → (∀ y H4 G4 d, Fz S H G H4 G4 → Dq G4 y d → R i d → ∃ acc, H4 D = some (.lst acc) ∧ acc.length < sizeLine ∧ N (upd H4 D (.lst (acc ++ [y])))) →
      g x (wipe σ vs) H fun σ2 H2 => wipe σ2 vs = wipe σ vs ∧ tt σ2 H2 fun b H3 => if b = true then te σ2 H3 fun y H4 => ∃ acc, H4 D = some (.lst acc) ∧ acc.length < sizeLine ∧ N (upd H4 D (.lst (acc ++ [y]))) else N H3)
    (hd : ∀ H G ds, Fz S H1 G1 H G → Dq G (.ref D) (.list ds) → H D ≠ none → ds.length = items.length → (∀ (i : Nat) d, ds[i]? = some d → R i d) → Qd H) :
    ∃ W : Nat → Nat → Hp → Prop, (∃ m, W 0 m (upd H1 D (.lst []))) ∧ ∀ i m H, W i m H →
      (J.stop i H ∧ Qd H) ∨ (J.go i H ∧ ∃ Nx : Hp → Prop, (∀ H', Nx H' → ∃ m', m' < m ∧ W (i + 1) m' H') ∧ ∀ x H', J.yld i H x H' → g x (wipe σ vs) H' fun σ2 H2 => wipe σ2 vs = wipe σ vs ∧ tt σ2 H2 fun b H3 =>
        if b = true then te σ2 H3 fun y H4 => ∃ acc, H4 D = some (.lst acc) ∧ acc.length < sizeLine ∧ Nx (upd H4 D (.lst (acc ++ [y]))) else Nx H3) :=
  lc_drawU w hz ok nD hG hs fun H G acc ds z gD hD dp dl hR =>
    hd H _ ds (z.fix nD hD (ok.ne nD)) (.lst upd_same (dps_up dp (same_sub gD))) (by rw [hD]; exact fun z => nomatch z) dl hR
end
end Hw

/-! own errors held as values -/
namespace Hw
open PySem PySem.Spec PyProof.Rows L2
/-- at a: an error of the class at C, its fields fs -/
def Err (H : Hp) (a C : Addr) (fs : List (Str × V)) : Prop := (fs = [] ∧ H a = some (exo a C none)) ∨ ∃ d, H a = some (exo a C (some d)) ∧ H d = some (exd d fs)
theorem Err.up {H H' : Hp} {a C : Addr} {fs : List (Str × V)} (e : Err H a C fs) (s : Same H H') : Err H' a C fs := by
  rcases e with ⟨h, h1⟩ | ⟨d, h1, h2⟩
  · exact .inl ⟨h, s _ _ h1⟩
  · exact .inr ⟨d, s _ _ h1, s _ _ h2⟩
theorem Err.inst {P : Program} {w : World} {H : Hp} {h : Heap} {a C : Addr} {fs : List (Str × V)} (e : Err H a C fs) (hok : HOk P w H h) : ∃ (ox : Obj) (od : Option Obj), PySem.W.InstAt h a ox C od := by
  rcases e with ⟨_, h1⟩ | ⟨d, h1, h2⟩
  · obtain ⟨t, q⟩ := exo_at hok h1
    exact ⟨_, none, q, rfl, rfl, trivial⟩
  · obtain ⟨t, q⟩ := exo_at hok h1
    obtain ⟨mA, hns, _⟩ := exd_at hok h2
    obtain ⟨o, _, _, ho, _⟩ := hns
    exact ⟨_, some o, q, rfl, rfl, ho⟩
/-- isinstance of an error that is held -/
def rIsV (K : PySem.W.Frag) : List V → Hp → VK → Prop := fun xs H Q => ∃ (a C : Addr) (fs : List (Str × V)) (c : V) (cv : Value) (b : Bool), xs = [.ref a, c] ∧ Err H a C fs ∧ ExcC K C ∧ (∀ u, RelV c u → u = cv) ∧ PySem.W.kitOne K (.ref C) cv = some b ∧ Q (.bl b) H
theorem isEV {X : Cx} (K : PySem.W.Frag) (hK : X.K = K := by rfl) : CallR X (.builtin "isinstance") (rIsV K) := by
  subst hK
  intro pins s σ H xs us Q I r h
  obtain ⟨a, C, fs, c, cv, b, rfl, er, xC, hcv, e, q⟩ := h
  match us, r with
  | [_, _], .cons rx (.cons rt .nil) =>
    cases rx
    cases hcv _ rt
    obtain ⟨ox, od, J⟩ := er.inst I.hok
    obtain ⟨cd, hcd, _⟩ := PySem.W.any_some xC.hd
    exact PySem.W.kia_one (PySem.W.kitx_exc (by rw [hcd]; rfl) xC.hg xC.hk xC.hs xC.ha xC.hn xC.ht xC.hm) I.kIn J e (fun z => nomatch z) fun tk => ⟨.bl b, H, I.kept (t' := tk) fun _ _ z => z, rfl, q⟩
/-- err.f -/
def tEf (K : PySem.W.Frag) (f : Str) (te : TE) : TE := fun σ H Q => te σ H fun x H1 => ∃ (a C : Addr) (fs : List (Str × V)) (v : V), x = .ref a ∧ Err H1 a C fs ∧ ExcC K C ∧ PySem.W.findIn K (.ref C) f = some none ∧ fs.lookup f = some v ∧ Q v H1
theorem pe_ef {X : Cx} (K : PySem.W.Frag) {e : Expr} {te : TE} {pos : Pos} {f : Str} (he : PE X e te) (hb : attributeBase e f X.env (eval e X.env) = eval e X.env := by rfl) (hK : X.K = K := by rfl) : PE X (.Attribute e f pos) (tEf K f te) := by
  subst hK
  refine ⟨fun pins s σ H Q I h => ?_⟩
  refine attr_of hb (thn (he.run pins s σ H _ I h) fun u s1 hh => ?_)
  obtain ⟨x, H1, I1, rx, a, C, fs, v, rfl, er, xC, hno, hl, q⟩ := hh
  cases rx
  rcases er with ⟨rfl, _⟩ | ⟨d, h1, h2⟩
  · cases hl
  · obtain ⟨t, hx⟩ := exo_at I1.hok h1
    obtain ⟨mA, hns, hr⟩ := exd_at I1.hok h2
    obtain ⟨od, ho, hlo⟩ := lookIn_ns hns
    obtain ⟨u, hu, ru⟩ := RelO.some_of (v := v) (o := mA f) (by rw [← hl]; exact hr f)
    have J : PySem.W.InstAt s1.heap a _ C (some od) := ⟨hx, rfl, rfl, ho⟩
    exact PySem.HandSPX.exc_get I1.kIn J xC.hg xC.hk xC.hs (PySem.W.findObj_own xC.hd hno rfl (by rw [hlo, hu])) (handed_of ru) ⟨v, H1, I1.tok _, ru, q⟩
section
variable {X : Cx} {C : Addr} {x : Str} {p pos : Pos}
/-- X(), a new error -/
def tNew0 (C : Addr) : TE := fun _ H Q => ∀ a, H a = none → Q (.ref a) (upd H a (exo a C none))
theorem pe_new0 (q : PySem.W.excIn X.K C [.type "ValueError", .type "Exception", .type "BaseException", .type "object"] "ValueError.__new__" = true) (gC : X.mg x = some (.ref C)) (kC : PySem.W.keepIn X.K (.ref C) = true) (hg : Gl X x := by rfl)
    (hdb : (x == ("__debug__" : Str)) = false := by decide) : PE X (.Call (.Name x p) [] [] pos) (tNew0 C) := by
  refine ⟨fun pins s σ H Q I h => wpAny_Call_Name_kw (ld_glob I hg gC ?_ hdb)⟩
  refine PySem.W.callWith_K0 I.kIn kC ?_
  show wpAny _ _ (call (.ref C) []) _ _ _
  obtain ⟨bm, N, nm, qn, bs, hdct, sn, sub, ab, col, dd, k0, k1, k2, k3, k5, mN, hC, hN, hni, T⟩ := exc_obj I.kIn q
  obtain ⟨hp, g, d, t, os⟩ := s
  refine wpAny_call_exc_subT PySem.F.excBase_ValueError T hC hN hni (fun h' e hm => ?_) (Nat.zero_le _)
  obtain ⟨t1, he, _, _⟩ := hm.there
  have na : H e = none := I.hok.gone hm.new
  exact ⟨.ref e, _, I.laidN (t' := t) hm.keeps hm.new na (exo_ok he), rfl, h e na⟩
/-- what __init__ promises: the fields are laid -/
def spInit (C : Addr) (names : List Str) : Sp := fun vs H Q _ => ∃ (a : Addr) (us : List V), vs = .ref a :: us ∧ us.length = names.length ∧ H a = some (exo a C none) ∧
  ∀ (d : Addr) (H' : Hp), H d = none → H' a = some (exo a C (some d)) → H' d = some (exd d (names.zip us).reverse) → (∀ b, b ≠ a → b ≠ d → H' b = H b) → Q .non H'
structure MkC (P : Program) (w : World) (K : PySem.W.Frag) (mg : Str → Option Value) (base : Heap) (x : Str) (C : Addr) (names : List Str) : Prop where
  ob : OexC K C
  g : mg x = some (.ref C)
  fn : ∃ (f : Addr) (fd : FuncData), PySem.W.findIn K (.ref C) "__init__" = some (some (.ref f)) ∧ PySem.W.typeIn K (.ref f) = some (.type "function") ∧ FnOk P w K mg base CX0 1 f fd ("self" :: names) (spInit C names) ∧ Binds K fd ("self" :: names) []
/-- X(e, ..), a new error with its fields -/
def tNewF (C : Addr) (names : List Str) (ta : TA) : TE := fun σ H Q => ta σ H fun us H1 => us.length = names.length ∧ us.length ≤ 1000 ∧
  ∀ (a d : Addr) (H2 : Hp), H1 a = none → H1 d = none → d ≠ a → H2 a = some (exo a C (some d)) → H2 d = some (exd d (names.zip us).reverse) → (∀ b, b ≠ a → b ≠ d → H2 b = H1 b) → Q (.ref a) H2
theorem pe_newF {names : List Str} {e : Expr} {es : List Expr} {ta : TA} (M : MkC X.prog X.w X.K X.mg X.base x C names) (hr : Room 2 X.A) (ha : PA X (e :: es) ta) (hg : Gl X x := by rfl) (hdb : (x == ("__debug__" : Str)) = false := by decide)
    (he : starEach (e :: es) X.env = (false, eval e X.env) :: starEach es X.env := by rfl) (hpl : (backTo pos (starEach es X.env)).any (·.1) = false := by rfl) : PE X (.Call (.Name x p) (e :: es) [] pos) (tNewF C names ta) := by
  obtain ⟨f, fd, iC, tI, F1, bi⟩ := M.fn
  obtain ⟨nm, q, N, bs, bm, sn, sub, ab, col, dd, k0, k1, k2, k3, k5, hC, hbm⟩ := M.ob.cls
  refine ⟨fun pins s σ H Q I h => wpAny_Call_Name_kw (ld_glob I hg M.g ?_ hdb)⟩
  refine PySem.W.callWith_K (h₀ := X.base) I.ok.mod.kin M.ob.kC (thn (ha.run pos pins s σ H _ I h) fun us s1 r => ?_) he hpl
  obtain ⟨vs, H1, I1, r1, nl, hz, q1⟩ := r
  refine ⟨I1.kIn, ?_⟩
  show wpAny _ _ (call (.ref C) us) _ _ _
  obtain ⟨hp, g, dr, tk, os⟩ := s1
  have hsz : hp.objs.size ≤ hp.objs.size + 1 := Nat.le_succ _
  have hn : H1 (hp.objs.size + 1) = none := I1.hok.fresh hsz
  have kk : ∀ b o, hp.get? b = some o → ((hp.push (PySem.W.kdv_tup us)).push (PySem.HandSPX.excO C hp.objs.size)).get? b = some o := fun b o e => Heap.get?_push_of_some _ (Heap.get?_push_of_some _ e)
  have hget : ((hp.push (PySem.W.kdv_tup us)).push (PySem.HandSPX.excO C hp.objs.size)).get? (hp.objs.size + 1) = some (PySem.HandSPX.excO C hp.objs.size) := by heap_get
  have I2 := I1.laid (t' := tk) (a := hp.objs.size + 1) (o := exo (hp.objs.size + 1) C none) (h' := (hp.push (PySem.W.kdv_tup us)).push (PySem.HandSPX.excO C hp.objs.size)) kk hsz (exo_ok hget)
  have r2 : Vals (V.ref (hp.objs.size + 1) :: vs) (Value.ref (hp.objs.size + 1) :: us) := .cons rfl r1
  have hus : us.length ≤ sizeLine := by
    rw [← Paired.length r1, sizeLine_eq]
    omega
  have hl : (Value.ref (hp.objs.size + 1) :: us ++ []).length = (("self" : Str) :: names).length := by
    rw [List.append_nil, List.length_cons, List.length_cons, ← Paired.length r1, nl]
  have b := bi _ (Value.ref (hp.objs.size + 1) :: us) I2.kIn hl
  rw [List.append_nil] at b
  have hq : spInit C names (V.ref (hp.objs.size + 1) :: vs) (upd H1 (hp.objs.size + 1) (exo (hp.objs.size + 1) C none)) (fun v H2 => v = .non ∧ Q (.ref (hp.objs.size + 1)) H2) (fun _ _ _ => False) :=
    ⟨_, vs, rfl, nl, upd_same, fun d H' hd h1 h2 h3 => by
      have da : d ≠ hp.objs.size + 1 := fun z => by rw [z, upd_same] at hd; cases hd
      rw [upd_ne da] at hd
      exact ⟨rfl, q1 _ d H' hn hd da h1 h2 fun b hb hbd => by rw [h3 b hb hbd, upd_ne hb]⟩⟩
  refine wpAny_call (PySem.HandSPX.call_own PySem.F.excBase_ValueError (fun Y => PySem.HandSPX.refsVE_contains Y bm hbm) (I1.kIn _ _ hC) (PySem.W.looks_findIn I1.kIn iC) (fun self => PySem.W.bind_fn I1.kIn self tI) hus
    (codeAny_mono (F1.run _ X.stack _ _ ⟨Value.ref (hp.objs.size + 1) :: us, []⟩ (Value.ref (hp.objs.size + 1) :: us) _ _ (fun _ _ _ => False) (hr.make C us []) (I2.env0.make C us []) b r2 hq) fun r s' hq' => ?_))
  match r, hq' with
  | .error er, hq' => exact hq'.elim
  | .ok (.ret u), hq' =>
    obtain ⟨v, H2, os2, bare2, un2, hok2, rv, ⟨rfl, q2⟩⟩ := hq'
    obtain ⟨h2, g2, d2, t2, os'⟩ := s'
    obtain rfl : os' = os := os2
    exact ⟨rv, .ref _, H2, I2.call (h' := h2) (g' := g2) (d' := d2) (t' := t2) (ch := []) un2 hok2 bare2 (fun b z => absurd z (by simp)), rfl, q2⟩
  | .ok .next, hq' => exact hq'.elim
  | .ok .brk, hq' => exact hq'.elim
  | .ok .cont, hq' => exact hq'.elim
end
/-! ### the classes' facts, gathered -/
def exB (K : PySem.W.Frag) (C : Addr) : Bool := PySem.W.keepIn K (.ref C) && (decide (PySem.W.subIn K (.ref C) (.type "BaseException") = some true) && (decide (PySem.W.typeIn K (.ref C) = some (.type "type")) && (PySem.W.hasDictIn K C &&
  (decide (PySem.W.findIn K (.ref C) "__getattribute__" = some (some (.builtin "BaseException.__getattribute__"))) && (decide (PySem.W.findIn K (.ref C) "__getattr__" = some none) && (decide (PySem.W.findIn K (.ref C) "__class__" = some (some (.builtin "object.__class__"))) &&
  (decide (PySem.W.specialIn K (.builtin "object.__class__") "__get__" = some (some (.builtin "getset_descriptor.__get__"))) && (decide (PySem.W.takesIn K (.builtin "object.__class__") = some true) && (decide (PySem.W.mroIn K C (.type "object") = some true) && decide (PySem.W.kitOne K (.ref C) (.type "ValueError") = some true))))))))))
structure ExF (K : PySem.W.Frag) (C : Addr) : Prop where
  kp : PySem.W.keepIn K (.ref C) = true
  t : PySem.W.typeIn K (.ref C) = some (.type "type")
  is : ExcC K C
  ve : PySem.W.kitOne K (.ref C) (.type "ValueError") = some true
theorem exB_ok {K : PySem.W.Frag} {C : Addr} (h : exB K C = true) : ExF K C := by
  unfold exB at h
  simp only [Bool.and_eq_true, decide_eq_true_eq] at h
  obtain ⟨h1, h2, h3, h4, h5, h6, h7, h8, h9, h10, h11⟩ := h
  exact ⟨h1, h3, ⟨h5, h6, h2, h4, h7, h8, h9, h10⟩, h11⟩
/-- which of the classes an error of the class C is of -/
def kitRow (K : PySem.W.Frag) (C : Addr) (ks : List Addr) (row : List Bool) : Bool := decide (ks.map (fun k => PySem.W.kitOne K (.ref C) (.ref k)) = row.map some)
theorem kitRow_ok {K : PySem.W.Frag} {C : Addr} {ks : List Addr} {row : List Bool} (h : kitRow K C ks row = true) : ks.map (fun k => PySem.W.kitOne K (.ref C) (.ref k)) = row.map some := of_decide_eq_true h
def NoF (K : PySem.W.Frag) (C : Addr) : List Str → Prop
  | [] => True
  | n :: r => PySem.W.findIn K (.ref C) n = some none ∧ NoF K C r
abbrev nfOf (st : Stmt) (q : Str) (cc cd : Addr) : NdefX.NF := { name := "__init__", qual := q, params := defArgs st, body := defBody st, scope := defScope st, cl := [(("__class__" : Str), cc)], c := cd }
/-- the class at C has the __init__ that st says -/
def MkAt (P : Program) (K : PySem.W.Frag) (C : Addr) (st : Stmt) (q : Str) (names : List Str) : Prop := ∃ (f cc cd : Addr) (oc : Value) (od : Option Addr) (doc pm ctv : Value) (sl : Array (Option Value)),
  (∀ mg : Str → Option Value, mg "super" = none → SuC P K mg C f cc (nfOf st q cc cd)) ∧ K.lookup f = some ⟨oc, od, .func ((nfOf st q cc cd).fd doc pm ctv), sl⟩ ∧ NoF K C names
theorem mkAt {P : Program} {K : PySem.W.Frag} {C f cc cd : Addr} {st : Stmt} {q : Str} {names : List Str} {oc : Value} {od : Option Addr} {doc pm ctv : Value} {sl : Array (Option Value)} {ccl : Value} {cdd : Option Addr} {vs : Array Value} {ccs : Array (Option Value)} {file : Str} {tf : Tok} {a : Value} {b : Option Addr} {d : Array (Option Value)}
    {nm qn : Str} {N : Addr} {bs bm : List Value} {sn : List Str} {sub : List Value} {ab : Bool} {col : Option Bool} {dd : Option Addr} {k0 k1 k2 k3 k5 : Option Value}
    (i : PySem.W.findIn K (.ref C) "__init__" = some (some (.ref f))) (ti : PySem.W.typeIn K (.ref f) = some (.type "function")) (lk : K.lookup f = some ⟨oc, od, .func (PySem.W.fnX "__init__" q (defArgs st) (defBody st) (defScope st) [(("__class__" : Str), cc)] .none .none doc pm none (.ref cd) ctv), sl⟩)
    (ccd : PySem.W.codeIn K (.ref cd) q = true) (lc : K.lookup cd = some ⟨ccl, cdd, .fields vs, ccs⟩) (hv : vs[2]? = some (.str file tf)) (hf : ((P.main.file : Str) == file) = true) (tp : (P.main.scope.names.lookup ("super" : Str)).isSome = false) (ce : K.lookup cc = some ⟨a, b, .cell (some (.ref C)), d⟩)
    (mr : PySem.W.mroIn K C (.ref C) = some true) (op : PySem.W.nsIn K cStatics "thirdparty.any" = some none) (su : PySem.W.ks_superIn K C C "__init__" = some (some (.builtin "ValueError.__init__"))) (ve : PySem.W.subIn K (.ref C) (.type "ValueError") = some true)
    (lC : K.lookup C = some (excClassObj nm qn C N bs bm true sn sub ab col dd k0 k1 k2 k3 k5 "ValueError.__new__")) (rv : PySem.HandSPX.refsVE bm = true) (sa : PySem.W.findIn K (.ref C) "__setattr__" = some (some (.builtin "object.__setattr__"))) (ex : exB K C = true) (nf : NoF K C names) : MkAt P K C st q names := by
  have E := exB_ok ex
  exact ⟨f, cc, cd, oc, od, doc, pm, ctv, sl, fun mg hs => ⟨⟨⟨nm, qn, N, bs, bm, sn, sub, ab, col, dd, k0, k1, k2, k3, k5, lC, rv⟩, sa, E.is.hs, E.t, E.kp⟩, i, ti, ⟨_, _, _, _, _, _, lk⟩, rfl, ccd, ⟨_, _, _, _, _, _, lc, hv, hf⟩, tp, ⟨_, _, _, ce⟩, mr, hs, op, su, ve⟩, lk, nf⟩
/-- the def within a class -/
def clsDef (s : Stmt) (j : Nat) : Stmt := match s with
  | .ClassDef _ _ _ body .. => body.getD j (.Pass ⟨0, 0, 0, 0⟩)
  | _ => .Pass ⟨0, 0, 0, 0⟩
theorem cons_map {x : Option Bool} {xs : List (Option Bool)} {r : List Bool} (h : x :: xs = r.map some) : ∃ b r', r = b :: r' ∧ x = some b ∧ xs = r'.map some := by
  cases r with
  | nil => cases h
  | cons b r => rw [List.map_cons] at h; exact ⟨b, r, rfl, (List.cons.inj h).1, (List.cons.inj h).2⟩
theorem nil_map {r : List Bool} (h : [] = r.map some) : r = [] := by
  cases r with
  | nil => rfl
  | cons b r => cases h
/-- what is told of an error: which of the classes it is of -/
def spKinds (K : PySem.W.Frag) (ks : List Addr) : Sp := fun vs H Q _ => ∃ (a D : Addr) (fs : List (Str × V)) (row : List Bool), vs = [.ref a] ∧ Err H a D fs ∧ ExcC K D ∧ ks.map (fun k => PySem.W.kitOne K (.ref D) (.ref k)) = row.map some ∧
  ∀ (b : Addr) (H' : Hp), Step NoS H H' → H b = none → H' b = some (.lst (row.map V.bl)) → Q (.ref b) H'
end Hw

/-! the end of a law row for a def that knows that nothing is being shown -/
namespace Hw
open PySem PySem.Spec PyProof.Rows L2

theorem enter_law {P : Program} {w : World} {K : PySem.W.Frag} {mg mb : Str → Option Value} {k : Nat} {fa a : Addr} {fd : FuncData} {x : Str} {sp : Sp} {z : Shared} {vs : List Value} {ns : List Int}
    (inK : K.In z.heap) (gl : z.heap.Ns mainGlobals mg) (bu : z.heap.Ns builtinsNs mb) (bb : ∀ x : Str, x ≠ "__name__" → mb x = bootBuiltins x) (nl : z.heap.NoLimit) (ge : z.gens = #[])
    (ob : z.heap.get? a = some { cls := .type "list", data := .seq vs.toArray }) (ia : IntsAre vs ns) (sl : ns.length ≤ sizeLine) (room : Room k callerA)
    (F : ∀ base : Heap, K.In base → base.Ns mainGlobals mg → FnG P w K mg base CX0 k fa fd [x] sp) (bi : ∀ (s : Shared) (u : Value), BindsTo s fd ⟨[u], []⟩ [(x, u)])
    (pr : ∀ H : Hp, Only H → SqL K H a (ns.map V.int) → sp [.ref a] H (fun v _ => v = .bl true) fun _ _ _ => False) :
    codeAny (model P w) callerA (.call (.ref fa) ⟨[.ref a], []⟩) (fun r y => r = .ok (.ret (.bool true)) ∧ OldK z.heap y.heap ∧ y.os = z.os ∧ AllBare y.gens) z := by
  have lv := ia.length
  -- the script's object, where it is none of the top's own
  let O : Obj := { cls := .type "list", data := .seq vs.toArray }
  have main : ∀ H : Hp, (∀ b, H b = none ∨ (b = a ∧ H b = some (.frz O (.lst (ns.map V.int))) ∧ K.lookup a = none)) → SqL K H a (ns.map V.int) → HOk P w H z.heap →
      codeAny (model P w) callerA (.call (.ref fa) ⟨[.ref a], []⟩) (fun r y => r = .ok (.ret (.bool true)) ∧ OldK z.heap y.heap ∧ y.os = z.os ∧ AllBare y.gens) z := by
    intro H only seq ok
    have onlyH : Only H := fun b => (only b).imp id fun q => ⟨O, ns.map V.int, q.2.1⟩
    have dict0 : ∀ {b : Addr} {o : Obj} {es : Array DictEntry} {n : Nat}, z.heap.get? b = some o → o.data = .dict es n → H b = none := by
      intro b o es n e d
      rcases only b with q | ⟨rfl, _, _⟩
      · exact q
      · rw [ob] at e
        cases e
        exact nomatch (d : Data.seq _ _ = Data.dict es n)
    have ns' : ∀ {b : Addr} {m : Str → Option Value}, z.heap.Ns b m → (hidT z.heap H).Ns b m := by
      rintro b m ⟨o, es, n, e, d, r⟩
      exact ⟨o, es, n, hidT_get e (dict0 e d), d, r⟩
    have inB : K.In (hidT z.heap H) := by
      intro b o e
      rcases only b with q | ⟨rfl, _, q⟩
      · exact hidT_get (inK b o e) q
      · rw [q] at e; cases e
    have md : Mod K mg (hidT z.heap H) := by
      obtain ⟨mc, c1, c2⟩ := nl
      exact ⟨inB, ns' gl, ⟨mb, ns' bu, bb⟩, ⟨mc, ns' c1, c2⟩⟩
    have en : Env0 P w K mg (hidT z.heap H) callerA [] z H :=
      { frames := rfl, mod := md, bs := fun b o e => of_hidT e, bsz := Nat.le_of_eq (hidT_size _ _), funs := trivial, frf := fun b hb => (List.not_mem_nil hb).elim, hok := ok, bare := .of_eq ge }
    have run := (F _ inB (ns' gl)).go callerA [] z H ⟨[.ref a], []⟩ [.ref a] [.ref a] _ _ rfl room en (bi z (.ref a)) (.cons rfl .nil) (pr H onlyH seq)
    refine codeAny_mono run fun r y h => ?_
    match r, h with
    | .error _, h => exact h.elim
    | .ok .next, h => exact h.elim
    | .ok .brk, h => exact h.elim
    | .ok .cont, h => exact h.elim
    | .ok (.ret u), ⟨v, H2, os, bare, un, ok2, rv, q⟩ =>
      have q1 : v = V.bl true := q
      rw [q1] at rv
      have q2 : u = Value.bool true := rv
      refine ⟨by rw [q2], OldK.of_keep fun b o e => ?_, os, bare⟩
      rcases only b with n | ⟨rfl, n, _⟩
      · exact un.keep b o e n (List.not_mem_nil) (List.not_mem_nil)
      · obtain ⟨g1, _⟩ := ok _ _ n
        obtain ⟨g2, _⟩ := ok2 _ _ (un.frzs _ _ _ n)
        rw [g1] at e
        rw [g2]; exact e
  rcases hk : K.lookup a with _ | o
  · refine main (fun b => if b = a then some (.frz O (.lst (ns.map V.int))) else none) (fun b => ?_) (.inl (.inr ⟨O, if_pos rfl⟩)) fun b u e => ?_
    · by_cases c : b = a
      · exact .inr ⟨c, if_pos c, hk⟩
      · exact .inl (if_neg c)
    · by_cases c : b = a
      · subst c
        have e' : some (HO.frz O (.lst (ns.map V.int))) = some u := (if_pos rfl).symm.trans e
        cases e'
        exact ⟨ob, by rw [List.length_map]; exact sl, vs, _, vals_ints ia, ob⟩
      · have e' := (if_neg c).symm.trans e
        cases e'
  · have oo := inK a o hk
    rw [ob] at oo
    cases oo
    exact main (fun _ => none) (fun _ => .inl rfl) (.inr ⟨_, vs.toArray, _, hk, rfl, rfl, rfl, by rw [List.size_toArray, lv]; exact sl, vals_ints ia⟩) fun _ _ e => nomatch (e : (none : Option HO) = _)

/-- what k_head leaves, from the law's promise -/
theorem law_end {l : PySem.W.OpenLaw} {n k : Nat} {q : Program} {loose : List Str} {XP : (Str → Option Value) → Heap → Prop} {YP : World → Heap → Prop} {d : DefRec} {K : Params → PySem.W.Frag} {sp : PySem.W.Frag → Sp} {x : Str}
    (most : l.most = some n) (small : n ≤ sizeLine) (nodef : d.params.defaults = []) (room : Room k callerA) (inK : ∀ (w : World) (h : Heap), YP w h → (K w.params).In h)
    (F : ∀ (w : World) (mg : Str → Option Value) (fa : Addr) (h : Heap), (K w.params).In h → h.Ns mainGlobals mg → mg d.name = some (.ref fa) →
      ∃ fd : FuncData, (∀ (s : Shared) (u : Value), BindsTo s fd ⟨[u], []⟩ [(x, u)]) ∧ ∀ base : Heap, (K w.params).In base → base.Ns mainGlobals mg → FnG l.prog w (K w.params) mg base CX0 k fa fd [x] (sp (K w.params)))
    (pr : ∀ (K : PySem.W.Frag) (H : Hp) (a : Addr) (ns : List Int), ns.length ≤ n → Only H → SqL K H a (ns.map V.int) → sp K [.ref a] H (fun v _ => v = .bl true) fun _ _ _ => False) :
    PySem.W.WalkO q loose XP YP l.row.toRowW d [] (fun f vs => PySem.call f vs) := by
  refine Att.attach_call most nodef fun w z0 z1 mg mb fa o pm cd dc a vs ns G Y h1 h2 h3 h4 h5 h6 h7 h8 => ?_
  obtain ⟨fd, bi, go⟩ := F w mg fa _ (inK w _ Y) G.T.g h4
  exact enter_law (inK w _ Y) G.T.g G.T.b G.T.builtins G.T.nolimit h8 h5 h6 (Nat.le_trans h7 small) room go bi (fun H c e => pr _ H a ns h7 c e)
end Hw

/-! the laws' own drawing: what the shared defs promise -/
namespace Hw
open PySem PySem.Spec PyProof.Rows L2
theorem small60 {x : Int} : 0 ≤ x % 60 ∧ x % 60 < 60 := ⟨Int.emod_nonneg _ (by decide), Int.emod_lt_of_pos _ (by decide)⟩
theorem all_snoc {α : Type} {p : α → Prop} {xs : List α} {x : α} (h : ∀ y ∈ xs, p y) (h1 : p x) : ∀ y ∈ xs ++ [x], p y := fun y hy => by
  rcases List.mem_append.mp hy with h2 | h2
  · exact h y h2
  · rw [List.mem_singleton.mp h2]; exact h1
theorem snoc2 {α : Type} {p : α → Prop} {xs : List α} {x y : α} (h : ∀ y ∈ xs, p y) (h1 : p x) (h2 : p y) : ∀ z ∈ xs ++ [x, y], p z := fun z hz => by
  rcases List.mem_append.mp hz with q | q
  · exact h z q
  · rcases List.mem_cons.mp q with q | q
    · rw [q]; exact h1
    · rw [List.mem_singleton.mp q]; exact h2
theorem sz {n : Nat} (h : n ≤ 100000) : n ≤ sizeLine := Nat.le_trans h (by decide)
theorem szl {n : Nat} (h : n ≤ 100000) : n < sizeLine := Nat.lt_of_le_of_lt h (by decide)
theorem one_more {H : Hp} {c : Addr} {ps : List Int} {x : Int} : upd H c (.lst (ps.map V.int ++ [.int x])) c = some (.lst ((ps ++ [x]).map V.int)) := by rw [upd_same, List.map_append]; rfl
theorem two_more {H : Hp} {c : Addr} {ps : List Int} {x y : Int} : upd H c (.lst (ps.map V.int ++ [.int x, .int y])) c = some (.lst ((ps ++ [x, y]).map V.int)) := by rw [upd_same, List.map_append]; rfl
/-- _law_pick: some number below many -/
def spPick : Sp := fun vs H Q _ => ∃ (pa : Addr) (n : Int), vs = [.ref pa, .int n] ∧ PoolOk H pa ∧ 1 ≤ n ∧ n < 2 ^ 30 ∧
  ∀ (k : Int) (H' : Hp), 0 ≤ k → k < n → k < 60 → Step (At pa) H H' → Pools (At pa) H' → Q (.int k) H'
/-- _law_pool: a new list of at least 300 numbers below 60 -/
def spPool (K : PySem.W.Frag) : Sp := fun vs H Q _ => ∃ (a : Addr) (ns : List Int), vs = [.ref a] ∧ SqL K H a (ns.map V.int) ∧ ns.length ≤ 63 ∧
  ∀ (H' : Hp) (p : Addr) (ps : List Int), Step NoS H H' → H p = none → H' p = some (.lst (ps.map V.int)) → 300 ≤ ps.length → ps.length ≤ 4500 → (∀ x ∈ ps, 0 ≤ x ∧ x < 60) → Q (.ref p) H'
/-- _law_stream: the same, a place ahead -/
def spStream (K : PySem.W.Frag) : Sp := fun vs H Q _ => ∃ (a : Addr) (ns : List Int), vs = [.ref a] ∧ SqL K H a (ns.map V.int) ∧ ns.length ≤ 63 ∧
  ∀ (H' : Hp) (p : Addr), Step NoS H H' → H p = none → PoolOk H' p → Q (.ref p) H'
/-- the letters of the alphabet, by their codes -/
def abc : List Nat := (List.range 26).map (97 + ·)
/-- a text of letters: its codes -/
def strOf (l : List Nat) : Str := ⟨l.toArray⟩
/-- letters: one to six different ones -/
structure IsLetters (l : List Nat) : Prop where
  pos : 0 < l.length
  six : l.length ≤ 6
  nodup : l.Nodup
  abc : ∀ c ∈ l, 97 ≤ c ∧ c < 123
/-- _law_letters -/
def spLetters : Sp := fun vs H Q _ => ∃ (pa : Addr) (n : Int), vs = [.ref pa, .int n] ∧ PoolOk H pa ∧ 1 ≤ n ∧ n ≤ 6 ∧
  ∀ (l : List Nat) (H' : Hp), IsLetters l → (l.length : Int) ≤ n → Step (At pa) H H' → Pools (At pa) H' → Q (.str (strOf l)) H'
/-! texts by their codes -/
theorem strOf_cps (l : List Nat) : (strOf l).cps.toList = l := by show l.toArray.toList = l; simp
theorem strOf_len (l : List Nat) : (strOf l).length = l.length := by show l.toArray.size = l.length; simp
theorem strOf_self (x : Str) : strOf x.cps.toList = x := by
  obtain ⟨c⟩ := x
  show (⟨c.toList.toArray⟩ : Str) = ⟨c⟩
  simp
theorem strOf_inj {a b : List Nat} (h : strOf a = strOf b) : a = b := by rw [← strOf_cps a, h, strOf_cps]
theorem one_sign (c : Nat) : (⟨#[c]⟩ : Str) = strOf [c] := rfl
theorem empty_str : ("" : Str) = strOf [] := by decide +kernel
theorem txt_join (l : List Nat) : Txt.join "" (l.map fun k => strOf [k]) = strOf l := by
  have h := PyProof.Rows.join_closes (sep := "") (sep' := ⟨#[]⟩) (ys := l.map fun k => strOf [k]) (by decide +kernel)
  rw [eq_of_beq h]
  exact PyProof.Rows.join_ones l
theorem sum_ones (l : List Nat) : ((l.map fun k => strOf [k]).map (·.length)).sum = l.length := by
  induction l with
  | nil => rfl
  | cons x r ih => rw [List.map_cons, List.map_cons, List.sum_cons, ih, List.length_cons]; show 1 + r.length = _; omega

/-! what is walked, by its items -/
abbrev rngI (lo : Int) (n : Nat) : List V := (List.range n).map fun i => V.int (lo + (i : Nat))
abbrev sgnI (l : List Nat) : List V := l.map fun c => V.str (strOf [c])
theorem rngI_at {lo : Int} {n i : Nat} {x : V} (h : (rngI lo n)[i]? = some x) : i < n ∧ x = .int (lo + i) := by
  rw [List.getElem?_map] at h
  by_cases hi : i < n
  · rw [List.getElem?_range hi] at h
    exact ⟨hi, (Option.some.inj h).symm⟩
  · rw [List.getElem?_eq_none (by rw [List.length_range]; omega)] at h
    cases h
theorem sgnI_at {l : List Nat} {i : Nat} {x : V} (h : (sgnI l)[i]? = some x) : ∃ c, l[i]? = some c ∧ x = .str (strOf [c]) := by
  rw [List.getElem?_map] at h
  cases e : l[i]? with
  | none => rw [e] at h; cases h
  | some c => rw [e] at h; exact ⟨c, rfl, (Option.some.inj h).symm⟩
theorem walkR {lo : Int} {n : Nat} : Walk (Itr lo n) (rngI lo n).length (fun _ => True) (YAt (rngI lo n)) := by
  have l : (rngI lo n).length = n := by rw [List.length_map, List.length_range]
  rw [l]
  refine walk_range.mono (fun _ h => h) fun i H x H' hi _ y => ?_
  obtain ⟨rfl, rfl⟩ := y
  refine ⟨rfl, ?_⟩
  rw [List.getElem?_map, List.getElem?_range hi]
  rfl
theorem walkS {l : List Nat} : Walk (Its (strOf l)) (sgnI l).length (fun _ => True) (YAt (sgnI l)) := by
  have e : (sgnI l).length = (strOf l).cps.size := by rw [List.length_map]; exact (strOf_len l).symm
  rw [e]
  refine walk_str.mono (fun _ h => h) fun i H x H' hi _ y => ?_
  obtain ⟨rfl, c, h1, rfl⟩ := y
  refine ⟨rfl, ?_⟩
  have h2 : l[i]? = some c := by rw [← h1]; show _ = l.toArray[i]?; simp
  rw [List.getElem?_map, h2]
  rfl
theorem lenR {lo : Int} {n : Nat} : (rngI lo n).length = n := by rw [List.length_map, List.length_range]
theorem lenS {l : List Nat} : (sgnI l).length = l.length := List.length_map ..

/-! drawn machines -/
theorem data_of {α : Type} {f : α → PyData} {P : α → Prop} : ∀ {ds : List PyData}, (∀ (i : Nat) d, ds[i]? = some d → ∃ a, d = f a ∧ P a) → ∃ as : List α, ds = as.map f ∧ as.length = ds.length ∧ ∀ a ∈ as, P a
  | [], _ => ⟨[], rfl, rfl, fun _ z => nomatch z⟩
  | d :: ds, h => by
    obtain ⟨a, e, pa⟩ := h 0 d rfl
    obtain ⟨as, e2, l2, h2⟩ := data_of (ds := ds) fun i x hx => h (i + 1) x hx
    refine ⟨a :: as, by rw [e, e2]; rfl, by rw [List.length_cons, List.length_cons, l2], fun b hb => ?_⟩
    rcases List.mem_cons.mp hb with rfl | hb
    · exact pa
    · exact h2 b hb
/-- a machine over so many letters: states below their number -/
structure MachOk (k : Nat) (m : Mach) : Prop where
  ends : m.ends.length = m.tab.length
  pos : 1 ≤ m.tab.length
  most : m.tab.length ≤ 60
  row : ∀ r ∈ m.tab, r.length = k
  tgt : ∀ r ∈ m.tab, ∀ t ∈ r, 0 ≤ t ∧ t < m.tab.length
/-- a drawn machine of at most n states -/
def DrawM (K : PySem.W.Frag) (Q : VK) (pa : Addr) (H G : Hp) (l : List Nat) (n : Nat) : Prop :=
  ∀ (H' G' : Hp) (r : V) (m : Mach), Fz (At pa) H G H' G' → Dq G' r (DM m) → MachOk l.length m → m.tab.length ≤ n → Q r H'
def spMachine (K : PySem.W.Frag) : Sp := fun vs H Q _ => ∃ (pa : Addr) (l : List Nat) (n : Nat) (G : Hp), vs = [.ref pa, .str (strOf l), .int (n : Nat)] ∧ IsLetters l ∧ 1 ≤ n ∧ n ≤ 60 ∧ Ok (At pa) H G ∧ DrawM K Q pa H G l n
def spBlocks (K : PySem.W.Frag) : Sp := fun vs H Q _ => ∃ (pa : Addr) (l : List Nat) (nb nw : Int) (G : Hp), vs = [.ref pa, .str (strOf l), .int nb, .int nw] ∧ IsLetters l ∧ 1 ≤ nb ∧ nb ≤ 60 ∧ 1 ≤ nw ∧ nw ≤ 59 ∧ Ok (At pa) H G ∧ DrawM K Q pa H G l 60
theorem sum_pos_take : ∀ {ss : List Int} {i : Nat} {x : Int}, (∀ y ∈ ss, 1 ≤ y) → ss[i]? = some x → (ss.take i).sum + x ≤ ss.sum ∧ 0 ≤ (ss.take i).sum
  | [], _, _, _, h => by simp at h
  | y :: r, 0, x, hp, h => by
    have e : y = x := Option.some.inj h
    subst e
    have h2 : 0 ≤ r.sum := by
      clear h
      induction r with
      | nil => exact Int.le_refl 0
      | cons z q ih =>
        rw [List.sum_cons]
        have h1 := ih fun w hw => hp w (by rcases List.mem_cons.mp hw with rfl | hw; exact List.mem_cons_self; exact List.mem_cons_of_mem _ (List.mem_cons_of_mem _ hw))
        have := hp z (List.mem_cons_of_mem _ List.mem_cons_self)
        omega
    rw [List.take_zero, List.sum_cons]
    show (0 : Int) + y ≤ _ ∧ _
    exact ⟨by omega, Int.le_refl 0⟩
  | y :: r, i + 1, x, hp, h => by
    have ih := sum_pos_take (ss := r) (i := i) (x := x) (fun w hw => hp w (List.mem_cons_of_mem _ hw)) (by simpa using h)
    have := hp y List.mem_cons_self
    rw [List.take_succ_cons, List.sum_cons, List.sum_cons]
    omega
theorem sum_take_succ {ss : List Int} {i : Nat} {x : Int} (h : ss[i]? = some x) : (ss.take (i + 1)).sum = (ss.take i).sum + x := by
  rw [List.take_add_one, h, List.sum_append]
  show _ + (x + 0) = _
  omega
theorem map_set_int {ns : List Int} {j : Nat} {x : Int} : (ns.map V.int).set j (.int x) = (ns.set j x).map V.int := by rw [List.map_set]
/-- some machine over k letters comes back -/
def ToM (S : Addr → Prop) (Q : VK) (H G : Hp) (k : Nat) : Prop := ∀ (H' G' : Hp) (r : V) (m : Mach), Fz S H G H' G' → Dq G' r (DM m) → MachOk k m → Q r H'
def spRenamed : Sp := fun vs H Q _ => ∃ (v : V) (m : Mach) (k : Nat) (G : Hp), vs = [v] ∧ Ok NoS H G ∧ Dq G v (DM m) ∧ MachOk k m ∧ k ≤ 6 ∧ ToM NoS Q H G k
/-- _law_moved, _law_doubled -/
def spMoved : Sp := fun vs H Q _ => ∃ (pa : Addr) (v : V) (m : Mach) (k : Nat) (G : Hp), vs = [.ref pa, v] ∧ Ok (At pa) H G ∧ Dq G v (DM m) ∧ MachOk k m ∧ 1 ≤ k ∧ k ≤ 6 ∧ ToM (At pa) Q H G k
def spDoubled : Sp := fun vs H Q _ => ∃ (pa : Addr) (v : V) (m : Mach) (k : Nat) (G : Hp), vs = [.ref pa, v] ∧ Ok (At pa) H G ∧ Dq G v (DM m) ∧ MachOk k m ∧ k ≤ 6 ∧ m.tab.length ≤ 30 ∧ ToM (At pa) Q H G k
def spShaped : Sp := fun vs H Q _ => ∃ (pa : Addr) (l : List Nat) (G : Hp), vs = [.ref pa, .str (strOf l)] ∧ IsLetters l ∧ Ok (At pa) H G ∧ ToM (At pa) Q H G l.length
theorem MachOk.at_row {k : Nat} {m : Mach} (mo : MachOk k m) {s : Int} (h0 : 0 ≤ s) (h : s < m.tab.length) : ∃ r, m.tab[s.toNat]? = some r ∧ r.length = k ∧ ∀ t ∈ r, 0 ≤ t ∧ t < m.tab.length := by
  obtain ⟨r, e⟩ := exists_at h0 h
  have hr := List.mem_of_getElem? e
  exact ⟨r, e, mo.row r hr, mo.tgt r hr⟩
theorem MachOk.at_end {k : Nat} {m : Mach} (mo : MachOk k m) {s : Int} (h0 : 0 ≤ s) (h : s < m.tab.length) : ∃ b, m.ends[s.toNat]? = some b := exists_at h0 (by rw [mo.ends]; exact h)
theorem intsAt {ns : List Int} {i : Nat} {x : V} (h : (ns.map V.int)[i]? = some x) : ∃ n, ns[i]? = some n ∧ x = .int n := by
  rw [List.getElem?_map] at h
  cases e : ns[i]? with
  | none => rw [e] at h; cases h
  | some n => rw [e] at h; exact ⟨n, rfl, (Option.some.inj h).symm⟩
theorem filter_all {α : Type} {xs : List α} : xs.filter (fun _ => true) = xs := List.filter_eq_self.mpr fun _ _ => rfl
/-- rows at told places -/
theorem dqs_refs {G : Hp} : ∀ {as : List Addr} {t : List (List Int)}, as.length = t.length → (∀ (j : Nat) a, as[j]? = some a → ∃ r, t[j]? = some r ∧ G a = some (.lst (r.map V.int))) → DqAll G (as.map V.ref) (t.map DI)
  | [], [], _, _ => .nil
  | [], _ :: _, h, _ => by simp at h
  | _ :: _, [], h, _ => by simp at h
  | a :: as, r :: t, h, hh => by
    obtain ⟨r', e, ha⟩ := hh 0 a rfl
    have : r = r' := Option.some.inj e
    subst this
    exact .cons (Idp ha) (dqs_refs (by simpa using h) fun j b hb => hh (j + 1) b hb)
theorem nodup_at {α : Type} : ∀ {l : List α} (_ : l.Nodup) {i j : Nat} {x : α} (_ : l[i]? = some x) (_ : l[j]? = some x), i = j
  | [], _, _, _, _, h, _ => by simp at h
  | a :: l, nd, 0, 0, _, _, _ => rfl
  | a :: l, nd, 0, j + 1, x, h1, h2 => by
    have e : a = x := Option.some.inj h1
    rw [e] at nd
    exact absurd (List.mem_of_getElem? (show l[j]? = some x from h2)) (List.nodup_cons.mp nd).1
  | a :: l, nd, i + 1, 0, x, h1, h2 => by
    have e : a = x := Option.some.inj h2
    rw [e] at nd
    exact absurd (List.mem_of_getElem? (show l[i]? = some x from h1)) (List.nodup_cons.mp nd).1
  | a :: l, nd, i + 1, j + 1, x, h1, h2 => by
    have := nodup_at (l := l) (List.nodup_cons.mp nd).2 (i := i) (j := j) (x := x) h1 h2
    omega

/-! where a sign stands -/
theorem idx_of {c : Nat} : ∀ {l : List Nat} {i : Nat}, l[i]? = some c → (∀ k, k < i → l[k]? ≠ some c) → l.idxOf c = i
  | [], _, h, _ => by simp at h
  | a :: l, 0, h, _ => by
    have e : a = c := Option.some.inj h
    rw [e, List.idxOf_cons_self]
  | a :: l, i + 1, h, hn => by
    have ne : a ≠ c := fun e => hn 0 (Nat.succ_pos _) (by rw [e]; rfl)
    rw [List.idxOf_cons, beq_false_of_ne ne, cond_false, idx_of (l := l) (i := i) h fun k hk => hn (k + 1) (by omega)]
theorem sign_at {l : List Nat} {c : Nat} (h : c ∈ l) : ∃ rest, Builtin.Str.occurrences (strOf l) (strOf [c]) 0 (strOf l).length 1 = l.idxOf c :: rest := by
  have hs : ∀ i, (i + (strOf [c]).length ≤ (strOf l).length ∧ Builtin.Str.subAt (strOf l) (strOf [c]) i = true) ↔ l[i]? = some c := fun i => by
    have := StrLaws.subAt_one (strOf l) c i
    rw [strOf_cps] at this
    exact this
  rcases StrLaws.occ_head (strOf l) (strOf [c]) 1 (Nat.le_refl 1) with ⟨_, hn⟩ | ⟨i, r, e, ha, hn⟩
  · obtain ⟨i, hi⟩ := List.getElem?_of_mem h
    exact absurd ((hs i).mpr hi) (hn i)
  · refine ⟨r, ?_⟩
    rw [e, idx_of ((hs i).mp ha) fun k hk z => hn k hk ((hs k).mpr z)]

/-! the law -/
def spLaw (K : PySem.W.Frag) : Sp := fun vs H Q _ => ∃ (a : Addr) (ns : List Int), vs = [.ref a] ∧ SqL K H a (ns.map V.int) ∧ ns.length ≤ 63 ∧ ∀ H', Q (.bl true) H'
theorem law_pre {K : PySem.W.Frag} {H : Hp} {a : Addr} {ns : List Int} (hl : ns.length ≤ 63) (hS : SqL K H a (ns.map V.int)) : spLaw K [.ref a] H (fun v _ => v = .bl true) fun _ _ _ => False :=
  ⟨a, ns, rfl, hS, hl, fun _ => rfl⟩
theorem cut_to {xs : List V} {k : Nat} : cutV xs none (some (k : Int)) = xs.take k := by
  unfold cutV
  rw [HT.sIx_none, show HT.sIx xs.length xs.length (some (k : Int)) = min k xs.length from HT.sIx_nat xs.length xs.length k, List.drop_zero, Nat.sub_zero]
  by_cases h : k ≤ xs.length
  · rw [Nat.min_eq_left h]
  · rw [Nat.min_eq_right (by omega), List.take_length, List.take_of_length_le (by omega)]
theorem exists_max : ∀ {ns : List Int}, 0 < ns.length → ∃ m, m ∈ ns ∧ ∀ y ∈ ns, y ≤ m
  | [x], _ => ⟨x, List.mem_cons_self, fun y hy => by rw [List.mem_singleton.mp hy]; exact Int.le_refl _⟩
  | x :: y :: r, _ => by
    obtain ⟨m, hm, h⟩ := exists_max (ns := y :: r) (by simp)
    by_cases c : x ≤ m
    · exact ⟨m, List.mem_cons_of_mem _ hm, fun z hz => (List.mem_cons.mp hz).elim (fun e => e ▸ c) (h z)⟩
    · exact ⟨x, List.mem_cons_self, fun z hz => (List.mem_cons.mp hz).elim (fun e => e ▸ Int.le_refl _) fun q => by have := h z q; omega⟩
theorem iteNS' {c A B : Prop} [Decidable c] (hc : c) (h : B) : if (!decide c) = true then A else B := iteNS hc h
end Hw

/-! errors told apart, and lists of plain values compared -/
namespace Hw
open PySem PySem.Spec PyProof.Rows L2
theorem lay_at : ∀ ds : List PyData, (∀ d ∈ ds, PyData.canLay0 d = true ∧ PyData.depth d = 0) → PyData.canLayAll0 ds = true ∧ PyData.depthAll ds = 0
  | [], _ => ⟨by rw [PyData.canLayAll0], by rw [PyData.depthAll]⟩
  | x :: xs, h => by
    obtain ⟨h1, h2⟩ := lay_at xs fun w hw => h w (List.mem_cons_of_mem _ hw)
    obtain ⟨g1, g2⟩ := h x List.mem_cons_self
    exact ⟨by rw [PyData.canLayAll0, h1, g1]; rfl, by rw [PyData.depthAll, h2, g2]; rfl⟩
theorem shaped_at {ds : List PyData} (h : ∀ d ∈ ds, PyData.canLay0 d = true ∧ PyData.depth d = 0) : SeqAt.shaped (.list ds) = true := by
  obtain ⟨h1, h2⟩ := lay_at ds h
  unfold SeqAt.shaped
  rw [Bool.and_eq_true_iff]
  refine ⟨by rw [PyData.canLay0]; exact h1, decide_eq_true ?_⟩
  rw [PyData.depth, h2]; omega
theorem eqv_at {ds : List PyData} (h : ∀ d ∈ ds, PyData.canLay0 d = true ∧ PyData.depth d = 0) : PyData.eqv (.list ds) (.list ds) = true := by
  refine SeqAt.eqv_refl _ ?_
  rw [PyData.canLay0]; exact (lay_at ds h).1
theorem at_bools (bs : List Bool) : ∀ d ∈ bs.map PyData.bool, PyData.canLay0 d = true ∧ PyData.depth d = 0 := fun d hd => by
  obtain ⟨b, _, rfl⟩ := List.mem_map.mp hd
  exact ⟨by rw [PyData.canLay0], by rw [PyData.depth]⟩
theorem at_ints (bs : List Int) : ∀ d ∈ bs.map PyData.int, PyData.canLay0 d = true ∧ PyData.depth d = 0 := fun d hd => by
  obtain ⟨b, _, rfl⟩ := List.mem_map.mp hd
  exact ⟨by rw [PyData.canLay0], by rw [PyData.depth]⟩
theorem at_strs (bs : List Str) (h : ∀ x ∈ bs, PyData.strOk x = true) : ∀ d ∈ bs.map PyData.str, PyData.canLay0 d = true ∧ PyData.depth d = 0 := fun d hd => by
  obtain ⟨b, hb, rfl⟩ := List.mem_map.mp hd
  exact ⟨by rw [PyData.canLay0]; exact h b hb, by rw [PyData.depth]⟩
theorem strOk_of {l : List Nat} (h : ∀ c ∈ l, c < 0x110000) : PyData.strOk (strOf l) = true := by
  unfold PyData.strOk
  show l.toArray.all _ = true
  rw [List.all_toArray]
  exact List.all_eq_true.mpr fun c hc => decide_eq_true (h c hc)
theorem strOk_app {x y : Str} (h : PyData.strOk x = true) (g : PyData.strOk y = true) : PyData.strOk (x ++ y) = true := by
  unfold PyData.strOk at *
  show (x.cps ++ y.cps).all _ = true
  rw [Array.all_append, h, g]; rfl
theorem strOk_60 : ∀ k : Nat, k < 60 → PyData.strOk (toString (k : Int) : Str) = true ∧ (toString (k : Int) : Str).length ≤ 100 := by decide +kernel
theorem same_mk {H H' : Hp} {x d : Addr} (nx : H x = none) (nd : H d = none) (hk : ∀ b, b ≠ x → b ≠ d → H' b = H b) : Same H H' := fun b u e => by
  rw [hk b (ne_of_none e nx) (ne_of_none e nd)]; exact e
/-- the error at x is of the k-th class alone -/
def Told1 (K : PySem.W.Frag) (ks : List Addr) (hE : Addr) (G : Hp) (x : Addr) (k : Nat) : Prop := ∃ (D : Addr) (fs : List (Str × V)), Err G x D fs ∧ ExcC K D ∧ PySem.W.kitOne K (.ref D) (.ref hE) = some true ∧ PySem.W.kitOne K (.ref D) (.type "ValueError") = some true ∧
  ks.map (fun k => PySem.W.kitOne K (.ref D) (.ref k)) = ((List.range 25).map fun n => decide (n = k)).map some
theorem told_nil {K : PySem.W.Frag} {ks : List Addr} {hE : Addr} {G : Hp} {k : Nat} : ∀ i x, ([] : List Addr)[i]? = some x → Told1 K ks hE G x (k + i) := fun i x h => by simp at h
theorem told_cons {K : PySem.W.Frag} {ks : List Addr} {hE : Addr} {G : Hp} {k : Nat} {x : Addr} {xs : List Addr} (h : Told1 K ks hE G x k) (t : ∀ i y, xs[i]? = some y → Told1 K ks hE G y (k + 1 + i)) : ∀ i y, (x :: xs)[i]? = some y → Told1 K ks hE G y (k + i) := fun i y e => by
  match i, e with
  | 0, e => cases e; exact h
  | i + 1, e => rw [show k + (i + 1) = k + 1 + i by omega]; exact t i y e
theorem told_mk {K : PySem.W.Frag} {ks : List Addr} {hE : Addr} {G : Hp} {x : Addr} {k : Nat} {D : Addr} {fs : List (Str × V)} {row : List Bool} (e : Err G x D fs) (xf : ExF K D) (q : PySem.W.kitOne K (.ref D) (.ref hE) = some true)
    (r : ks.map (fun k => PySem.W.kitOne K (.ref D) (.ref k)) = row.map some) (hr : row = (List.range 25).map fun n => decide (n = k)) : Told1 K ks hE G x k := ⟨D, fs, e, xf.is, q, xf.ve, by rw [r, hr]⟩
theorem row_is (k : Nat) : (((rngI 0 25).filter fun _ => true).map fun x => V.bl (decide (x = V.int (0 + (k : Nat))))) = (((List.range 25).map fun n => decide (n = k)).map V.bl) := by
  rw [filter_all]
  show ((List.range 25).map _).map _ = _
  rw [List.map_map, List.map_map]
  refine List.map_congr_left fun n _ => ?_
  show V.bl (decide (V.int (0 + (n : Nat)) = V.int (0 + (k : Nat)))) = V.bl (decide (n = k))
  congr 1
  by_cases h : n = k
  · rw [h, decide_eq_true rfl, decide_eq_true rfl]
  · rw [decide_eq_false h, decide_eq_false fun z => h (by have := V.int.inj z; omega)]
theorem getR {as : List Addr} {i : Nat} {x : Addr} (h : as[i]? = some x) : (as.map V.ref)[i]? = some (.ref x) := by rw [List.getElem?_map, h]; rfl
theorem iteNT {A B : Prop} (h : B) : if (!true) = true then A else B := by rw [if_neg (by decide)]; exact h
theorem iteF {A B : Prop} (h : B) : if false = true then A else B := by rw [if_neg (by decide)]; exact h
theorem iteT {A B : Prop} (h : A) : if true = true then A else B := by rw [if_pos rfl]; exact h
end Hw
namespace Hw
open PySem PySem.Spec PyProof.Rows L2
def topS (i : Nat) : Stmt := PySem.Challenge.pw_hallofwords_k00_errors_stand_apart.main.body.getD i (.Pass ⟨0, 0, 0, 0⟩)
/-- the built-in names stand as they are -/
structure Bt (mg : Str → Option Value) : Prop where
  m_ValueError : mg "ValueError" = none
  m_any : mg "any" = none
  m_int : mg "int" = none
  m_isinstance : mg "isinstance" = none
  m_len : mg "len" = none
  m_min : mg "min" = none
  m_range : mg "range" = none
  m_str : mg "str" = none
  m_super : mg "super" = none
abbrev sXBadWord : Stmt := clsDef (topS 3) 0
abbrev sXBadSize : Stmt := clsDef (topS 4) 0
abbrev sXBadText : Stmt := clsDef (topS 9) 0
abbrev sXUnknownName : Stmt := clsDef (topS 15) 0
abbrev sXInUse : Stmt := clsDef (topS 16) 0
abbrev sXRing : Stmt := clsDef (topS 17) 0
abbrev sXBadEntry : Stmt := clsDef (topS 18) 0
abbrev sXContradiction : Stmt := clsDef (topS 23) 0
/-- the own classes, as the written part says -/
structure Cl0 (P : Program) (K : PySem.W.Frag) (aHallError aBadLetters aBadWord aBadSize aBadNumber aBadRule aBadName aTooDeep aBadText aBadMachine aTooMany aTooGreat aNotLeast aNoWord aUnknownName aInUse aRing aBadEntry aNothingToUndo aNothingToRedo aBadTurner aNotOne aContradiction aBadAnswer aNoQuestion aBadSheet : Addr) : Prop where
  g_HallError : PySem.W.nsIn K mainGlobals "HallError" = some (some (.ref aHallError))
  g_BadLetters : PySem.W.nsIn K mainGlobals "BadLetters" = some (some (.ref aBadLetters))
  g_BadWord : PySem.W.nsIn K mainGlobals "BadWord" = some (some (.ref aBadWord))
  g_BadSize : PySem.W.nsIn K mainGlobals "BadSize" = some (some (.ref aBadSize))
  g_BadNumber : PySem.W.nsIn K mainGlobals "BadNumber" = some (some (.ref aBadNumber))
  g_BadRule : PySem.W.nsIn K mainGlobals "BadRule" = some (some (.ref aBadRule))
  g_BadName : PySem.W.nsIn K mainGlobals "BadName" = some (some (.ref aBadName))
  g_TooDeep : PySem.W.nsIn K mainGlobals "TooDeep" = some (some (.ref aTooDeep))
  g_BadText : PySem.W.nsIn K mainGlobals "BadText" = some (some (.ref aBadText))
  g_BadMachine : PySem.W.nsIn K mainGlobals "BadMachine" = some (some (.ref aBadMachine))
  g_TooMany : PySem.W.nsIn K mainGlobals "TooMany" = some (some (.ref aTooMany))
  g_TooGreat : PySem.W.nsIn K mainGlobals "TooGreat" = some (some (.ref aTooGreat))
  g_NotLeast : PySem.W.nsIn K mainGlobals "NotLeast" = some (some (.ref aNotLeast))
  g_NoWord : PySem.W.nsIn K mainGlobals "NoWord" = some (some (.ref aNoWord))
  g_UnknownName : PySem.W.nsIn K mainGlobals "UnknownName" = some (some (.ref aUnknownName))
  g_InUse : PySem.W.nsIn K mainGlobals "InUse" = some (some (.ref aInUse))
  g_Ring : PySem.W.nsIn K mainGlobals "Ring" = some (some (.ref aRing))
  g_BadEntry : PySem.W.nsIn K mainGlobals "BadEntry" = some (some (.ref aBadEntry))
  g_NothingToUndo : PySem.W.nsIn K mainGlobals "NothingToUndo" = some (some (.ref aNothingToUndo))
  g_NothingToRedo : PySem.W.nsIn K mainGlobals "NothingToRedo" = some (some (.ref aNothingToRedo))
  g_BadTurner : PySem.W.nsIn K mainGlobals "BadTurner" = some (some (.ref aBadTurner))
  g_NotOne : PySem.W.nsIn K mainGlobals "NotOne" = some (some (.ref aNotOne))
  g_Contradiction : PySem.W.nsIn K mainGlobals "Contradiction" = some (some (.ref aContradiction))
  g_BadAnswer : PySem.W.nsIn K mainGlobals "BadAnswer" = some (some (.ref aBadAnswer))
  g_NoQuestion : PySem.W.nsIn K mainGlobals "NoQuestion" = some (some (.ref aNoQuestion))
  g_BadSheet : PySem.W.nsIn K mainGlobals "BadSheet" = some (some (.ref aBadSheet))
  x_HallError : exB K aHallError = true
  e_HallError : PySem.W.excIn K aHallError [.type "ValueError", .type "Exception", .type "BaseException", .type "object"] "ValueError.__new__" = true
  r_HallError : kitRow K aHallError [aBadLetters, aBadRule, aBadNumber, aBadName, aTooDeep, aBadMachine, aTooMany, aTooGreat, aNotLeast, aNoWord, aNothingToUndo, aNothingToRedo, aBadTurner, aNotOne, aBadAnswer, aNoQuestion, aBadSheet, aBadWord, aBadSize, aUnknownName, aInUse, aRing, aBadEntry, aContradiction, aBadText] [false, false, false, false, false, false, false, false, false, false, false, false, false, false, false, false, false, false, false, false, false, false, false, false, false] = true
  q_HallError : PySem.W.kitOne K (.ref aHallError) (.ref aHallError) = some true
  x_BadLetters : exB K aBadLetters = true
  e_BadLetters : PySem.W.excIn K aBadLetters [.type "ValueError", .type "Exception", .type "BaseException", .type "object"] "ValueError.__new__" = true
  r_BadLetters : kitRow K aBadLetters [aBadLetters, aBadRule, aBadNumber, aBadName, aTooDeep, aBadMachine, aTooMany, aTooGreat, aNotLeast, aNoWord, aNothingToUndo, aNothingToRedo, aBadTurner, aNotOne, aBadAnswer, aNoQuestion, aBadSheet, aBadWord, aBadSize, aUnknownName, aInUse, aRing, aBadEntry, aContradiction, aBadText] [true, false, false, false, false, false, false, false, false, false, false, false, false, false, false, false, false, false, false, false, false, false, false, false, false] = true
  q_BadLetters : PySem.W.kitOne K (.ref aBadLetters) (.ref aHallError) = some true
  x_BadWord : exB K aBadWord = true
  r_BadWord : kitRow K aBadWord [aBadLetters, aBadRule, aBadNumber, aBadName, aTooDeep, aBadMachine, aTooMany, aTooGreat, aNotLeast, aNoWord, aNothingToUndo, aNothingToRedo, aBadTurner, aNotOne, aBadAnswer, aNoQuestion, aBadSheet, aBadWord, aBadSize, aUnknownName, aInUse, aRing, aBadEntry, aContradiction, aBadText] [false, false, false, false, false, false, false, false, false, false, false, false, false, false, false, false, false, true, false, false, false, false, false, false, false] = true
  q_BadWord : PySem.W.kitOne K (.ref aBadWord) (.ref aHallError) = some true
  x_BadSize : exB K aBadSize = true
  r_BadSize : kitRow K aBadSize [aBadLetters, aBadRule, aBadNumber, aBadName, aTooDeep, aBadMachine, aTooMany, aTooGreat, aNotLeast, aNoWord, aNothingToUndo, aNothingToRedo, aBadTurner, aNotOne, aBadAnswer, aNoQuestion, aBadSheet, aBadWord, aBadSize, aUnknownName, aInUse, aRing, aBadEntry, aContradiction, aBadText] [false, false, false, false, false, false, false, false, false, false, false, false, false, false, false, false, false, false, true, false, false, false, false, false, false] = true
  q_BadSize : PySem.W.kitOne K (.ref aBadSize) (.ref aHallError) = some true
  x_BadNumber : exB K aBadNumber = true
  e_BadNumber : PySem.W.excIn K aBadNumber [.type "ValueError", .type "Exception", .type "BaseException", .type "object"] "ValueError.__new__" = true
  r_BadNumber : kitRow K aBadNumber [aBadLetters, aBadRule, aBadNumber, aBadName, aTooDeep, aBadMachine, aTooMany, aTooGreat, aNotLeast, aNoWord, aNothingToUndo, aNothingToRedo, aBadTurner, aNotOne, aBadAnswer, aNoQuestion, aBadSheet, aBadWord, aBadSize, aUnknownName, aInUse, aRing, aBadEntry, aContradiction, aBadText] [false, false, true, false, false, false, false, false, false, false, false, false, false, false, false, false, false, false, false, false, false, false, false, false, false] = true
  q_BadNumber : PySem.W.kitOne K (.ref aBadNumber) (.ref aHallError) = some true
  x_BadRule : exB K aBadRule = true
  e_BadRule : PySem.W.excIn K aBadRule [.type "ValueError", .type "Exception", .type "BaseException", .type "object"] "ValueError.__new__" = true
  r_BadRule : kitRow K aBadRule [aBadLetters, aBadRule, aBadNumber, aBadName, aTooDeep, aBadMachine, aTooMany, aTooGreat, aNotLeast, aNoWord, aNothingToUndo, aNothingToRedo, aBadTurner, aNotOne, aBadAnswer, aNoQuestion, aBadSheet, aBadWord, aBadSize, aUnknownName, aInUse, aRing, aBadEntry, aContradiction, aBadText] [false, true, false, false, false, false, false, false, false, false, false, false, false, false, false, false, false, false, false, false, false, false, false, false, false] = true
  q_BadRule : PySem.W.kitOne K (.ref aBadRule) (.ref aHallError) = some true
  x_BadName : exB K aBadName = true
  e_BadName : PySem.W.excIn K aBadName [.type "ValueError", .type "Exception", .type "BaseException", .type "object"] "ValueError.__new__" = true
  r_BadName : kitRow K aBadName [aBadLetters, aBadRule, aBadNumber, aBadName, aTooDeep, aBadMachine, aTooMany, aTooGreat, aNotLeast, aNoWord, aNothingToUndo, aNothingToRedo, aBadTurner, aNotOne, aBadAnswer, aNoQuestion, aBadSheet, aBadWord, aBadSize, aUnknownName, aInUse, aRing, aBadEntry, aContradiction, aBadText] [false, false, false, true, false, false, false, false, false, false, false, false, false, false, false, false, false, false, false, false, false, false, false, false, false] = true
  q_BadName : PySem.W.kitOne K (.ref aBadName) (.ref aHallError) = some true
  x_TooDeep : exB K aTooDeep = true
  e_TooDeep : PySem.W.excIn K aTooDeep [.type "ValueError", .type "Exception", .type "BaseException", .type "object"] "ValueError.__new__" = true
  r_TooDeep : kitRow K aTooDeep [aBadLetters, aBadRule, aBadNumber, aBadName, aTooDeep, aBadMachine, aTooMany, aTooGreat, aNotLeast, aNoWord, aNothingToUndo, aNothingToRedo, aBadTurner, aNotOne, aBadAnswer, aNoQuestion, aBadSheet, aBadWord, aBadSize, aUnknownName, aInUse, aRing, aBadEntry, aContradiction, aBadText] [false, false, false, false, true, false, false, false, false, false, false, false, false, false, false, false, false, false, false, false, false, false, false, false, false] = true
  q_TooDeep : PySem.W.kitOne K (.ref aTooDeep) (.ref aHallError) = some true
  x_BadText : exB K aBadText = true
  r_BadText : kitRow K aBadText [aBadLetters, aBadRule, aBadNumber, aBadName, aTooDeep, aBadMachine, aTooMany, aTooGreat, aNotLeast, aNoWord, aNothingToUndo, aNothingToRedo, aBadTurner, aNotOne, aBadAnswer, aNoQuestion, aBadSheet, aBadWord, aBadSize, aUnknownName, aInUse, aRing, aBadEntry, aContradiction, aBadText] [false, false, false, false, false, false, false, false, false, false, false, false, false, false, false, false, false, false, false, false, false, false, false, false, true] = true
  q_BadText : PySem.W.kitOne K (.ref aBadText) (.ref aHallError) = some true
  x_BadMachine : exB K aBadMachine = true
  e_BadMachine : PySem.W.excIn K aBadMachine [.type "ValueError", .type "Exception", .type "BaseException", .type "object"] "ValueError.__new__" = true
  r_BadMachine : kitRow K aBadMachine [aBadLetters, aBadRule, aBadNumber, aBadName, aTooDeep, aBadMachine, aTooMany, aTooGreat, aNotLeast, aNoWord, aNothingToUndo, aNothingToRedo, aBadTurner, aNotOne, aBadAnswer, aNoQuestion, aBadSheet, aBadWord, aBadSize, aUnknownName, aInUse, aRing, aBadEntry, aContradiction, aBadText] [false, false, false, false, false, true, false, false, false, false, false, false, false, false, false, false, false, false, false, false, false, false, false, false, false] = true
  q_BadMachine : PySem.W.kitOne K (.ref aBadMachine) (.ref aHallError) = some true
  x_TooMany : exB K aTooMany = true
  e_TooMany : PySem.W.excIn K aTooMany [.type "ValueError", .type "Exception", .type "BaseException", .type "object"] "ValueError.__new__" = true
  r_TooMany : kitRow K aTooMany [aBadLetters, aBadRule, aBadNumber, aBadName, aTooDeep, aBadMachine, aTooMany, aTooGreat, aNotLeast, aNoWord, aNothingToUndo, aNothingToRedo, aBadTurner, aNotOne, aBadAnswer, aNoQuestion, aBadSheet, aBadWord, aBadSize, aUnknownName, aInUse, aRing, aBadEntry, aContradiction, aBadText] [false, false, false, false, false, false, true, false, false, false, false, false, false, false, false, false, false, false, false, false, false, false, false, false, false] = true
  q_TooMany : PySem.W.kitOne K (.ref aTooMany) (.ref aHallError) = some true
  x_TooGreat : exB K aTooGreat = true
  e_TooGreat : PySem.W.excIn K aTooGreat [.type "ValueError", .type "Exception", .type "BaseException", .type "object"] "ValueError.__new__" = true
  r_TooGreat : kitRow K aTooGreat [aBadLetters, aBadRule, aBadNumber, aBadName, aTooDeep, aBadMachine, aTooMany, aTooGreat, aNotLeast, aNoWord, aNothingToUndo, aNothingToRedo, aBadTurner, aNotOne, aBadAnswer, aNoQuestion, aBadSheet, aBadWord, aBadSize, aUnknownName, aInUse, aRing, aBadEntry, aContradiction, aBadText] [false, false, false, false, false, false, false, true, false, false, false, false, false, false, false, false, false, false, false, false, false, false, false, false, false] = true
  q_TooGreat : PySem.W.kitOne K (.ref aTooGreat) (.ref aHallError) = some true
  x_NotLeast : exB K aNotLeast = true
  e_NotLeast : PySem.W.excIn K aNotLeast [.type "ValueError", .type "Exception", .type "BaseException", .type "object"] "ValueError.__new__" = true
  r_NotLeast : kitRow K aNotLeast [aBadLetters, aBadRule, aBadNumber, aBadName, aTooDeep, aBadMachine, aTooMany, aTooGreat, aNotLeast, aNoWord, aNothingToUndo, aNothingToRedo, aBadTurner, aNotOne, aBadAnswer, aNoQuestion, aBadSheet, aBadWord, aBadSize, aUnknownName, aInUse, aRing, aBadEntry, aContradiction, aBadText] [false, false, false, false, false, false, false, false, true, false, false, false, false, false, false, false, false, false, false, false, false, false, false, false, false] = true
  q_NotLeast : PySem.W.kitOne K (.ref aNotLeast) (.ref aHallError) = some true
  x_NoWord : exB K aNoWord = true
  e_NoWord : PySem.W.excIn K aNoWord [.type "ValueError", .type "Exception", .type "BaseException", .type "object"] "ValueError.__new__" = true
  r_NoWord : kitRow K aNoWord [aBadLetters, aBadRule, aBadNumber, aBadName, aTooDeep, aBadMachine, aTooMany, aTooGreat, aNotLeast, aNoWord, aNothingToUndo, aNothingToRedo, aBadTurner, aNotOne, aBadAnswer, aNoQuestion, aBadSheet, aBadWord, aBadSize, aUnknownName, aInUse, aRing, aBadEntry, aContradiction, aBadText] [false, false, false, false, false, false, false, false, false, true, false, false, false, false, false, false, false, false, false, false, false, false, false, false, false] = true
  q_NoWord : PySem.W.kitOne K (.ref aNoWord) (.ref aHallError) = some true
  x_UnknownName : exB K aUnknownName = true
  r_UnknownName : kitRow K aUnknownName [aBadLetters, aBadRule, aBadNumber, aBadName, aTooDeep, aBadMachine, aTooMany, aTooGreat, aNotLeast, aNoWord, aNothingToUndo, aNothingToRedo, aBadTurner, aNotOne, aBadAnswer, aNoQuestion, aBadSheet, aBadWord, aBadSize, aUnknownName, aInUse, aRing, aBadEntry, aContradiction, aBadText] [false, false, false, false, false, false, false, false, false, false, false, false, false, false, false, false, false, false, false, true, false, false, false, false, false] = true
  q_UnknownName : PySem.W.kitOne K (.ref aUnknownName) (.ref aHallError) = some true
  x_InUse : exB K aInUse = true
  r_InUse : kitRow K aInUse [aBadLetters, aBadRule, aBadNumber, aBadName, aTooDeep, aBadMachine, aTooMany, aTooGreat, aNotLeast, aNoWord, aNothingToUndo, aNothingToRedo, aBadTurner, aNotOne, aBadAnswer, aNoQuestion, aBadSheet, aBadWord, aBadSize, aUnknownName, aInUse, aRing, aBadEntry, aContradiction, aBadText] [false, false, false, false, false, false, false, false, false, false, false, false, false, false, false, false, false, false, false, false, true, false, false, false, false] = true
  q_InUse : PySem.W.kitOne K (.ref aInUse) (.ref aHallError) = some true
  x_Ring : exB K aRing = true
  r_Ring : kitRow K aRing [aBadLetters, aBadRule, aBadNumber, aBadName, aTooDeep, aBadMachine, aTooMany, aTooGreat, aNotLeast, aNoWord, aNothingToUndo, aNothingToRedo, aBadTurner, aNotOne, aBadAnswer, aNoQuestion, aBadSheet, aBadWord, aBadSize, aUnknownName, aInUse, aRing, aBadEntry, aContradiction, aBadText] [false, false, false, false, false, false, false, false, false, false, false, false, false, false, false, false, false, false, false, false, false, true, false, false, false] = true
  q_Ring : PySem.W.kitOne K (.ref aRing) (.ref aHallError) = some true
  x_BadEntry : exB K aBadEntry = true
  r_BadEntry : kitRow K aBadEntry [aBadLetters, aBadRule, aBadNumber, aBadName, aTooDeep, aBadMachine, aTooMany, aTooGreat, aNotLeast, aNoWord, aNothingToUndo, aNothingToRedo, aBadTurner, aNotOne, aBadAnswer, aNoQuestion, aBadSheet, aBadWord, aBadSize, aUnknownName, aInUse, aRing, aBadEntry, aContradiction, aBadText] [false, false, false, false, false, false, false, false, false, false, false, false, false, false, false, false, false, false, false, false, false, false, true, false, false] = true
  q_BadEntry : PySem.W.kitOne K (.ref aBadEntry) (.ref aHallError) = some true
  x_NothingToUndo : exB K aNothingToUndo = true
  e_NothingToUndo : PySem.W.excIn K aNothingToUndo [.type "ValueError", .type "Exception", .type "BaseException", .type "object"] "ValueError.__new__" = true
  r_NothingToUndo : kitRow K aNothingToUndo [aBadLetters, aBadRule, aBadNumber, aBadName, aTooDeep, aBadMachine, aTooMany, aTooGreat, aNotLeast, aNoWord, aNothingToUndo, aNothingToRedo, aBadTurner, aNotOne, aBadAnswer, aNoQuestion, aBadSheet, aBadWord, aBadSize, aUnknownName, aInUse, aRing, aBadEntry, aContradiction, aBadText] [false, false, false, false, false, false, false, false, false, false, true, false, false, false, false, false, false, false, false, false, false, false, false, false, false] = true
  q_NothingToUndo : PySem.W.kitOne K (.ref aNothingToUndo) (.ref aHallError) = some true
  x_NothingToRedo : exB K aNothingToRedo = true
  e_NothingToRedo : PySem.W.excIn K aNothingToRedo [.type "ValueError", .type "Exception", .type "BaseException", .type "object"] "ValueError.__new__" = true
  r_NothingToRedo : kitRow K aNothingToRedo [aBadLetters, aBadRule, aBadNumber, aBadName, aTooDeep, aBadMachine, aTooMany, aTooGreat, aNotLeast, aNoWord, aNothingToUndo, aNothingToRedo, aBadTurner, aNotOne, aBadAnswer, aNoQuestion, aBadSheet, aBadWord, aBadSize, aUnknownName, aInUse, aRing, aBadEntry, aContradiction, aBadText] [false, false, false, false, false, false, false, false, false, false, false, true, false, false, false, false, false, false, false, false, false, false, false, false, false] = true
  q_NothingToRedo : PySem.W.kitOne K (.ref aNothingToRedo) (.ref aHallError) = some true
  x_BadTurner : exB K aBadTurner = true
  e_BadTurner : PySem.W.excIn K aBadTurner [.type "ValueError", .type "Exception", .type "BaseException", .type "object"] "ValueError.__new__" = true
  r_BadTurner : kitRow K aBadTurner [aBadLetters, aBadRule, aBadNumber, aBadName, aTooDeep, aBadMachine, aTooMany, aTooGreat, aNotLeast, aNoWord, aNothingToUndo, aNothingToRedo, aBadTurner, aNotOne, aBadAnswer, aNoQuestion, aBadSheet, aBadWord, aBadSize, aUnknownName, aInUse, aRing, aBadEntry, aContradiction, aBadText] [false, false, false, false, false, false, false, false, false, false, false, false, true, false, false, false, false, false, false, false, false, false, false, false, false] = true
  q_BadTurner : PySem.W.kitOne K (.ref aBadTurner) (.ref aHallError) = some true
  x_NotOne : exB K aNotOne = true
  e_NotOne : PySem.W.excIn K aNotOne [.type "ValueError", .type "Exception", .type "BaseException", .type "object"] "ValueError.__new__" = true
  r_NotOne : kitRow K aNotOne [aBadLetters, aBadRule, aBadNumber, aBadName, aTooDeep, aBadMachine, aTooMany, aTooGreat, aNotLeast, aNoWord, aNothingToUndo, aNothingToRedo, aBadTurner, aNotOne, aBadAnswer, aNoQuestion, aBadSheet, aBadWord, aBadSize, aUnknownName, aInUse, aRing, aBadEntry, aContradiction, aBadText] [false, false, false, false, false, false, false, false, false, false, false, false, false, true, false, false, false, false, false, false, false, false, false, false, false] = true
  q_NotOne : PySem.W.kitOne K (.ref aNotOne) (.ref aHallError) = some true
  x_Contradiction : exB K aContradiction = true
  r_Contradiction : kitRow K aContradiction [aBadLetters, aBadRule, aBadNumber, aBadName, aTooDeep, aBadMachine, aTooMany, aTooGreat, aNotLeast, aNoWord, aNothingToUndo, aNothingToRedo, aBadTurner, aNotOne, aBadAnswer, aNoQuestion, aBadSheet, aBadWord, aBadSize, aUnknownName, aInUse, aRing, aBadEntry, aContradiction, aBadText] [false, false, false, false, false, false, false, false, false, false, false, false, false, false, false, false, false, false, false, false, false, false, false, true, false] = true
  q_Contradiction : PySem.W.kitOne K (.ref aContradiction) (.ref aHallError) = some true
  x_BadAnswer : exB K aBadAnswer = true
  e_BadAnswer : PySem.W.excIn K aBadAnswer [.type "ValueError", .type "Exception", .type "BaseException", .type "object"] "ValueError.__new__" = true
  r_BadAnswer : kitRow K aBadAnswer [aBadLetters, aBadRule, aBadNumber, aBadName, aTooDeep, aBadMachine, aTooMany, aTooGreat, aNotLeast, aNoWord, aNothingToUndo, aNothingToRedo, aBadTurner, aNotOne, aBadAnswer, aNoQuestion, aBadSheet, aBadWord, aBadSize, aUnknownName, aInUse, aRing, aBadEntry, aContradiction, aBadText] [false, false, false, false, false, false, false, false, false, false, false, false, false, false, true, false, false, false, false, false, false, false, false, false, false] = true
  q_BadAnswer : PySem.W.kitOne K (.ref aBadAnswer) (.ref aHallError) = some true
  x_NoQuestion : exB K aNoQuestion = true
  e_NoQuestion : PySem.W.excIn K aNoQuestion [.type "ValueError", .type "Exception", .type "BaseException", .type "object"] "ValueError.__new__" = true
  r_NoQuestion : kitRow K aNoQuestion [aBadLetters, aBadRule, aBadNumber, aBadName, aTooDeep, aBadMachine, aTooMany, aTooGreat, aNotLeast, aNoWord, aNothingToUndo, aNothingToRedo, aBadTurner, aNotOne, aBadAnswer, aNoQuestion, aBadSheet, aBadWord, aBadSize, aUnknownName, aInUse, aRing, aBadEntry, aContradiction, aBadText] [false, false, false, false, false, false, false, false, false, false, false, false, false, false, false, true, false, false, false, false, false, false, false, false, false] = true
  q_NoQuestion : PySem.W.kitOne K (.ref aNoQuestion) (.ref aHallError) = some true
  x_BadSheet : exB K aBadSheet = true
  e_BadSheet : PySem.W.excIn K aBadSheet [.type "ValueError", .type "Exception", .type "BaseException", .type "object"] "ValueError.__new__" = true
  r_BadSheet : kitRow K aBadSheet [aBadLetters, aBadRule, aBadNumber, aBadName, aTooDeep, aBadMachine, aTooMany, aTooGreat, aNotLeast, aNoWord, aNothingToUndo, aNothingToRedo, aBadTurner, aNotOne, aBadAnswer, aNoQuestion, aBadSheet, aBadWord, aBadSize, aUnknownName, aInUse, aRing, aBadEntry, aContradiction, aBadText] [false, false, false, false, false, false, false, false, false, false, false, false, false, false, false, false, true, false, false, false, false, false, false, false, false] = true
  q_BadSheet : PySem.W.kitOne K (.ref aBadSheet) (.ref aHallError) = some true
  M_BadWord : MkAt P K aBadWord (clsDef (topS 3) 0) "BadWord.__init__" ["place"]
  M_BadSize : MkAt P K aBadSize (clsDef (topS 4) 0) "BadSize.__init__" ["size"]
  M_BadText : MkAt P K aBadText (clsDef (topS 9) 0) "BadText.__init__" ["line", "column"]
  M_UnknownName : MkAt P K aUnknownName (clsDef (topS 15) 0) "UnknownName.__init__" ["name"]
  M_InUse : MkAt P K aInUse (clsDef (topS 16) 0) "InUse.__init__" ["name"]
  M_Ring : MkAt P K aRing (clsDef (topS 17) 0) "Ring.__init__" ["name"]
  M_BadEntry : MkAt P K aBadEntry (clsDef (topS 18) 0) "BadEntry.__init__" ["place"]
  M_Contradiction : MkAt P K aContradiction (clsDef (topS 23) 0) "Contradiction.__init__" ["word"]
structure Cl (P : Program) (w : World) (K : PySem.W.Frag) (mg : Str → Option Value) (base : Heap) (aHallError aBadLetters aBadWord aBadSize aBadNumber aBadRule aBadName aTooDeep aBadText aBadMachine aTooMany aTooGreat aNotLeast aNoWord aUnknownName aInUse aRing aBadEntry aNothingToUndo aNothingToRedo aBadTurner aNotOne aContradiction aBadAnswer aNoQuestion aBadSheet : Addr) : Prop where
  g_HallError : mg "HallError" = some (.ref aHallError)
  x_HallError : ExF K aHallError
  e_HallError : PySem.W.excIn K aHallError [.type "ValueError", .type "Exception", .type "BaseException", .type "object"] "ValueError.__new__" = true
  r_HallError : [aBadLetters, aBadRule, aBadNumber, aBadName, aTooDeep, aBadMachine, aTooMany, aTooGreat, aNotLeast, aNoWord, aNothingToUndo, aNothingToRedo, aBadTurner, aNotOne, aBadAnswer, aNoQuestion, aBadSheet, aBadWord, aBadSize, aUnknownName, aInUse, aRing, aBadEntry, aContradiction, aBadText].map (fun k => PySem.W.kitOne K (.ref aHallError) (.ref k)) = ([false, false, false, false, false, false, false, false, false, false, false, false, false, false, false, false, false, false, false, false, false, false, false, false, false] : List Bool).map some
  q_HallError : PySem.W.kitOne K (.ref aHallError) (.ref aHallError) = some true
  g_BadLetters : mg "BadLetters" = some (.ref aBadLetters)
  x_BadLetters : ExF K aBadLetters
  e_BadLetters : PySem.W.excIn K aBadLetters [.type "ValueError", .type "Exception", .type "BaseException", .type "object"] "ValueError.__new__" = true
  r_BadLetters : [aBadLetters, aBadRule, aBadNumber, aBadName, aTooDeep, aBadMachine, aTooMany, aTooGreat, aNotLeast, aNoWord, aNothingToUndo, aNothingToRedo, aBadTurner, aNotOne, aBadAnswer, aNoQuestion, aBadSheet, aBadWord, aBadSize, aUnknownName, aInUse, aRing, aBadEntry, aContradiction, aBadText].map (fun k => PySem.W.kitOne K (.ref aBadLetters) (.ref k)) = ([true, false, false, false, false, false, false, false, false, false, false, false, false, false, false, false, false, false, false, false, false, false, false, false, false] : List Bool).map some
  q_BadLetters : PySem.W.kitOne K (.ref aBadLetters) (.ref aHallError) = some true
  g_BadWord : mg "BadWord" = some (.ref aBadWord)
  x_BadWord : ExF K aBadWord
  M_BadWord : MkC P w K mg base "BadWord" aBadWord ["place"]
  n_BadWord : NoF K aBadWord ["place"]
  r_BadWord : [aBadLetters, aBadRule, aBadNumber, aBadName, aTooDeep, aBadMachine, aTooMany, aTooGreat, aNotLeast, aNoWord, aNothingToUndo, aNothingToRedo, aBadTurner, aNotOne, aBadAnswer, aNoQuestion, aBadSheet, aBadWord, aBadSize, aUnknownName, aInUse, aRing, aBadEntry, aContradiction, aBadText].map (fun k => PySem.W.kitOne K (.ref aBadWord) (.ref k)) = ([false, false, false, false, false, false, false, false, false, false, false, false, false, false, false, false, false, true, false, false, false, false, false, false, false] : List Bool).map some
  q_BadWord : PySem.W.kitOne K (.ref aBadWord) (.ref aHallError) = some true
  g_BadSize : mg "BadSize" = some (.ref aBadSize)
  x_BadSize : ExF K aBadSize
  M_BadSize : MkC P w K mg base "BadSize" aBadSize ["size"]
  n_BadSize : NoF K aBadSize ["size"]
  r_BadSize : [aBadLetters, aBadRule, aBadNumber, aBadName, aTooDeep, aBadMachine, aTooMany, aTooGreat, aNotLeast, aNoWord, aNothingToUndo, aNothingToRedo, aBadTurner, aNotOne, aBadAnswer, aNoQuestion, aBadSheet, aBadWord, aBadSize, aUnknownName, aInUse, aRing, aBadEntry, aContradiction, aBadText].map (fun k => PySem.W.kitOne K (.ref aBadSize) (.ref k)) = ([false, false, false, false, false, false, false, false, false, false, false, false, false, false, false, false, false, false, true, false, false, false, false, false, false] : List Bool).map some
  q_BadSize : PySem.W.kitOne K (.ref aBadSize) (.ref aHallError) = some true
  g_BadNumber : mg "BadNumber" = some (.ref aBadNumber)
  x_BadNumber : ExF K aBadNumber
  e_BadNumber : PySem.W.excIn K aBadNumber [.type "ValueError", .type "Exception", .type "BaseException", .type "object"] "ValueError.__new__" = true
  r_BadNumber : [aBadLetters, aBadRule, aBadNumber, aBadName, aTooDeep, aBadMachine, aTooMany, aTooGreat, aNotLeast, aNoWord, aNothingToUndo, aNothingToRedo, aBadTurner, aNotOne, aBadAnswer, aNoQuestion, aBadSheet, aBadWord, aBadSize, aUnknownName, aInUse, aRing, aBadEntry, aContradiction, aBadText].map (fun k => PySem.W.kitOne K (.ref aBadNumber) (.ref k)) = ([false, false, true, false, false, false, false, false, false, false, false, false, false, false, false, false, false, false, false, false, false, false, false, false, false] : List Bool).map some
  q_BadNumber : PySem.W.kitOne K (.ref aBadNumber) (.ref aHallError) = some true
  g_BadRule : mg "BadRule" = some (.ref aBadRule)
  x_BadRule : ExF K aBadRule
  e_BadRule : PySem.W.excIn K aBadRule [.type "ValueError", .type "Exception", .type "BaseException", .type "object"] "ValueError.__new__" = true
  r_BadRule : [aBadLetters, aBadRule, aBadNumber, aBadName, aTooDeep, aBadMachine, aTooMany, aTooGreat, aNotLeast, aNoWord, aNothingToUndo, aNothingToRedo, aBadTurner, aNotOne, aBadAnswer, aNoQuestion, aBadSheet, aBadWord, aBadSize, aUnknownName, aInUse, aRing, aBadEntry, aContradiction, aBadText].map (fun k => PySem.W.kitOne K (.ref aBadRule) (.ref k)) = ([false, true, false, false, false, false, false, false, false, false, false, false, false, false, false, false, false, false, false, false, false, false, false, false, false] : List Bool).map some
  q_BadRule : PySem.W.kitOne K (.ref aBadRule) (.ref aHallError) = some true
  g_BadName : mg "BadName" = some (.ref aBadName)
  x_BadName : ExF K aBadName
  e_BadName : PySem.W.excIn K aBadName [.type "ValueError", .type "Exception", .type "BaseException", .type "object"] "ValueError.__new__" = true
  r_BadName : [aBadLetters, aBadRule, aBadNumber, aBadName, aTooDeep, aBadMachine, aTooMany, aTooGreat, aNotLeast, aNoWord, aNothingToUndo, aNothingToRedo, aBadTurner, aNotOne, aBadAnswer, aNoQuestion, aBadSheet, aBadWord, aBadSize, aUnknownName, aInUse, aRing, aBadEntry, aContradiction, aBadText].map (fun k => PySem.W.kitOne K (.ref aBadName) (.ref k)) = ([false, false, false, true, false, false, false, false, false, false, false, false, false, false, false, false, false, false, false, false, false, false, false, false, false] : List Bool).map some
  q_BadName : PySem.W.kitOne K (.ref aBadName) (.ref aHallError) = some true
  g_TooDeep : mg "TooDeep" = some (.ref aTooDeep)
  x_TooDeep : ExF K aTooDeep
  e_TooDeep : PySem.W.excIn K aTooDeep [.type "ValueError", .type "Exception", .type "BaseException", .type "object"] "ValueError.__new__" = true
  r_TooDeep : [aBadLetters, aBadRule, aBadNumber, aBadName, aTooDeep, aBadMachine, aTooMany, aTooGreat, aNotLeast, aNoWord, aNothingToUndo, aNothingToRedo, aBadTurner, aNotOne, aBadAnswer, aNoQuestion, aBadSheet, aBadWord, aBadSize, aUnknownName, aInUse, aRing, aBadEntry, aContradiction, aBadText].map (fun k => PySem.W.kitOne K (.ref aTooDeep) (.ref k)) = ([false, false, false, false, true, false, false, false, false, false, false, false, false, false, false, false, false, false, false, false, false, false, false, false, false] : List Bool).map some
  q_TooDeep : PySem.W.kitOne K (.ref aTooDeep) (.ref aHallError) = some true
  g_BadText : mg "BadText" = some (.ref aBadText)
  x_BadText : ExF K aBadText
  M_BadText : MkC P w K mg base "BadText" aBadText ["line", "column"]
  n_BadText : NoF K aBadText ["line", "column"]
  r_BadText : [aBadLetters, aBadRule, aBadNumber, aBadName, aTooDeep, aBadMachine, aTooMany, aTooGreat, aNotLeast, aNoWord, aNothingToUndo, aNothingToRedo, aBadTurner, aNotOne, aBadAnswer, aNoQuestion, aBadSheet, aBadWord, aBadSize, aUnknownName, aInUse, aRing, aBadEntry, aContradiction, aBadText].map (fun k => PySem.W.kitOne K (.ref aBadText) (.ref k)) = ([false, false, false, false, false, false, false, false, false, false, false, false, false, false, false, false, false, false, false, false, false, false, false, false, true] : List Bool).map some
  q_BadText : PySem.W.kitOne K (.ref aBadText) (.ref aHallError) = some true
  g_BadMachine : mg "BadMachine" = some (.ref aBadMachine)
  x_BadMachine : ExF K aBadMachine
  e_BadMachine : PySem.W.excIn K aBadMachine [.type "ValueError", .type "Exception", .type "BaseException", .type "object"] "ValueError.__new__" = true
  r_BadMachine : [aBadLetters, aBadRule, aBadNumber, aBadName, aTooDeep, aBadMachine, aTooMany, aTooGreat, aNotLeast, aNoWord, aNothingToUndo, aNothingToRedo, aBadTurner, aNotOne, aBadAnswer, aNoQuestion, aBadSheet, aBadWord, aBadSize, aUnknownName, aInUse, aRing, aBadEntry, aContradiction, aBadText].map (fun k => PySem.W.kitOne K (.ref aBadMachine) (.ref k)) = ([false, false, false, false, false, true, false, false, false, false, false, false, false, false, false, false, false, false, false, false, false, false, false, false, false] : List Bool).map some
  q_BadMachine : PySem.W.kitOne K (.ref aBadMachine) (.ref aHallError) = some true
  g_TooMany : mg "TooMany" = some (.ref aTooMany)
  x_TooMany : ExF K aTooMany
  e_TooMany : PySem.W.excIn K aTooMany [.type "ValueError", .type "Exception", .type "BaseException", .type "object"] "ValueError.__new__" = true
  r_TooMany : [aBadLetters, aBadRule, aBadNumber, aBadName, aTooDeep, aBadMachine, aTooMany, aTooGreat, aNotLeast, aNoWord, aNothingToUndo, aNothingToRedo, aBadTurner, aNotOne, aBadAnswer, aNoQuestion, aBadSheet, aBadWord, aBadSize, aUnknownName, aInUse, aRing, aBadEntry, aContradiction, aBadText].map (fun k => PySem.W.kitOne K (.ref aTooMany) (.ref k)) = ([false, false, false, false, false, false, true, false, false, false, false, false, false, false, false, false, false, false, false, false, false, false, false, false, false] : List Bool).map some
  q_TooMany : PySem.W.kitOne K (.ref aTooMany) (.ref aHallError) = some true
  g_TooGreat : mg "TooGreat" = some (.ref aTooGreat)
  x_TooGreat : ExF K aTooGreat
  e_TooGreat : PySem.W.excIn K aTooGreat [.type "ValueError", .type "Exception", .type "BaseException", .type "object"] "ValueError.__new__" = true
  r_TooGreat : [aBadLetters, aBadRule, aBadNumber, aBadName, aTooDeep, aBadMachine, aTooMany, aTooGreat, aNotLeast, aNoWord, aNothingToUndo, aNothingToRedo, aBadTurner, aNotOne, aBadAnswer, aNoQuestion, aBadSheet, aBadWord, aBadSize, aUnknownName, aInUse, aRing, aBadEntry, aContradiction, aBadText].map (fun k => PySem.W.kitOne K (.ref aTooGreat) (.ref k)) = ([false, false, false, false, false, false, false, true, false, false, false, false, false, false, false, false, false, false, false, false, false, false, false, false, false] : List Bool).map some
  q_TooGreat : PySem.W.kitOne K (.ref aTooGreat) (.ref aHallError) = some true
  g_NotLeast : mg "NotLeast" = some (.ref aNotLeast)
  x_NotLeast : ExF K aNotLeast
  e_NotLeast : PySem.W.excIn K aNotLeast [.type "ValueError", .type "Exception", .type "BaseException", .type "object"] "ValueError.__new__" = true
  r_NotLeast : [aBadLetters, aBadRule, aBadNumber, aBadName, aTooDeep, aBadMachine, aTooMany, aTooGreat, aNotLeast, aNoWord, aNothingToUndo, aNothingToRedo, aBadTurner, aNotOne, aBadAnswer, aNoQuestion, aBadSheet, aBadWord, aBadSize, aUnknownName, aInUse, aRing, aBadEntry, aContradiction, aBadText].map (fun k => PySem.W.kitOne K (.ref aNotLeast) (.ref k)) = ([false, false, false, false, false, false, false, false, true, false, false, false, false, false, false, false, false, false, false, false, false, false, false, false, false] : List Bool).map some
  q_NotLeast : PySem.W.kitOne K (.ref aNotLeast) (.ref aHallError) = some true
  g_NoWord : mg "NoWord" = some (.ref aNoWord)
  x_NoWord : ExF K aNoWord
  e_NoWord : PySem.W.excIn K aNoWord [.type "ValueError", .type "Exception", .type "BaseException", .type "object"] "ValueError.__new__" = true
  r_NoWord : [aBadLetters, aBadRule, aBadNumber, aBadName, aTooDeep, aBadMachine, aTooMany, aTooGreat, aNotLeast, aNoWord, aNothingToUndo, aNothingToRedo, aBadTurner, aNotOne, aBadAnswer, aNoQuestion, aBadSheet, aBadWord, aBadSize, aUnknownName, aInUse, aRing, aBadEntry, aContradiction, aBadText].map (fun k => PySem.W.kitOne K (.ref aNoWord) (.ref k)) = ([false, false, false, false, false, false, false, false, false, true, false, false, false, false, false, false, false, false, false, false, false, false, false, false, false] : List Bool).map some
  q_NoWord : PySem.W.kitOne K (.ref aNoWord) (.ref aHallError) = some true
  g_UnknownName : mg "UnknownName" = some (.ref aUnknownName)
  x_UnknownName : ExF K aUnknownName
  M_UnknownName : MkC P w K mg base "UnknownName" aUnknownName ["name"]
  n_UnknownName : NoF K aUnknownName ["name"]
  r_UnknownName : [aBadLetters, aBadRule, aBadNumber, aBadName, aTooDeep, aBadMachine, aTooMany, aTooGreat, aNotLeast, aNoWord, aNothingToUndo, aNothingToRedo, aBadTurner, aNotOne, aBadAnswer, aNoQuestion, aBadSheet, aBadWord, aBadSize, aUnknownName, aInUse, aRing, aBadEntry, aContradiction, aBadText].map (fun k => PySem.W.kitOne K (.ref aUnknownName) (.ref k)) = ([false, false, false, false, false, false, false, false, false, false, false, false, false, false, false, false, false, false, false, true, false, false, false, false, false] : List Bool).map some
  q_UnknownName : PySem.W.kitOne K (.ref aUnknownName) (.ref aHallError) = some true
  g_InUse : mg "InUse" = some (.ref aInUse)
  x_InUse : ExF K aInUse
  M_InUse : MkC P w K mg base "InUse" aInUse ["name"]
  n_InUse : NoF K aInUse ["name"]
  r_InUse : [aBadLetters, aBadRule, aBadNumber, aBadName, aTooDeep, aBadMachine, aTooMany, aTooGreat, aNotLeast, aNoWord, aNothingToUndo, aNothingToRedo, aBadTurner, aNotOne, aBadAnswer, aNoQuestion, aBadSheet, aBadWord, aBadSize, aUnknownName, aInUse, aRing, aBadEntry, aContradiction, aBadText].map (fun k => PySem.W.kitOne K (.ref aInUse) (.ref k)) = ([false, false, false, false, false, false, false, false, false, false, false, false, false, false, false, false, false, false, false, false, true, false, false, false, false] : List Bool).map some
  q_InUse : PySem.W.kitOne K (.ref aInUse) (.ref aHallError) = some true
  g_Ring : mg "Ring" = some (.ref aRing)
  x_Ring : ExF K aRing
  M_Ring : MkC P w K mg base "Ring" aRing ["name"]
  n_Ring : NoF K aRing ["name"]
  r_Ring : [aBadLetters, aBadRule, aBadNumber, aBadName, aTooDeep, aBadMachine, aTooMany, aTooGreat, aNotLeast, aNoWord, aNothingToUndo, aNothingToRedo, aBadTurner, aNotOne, aBadAnswer, aNoQuestion, aBadSheet, aBadWord, aBadSize, aUnknownName, aInUse, aRing, aBadEntry, aContradiction, aBadText].map (fun k => PySem.W.kitOne K (.ref aRing) (.ref k)) = ([false, false, false, false, false, false, false, false, false, false, false, false, false, false, false, false, false, false, false, false, false, true, false, false, false] : List Bool).map some
  q_Ring : PySem.W.kitOne K (.ref aRing) (.ref aHallError) = some true
  g_BadEntry : mg "BadEntry" = some (.ref aBadEntry)
  x_BadEntry : ExF K aBadEntry
  M_BadEntry : MkC P w K mg base "BadEntry" aBadEntry ["place"]
  n_BadEntry : NoF K aBadEntry ["place"]
  r_BadEntry : [aBadLetters, aBadRule, aBadNumber, aBadName, aTooDeep, aBadMachine, aTooMany, aTooGreat, aNotLeast, aNoWord, aNothingToUndo, aNothingToRedo, aBadTurner, aNotOne, aBadAnswer, aNoQuestion, aBadSheet, aBadWord, aBadSize, aUnknownName, aInUse, aRing, aBadEntry, aContradiction, aBadText].map (fun k => PySem.W.kitOne K (.ref aBadEntry) (.ref k)) = ([false, false, false, false, false, false, false, false, false, false, false, false, false, false, false, false, false, false, false, false, false, false, true, false, false] : List Bool).map some
  q_BadEntry : PySem.W.kitOne K (.ref aBadEntry) (.ref aHallError) = some true
  g_NothingToUndo : mg "NothingToUndo" = some (.ref aNothingToUndo)
  x_NothingToUndo : ExF K aNothingToUndo
  e_NothingToUndo : PySem.W.excIn K aNothingToUndo [.type "ValueError", .type "Exception", .type "BaseException", .type "object"] "ValueError.__new__" = true
  r_NothingToUndo : [aBadLetters, aBadRule, aBadNumber, aBadName, aTooDeep, aBadMachine, aTooMany, aTooGreat, aNotLeast, aNoWord, aNothingToUndo, aNothingToRedo, aBadTurner, aNotOne, aBadAnswer, aNoQuestion, aBadSheet, aBadWord, aBadSize, aUnknownName, aInUse, aRing, aBadEntry, aContradiction, aBadText].map (fun k => PySem.W.kitOne K (.ref aNothingToUndo) (.ref k)) = ([false, false, false, false, false, false, false, false, false, false, true, false, false, false, false, false, false, false, false, false, false, false, false, false, false] : List Bool).map some
  q_NothingToUndo : PySem.W.kitOne K (.ref aNothingToUndo) (.ref aHallError) = some true
  g_NothingToRedo : mg "NothingToRedo" = some (.ref aNothingToRedo)
  x_NothingToRedo : ExF K aNothingToRedo
  e_NothingToRedo : PySem.W.excIn K aNothingToRedo [.type "ValueError", .type "Exception", .type "BaseException", .type "object"] "ValueError.__new__" = true
  r_NothingToRedo : [aBadLetters, aBadRule, aBadNumber, aBadName, aTooDeep, aBadMachine, aTooMany, aTooGreat, aNotLeast, aNoWord, aNothingToUndo, aNothingToRedo, aBadTurner, aNotOne, aBadAnswer, aNoQuestion, aBadSheet, aBadWord, aBadSize, aUnknownName, aInUse, aRing, aBadEntry, aContradiction, aBadText].map (fun k => PySem.W.kitOne K (.ref aNothingToRedo) (.ref k)) = ([false, false, false, false, false, false, false, false, false, false, false, true, false, false, false, false, false, false, false, false, false, false, false, false, false] : List Bool).map some
  q_NothingToRedo : PySem.W.kitOne K (.ref aNothingToRedo) (.ref aHallError) = some true
  g_BadTurner : mg "BadTurner" = some (.ref aBadTurner)
  x_BadTurner : ExF K aBadTurner
  e_BadTurner : PySem.W.excIn K aBadTurner [.type "ValueError", .type "Exception", .type "BaseException", .type "object"] "ValueError.__new__" = true
  r_BadTurner : [aBadLetters, aBadRule, aBadNumber, aBadName, aTooDeep, aBadMachine, aTooMany, aTooGreat, aNotLeast, aNoWord, aNothingToUndo, aNothingToRedo, aBadTurner, aNotOne, aBadAnswer, aNoQuestion, aBadSheet, aBadWord, aBadSize, aUnknownName, aInUse, aRing, aBadEntry, aContradiction, aBadText].map (fun k => PySem.W.kitOne K (.ref aBadTurner) (.ref k)) = ([false, false, false, false, false, false, false, false, false, false, false, false, true, false, false, false, false, false, false, false, false, false, false, false, false] : List Bool).map some
  q_BadTurner : PySem.W.kitOne K (.ref aBadTurner) (.ref aHallError) = some true
  g_NotOne : mg "NotOne" = some (.ref aNotOne)
  x_NotOne : ExF K aNotOne
  e_NotOne : PySem.W.excIn K aNotOne [.type "ValueError", .type "Exception", .type "BaseException", .type "object"] "ValueError.__new__" = true
  r_NotOne : [aBadLetters, aBadRule, aBadNumber, aBadName, aTooDeep, aBadMachine, aTooMany, aTooGreat, aNotLeast, aNoWord, aNothingToUndo, aNothingToRedo, aBadTurner, aNotOne, aBadAnswer, aNoQuestion, aBadSheet, aBadWord, aBadSize, aUnknownName, aInUse, aRing, aBadEntry, aContradiction, aBadText].map (fun k => PySem.W.kitOne K (.ref aNotOne) (.ref k)) = ([false, false, false, false, false, false, false, false, false, false, false, false, false, true, false, false, false, false, false, false, false, false, false, false, false] : List Bool).map some
  q_NotOne : PySem.W.kitOne K (.ref aNotOne) (.ref aHallError) = some true
  g_Contradiction : mg "Contradiction" = some (.ref aContradiction)
  x_Contradiction : ExF K aContradiction
  M_Contradiction : MkC P w K mg base "Contradiction" aContradiction ["word"]
  n_Contradiction : NoF K aContradiction ["word"]
  r_Contradiction : [aBadLetters, aBadRule, aBadNumber, aBadName, aTooDeep, aBadMachine, aTooMany, aTooGreat, aNotLeast, aNoWord, aNothingToUndo, aNothingToRedo, aBadTurner, aNotOne, aBadAnswer, aNoQuestion, aBadSheet, aBadWord, aBadSize, aUnknownName, aInUse, aRing, aBadEntry, aContradiction, aBadText].map (fun k => PySem.W.kitOne K (.ref aContradiction) (.ref k)) = ([false, false, false, false, false, false, false, false, false, false, false, false, false, false, false, false, false, false, false, false, false, false, false, true, false] : List Bool).map some
  q_Contradiction : PySem.W.kitOne K (.ref aContradiction) (.ref aHallError) = some true
  g_BadAnswer : mg "BadAnswer" = some (.ref aBadAnswer)
  x_BadAnswer : ExF K aBadAnswer
  e_BadAnswer : PySem.W.excIn K aBadAnswer [.type "ValueError", .type "Exception", .type "BaseException", .type "object"] "ValueError.__new__" = true
  r_BadAnswer : [aBadLetters, aBadRule, aBadNumber, aBadName, aTooDeep, aBadMachine, aTooMany, aTooGreat, aNotLeast, aNoWord, aNothingToUndo, aNothingToRedo, aBadTurner, aNotOne, aBadAnswer, aNoQuestion, aBadSheet, aBadWord, aBadSize, aUnknownName, aInUse, aRing, aBadEntry, aContradiction, aBadText].map (fun k => PySem.W.kitOne K (.ref aBadAnswer) (.ref k)) = ([false, false, false, false, false, false, false, false, false, false, false, false, false, false, true, false, false, false, false, false, false, false, false, false, false] : List Bool).map some
  q_BadAnswer : PySem.W.kitOne K (.ref aBadAnswer) (.ref aHallError) = some true
  g_NoQuestion : mg "NoQuestion" = some (.ref aNoQuestion)
  x_NoQuestion : ExF K aNoQuestion
  e_NoQuestion : PySem.W.excIn K aNoQuestion [.type "ValueError", .type "Exception", .type "BaseException", .type "object"] "ValueError.__new__" = true
  r_NoQuestion : [aBadLetters, aBadRule, aBadNumber, aBadName, aTooDeep, aBadMachine, aTooMany, aTooGreat, aNotLeast, aNoWord, aNothingToUndo, aNothingToRedo, aBadTurner, aNotOne, aBadAnswer, aNoQuestion, aBadSheet, aBadWord, aBadSize, aUnknownName, aInUse, aRing, aBadEntry, aContradiction, aBadText].map (fun k => PySem.W.kitOne K (.ref aNoQuestion) (.ref k)) = ([false, false, false, false, false, false, false, false, false, false, false, false, false, false, false, true, false, false, false, false, false, false, false, false, false] : List Bool).map some
  q_NoQuestion : PySem.W.kitOne K (.ref aNoQuestion) (.ref aHallError) = some true
  g_BadSheet : mg "BadSheet" = some (.ref aBadSheet)
  x_BadSheet : ExF K aBadSheet
  e_BadSheet : PySem.W.excIn K aBadSheet [.type "ValueError", .type "Exception", .type "BaseException", .type "object"] "ValueError.__new__" = true
  r_BadSheet : [aBadLetters, aBadRule, aBadNumber, aBadName, aTooDeep, aBadMachine, aTooMany, aTooGreat, aNotLeast, aNoWord, aNothingToUndo, aNothingToRedo, aBadTurner, aNotOne, aBadAnswer, aNoQuestion, aBadSheet, aBadWord, aBadSize, aUnknownName, aInUse, aRing, aBadEntry, aContradiction, aBadText].map (fun k => PySem.W.kitOne K (.ref aBadSheet) (.ref k)) = ([false, false, false, false, false, false, false, false, false, false, false, false, false, false, false, false, true, false, false, false, false, false, false, false, false] : List Bool).map some
  q_BadSheet : PySem.W.kitOne K (.ref aBadSheet) (.ref aHallError) = some true
set_option maxHeartbeats 4000000 in
theorem mk_BadWord {P : Program} {w : World} {K : PySem.W.Frag} {mg : Str → Option Value} {base : Heap} {C : Addr} (A : MkAt P K C sXBadWord "BadWord.__init__" ["place"]) (g : mg "BadWord" = some (.ref C)) (hs : mg "super" = none) : MkC P w K mg base "BadWord" C ["place"] := by
  obtain ⟨f, cc, cd, oc, od, doc, pm, ctv, sl, S, lk, ⟨n0, _⟩⟩ := A
  have S := S mg hs
  have NS : NdefX.NScope ["self", "place", "__class__"] ["self", "place"] ["__class__"] (defScope sXBadWord) := NdefX.nscope_by (by decide +kernel)
  refine ⟨S.ob, g, f, _, S.it, S.ty, fn_su (N := ["self", "place", "__class__"]) (fd := (nfOf sXBadWord "BadWord.__init__" cc cd).fd doc pm ctv) S NS lk rfl rfl rfl rfl rfl ?_ (fun _ => rfl) (fun _ _ => rfl) (fun _ => ⟨_, rfl⟩) (fun _ => rfl) (fun _ => rfl) ?_, Binds.all fun us hl => match us, hl with | [_, _], _ => rfl⟩
  · rintro vs H Q E ⟨a, us, rfl, hl, _⟩
    rw [List.length_cons, hl]; rfl
  · rintro A out z H vs Q E ⟨a, us, rfl, hl, e0, q⟩
    match us, hl with
    | [v0], _ =>
      refine ⟨a, _, _, _, rfl, e0, (pa_cons (pv 1) pa_nil), ⟨v0, rfl, by show 1 ≤ 1000; decide, rfl⟩, pss_one (ps_ost (pv 0) (pv 1)), ?_⟩
      refine ⟨v0, rfl, .ref a, rfl, a, C, rfl, S.ob, n0, .inl ⟨e0, fun d nd nda => ?_⟩⟩
      exact q d _ nd upd_same (by rw [upd_ne nda, upd_same]; rfl) (fun b ha hd => by rw [upd_ne ha, upd_ne hd])
set_option maxHeartbeats 4000000 in
theorem mk_BadSize {P : Program} {w : World} {K : PySem.W.Frag} {mg : Str → Option Value} {base : Heap} {C : Addr} (A : MkAt P K C sXBadSize "BadSize.__init__" ["size"]) (g : mg "BadSize" = some (.ref C)) (hs : mg "super" = none) : MkC P w K mg base "BadSize" C ["size"] := by
  obtain ⟨f, cc, cd, oc, od, doc, pm, ctv, sl, S, lk, ⟨n0, _⟩⟩ := A
  have S := S mg hs
  have NS : NdefX.NScope ["self", "size", "__class__"] ["self", "size"] ["__class__"] (defScope sXBadSize) := NdefX.nscope_by (by decide +kernel)
  refine ⟨S.ob, g, f, _, S.it, S.ty, fn_su (N := ["self", "size", "__class__"]) (fd := (nfOf sXBadSize "BadSize.__init__" cc cd).fd doc pm ctv) S NS lk rfl rfl rfl rfl rfl ?_ (fun _ => rfl) (fun _ _ => rfl) (fun _ => ⟨_, rfl⟩) (fun _ => rfl) (fun _ => rfl) ?_, Binds.all fun us hl => match us, hl with | [_, _], _ => rfl⟩
  · rintro vs H Q E ⟨a, us, rfl, hl, _⟩
    rw [List.length_cons, hl]; rfl
  · rintro A out z H vs Q E ⟨a, us, rfl, hl, e0, q⟩
    match us, hl with
    | [v0], _ =>
      refine ⟨a, _, _, _, rfl, e0, (pa_cons (pv 1) pa_nil), ⟨v0, rfl, by show 1 ≤ 1000; decide, rfl⟩, pss_one (ps_ost (pv 0) (pv 1)), ?_⟩
      refine ⟨v0, rfl, .ref a, rfl, a, C, rfl, S.ob, n0, .inl ⟨e0, fun d nd nda => ?_⟩⟩
      exact q d _ nd upd_same (by rw [upd_ne nda, upd_same]; rfl) (fun b ha hd => by rw [upd_ne ha, upd_ne hd])
set_option maxHeartbeats 4000000 in
theorem mk_BadText {P : Program} {w : World} {K : PySem.W.Frag} {mg : Str → Option Value} {base : Heap} {C : Addr} (A : MkAt P K C sXBadText "BadText.__init__" ["line", "column"]) (g : mg "BadText" = some (.ref C)) (hs : mg "super" = none) : MkC P w K mg base "BadText" C ["line", "column"] := by
  obtain ⟨f, cc, cd, oc, od, doc, pm, ctv, sl, S, lk, ⟨n0, n1, _⟩⟩ := A
  have S := S mg hs
  have NS : NdefX.NScope ["self", "line", "column", "__class__"] ["self", "line", "column"] ["__class__"] (defScope sXBadText) := NdefX.nscope_by (by decide +kernel)
  refine ⟨S.ob, g, f, _, S.it, S.ty, fn_su (N := ["self", "line", "column", "__class__"]) (fd := (nfOf sXBadText "BadText.__init__" cc cd).fd doc pm ctv) S NS lk rfl rfl rfl rfl rfl ?_ (fun _ => rfl) (fun _ _ => rfl) (fun _ => ⟨_, rfl⟩) (fun _ => rfl) (fun _ => rfl) ?_, Binds.all fun us hl => match us, hl with | [_, _, _], _ => rfl⟩
  · rintro vs H Q E ⟨a, us, rfl, hl, _⟩
    rw [List.length_cons, hl]; rfl
  · rintro A out z H vs Q E ⟨a, us, rfl, hl, e0, q⟩
    match us, hl with
    | [v0, v1], _ =>
      refine ⟨a, _, _, _, rfl, e0, (pa_cons (pv 1) (pa_cons (pv 2) pa_nil)), ⟨v0, rfl, v1, rfl, by show 2 ≤ 1000; decide, rfl⟩, pss_cons (ps_ost (pv 0) (pv 1)) (pss_one (ps_ost (pv 0) (pv 2))), ?_⟩
      refine ⟨v0, rfl, .ref a, rfl, a, C, rfl, S.ob, n0, .inl ⟨e0, fun d nd nda => ?_⟩⟩
      refine ⟨v1, rfl, .ref a, rfl, a, C, rfl, S.ob, n1, .inr ⟨d, [("line", v0)], upd_same, by rw [upd_ne nda, upd_same], by show 1 ≤ 900; decide, ?_⟩⟩
      exact q d _ nd (by rw [upd_ne (Ne.symm nda), upd_same]) upd_same (fun b ha hd => by rw [upd_ne hd, upd_ne ha, upd_ne hd])
set_option maxHeartbeats 4000000 in
theorem mk_UnknownName {P : Program} {w : World} {K : PySem.W.Frag} {mg : Str → Option Value} {base : Heap} {C : Addr} (A : MkAt P K C sXUnknownName "UnknownName.__init__" ["name"]) (g : mg "UnknownName" = some (.ref C)) (hs : mg "super" = none) : MkC P w K mg base "UnknownName" C ["name"] := by
  obtain ⟨f, cc, cd, oc, od, doc, pm, ctv, sl, S, lk, ⟨n0, _⟩⟩ := A
  have S := S mg hs
  have NS : NdefX.NScope ["self", "name", "__class__"] ["self", "name"] ["__class__"] (defScope sXUnknownName) := NdefX.nscope_by (by decide +kernel)
  refine ⟨S.ob, g, f, _, S.it, S.ty, fn_su (N := ["self", "name", "__class__"]) (fd := (nfOf sXUnknownName "UnknownName.__init__" cc cd).fd doc pm ctv) S NS lk rfl rfl rfl rfl rfl ?_ (fun _ => rfl) (fun _ _ => rfl) (fun _ => ⟨_, rfl⟩) (fun _ => rfl) (fun _ => rfl) ?_, Binds.all fun us hl => match us, hl with | [_, _], _ => rfl⟩
  · rintro vs H Q E ⟨a, us, rfl, hl, _⟩
    rw [List.length_cons, hl]; rfl
  · rintro A out z H vs Q E ⟨a, us, rfl, hl, e0, q⟩
    match us, hl with
    | [v0], _ =>
      refine ⟨a, _, _, _, rfl, e0, (pa_cons (pv 1) pa_nil), ⟨v0, rfl, by show 1 ≤ 1000; decide, rfl⟩, pss_one (ps_ost (pv 0) (pv 1)), ?_⟩
      refine ⟨v0, rfl, .ref a, rfl, a, C, rfl, S.ob, n0, .inl ⟨e0, fun d nd nda => ?_⟩⟩
      exact q d _ nd upd_same (by rw [upd_ne nda, upd_same]; rfl) (fun b ha hd => by rw [upd_ne ha, upd_ne hd])
set_option maxHeartbeats 4000000 in
theorem mk_InUse {P : Program} {w : World} {K : PySem.W.Frag} {mg : Str → Option Value} {base : Heap} {C : Addr} (A : MkAt P K C sXInUse "InUse.__init__" ["name"]) (g : mg "InUse" = some (.ref C)) (hs : mg "super" = none) : MkC P w K mg base "InUse" C ["name"] := by
  obtain ⟨f, cc, cd, oc, od, doc, pm, ctv, sl, S, lk, ⟨n0, _⟩⟩ := A
  have S := S mg hs
  have NS : NdefX.NScope ["self", "name", "__class__"] ["self", "name"] ["__class__"] (defScope sXInUse) := NdefX.nscope_by (by decide +kernel)
  refine ⟨S.ob, g, f, _, S.it, S.ty, fn_su (N := ["self", "name", "__class__"]) (fd := (nfOf sXInUse "InUse.__init__" cc cd).fd doc pm ctv) S NS lk rfl rfl rfl rfl rfl ?_ (fun _ => rfl) (fun _ _ => rfl) (fun _ => ⟨_, rfl⟩) (fun _ => rfl) (fun _ => rfl) ?_, Binds.all fun us hl => match us, hl with | [_, _], _ => rfl⟩
  · rintro vs H Q E ⟨a, us, rfl, hl, _⟩
    rw [List.length_cons, hl]; rfl
  · rintro A out z H vs Q E ⟨a, us, rfl, hl, e0, q⟩
    match us, hl with
    | [v0], _ =>
      refine ⟨a, _, _, _, rfl, e0, (pa_cons (pv 1) pa_nil), ⟨v0, rfl, by show 1 ≤ 1000; decide, rfl⟩, pss_one (ps_ost (pv 0) (pv 1)), ?_⟩
      refine ⟨v0, rfl, .ref a, rfl, a, C, rfl, S.ob, n0, .inl ⟨e0, fun d nd nda => ?_⟩⟩
      exact q d _ nd upd_same (by rw [upd_ne nda, upd_same]; rfl) (fun b ha hd => by rw [upd_ne ha, upd_ne hd])
set_option maxHeartbeats 4000000 in
theorem mk_Ring {P : Program} {w : World} {K : PySem.W.Frag} {mg : Str → Option Value} {base : Heap} {C : Addr} (A : MkAt P K C sXRing "Ring.__init__" ["name"]) (g : mg "Ring" = some (.ref C)) (hs : mg "super" = none) : MkC P w K mg base "Ring" C ["name"] := by
  obtain ⟨f, cc, cd, oc, od, doc, pm, ctv, sl, S, lk, ⟨n0, _⟩⟩ := A
  have S := S mg hs
  have NS : NdefX.NScope ["self", "name", "__class__"] ["self", "name"] ["__class__"] (defScope sXRing) := NdefX.nscope_by (by decide +kernel)
  refine ⟨S.ob, g, f, _, S.it, S.ty, fn_su (N := ["self", "name", "__class__"]) (fd := (nfOf sXRing "Ring.__init__" cc cd).fd doc pm ctv) S NS lk rfl rfl rfl rfl rfl ?_ (fun _ => rfl) (fun _ _ => rfl) (fun _ => ⟨_, rfl⟩) (fun _ => rfl) (fun _ => rfl) ?_, Binds.all fun us hl => match us, hl with | [_, _], _ => rfl⟩
  · rintro vs H Q E ⟨a, us, rfl, hl, _⟩
    rw [List.length_cons, hl]; rfl
  · rintro A out z H vs Q E ⟨a, us, rfl, hl, e0, q⟩
    match us, hl with
    | [v0], _ =>
      refine ⟨a, _, _, _, rfl, e0, (pa_cons (pv 1) pa_nil), ⟨v0, rfl, by show 1 ≤ 1000; decide, rfl⟩, pss_one (ps_ost (pv 0) (pv 1)), ?_⟩
      refine ⟨v0, rfl, .ref a, rfl, a, C, rfl, S.ob, n0, .inl ⟨e0, fun d nd nda => ?_⟩⟩
      exact q d _ nd upd_same (by rw [upd_ne nda, upd_same]; rfl) (fun b ha hd => by rw [upd_ne ha, upd_ne hd])
set_option maxHeartbeats 4000000 in
theorem mk_BadEntry {P : Program} {w : World} {K : PySem.W.Frag} {mg : Str → Option Value} {base : Heap} {C : Addr} (A : MkAt P K C sXBadEntry "BadEntry.__init__" ["place"]) (g : mg "BadEntry" = some (.ref C)) (hs : mg "super" = none) : MkC P w K mg base "BadEntry" C ["place"] := by
  obtain ⟨f, cc, cd, oc, od, doc, pm, ctv, sl, S, lk, ⟨n0, _⟩⟩ := A
  have S := S mg hs
  have NS : NdefX.NScope ["self", "place", "__class__"] ["self", "place"] ["__class__"] (defScope sXBadEntry) := NdefX.nscope_by (by decide +kernel)
  refine ⟨S.ob, g, f, _, S.it, S.ty, fn_su (N := ["self", "place", "__class__"]) (fd := (nfOf sXBadEntry "BadEntry.__init__" cc cd).fd doc pm ctv) S NS lk rfl rfl rfl rfl rfl ?_ (fun _ => rfl) (fun _ _ => rfl) (fun _ => ⟨_, rfl⟩) (fun _ => rfl) (fun _ => rfl) ?_, Binds.all fun us hl => match us, hl with | [_, _], _ => rfl⟩
  · rintro vs H Q E ⟨a, us, rfl, hl, _⟩
    rw [List.length_cons, hl]; rfl
  · rintro A out z H vs Q E ⟨a, us, rfl, hl, e0, q⟩
    match us, hl with
    | [v0], _ =>
      refine ⟨a, _, _, _, rfl, e0, (pa_cons (pv 1) pa_nil), ⟨v0, rfl, by show 1 ≤ 1000; decide, rfl⟩, pss_one (ps_ost (pv 0) (pv 1)), ?_⟩
      refine ⟨v0, rfl, .ref a, rfl, a, C, rfl, S.ob, n0, .inl ⟨e0, fun d nd nda => ?_⟩⟩
      exact q d _ nd upd_same (by rw [upd_ne nda, upd_same]; rfl) (fun b ha hd => by rw [upd_ne ha, upd_ne hd])
set_option maxHeartbeats 4000000 in
theorem mk_Contradiction {P : Program} {w : World} {K : PySem.W.Frag} {mg : Str → Option Value} {base : Heap} {C : Addr} (A : MkAt P K C sXContradiction "Contradiction.__init__" ["word"]) (g : mg "Contradiction" = some (.ref C)) (hs : mg "super" = none) : MkC P w K mg base "Contradiction" C ["word"] := by
  obtain ⟨f, cc, cd, oc, od, doc, pm, ctv, sl, S, lk, ⟨n0, _⟩⟩ := A
  have S := S mg hs
  have NS : NdefX.NScope ["self", "word", "__class__"] ["self", "word"] ["__class__"] (defScope sXContradiction) := NdefX.nscope_by (by decide +kernel)
  refine ⟨S.ob, g, f, _, S.it, S.ty, fn_su (N := ["self", "word", "__class__"]) (fd := (nfOf sXContradiction "Contradiction.__init__" cc cd).fd doc pm ctv) S NS lk rfl rfl rfl rfl rfl ?_ (fun _ => rfl) (fun _ _ => rfl) (fun _ => ⟨_, rfl⟩) (fun _ => rfl) (fun _ => rfl) ?_, Binds.all fun us hl => match us, hl with | [_, _], _ => rfl⟩
  · rintro vs H Q E ⟨a, us, rfl, hl, _⟩
    rw [List.length_cons, hl]; rfl
  · rintro A out z H vs Q E ⟨a, us, rfl, hl, e0, q⟩
    match us, hl with
    | [v0], _ =>
      refine ⟨a, _, _, _, rfl, e0, (pa_cons (pv 1) pa_nil), ⟨v0, rfl, by show 1 ≤ 1000; decide, rfl⟩, pss_one (ps_ost (pv 0) (pv 1)), ?_⟩
      refine ⟨v0, rfl, .ref a, rfl, a, C, rfl, S.ob, n0, .inl ⟨e0, fun d nd nda => ?_⟩⟩
      exact q d _ nd upd_same (by rw [upd_ne nda, upd_same]; rfl) (fun b ha hd => by rw [upd_ne ha, upd_ne hd])
theorem cl_mk {P : Program} {w : World} {K : PySem.W.Frag} {mg : Str → Option Value} {base : Heap} {h : Heap} {aHallError aBadLetters aBadWord aBadSize aBadNumber aBadRule aBadName aTooDeep aBadText aBadMachine aTooMany aTooGreat aNotLeast aNoWord aUnknownName aInUse aRing aBadEntry aNothingToUndo aNothingToRedo aBadTurner aNotOne aContradiction aBadAnswer aNoQuestion aBadSheet : Addr} (X : K.In h) (G : h.Ns mainGlobals mg) (hs : mg "super" = none) (c : Cl0 P K aHallError aBadLetters aBadWord aBadSize aBadNumber aBadRule aBadName aTooDeep aBadText aBadMachine aTooMany aTooGreat aNotLeast aNoWord aUnknownName aInUse aRing aBadEntry aNothingToUndo aNothingToRedo aBadTurner aNotOne aContradiction aBadAnswer aNoQuestion aBadSheet) : Cl P w K mg base aHallError aBadLetters aBadWord aBadSize aBadNumber aBadRule aBadName aTooDeep aBadText aBadMachine aTooMany aTooGreat aNotLeast aNoWord aUnknownName aInUse aRing aBadEntry aNothingToUndo aNothingToRedo aBadTurner aNotOne aContradiction aBadAnswer aNoQuestion aBadSheet where
  g_HallError := PySem.W.mg_of X G c.g_HallError
  x_HallError := exB_ok c.x_HallError
  e_HallError := c.e_HallError
  r_HallError := kitRow_ok c.r_HallError
  q_HallError := c.q_HallError
  g_BadLetters := PySem.W.mg_of X G c.g_BadLetters
  x_BadLetters := exB_ok c.x_BadLetters
  e_BadLetters := c.e_BadLetters
  r_BadLetters := kitRow_ok c.r_BadLetters
  q_BadLetters := c.q_BadLetters
  g_BadWord := PySem.W.mg_of X G c.g_BadWord
  x_BadWord := exB_ok c.x_BadWord
  M_BadWord := mk_BadWord c.M_BadWord (PySem.W.mg_of X G c.g_BadWord) hs
  n_BadWord := let ⟨_, _, _, _, _, _, _, _, _, _, _, nf⟩ := c.M_BadWord; nf
  r_BadWord := kitRow_ok c.r_BadWord
  q_BadWord := c.q_BadWord
  g_BadSize := PySem.W.mg_of X G c.g_BadSize
  x_BadSize := exB_ok c.x_BadSize
  M_BadSize := mk_BadSize c.M_BadSize (PySem.W.mg_of X G c.g_BadSize) hs
  n_BadSize := let ⟨_, _, _, _, _, _, _, _, _, _, _, nf⟩ := c.M_BadSize; nf
  r_BadSize := kitRow_ok c.r_BadSize
  q_BadSize := c.q_BadSize
  g_BadNumber := PySem.W.mg_of X G c.g_BadNumber
  x_BadNumber := exB_ok c.x_BadNumber
  e_BadNumber := c.e_BadNumber
  r_BadNumber := kitRow_ok c.r_BadNumber
  q_BadNumber := c.q_BadNumber
  g_BadRule := PySem.W.mg_of X G c.g_BadRule
  x_BadRule := exB_ok c.x_BadRule
  e_BadRule := c.e_BadRule
  r_BadRule := kitRow_ok c.r_BadRule
  q_BadRule := c.q_BadRule
  g_BadName := PySem.W.mg_of X G c.g_BadName
  x_BadName := exB_ok c.x_BadName
  e_BadName := c.e_BadName
  r_BadName := kitRow_ok c.r_BadName
  q_BadName := c.q_BadName
  g_TooDeep := PySem.W.mg_of X G c.g_TooDeep
  x_TooDeep := exB_ok c.x_TooDeep
  e_TooDeep := c.e_TooDeep
  r_TooDeep := kitRow_ok c.r_TooDeep
  q_TooDeep := c.q_TooDeep
  g_BadText := PySem.W.mg_of X G c.g_BadText
  x_BadText := exB_ok c.x_BadText
  M_BadText := mk_BadText c.M_BadText (PySem.W.mg_of X G c.g_BadText) hs
  n_BadText := let ⟨_, _, _, _, _, _, _, _, _, _, _, nf⟩ := c.M_BadText; nf
  r_BadText := kitRow_ok c.r_BadText
  q_BadText := c.q_BadText
  g_BadMachine := PySem.W.mg_of X G c.g_BadMachine
  x_BadMachine := exB_ok c.x_BadMachine
  e_BadMachine := c.e_BadMachine
  r_BadMachine := kitRow_ok c.r_BadMachine
  q_BadMachine := c.q_BadMachine
  g_TooMany := PySem.W.mg_of X G c.g_TooMany
  x_TooMany := exB_ok c.x_TooMany
  e_TooMany := c.e_TooMany
  r_TooMany := kitRow_ok c.r_TooMany
  q_TooMany := c.q_TooMany
  g_TooGreat := PySem.W.mg_of X G c.g_TooGreat
  x_TooGreat := exB_ok c.x_TooGreat
  e_TooGreat := c.e_TooGreat
  r_TooGreat := kitRow_ok c.r_TooGreat
  q_TooGreat := c.q_TooGreat
  g_NotLeast := PySem.W.mg_of X G c.g_NotLeast
  x_NotLeast := exB_ok c.x_NotLeast
  e_NotLeast := c.e_NotLeast
  r_NotLeast := kitRow_ok c.r_NotLeast
  q_NotLeast := c.q_NotLeast
  g_NoWord := PySem.W.mg_of X G c.g_NoWord
  x_NoWord := exB_ok c.x_NoWord
  e_NoWord := c.e_NoWord
  r_NoWord := kitRow_ok c.r_NoWord
  q_NoWord := c.q_NoWord
  g_UnknownName := PySem.W.mg_of X G c.g_UnknownName
  x_UnknownName := exB_ok c.x_UnknownName
  M_UnknownName := mk_UnknownName c.M_UnknownName (PySem.W.mg_of X G c.g_UnknownName) hs
  n_UnknownName := let ⟨_, _, _, _, _, _, _, _, _, _, _, nf⟩ := c.M_UnknownName; nf
  r_UnknownName := kitRow_ok c.r_UnknownName
  q_UnknownName := c.q_UnknownName
  g_InUse := PySem.W.mg_of X G c.g_InUse
  x_InUse := exB_ok c.x_InUse
  M_InUse := mk_InUse c.M_InUse (PySem.W.mg_of X G c.g_InUse) hs
  n_InUse := let ⟨_, _, _, _, _, _, _, _, _, _, _, nf⟩ := c.M_InUse; nf
  r_InUse := kitRow_ok c.r_InUse
  q_InUse := c.q_InUse
  g_Ring := PySem.W.mg_of X G c.g_Ring
  x_Ring := exB_ok c.x_Ring
  M_Ring := mk_Ring c.M_Ring (PySem.W.mg_of X G c.g_Ring) hs
  n_Ring := let ⟨_, _, _, _, _, _, _, _, _, _, _, nf⟩ := c.M_Ring; nf
  r_Ring := kitRow_ok c.r_Ring
  q_Ring := c.q_Ring
  g_BadEntry := PySem.W.mg_of X G c.g_BadEntry
  x_BadEntry := exB_ok c.x_BadEntry
  M_BadEntry := mk_BadEntry c.M_BadEntry (PySem.W.mg_of X G c.g_BadEntry) hs
  n_BadEntry := let ⟨_, _, _, _, _, _, _, _, _, _, _, nf⟩ := c.M_BadEntry; nf
  r_BadEntry := kitRow_ok c.r_BadEntry
  q_BadEntry := c.q_BadEntry
  g_NothingToUndo := PySem.W.mg_of X G c.g_NothingToUndo
  x_NothingToUndo := exB_ok c.x_NothingToUndo
  e_NothingToUndo := c.e_NothingToUndo
  r_NothingToUndo := kitRow_ok c.r_NothingToUndo
  q_NothingToUndo := c.q_NothingToUndo
  g_NothingToRedo := PySem.W.mg_of X G c.g_NothingToRedo
  x_NothingToRedo := exB_ok c.x_NothingToRedo
  e_NothingToRedo := c.e_NothingToRedo
  r_NothingToRedo := kitRow_ok c.r_NothingToRedo
  q_NothingToRedo := c.q_NothingToRedo
  g_BadTurner := PySem.W.mg_of X G c.g_BadTurner
  x_BadTurner := exB_ok c.x_BadTurner
  e_BadTurner := c.e_BadTurner
  r_BadTurner := kitRow_ok c.r_BadTurner
  q_BadTurner := c.q_BadTurner
  g_NotOne := PySem.W.mg_of X G c.g_NotOne
  x_NotOne := exB_ok c.x_NotOne
  e_NotOne := c.e_NotOne
  r_NotOne := kitRow_ok c.r_NotOne
  q_NotOne := c.q_NotOne
  g_Contradiction := PySem.W.mg_of X G c.g_Contradiction
  x_Contradiction := exB_ok c.x_Contradiction
  M_Contradiction := mk_Contradiction c.M_Contradiction (PySem.W.mg_of X G c.g_Contradiction) hs
  n_Contradiction := let ⟨_, _, _, _, _, _, _, _, _, _, _, nf⟩ := c.M_Contradiction; nf
  r_Contradiction := kitRow_ok c.r_Contradiction
  q_Contradiction := c.q_Contradiction
  g_BadAnswer := PySem.W.mg_of X G c.g_BadAnswer
  x_BadAnswer := exB_ok c.x_BadAnswer
  e_BadAnswer := c.e_BadAnswer
  r_BadAnswer := kitRow_ok c.r_BadAnswer
  q_BadAnswer := c.q_BadAnswer
  g_NoQuestion := PySem.W.mg_of X G c.g_NoQuestion
  x_NoQuestion := exB_ok c.x_NoQuestion
  e_NoQuestion := c.e_NoQuestion
  r_NoQuestion := kitRow_ok c.r_NoQuestion
  q_NoQuestion := c.q_NoQuestion
  g_BadSheet := PySem.W.mg_of X G c.g_BadSheet
  x_BadSheet := exB_ok c.x_BadSheet
  e_BadSheet := c.e_BadSheet
  r_BadSheet := kitRow_ok c.r_BadSheet
  q_BadSheet := c.q_BadSheet
abbrev s_law_pool : Stmt := topS 28
abbrev s_law_stream : Stmt := topS 29
abbrev s_law_pick : Stmt := topS 30
abbrev s_law_letters : Stmt := topS 31
abbrev s_law_kinds : Stmt := topS 32
abbrev s_law : Stmt := topS 33
section
variable {P : Program} {w : World} {K : PySem.W.Frag} {mg : Str → Option Value} {base : Heap}
variable {aHallError aBadLetters aBadWord aBadSize aBadNumber aBadRule aBadName aTooDeep aBadText aBadMachine aTooMany aTooGreat aNotLeast aNoWord aUnknownName aInUse aRing aBadEntry aNothingToUndo aNothingToRedo aBadTurner aNotOne aContradiction aBadAnswer aNoQuestion aBadSheet : Addr}
theorem sc_law_pool : FnScope ["script", "pool", "state", "k", "cell", "step", "one", "two"] ["script"] (defScope s_law_pool) := ⟨rfl, rfl, rfl, by decide +kernel, rfl, by decide +kernel, by decide +kernel⟩
theorem ok_law_pool {f : Addr} {fd : FuncData} (F : Fun K "_law_pool" "_law_pool" s_law_pool f fd) (T : Bt mg) (C : Cl P w K mg base aHallError aBadLetters aBadWord aBadSize aBadNumber aBadRule aBadName aTooDeep aBadText aBadMachine aTooMany aTooGreat aNotLeast aNoWord aUnknownName aInUse aRing aBadEntry aNothingToUndo aNothingToRedo aBadTurner aNotOne aContradiction aBadAnswer aNoQuestion aBadSheet)  : FnG P w K mg base CX0 1 f fd ["script"] (spPool K) := by
  refine FnG.calm F sc_law_pool (fun vs H Q E h => by first | (obtain ⟨_, rfl, _⟩ := h; rfl) | (obtain ⟨_, _, rfl, _⟩ := h; rfl) | (obtain ⟨_, _, _, rfl, _⟩ := h; rfl) | (obtain ⟨_, _, _, _, rfl, _⟩ := h; rfl) | (obtain ⟨_, _, _, _, _, rfl, _⟩ := h; rfl) | (obtain ⟨_, _, _, _, _, _, rfl, _⟩ := h; rfl) | (obtain ⟨_, _, _, _, _, _, _, rfl, _⟩ := h; rfl) | (obtain ⟨_, _, _, _, _, _, _, _, rfl, _⟩ := h; rfl)) (fun cd A out z H vs Q E hg hr h => ?_)
  have nd := sc_law_pool.nd
  obtain ⟨a, ns, rfl, hS, hl, q⟩ := h
  refine ⟨_, (pss_cons (ps_set (i := 1) nd rfl (by first | exact Or.inl rfl | exact Or.inr rfl) (pe_lst pa_nil))
    (pss_cons (ps_set (i := 2) nd rfl (by first | exact Or.inl rfl | exact Or.inr rfl) pe_int)
    (pss_cons (ps_for PassesOwn.never rfl (pi_range1 (by rfl) T.m_range (pa_cons (pe_callB (call_min2 rfl) (by rfl) T.m_min (by decide +kernel) (pa_cons (pe_callB (lenQ K) (by rfl) T.m_len PySem.boot_len (pa_cons (pv 0) pa_nil)) (pa_cons pe_int pa_nil))) pa_nil)) (pg_name (i := 3) nd rfl (by first | exact Or.inl rfl | exact Or.inr rfl))
    (pss_cons (ps_set (i := 4) nd rfl (by first | exact Or.inl rfl | exact Or.inr rfl) (pe_ix (ixL K) (pv 0) (pv 3) (fun _ _ => rfl)))
      (pss_cons (ps_set (i := 2) nd rfl (by first | exact Or.inl rfl | exact Or.inr rfl) (pe_op op_mod (pe_callTy call_int1 (by rfl) T.m_int (by decide +kernel) (pa_cons (pe_op op_add (pe_op op_add (pe_op op_mul (pv 2) pe_int) (pe_op op_mul (pv 4) pe_int)) (pv 3)) pa_nil)) pe_int))
      (pss_one (ps_if (pt_cmpR op_ge (pv 4) (pe_op op_pow pe_int pe_int) (nomark _)) (pss_one (ps_for PassesOwn.never rfl (pi_range1 (by rfl) T.m_range (pa_cons pe_int pa_nil)) (pg_name (i := 5) nd rfl (by first | exact Or.inl rfl | exact Or.inr rfl))
        (pss_cons (ps_if (pt_cmpR op_eq (pv 4) pe_int (nomark _)) (pss_one ps_break) pss_nil)
          (pss_cons (ps_expr (pe_bm PySem.F.plainAttrs_list PySem.F.slot_list_append PySem.F.type_list_append mt_append (pv 1) (pa_cons (pe_op op_mod (pe_callTy call_int1 (by rfl) T.m_int (by decide +kernel) (pa_cons (pv 4) pa_nil)) pe_int) pa_nil)))
          (pss_one (ps_set (i := 4) nd rfl (by first | exact Or.inl rfl | exact Or.inr rfl) (pe_op op_fdiv (pv 4) pe_int))))))) (pss_cons (ps_set (i := 6) nd rfl (by first | exact Or.inl rfl | exact Or.inr rfl) (pe_op op_mod (pe_callTy call_int1 (by rfl) T.m_int (by decide +kernel) (pa_cons (pe_op op_add (pe_op op_add (pe_op op_mul (pv 4) pe_int) (pe_op op_mul (pv 3) pe_int)) pe_int) pa_nil)) pe_int))
        (pss_cons (ps_set (i := 7) nd rfl (by first | exact Or.inl rfl | exact Or.inr rfl) (pe_op op_mod (pe_callTy call_int1 (by rfl) T.m_int (by decide +kernel) (pa_cons (pe_op op_add (pe_op op_add (pe_op op_mul (pv 6) pe_int) (pe_op op_mul (pv 4) pe_int)) (pv 3)) pa_nil)) pe_int))
        (pss_one (ps_set (i := 1) nd rfl (by first | exact Or.inl rfl | exact Or.inr rfl) (pe_op op_cat (pv 1) (pe_lst (pa_cons (pe_op op_mod (pe_callTy call_int1 (by rfl) T.m_int (by decide +kernel) (pa_cons (pe_op op_fdiv (pv 6) pe_int) pa_nil)) pe_int) (pa_cons (pe_op op_mod (pe_callTy call_int1 (by rfl) T.m_int (by decide +kernel) (pa_cons (pv 7) pa_nil)) pe_int) pa_nil)))))))))))))
    (pss_cons (ps_for PassesOwn.never rfl (pi_range1 (by rfl) T.m_range (pa_cons pe_int pa_nil)) (pg_name (i := 5) nd rfl (by first | exact Or.inl rfl | exact Or.inr rfl))
    (pss_cons (ps_set (i := 2) nd rfl (by first | exact Or.inl rfl | exact Or.inr rfl) (pe_op op_mod (pe_callTy call_int1 (by rfl) T.m_int (by decide +kernel) (pa_cons (pe_op op_add (pe_op op_mul (pv 2) pe_int) pe_int) pa_nil)) pe_int))
      (pss_one (ps_expr (pe_bm PySem.F.plainAttrs_list PySem.F.slot_list_append PySem.F.type_list_append mt_append (pv 1) (pa_cons (pe_op op_mod (pe_callTy call_int1 (by rfl) T.m_int (by decide +kernel) (pa_cons (pe_op op_fdiv (pv 2) pe_int) pa_nil)) pe_int) pa_nil))))))
    (pss_one (ps_ret (pv 1))))))), ?_⟩
  refine ⟨Nat.zero_le _, fun p0 n0 => ?_⟩
  refine ⟨.ref a, rfl, a, _, rfl, .inl ((same_new (Same.refl H) n0).seq hS), _, _, rfl, _, rfl, ?_, ?_, ?_⟩
  · split <;> omega
  · split <;> omega
  refine for_range (lo := 0) (fun i σ H1 => ∃ (p : Addr) (ps : List Int) (st : Int) (y3 y4 y5 y6 y7 : Option V), σ = [some (.ref a), some (.ref p), some (.int st), y3, y4, y5, y6, y7] ∧ Step NoS H H1 ∧ H p = none ∧ H1 p = some (.lst (ps.map V.int)) ∧ ps.length ≤ 60 * i ∧ ∀ x ∈ ps, 0 ≤ x ∧ x < 60)
    ⟨p0, [], 17, none, none, none, none, none, rfl, Step.new n0, n0, upd_same, Nat.le_refl _, fun _ z => nomatch z⟩ (fun i σ H1 hi hp => ?_) (fun σ H1 hp => ?_)
  · obtain ⟨p, ps, st, y3, y4, y5, y6, y7, rfl, sm, fp, hp, lp, bp⟩ := hp
    have hi' : (0 + (i : Int)) < ns.length := by
      rw [List.length_map] at hi
      split at hi <;> omega
    have hi63 : i < 63 := by
      rw [List.length_map] at hi
      split at hi <;> omega
    obtain ⟨cell, hc⟩ := exists_at (xs := ns) (show (0 : Int) ≤ 0 + (i : Int) by omega) hi'
    -- cell = script[k]
    refine ⟨.ref a, rfl, _, rfl, a, _, _, .int cell, rfl, rfl, sm.same.seq hS, atI_of (by omega) (getI hc), ?_⟩
    -- state = ..
    refine ⟨_, rfl, _, _, rfl, rfl, .inr ⟨by decide, by decide⟩, _, rfl, _, _, rfl, rfl, .inr ⟨by decide, by decide⟩, _, _, rfl, rfl, _, rfl, _, _, rfl, rfl, .inl ⟨_, rfl, _, _, rfl, rfl, by omega, ?_⟩⟩
    -- if cell >= 10 ** 18
    refine ⟨_, rfl, _, _, rfl, rfl, ⟨by decide, by decide, by decide⟩, _, _, rfl, rfl, _, rfl, ite2 (fun _ => ?_) (fun _ => ?_)⟩
    · refine ⟨60, rfl, by decide, by decide, ?_⟩
      refine for_range (lo := 0) (n := 60) (fun j σ H2 => ∃ (ps : List Int) (st c : Int) (y5 : Option V), σ = [some (.ref a), some (.ref p), some (.int st), some (.int (0 + (i : Int))), some (.int c), y5, y6, y7] ∧ Step NoS H H2 ∧ H2 p = some (.lst (ps.map V.int)) ∧ ps.length ≤ 60 * i + j ∧ ∀ x ∈ ps, 0 ≤ x ∧ x < 60)
        ⟨ps, _, cell, y5, rfl, sm, hp, lp, bp⟩ (fun j σ H2 hj hq => ?_) (fun σ H2 hq => ?_)
      · obtain ⟨ps, st, c, y5, rfl, sm, hp, lp, bp⟩ := hq
        refine ⟨_, rfl, rfl, _, rfl, ite2 (fun _ => ?_) (fun _ => ?_)⟩
        · exact ⟨p, ps, st, _, _, _, _, _, rfl, sm, fp, hp, by omega, bp⟩
        · refine ⟨.ref p, rfl, .inl ⟨rfl, _, SqL.of hp⟩, _, rfl, .inl ⟨_, rfl, _, _, rfl, rfl, by omega, p, _, _, rfl, rfl, hp, szl (by rw [List.length_map]; omega), ?_⟩⟩
          refine ⟨_, rfl, _, _, rfl, rfl, ⟨by decide, by decide⟩, ps ++ [c % 60], st, _, _, rfl, sm.own fp, ?_, ?_, all_snoc bp small60⟩
          · rw [upd_same, List.map_append]; rfl
          · rw [List.length_append]; show ps.length + 1 ≤ _; omega
      · obtain ⟨ps, st, c, y5, rfl, sm, hp, lp, bp⟩ := hq
        exact ⟨p, ps, st, _, _, _, _, _, rfl, sm, fp, hp, by omega, bp⟩
    · -- one, two
      refine ⟨_, rfl, _, _, rfl, rfl, .inr ⟨by decide, by decide⟩, _, rfl, _, _, rfl, rfl, .inr ⟨by decide, by decide⟩, _, _, rfl, rfl, _, _, rfl, rfl, .inl ⟨_, rfl, _, _, rfl, rfl, by omega, ?_⟩⟩
      refine ⟨_, rfl, _, _, rfl, rfl, .inr ⟨by decide, by decide⟩, _, rfl, _, _, rfl, rfl, .inr ⟨by decide, by decide⟩, _, _, rfl, rfl, _, rfl, _, _, rfl, rfl, .inl ⟨_, rfl, _, _, rfl, rfl, by omega, ?_⟩⟩
      refine ⟨.ref p, rfl, _, rfl, _, _, rfl, rfl, ⟨by decide, by decide⟩, .inl ⟨_, rfl, _, _, rfl, rfl, by omega, _, rfl, .inl ⟨_, rfl, _, _, rfl, rfl, by omega, by show 2 ≤ sizeLine; decide, fun b nb => ?_⟩⟩⟩
      have hpb : p ≠ b := ne_of_none hp nb
      refine ⟨p, b, _, _, rfl, rfl, (by rw [upd_ne hpb]; exact hp), upd_same, sz (by rw [List.length_map]; show ps.length + 2 ≤ _; omega), fun c nc => ?_⟩
      have nc1 : H1 c = none := by
        by_cases e : c = b
        · rw [e]; exact nb
        · rw [upd_ne e] at nc; exact nc
      refine ⟨c, ps ++ [_, _], _, _, _, _, _, _, rfl, (sm.trans (Step.new nb)).trans (Step.new nc), sm.free nc1, two_more, ?_, snoc2 bp small60 small60⟩
      rw [List.length_append]; show ps.length + 2 ≤ _; omega
  · obtain ⟨p, ps, st, y3, y4, y5, y6, y7, rfl, sm, fp, hp, lp, bp⟩ := hp
    have hk : ps.length ≤ 3780 := by
      refine Nat.le_trans lp ?_
      rw [List.length_map]
      split <;> omega
    refine ⟨300, rfl, by decide, by decide, ?_⟩
    refine for_range (lo := 0) (n := 300) (fun j σ H2 => ∃ (ps : List Int) (st : Int) (y5 : Option V), σ = [some (.ref a), some (.ref p), some (.int st), y3, y4, y5, y6, y7] ∧ Step NoS H H2 ∧ H2 p = some (.lst (ps.map V.int)) ∧ j ≤ ps.length ∧ ps.length ≤ 3780 + j ∧ ∀ x ∈ ps, 0 ≤ x ∧ x < 60)
      ⟨ps, st, y5, rfl, sm, hp, Nat.zero_le _, by omega, bp⟩ (fun j σ H2 hj hq => ?_) (fun σ H2 hq => ?_)
    · obtain ⟨ps, st, y5, rfl, sm, hp, lp1, lp2, bp⟩ := hq
      refine ⟨_, rfl, _, _, rfl, rfl, .inr ⟨by decide, by decide⟩, _, _, rfl, rfl, .inl ⟨_, rfl, _, _, rfl, rfl, by omega, ?_⟩⟩
      refine ⟨.ref p, rfl, .inl ⟨rfl, _, SqL.of hp⟩, _, rfl, _, _, rfl, rfl, ⟨by decide, by decide⟩, .inl ⟨_, rfl, _, _, rfl, rfl, by omega, p, _, _, rfl, rfl, hp, szl (by rw [List.length_map]; omega), ?_⟩⟩
      refine ⟨ps ++ [_], _, _, rfl, sm.own fp, one_more, ?_, ?_, all_snoc bp small60⟩
      · rw [List.length_append]; show _ ≤ ps.length + 1; omega
      · rw [List.length_append]; show ps.length + 1 ≤ _; omega
    · obtain ⟨ps, st, y5, rfl, sm, hp, lp1, lp2, bp⟩ := hq
      exact ⟨.ref p, rfl, q H2 p ps sm fp hp lp1 (by omega) bp⟩
theorem sc_law_stream : FnScope ["script"] ["script"] (defScope s_law_stream) := ⟨rfl, rfl, rfl, by decide +kernel, rfl, by decide +kernel, by decide +kernel⟩
theorem ok_law_stream {f : Addr} {fd : FuncData} (F : Fun K "_law_stream" "_law_stream" s_law_stream f fd) (T : Bt mg) (C : Cl P w K mg base aHallError aBadLetters aBadWord aBadSize aBadNumber aBadRule aBadName aTooDeep aBadText aBadMachine aTooMany aTooGreat aNotLeast aNoWord aUnknownName aInUse aRing aBadEntry aNothingToUndo aNothingToRedo aBadTurner aNotOne aContradiction aBadAnswer aNoQuestion aBadSheet) (D_law_pool : DefG P w K mg base CX0 1 "_law_pool" ["script"] (spPool K)) : FnG P w K mg base CX0 2 f fd ["script"] (spStream K) := by
  refine FnG.calm F sc_law_stream (fun vs H Q E h => by first | (obtain ⟨_, rfl, _⟩ := h; rfl) | (obtain ⟨_, _, rfl, _⟩ := h; rfl) | (obtain ⟨_, _, _, rfl, _⟩ := h; rfl) | (obtain ⟨_, _, _, _, rfl, _⟩ := h; rfl) | (obtain ⟨_, _, _, _, _, rfl, _⟩ := h; rfl) | (obtain ⟨_, _, _, _, _, _, rfl, _⟩ := h; rfl) | (obtain ⟨_, _, _, _, _, _, _, rfl, _⟩ := h; rfl) | (obtain ⟨_, _, _, _, _, _, _, _, rfl, _⟩ := h; rfl)) (fun cd A out z H vs Q E hg hr h => ?_)
  have nd := sc_law_stream.nd
  obtain ⟨a, ns, rfl, hS, hl, q⟩ := h
  refine ⟨_, (pss_one (ps_ret (pe_op op_cat (pe_lst (pa_cons pe_int pa_nil)) (pe_fn D_law_pool hg (hr.mono (by decide)) (pa_cons (pv 0) pa_nil))))), ?_⟩
  refine ⟨by show 1 ≤ sizeLine; decide, fun b nb => ?_⟩
  have s1 : Step NoS H (upd H b (.lst [.int 0])) := Step.new nb
  refine ⟨.ref a, rfl, a, ns, rfl, s1.same.seq hS, hl, fun H2 p ps s2 np hp l1 l2 hb => ?_⟩
  refine ⟨b, p, _, _, rfl, rfl, s2.same _ _ upd_same, hp, sz (by rw [List.length_map]; show 1 + ps.length ≤ _; omega), fun c nc => ?_⟩
  exact q _ c ((s1.trans s2).trans (Step.new nc)) ((s1.trans s2).free nc) ⟨0, ps, upd_same, l1, by omega, by decide, hb⟩
theorem sc_law_pick : FnScope ["pool", "many"] ["pool", "many"] (defScope s_law_pick) := ⟨rfl, rfl, rfl, by decide +kernel, rfl, by decide +kernel, by decide +kernel⟩
theorem ok_law_pick {f : Addr} {fd : FuncData} (F : Fun K "_law_pick" "_law_pick" s_law_pick f fd) (T : Bt mg) (C : Cl P w K mg base aHallError aBadLetters aBadWord aBadSize aBadNumber aBadRule aBadName aTooDeep aBadText aBadMachine aTooMany aTooGreat aNotLeast aNoWord aUnknownName aInUse aRing aBadEntry aNothingToUndo aNothingToRedo aBadTurner aNotOne aContradiction aBadAnswer aNoQuestion aBadSheet)  : FnG P w K mg base CX0 1 f fd ["pool", "many"] (spPick) := by
  refine FnG.calm F sc_law_pick (fun vs H Q E h => by first | (obtain ⟨_, rfl, _⟩ := h; rfl) | (obtain ⟨_, _, rfl, _⟩ := h; rfl) | (obtain ⟨_, _, _, rfl, _⟩ := h; rfl) | (obtain ⟨_, _, _, _, rfl, _⟩ := h; rfl) | (obtain ⟨_, _, _, _, _, rfl, _⟩ := h; rfl) | (obtain ⟨_, _, _, _, _, _, rfl, _⟩ := h; rfl) | (obtain ⟨_, _, _, _, _, _, _, rfl, _⟩ := h; rfl) | (obtain ⟨_, _, _, _, _, _, _, _, rfl, _⟩ := h; rfl)) (fun cd A out z H vs Q E hg hr h => ?_)
  have nd := sc_law_pick.nd
  obtain ⟨pa, n, rfl, ⟨p0, ps, hp, l1, l2, h0, hb⟩, n1, n2, q⟩ := h
  refine ⟨_, (pss_cons (ps_asg (pe_op op_add pe_int (pe_op op_mod (pe_callTy call_int1 (by rfl) T.m_int (by decide +kernel) (pa_cons (pe_ix (ixL K) (pv 0) pe_int (fun _ _ => rfl)) pa_nil)) (pe_op op_sub (pe_callB (lenQ K) (by rfl) T.m_len PySem.boot_len (pa_cons (pv 0) pa_nil)) pe_int))) (pg_sub (pv 0) pe_int set_list))
    (pss_one (ps_ret (pe_op op_mod (pe_callTy call_int1 (by rfl) T.m_int (by decide +kernel) (pa_cons (pe_ix (ixL K) (pv 0) (pe_ix (ixL K) (pv 0) pe_int (fun _ _ => rfl)) (fun _ _ => rfl)) pa_nil)) (pv 1))))), ?_⟩
  have ll : (((p0 :: ps).map V.int).length : Int) - 1 = ps.length := by rw [List.length_map, List.length_cons]; omega
  refine ⟨.ref pa, rfl, pa, _, 0, .int p0, rfl, rfl, SqL.of hp, atI_nat (j := 0) rfl, .inl ⟨_, rfl, .ref pa, rfl, pa, _, rfl, .inl (SqL.of hp), _, _, rfl, rfl, _, _, rfl, rfl, (by rw [ll]; omega), _, _, rfl, rfl, .ref pa, rfl, pa, _, 0, 0, rfl, rfl, hp, ixN_of (k := 0) (by omega) (by rw [List.length_map, List.length_cons]; omega), ?_⟩⟩
  rw [ll]
  have hm1 : 0 ≤ p0 % (ps.length : Int) := Int.emod_nonneg _ (by omega)
  have hm2 : p0 % (ps.length : Int) < ps.length := Int.emod_lt_of_pos _ (by omega)
  obtain ⟨v, hv⟩ := exists_at (xs := ps) hm1 hm2
  have hv2 : ((((p0 :: ps).map V.int).set 0 (.int (1 + p0 % (ps.length : Int)))))[(1 + p0 % (ps.length : Int)).toNat]? = some (.int v) := by
    rw [show (1 + p0 % (ps.length : Int)).toNat = (p0 % (ps.length : Int)).toNat + 1 by omega]
    exact getI hv
  have hvb := hb v (List.mem_of_getElem? hv)
  refine ⟨.ref pa, rfl, .ref pa, rfl, pa, _, 0, .int (1 + p0 % (ps.length : Int)), rfl, rfl, SqL.of upd_same, atI_nat (j := 0) rfl, pa, _, _, .int v, rfl, rfl, SqL.of upd_same, atI_of (by omega) hv2, .inl ⟨_, rfl, _, rfl, _, _, rfl, rfl, by omega, ?_⟩⟩
  refine q _ _ (Int.emod_nonneg _ (by omega)) (Int.emod_lt_of_pos _ (by omega)) ?_ (Step.mut rfl (by rw [hp]; exact fun z => nomatch z)) (Pools.at ⟨_, ps, by rw [upd_same]; rfl, l1, l2, by omega, hb⟩)
  by_cases c : v < n
  · rw [Int.emod_eq_of_lt hvb.1 c]; exact hvb.2
  · have := Int.emod_lt_of_pos v (show (0 : Int) < n by omega)
    omega
theorem sc_law_letters : FnScope ["pool", "most", "many", "signs", "at", "step", "k"] ["pool", "most"] (defScope s_law_letters) := ⟨rfl, rfl, rfl, by decide +kernel, rfl, by decide +kernel, by decide +kernel⟩
-- pre
theorem pick6 {k : Int} (h0 : 0 ≤ k) (h1 : k < 6) : ∃ s : Nat, s ∈ [1, 3, 5, 7, 9, 11] ∧ atI [V.int 1, V.int 3, V.int 5, V.int 7, V.int 9, V.int 11] k = some (.int (s : Nat)) := by
  have h : k = 0 ∨ k = 1 ∨ k = 2 ∨ k = 3 ∨ k = 4 ∨ k = 5 := by omega
  rcases h with rfl | rfl | rfl | rfl | rfl | rfl
  · exact ⟨1, by decide, rfl⟩
  · exact ⟨3, by decide, rfl⟩
  · exact ⟨5, by decide, rfl⟩
  · exact ⟨7, by decide, rfl⟩
  · exact ⟨9, by decide, rfl⟩
  · exact ⟨11, by decide, rfl⟩
def drawnSigns (at_ st m : Nat) : List Nat := (List.range m).map fun k => 97 + (at_ + st * k) % 26
theorem drawn_nodup : ∀ a < 26, ∀ s ∈ [1, 3, 5, 7, 9, 11], ∀ m < 7, (drawnSigns a s m).Nodup := by decide +kernel
theorem drawn_letters {a s m : Nat} (ha : a < 26) (hs : s ∈ [1, 3, 5, 7, 9, 11]) (h1 : 1 ≤ m) (h6 : m ≤ 6) : IsLetters (drawnSigns a s m) where
  pos := by unfold drawnSigns; rw [List.length_map, List.length_range]; omega
  six := by unfold drawnSigns; rw [List.length_map, List.length_range]; omega
  nodup := drawn_nodup a ha s hs m (by omega)
  abc := fun c hc => by
    unfold drawnSigns at hc
    obtain ⟨k, _, rfl⟩ := List.mem_map.mp hc
    have := Nat.mod_lt (a + s * k) (show 26 > 0 by decide)
    omega
theorem abc_at : ∀ j < 26, ("abcdefghijklmnopqrstuvwxyz" : Str).cps.toList[j]? = some (97 + j) := by decide +kernel
theorem ok_law_letters {f : Addr} {fd : FuncData} (F : Fun K "_law_letters" "_law_letters" s_law_letters f fd) (T : Bt mg) (C : Cl P w K mg base aHallError aBadLetters aBadWord aBadSize aBadNumber aBadRule aBadName aTooDeep aBadText aBadMachine aTooMany aTooGreat aNotLeast aNoWord aUnknownName aInUse aRing aBadEntry aNothingToUndo aNothingToRedo aBadTurner aNotOne aContradiction aBadAnswer aNoQuestion aBadSheet) (D_law_pick : DefG P w K mg base CX0 1 "_law_pick" ["pool", "many"] (spPick)) : FnG P w K mg base CX0 2 f fd ["pool", "most"] (spLetters) := by
  refine FnG.calm F sc_law_letters (fun vs H Q E h => by first | (obtain ⟨_, rfl, _⟩ := h; rfl) | (obtain ⟨_, _, rfl, _⟩ := h; rfl) | (obtain ⟨_, _, _, rfl, _⟩ := h; rfl) | (obtain ⟨_, _, _, _, rfl, _⟩ := h; rfl) | (obtain ⟨_, _, _, _, _, rfl, _⟩ := h; rfl) | (obtain ⟨_, _, _, _, _, _, rfl, _⟩ := h; rfl) | (obtain ⟨_, _, _, _, _, _, _, rfl, _⟩ := h; rfl) | (obtain ⟨_, _, _, _, _, _, _, _, rfl, _⟩ := h; rfl)) (fun cd A out z H vs Q E hg hr h => ?_)
  have nd := sc_law_letters.nd
  obtain ⟨pa, n, rfl, po, n1, n6, q⟩ := h
  refine ⟨_, (pss_cons (ps_set (i := 2) nd rfl (by first | exact Or.inl rfl | exact Or.inr rfl) (pe_op op_add pe_int (pe_fn D_law_pick hg (hr.mono (by decide)) (pa_cons (pv 0) (pa_cons (pv 1) pa_nil)))))
    (pss_cons (ps_set (i := 3) nd rfl (by first | exact Or.inl rfl | exact Or.inr rfl) pe_str)
    (pss_cons (ps_asg (pe_tup (pa_cons (pe_fn D_law_pick hg (hr.mono (by decide)) (pa_cons (pv 0) (pa_cons pe_int pa_nil))) (pa_cons (pe_ix (ixL K) (pe_lst (pa_cons pe_int (pa_cons pe_int (pa_cons pe_int (pa_cons pe_int (pa_cons pe_int (pa_cons pe_int pa_nil))))))) (pe_fn D_law_pick hg (hr.mono (by decide)) (pa_cons (pv 0) (pa_cons pe_int pa_nil))) (fun _ _ => rfl)) pa_nil))) (gT K (n := 2) rfl (pgs_cons (pg_name (i := 4) nd rfl (by first | exact Or.inl rfl | exact Or.inr rfl)) (pgs_cons (pg_name (i := 5) nd rfl (by first | exact Or.inl rfl | exact Or.inr rfl)) pgs_nil))))
    (pss_one (ps_ret (joinQ K pe_str (pe_lc (own := [("k", 6)]) (tt := tYes) (g := gName 6) rfl nd (pi_range1 (by rfl) T.m_range (pa_cons (pv 2) pa_nil)) (blkOk_by (by kernel_rfl)) (fun _ _ _ _ _ => (pg_name (i := 6) nd rfl (by first | exact Or.inl rfl | exact Or.inr rfl))) (fun _ _ _ _ _ => pts_nil) (fun _ _ _ _ _ => (pe_ix ix_str (pv 3) (pe_op op_mod (pe_callTy call_int1 (by rfl) T.m_int (by decide +kernel) (pa_cons (pe_op op_add (pv 4) (pe_op op_mul (pv 5) (pv 6))) pa_nil)) pe_int) (fun _ _ => rfl)))))))))), ?_⟩
  refine ⟨.ref pa, rfl, .int n, rfl, pa, n, rfl, po, n1, by omega, fun k1 H1 a1 b1 _ s1 po1 => ⟨_, _, rfl, rfl, ?_⟩⟩
  refine ⟨.ref pa, rfl, pa, 26, rfl, po1.ok, by decide, by decide, fun k2 H2 a2 b2 _ s2 po2 => ?_⟩
  refine ⟨by show 6 ≤ sizeLine; decide, fun p np => ?_⟩
  have hpp : p ≠ pa := fun e => po2.ok.some (e ▸ np)
  refine ⟨.ref pa, rfl, pa, 6, rfl, po2.ok.new np, by decide, by decide, fun k3 H3 a3 b3 _ s3 po3 => ?_⟩
  obtain ⟨st, hst, hat⟩ := pick6 a3 b3
  refine ⟨p, _, _, _, rfl, rfl, SqL.of (s3.keep _ _ hpp upd_same), hat, by show 2 ≤ sizeLine; decide, fun t nt => ?_⟩
  refine ⟨t, _, rfl, SqT.of upd_same, rfl, _, _, rfl, _, _, rfl, rfl, ?_⟩
  have po4 := Pools.new (o := .tup [.int k2, .int (st : Nat)]) po3 nt
  have s4 : Step (At pa) H (upd H3 t (.tup [.int k2, .int (st : Nat)])) := ((s1.trans s2).trans (Step.new np)).trans (s3.trans (Step.new nt))
  generalize upd H3 t (.tup [.int k2, .int (st : Nat)]) = H4 at po4 s4
  obtain ⟨ka, rfl⟩ := Int.eq_ofNat_of_zero_le a2
  obtain ⟨m, hm⟩ : ∃ m : Nat, 1 + k1 = (m : Int) := Int.eq_ofNat_of_zero_le (by omega)
  have hm6 : m ≤ 6 := by omega
  have hka : ka < 26 := by omega
  have LL := drawn_letters hka hst (show 1 ≤ m by omega) hm6
  refine ⟨⟨_, rfl⟩, _, rfl, _, rfl, (by show -(2 ^ 62) ≤ 1 + k1; omega), (by show 1 + k1 < 2 ^ 62; omega), fun D nD => ?_⟩
  have hn : (1 + k1).toNat = m := by omega
  refine lc_range (lo := 0) (n := (1 + k1).toNat) (fun i H' => H' = upd H4 D (.lst (((drawnSigns ka st m).take i).map fun c => V.str (strOf [c])))) (by rw [List.take_zero]; rfl) (fun i H' hi e => ?_) (fun H' e => ?_)
  · subst e
    have hi' : i < m := by omega
    have hlt := Nat.mod_lt (ka + st * i) (show 26 > 0 by decide)
    refine ⟨rfl, ?_⟩
    refine ⟨_, rfl, _, rfl, _, rfl, _, rfl, _, _, rfl, rfl, .inr ⟨by omega, by omega⟩, _, _, rfl, rfl, .inl ⟨_, rfl, _, _, rfl, rfl, by omega, _, _, 97 + (ka + st * i) % 26, rfl, rfl, by decide +kernel, ?_, ?_⟩⟩
    · have e : ((ka : Int) + (st : Int) * (0 + (i : Int))) % 26 = (((ka + st * i) % 26 : Nat) : Int) := by
        rw [Int.zero_add]; push_cast; rfl
      show atI _ (((ka : Int) + (st : Int) * (0 + (i : Int))) % 26) = _
      rw [e]
      exact atI_nat (abc_at _ hlt)
    · refine ⟨_, upd_same, szl (by rw [List.length_map, List.length_take]; omega), ?_⟩
      rw [upd_upd, List.take_add_one, show (drawnSigns ka st m)[i]? = some (97 + (ka + st * i) % 26) by
        unfold drawnSigns; rw [List.getElem?_map, List.getElem?_range hi']; rfl, List.map_append]
      rfl
  · subst e
    have hl : (drawnSigns ka st m).length = m := by unfold drawnSigns; rw [List.length_map, List.length_range]
    rw [hn, List.take_of_length_le (by omega)]
    refine ⟨_, D, (drawnSigns ka st m).map fun c => strOf [c], rfl, rfl, .inl (SqL.of (by rw [upd_same, List.map_map]; rfl)), ?_, ?_⟩
    · rw [sum_ones, List.length_map, hl]
      show m + m * 0 ≤ _
      omega
    · rw [txt_join]
      exact q _ _ LL (by rw [hl]; omega) (s4.trans (Step.new nD)) (po4.new nD)
theorem sc_law_kinds : FnScope ["error", "found"] ["error"] (defScope s_law_kinds) := ⟨rfl, rfl, rfl, by decide +kernel, rfl, by decide +kernel, by decide +kernel⟩
theorem ok_law_kinds {f : Addr} {fd : FuncData} (F : Fun K "_law_kinds" "_law_kinds" s_law_kinds f fd) (T : Bt mg) (C : Cl P w K mg base aHallError aBadLetters aBadWord aBadSize aBadNumber aBadRule aBadName aTooDeep aBadText aBadMachine aTooMany aTooGreat aNotLeast aNoWord aUnknownName aInUse aRing aBadEntry aNothingToUndo aNothingToRedo aBadTurner aNotOne aContradiction aBadAnswer aNoQuestion aBadSheet)  : FnG P w K mg base CX0 1 f fd ["error"] (spKinds K [aBadLetters, aBadRule, aBadNumber, aBadName, aTooDeep, aBadMachine, aTooMany, aTooGreat, aNotLeast, aNoWord, aNothingToUndo, aNothingToRedo, aBadTurner, aNotOne, aBadAnswer, aNoQuestion, aBadSheet, aBadWord, aBadSize, aUnknownName, aInUse, aRing, aBadEntry, aContradiction, aBadText]) := by
  refine FnG.calm F sc_law_kinds (fun vs H Q E h => by first | (obtain ⟨_, rfl, _⟩ := h; rfl) | (obtain ⟨_, _, rfl, _⟩ := h; rfl) | (obtain ⟨_, _, _, rfl, _⟩ := h; rfl) | (obtain ⟨_, _, _, _, rfl, _⟩ := h; rfl) | (obtain ⟨_, _, _, _, _, rfl, _⟩ := h; rfl) | (obtain ⟨_, _, _, _, _, _, rfl, _⟩ := h; rfl) | (obtain ⟨_, _, _, _, _, _, _, rfl, _⟩ := h; rfl) | (obtain ⟨_, _, _, _, _, _, _, _, rfl, _⟩ := h; rfl)) (fun cd A out z H vs Q E hg hr h => ?_)
  have nd := sc_law_kinds.nd
  obtain ⟨a, D, fs, row, rfl, er, xC, hrow, q⟩ := h
  obtain ⟨b0, row, rfl, h0, hrow⟩ := cons_map hrow
  obtain ⟨b1, row, rfl, h1, hrow⟩ := cons_map hrow
  obtain ⟨b2, row, rfl, h2, hrow⟩ := cons_map hrow
  obtain ⟨b3, row, rfl, h3, hrow⟩ := cons_map hrow
  obtain ⟨b4, row, rfl, h4, hrow⟩ := cons_map hrow
  obtain ⟨b5, row, rfl, h5, hrow⟩ := cons_map hrow
  obtain ⟨b6, row, rfl, h6, hrow⟩ := cons_map hrow
  obtain ⟨b7, row, rfl, h7, hrow⟩ := cons_map hrow
  obtain ⟨b8, row, rfl, h8, hrow⟩ := cons_map hrow
  obtain ⟨b9, row, rfl, h9, hrow⟩ := cons_map hrow
  obtain ⟨b10, row, rfl, h10, hrow⟩ := cons_map hrow
  obtain ⟨b11, row, rfl, h11, hrow⟩ := cons_map hrow
  obtain ⟨b12, row, rfl, h12, hrow⟩ := cons_map hrow
  obtain ⟨b13, row, rfl, h13, hrow⟩ := cons_map hrow
  obtain ⟨b14, row, rfl, h14, hrow⟩ := cons_map hrow
  obtain ⟨b15, row, rfl, h15, hrow⟩ := cons_map hrow
  obtain ⟨b16, row, rfl, h16, hrow⟩ := cons_map hrow
  obtain ⟨b17, row, rfl, h17, hrow⟩ := cons_map hrow
  obtain ⟨b18, row, rfl, h18, hrow⟩ := cons_map hrow
  obtain ⟨b19, row, rfl, h19, hrow⟩ := cons_map hrow
  obtain ⟨b20, row, rfl, h20, hrow⟩ := cons_map hrow
  obtain ⟨b21, row, rfl, h21, hrow⟩ := cons_map hrow
  obtain ⟨b22, row, rfl, h22, hrow⟩ := cons_map hrow
  obtain ⟨b23, row, rfl, h23, hrow⟩ := cons_map hrow
  obtain ⟨b24, row, rfl, h24, hrow⟩ := cons_map hrow
  cases nil_map hrow
  refine ⟨_, (pss_cons (ps_set (i := 1) nd rfl (by first | exact Or.inl rfl | exact Or.inr rfl) (pe_lst (pa_cons (pe_callB (isEV K) (by rfl) T.m_isinstance (by decide +kernel) (pa_cons (pv 0) (pa_cons (pe_glob (v := .ref aBadLetters) rfl C.g_BadLetters rfl) pa_nil))) (pa_cons (pe_callB (isEV K) (by rfl) T.m_isinstance (by decide +kernel) (pa_cons (pv 0) (pa_cons (pe_glob (v := .ref aBadRule) rfl C.g_BadRule rfl) pa_nil))) (pa_cons (pe_callB (isEV K) (by rfl) T.m_isinstance (by decide +kernel) (pa_cons (pv 0) (pa_cons (pe_glob (v := .ref aBadNumber) rfl C.g_BadNumber rfl) pa_nil))) (pa_cons (pe_callB (isEV K) (by rfl) T.m_isinstance (by decide +kernel) (pa_cons (pv 0) (pa_cons (pe_glob (v := .ref aBadName) rfl C.g_BadName rfl) pa_nil))) pa_nil))))))
    (pss_cons (ps_set (i := 1) nd rfl (by first | exact Or.inl rfl | exact Or.inr rfl) (pe_op op_cat (pv 1) (pe_lst (pa_cons (pe_callB (isEV K) (by rfl) T.m_isinstance (by decide +kernel) (pa_cons (pv 0) (pa_cons (pe_glob (v := .ref aTooDeep) rfl C.g_TooDeep rfl) pa_nil))) (pa_cons (pe_callB (isEV K) (by rfl) T.m_isinstance (by decide +kernel) (pa_cons (pv 0) (pa_cons (pe_glob (v := .ref aBadMachine) rfl C.g_BadMachine rfl) pa_nil))) (pa_cons (pe_callB (isEV K) (by rfl) T.m_isinstance (by decide +kernel) (pa_cons (pv 0) (pa_cons (pe_glob (v := .ref aTooMany) rfl C.g_TooMany rfl) pa_nil))) (pa_cons (pe_callB (isEV K) (by rfl) T.m_isinstance (by decide +kernel) (pa_cons (pv 0) (pa_cons (pe_glob (v := .ref aTooGreat) rfl C.g_TooGreat rfl) pa_nil))) pa_nil)))))))
    (pss_cons (ps_set (i := 1) nd rfl (by first | exact Or.inl rfl | exact Or.inr rfl) (pe_op op_cat (pv 1) (pe_lst (pa_cons (pe_callB (isEV K) (by rfl) T.m_isinstance (by decide +kernel) (pa_cons (pv 0) (pa_cons (pe_glob (v := .ref aNotLeast) rfl C.g_NotLeast rfl) pa_nil))) (pa_cons (pe_callB (isEV K) (by rfl) T.m_isinstance (by decide +kernel) (pa_cons (pv 0) (pa_cons (pe_glob (v := .ref aNoWord) rfl C.g_NoWord rfl) pa_nil))) (pa_cons (pe_callB (isEV K) (by rfl) T.m_isinstance (by decide +kernel) (pa_cons (pv 0) (pa_cons (pe_glob (v := .ref aNothingToUndo) rfl C.g_NothingToUndo rfl) pa_nil))) (pa_cons (pe_callB (isEV K) (by rfl) T.m_isinstance (by decide +kernel) (pa_cons (pv 0) (pa_cons (pe_glob (v := .ref aNothingToRedo) rfl C.g_NothingToRedo rfl) pa_nil))) pa_nil)))))))
    (pss_cons (ps_set (i := 1) nd rfl (by first | exact Or.inl rfl | exact Or.inr rfl) (pe_op op_cat (pv 1) (pe_lst (pa_cons (pe_callB (isEV K) (by rfl) T.m_isinstance (by decide +kernel) (pa_cons (pv 0) (pa_cons (pe_glob (v := .ref aBadTurner) rfl C.g_BadTurner rfl) pa_nil))) (pa_cons (pe_callB (isEV K) (by rfl) T.m_isinstance (by decide +kernel) (pa_cons (pv 0) (pa_cons (pe_glob (v := .ref aNotOne) rfl C.g_NotOne rfl) pa_nil))) (pa_cons (pe_callB (isEV K) (by rfl) T.m_isinstance (by decide +kernel) (pa_cons (pv 0) (pa_cons (pe_glob (v := .ref aBadAnswer) rfl C.g_BadAnswer rfl) pa_nil))) (pa_cons (pe_callB (isEV K) (by rfl) T.m_isinstance (by decide +kernel) (pa_cons (pv 0) (pa_cons (pe_glob (v := .ref aNoQuestion) rfl C.g_NoQuestion rfl) pa_nil))) pa_nil)))))))
    (pss_cons (ps_set (i := 1) nd rfl (by first | exact Or.inl rfl | exact Or.inr rfl) (pe_op op_cat (pv 1) (pe_lst (pa_cons (pe_callB (isEV K) (by rfl) T.m_isinstance (by decide +kernel) (pa_cons (pv 0) (pa_cons (pe_glob (v := .ref aBadSheet) rfl C.g_BadSheet rfl) pa_nil))) (pa_cons (pe_callB (isEV K) (by rfl) T.m_isinstance (by decide +kernel) (pa_cons (pv 0) (pa_cons (pe_glob (v := .ref aBadWord) rfl C.g_BadWord rfl) pa_nil))) (pa_cons (pe_callB (isEV K) (by rfl) T.m_isinstance (by decide +kernel) (pa_cons (pv 0) (pa_cons (pe_glob (v := .ref aBadSize) rfl C.g_BadSize rfl) pa_nil))) (pa_cons (pe_callB (isEV K) (by rfl) T.m_isinstance (by decide +kernel) (pa_cons (pv 0) (pa_cons (pe_glob (v := .ref aUnknownName) rfl C.g_UnknownName rfl) pa_nil))) pa_nil)))))))
    (pss_cons (ps_set (i := 1) nd rfl (by first | exact Or.inl rfl | exact Or.inr rfl) (pe_op op_cat (pv 1) (pe_lst (pa_cons (pe_callB (isEV K) (by rfl) T.m_isinstance (by decide +kernel) (pa_cons (pv 0) (pa_cons (pe_glob (v := .ref aInUse) rfl C.g_InUse rfl) pa_nil))) (pa_cons (pe_callB (isEV K) (by rfl) T.m_isinstance (by decide +kernel) (pa_cons (pv 0) (pa_cons (pe_glob (v := .ref aRing) rfl C.g_Ring rfl) pa_nil))) (pa_cons (pe_callB (isEV K) (by rfl) T.m_isinstance (by decide +kernel) (pa_cons (pv 0) (pa_cons (pe_glob (v := .ref aBadEntry) rfl C.g_BadEntry rfl) pa_nil))) (pa_cons (pe_callB (isEV K) (by rfl) T.m_isinstance (by decide +kernel) (pa_cons (pv 0) (pa_cons (pe_glob (v := .ref aContradiction) rfl C.g_Contradiction rfl) pa_nil))) pa_nil)))))))
    (pss_one (ps_ret (pe_op op_cat (pv 1) (pe_lst (pa_cons (pe_callB (isEV K) (by rfl) T.m_isinstance (by decide +kernel) (pa_cons (pv 0) (pa_cons (pe_glob (v := .ref aBadText) rfl C.g_BadText rfl) pa_nil))) pa_nil))))))))))), ?_⟩
  refine ⟨.ref a, rfl, a, D, fs, .ref aBadLetters, .ref aBadLetters, b0, rfl, er, xC, (fun _ z => z), h0, ?_⟩
  refine ⟨.ref a, rfl, a, D, fs, .ref aBadRule, .ref aBadRule, b1, rfl, er, xC, (fun _ z => z), h1, ?_⟩
  refine ⟨.ref a, rfl, a, D, fs, .ref aBadNumber, .ref aBadNumber, b2, rfl, er, xC, (fun _ z => z), h2, ?_⟩
  refine ⟨.ref a, rfl, a, D, fs, .ref aBadName, .ref aBadName, b3, rfl, er, xC, (fun _ z => z), h3, ?_⟩
  refine ⟨by show 4 ≤ sizeLine; decide, fun p0 n0 => ?_⟩
  have s0 : Step NoS H (upd H p0 (.lst [V.bl b0, V.bl b1, V.bl b2, V.bl b3])) := Step.new n0
  have e0 : (upd H p0 (.lst [V.bl b0, V.bl b1, V.bl b2, V.bl b3])) p0 = some (.lst ([b0, b1, b2, b3].map V.bl)) := upd_same
  generalize upd H p0 (.lst [V.bl b0, V.bl b1, V.bl b2, V.bl b3]) = G0 at s0 e0
  refine ⟨.ref p0, rfl, ?_⟩
  refine ⟨.ref a, rfl, a, D, fs, .ref aTooDeep, .ref aTooDeep, b4, rfl, (er.up s0.same), xC, (fun _ z => z), h4, ?_⟩
  refine ⟨.ref a, rfl, a, D, fs, .ref aBadMachine, .ref aBadMachine, b5, rfl, (er.up s0.same), xC, (fun _ z => z), h5, ?_⟩
  refine ⟨.ref a, rfl, a, D, fs, .ref aTooMany, .ref aTooMany, b6, rfl, (er.up s0.same), xC, (fun _ z => z), h6, ?_⟩
  refine ⟨.ref a, rfl, a, D, fs, .ref aTooGreat, .ref aTooGreat, b7, rfl, (er.up s0.same), xC, (fun _ z => z), h7, ?_⟩
  refine ⟨by show 4 ≤ sizeLine; decide, fun m0 y0 => ?_⟩
  refine ⟨p0, m0, [b0, b1, b2, b3].map V.bl, [V.bl b4, V.bl b5, V.bl b6, V.bl b7], rfl, rfl, (Step.new (S := NoS) y0).same _ _ e0, upd_same, (by show 8 ≤ sizeLine; decide), fun p1 n1 => ?_⟩
  have s1 : Step NoS H (upd (upd G0 m0 (.lst [V.bl b4, V.bl b5, V.bl b6, V.bl b7])) p1 (.lst ([b0, b1, b2, b3].map V.bl ++ [V.bl b4, V.bl b5, V.bl b6, V.bl b7]))) := (s0.trans (Step.new y0)).trans (Step.new n1)
  have e1 : (upd (upd G0 m0 (.lst [V.bl b4, V.bl b5, V.bl b6, V.bl b7])) p1 (.lst ([b0, b1, b2, b3].map V.bl ++ [V.bl b4, V.bl b5, V.bl b6, V.bl b7]))) p1 = some (.lst ([b0, b1, b2, b3, b4, b5, b6, b7].map V.bl)) := upd_same
  generalize upd (upd G0 m0 (.lst [V.bl b4, V.bl b5, V.bl b6, V.bl b7])) p1 (.lst ([b0, b1, b2, b3].map V.bl ++ [V.bl b4, V.bl b5, V.bl b6, V.bl b7])) = G1 at s1 e1
  refine ⟨.ref p1, rfl, ?_⟩
  refine ⟨.ref a, rfl, a, D, fs, .ref aNotLeast, .ref aNotLeast, b8, rfl, (er.up s1.same), xC, (fun _ z => z), h8, ?_⟩
  refine ⟨.ref a, rfl, a, D, fs, .ref aNoWord, .ref aNoWord, b9, rfl, (er.up s1.same), xC, (fun _ z => z), h9, ?_⟩
  refine ⟨.ref a, rfl, a, D, fs, .ref aNothingToUndo, .ref aNothingToUndo, b10, rfl, (er.up s1.same), xC, (fun _ z => z), h10, ?_⟩
  refine ⟨.ref a, rfl, a, D, fs, .ref aNothingToRedo, .ref aNothingToRedo, b11, rfl, (er.up s1.same), xC, (fun _ z => z), h11, ?_⟩
  refine ⟨by show 4 ≤ sizeLine; decide, fun m1 y1 => ?_⟩
  refine ⟨p1, m1, [b0, b1, b2, b3, b4, b5, b6, b7].map V.bl, [V.bl b8, V.bl b9, V.bl b10, V.bl b11], rfl, rfl, (Step.new (S := NoS) y1).same _ _ e1, upd_same, (by show 12 ≤ sizeLine; decide), fun p2 n2 => ?_⟩
  have s2 : Step NoS H (upd (upd G1 m1 (.lst [V.bl b8, V.bl b9, V.bl b10, V.bl b11])) p2 (.lst ([b0, b1, b2, b3, b4, b5, b6, b7].map V.bl ++ [V.bl b8, V.bl b9, V.bl b10, V.bl b11]))) := (s1.trans (Step.new y1)).trans (Step.new n2)
  have e2 : (upd (upd G1 m1 (.lst [V.bl b8, V.bl b9, V.bl b10, V.bl b11])) p2 (.lst ([b0, b1, b2, b3, b4, b5, b6, b7].map V.bl ++ [V.bl b8, V.bl b9, V.bl b10, V.bl b11]))) p2 = some (.lst ([b0, b1, b2, b3, b4, b5, b6, b7, b8, b9, b10, b11].map V.bl)) := upd_same
  generalize upd (upd G1 m1 (.lst [V.bl b8, V.bl b9, V.bl b10, V.bl b11])) p2 (.lst ([b0, b1, b2, b3, b4, b5, b6, b7].map V.bl ++ [V.bl b8, V.bl b9, V.bl b10, V.bl b11])) = G2 at s2 e2
  refine ⟨.ref p2, rfl, ?_⟩
  refine ⟨.ref a, rfl, a, D, fs, .ref aBadTurner, .ref aBadTurner, b12, rfl, (er.up s2.same), xC, (fun _ z => z), h12, ?_⟩
  refine ⟨.ref a, rfl, a, D, fs, .ref aNotOne, .ref aNotOne, b13, rfl, (er.up s2.same), xC, (fun _ z => z), h13, ?_⟩
  refine ⟨.ref a, rfl, a, D, fs, .ref aBadAnswer, .ref aBadAnswer, b14, rfl, (er.up s2.same), xC, (fun _ z => z), h14, ?_⟩
  refine ⟨.ref a, rfl, a, D, fs, .ref aNoQuestion, .ref aNoQuestion, b15, rfl, (er.up s2.same), xC, (fun _ z => z), h15, ?_⟩
  refine ⟨by show 4 ≤ sizeLine; decide, fun m2 y2 => ?_⟩
  refine ⟨p2, m2, [b0, b1, b2, b3, b4, b5, b6, b7, b8, b9, b10, b11].map V.bl, [V.bl b12, V.bl b13, V.bl b14, V.bl b15], rfl, rfl, (Step.new (S := NoS) y2).same _ _ e2, upd_same, (by show 16 ≤ sizeLine; decide), fun p3 n3 => ?_⟩
  have s3 : Step NoS H (upd (upd G2 m2 (.lst [V.bl b12, V.bl b13, V.bl b14, V.bl b15])) p3 (.lst ([b0, b1, b2, b3, b4, b5, b6, b7, b8, b9, b10, b11].map V.bl ++ [V.bl b12, V.bl b13, V.bl b14, V.bl b15]))) := (s2.trans (Step.new y2)).trans (Step.new n3)
  have e3 : (upd (upd G2 m2 (.lst [V.bl b12, V.bl b13, V.bl b14, V.bl b15])) p3 (.lst ([b0, b1, b2, b3, b4, b5, b6, b7, b8, b9, b10, b11].map V.bl ++ [V.bl b12, V.bl b13, V.bl b14, V.bl b15]))) p3 = some (.lst ([b0, b1, b2, b3, b4, b5, b6, b7, b8, b9, b10, b11, b12, b13, b14, b15].map V.bl)) := upd_same
  generalize upd (upd G2 m2 (.lst [V.bl b12, V.bl b13, V.bl b14, V.bl b15])) p3 (.lst ([b0, b1, b2, b3, b4, b5, b6, b7, b8, b9, b10, b11].map V.bl ++ [V.bl b12, V.bl b13, V.bl b14, V.bl b15])) = G3 at s3 e3
  refine ⟨.ref p3, rfl, ?_⟩
  refine ⟨.ref a, rfl, a, D, fs, .ref aBadSheet, .ref aBadSheet, b16, rfl, (er.up s3.same), xC, (fun _ z => z), h16, ?_⟩
  refine ⟨.ref a, rfl, a, D, fs, .ref aBadWord, .ref aBadWord, b17, rfl, (er.up s3.same), xC, (fun _ z => z), h17, ?_⟩
  refine ⟨.ref a, rfl, a, D, fs, .ref aBadSize, .ref aBadSize, b18, rfl, (er.up s3.same), xC, (fun _ z => z), h18, ?_⟩
  refine ⟨.ref a, rfl, a, D, fs, .ref aUnknownName, .ref aUnknownName, b19, rfl, (er.up s3.same), xC, (fun _ z => z), h19, ?_⟩
  refine ⟨by show 4 ≤ sizeLine; decide, fun m3 y3 => ?_⟩
  refine ⟨p3, m3, [b0, b1, b2, b3, b4, b5, b6, b7, b8, b9, b10, b11, b12, b13, b14, b15].map V.bl, [V.bl b16, V.bl b17, V.bl b18, V.bl b19], rfl, rfl, (Step.new (S := NoS) y3).same _ _ e3, upd_same, (by show 20 ≤ sizeLine; decide), fun p4 n4 => ?_⟩
  have s4 : Step NoS H (upd (upd G3 m3 (.lst [V.bl b16, V.bl b17, V.bl b18, V.bl b19])) p4 (.lst ([b0, b1, b2, b3, b4, b5, b6, b7, b8, b9, b10, b11, b12, b13, b14, b15].map V.bl ++ [V.bl b16, V.bl b17, V.bl b18, V.bl b19]))) := (s3.trans (Step.new y3)).trans (Step.new n4)
  have e4 : (upd (upd G3 m3 (.lst [V.bl b16, V.bl b17, V.bl b18, V.bl b19])) p4 (.lst ([b0, b1, b2, b3, b4, b5, b6, b7, b8, b9, b10, b11, b12, b13, b14, b15].map V.bl ++ [V.bl b16, V.bl b17, V.bl b18, V.bl b19]))) p4 = some (.lst ([b0, b1, b2, b3, b4, b5, b6, b7, b8, b9, b10, b11, b12, b13, b14, b15, b16, b17, b18, b19].map V.bl)) := upd_same
  generalize upd (upd G3 m3 (.lst [V.bl b16, V.bl b17, V.bl b18, V.bl b19])) p4 (.lst ([b0, b1, b2, b3, b4, b5, b6, b7, b8, b9, b10, b11, b12, b13, b14, b15].map V.bl ++ [V.bl b16, V.bl b17, V.bl b18, V.bl b19])) = G4 at s4 e4
  refine ⟨.ref p4, rfl, ?_⟩
  refine ⟨.ref a, rfl, a, D, fs, .ref aInUse, .ref aInUse, b20, rfl, (er.up s4.same), xC, (fun _ z => z), h20, ?_⟩
  refine ⟨.ref a, rfl, a, D, fs, .ref aRing, .ref aRing, b21, rfl, (er.up s4.same), xC, (fun _ z => z), h21, ?_⟩
  refine ⟨.ref a, rfl, a, D, fs, .ref aBadEntry, .ref aBadEntry, b22, rfl, (er.up s4.same), xC, (fun _ z => z), h22, ?_⟩
  refine ⟨.ref a, rfl, a, D, fs, .ref aContradiction, .ref aContradiction, b23, rfl, (er.up s4.same), xC, (fun _ z => z), h23, ?_⟩
  refine ⟨by show 4 ≤ sizeLine; decide, fun m4 y4 => ?_⟩
  refine ⟨p4, m4, [b0, b1, b2, b3, b4, b5, b6, b7, b8, b9, b10, b11, b12, b13, b14, b15, b16, b17, b18, b19].map V.bl, [V.bl b20, V.bl b21, V.bl b22, V.bl b23], rfl, rfl, (Step.new (S := NoS) y4).same _ _ e4, upd_same, (by show 24 ≤ sizeLine; decide), fun p5 n5 => ?_⟩
  have s5 : Step NoS H (upd (upd G4 m4 (.lst [V.bl b20, V.bl b21, V.bl b22, V.bl b23])) p5 (.lst ([b0, b1, b2, b3, b4, b5, b6, b7, b8, b9, b10, b11, b12, b13, b14, b15, b16, b17, b18, b19].map V.bl ++ [V.bl b20, V.bl b21, V.bl b22, V.bl b23]))) := (s4.trans (Step.new y4)).trans (Step.new n5)
  have e5 : (upd (upd G4 m4 (.lst [V.bl b20, V.bl b21, V.bl b22, V.bl b23])) p5 (.lst ([b0, b1, b2, b3, b4, b5, b6, b7, b8, b9, b10, b11, b12, b13, b14, b15, b16, b17, b18, b19].map V.bl ++ [V.bl b20, V.bl b21, V.bl b22, V.bl b23]))) p5 = some (.lst ([b0, b1, b2, b3, b4, b5, b6, b7, b8, b9, b10, b11, b12, b13, b14, b15, b16, b17, b18, b19, b20, b21, b22, b23].map V.bl)) := upd_same
  generalize upd (upd G4 m4 (.lst [V.bl b20, V.bl b21, V.bl b22, V.bl b23])) p5 (.lst ([b0, b1, b2, b3, b4, b5, b6, b7, b8, b9, b10, b11, b12, b13, b14, b15, b16, b17, b18, b19].map V.bl ++ [V.bl b20, V.bl b21, V.bl b22, V.bl b23])) = G5 at s5 e5
  refine ⟨.ref p5, rfl, ?_⟩
  refine ⟨.ref a, rfl, a, D, fs, .ref aBadText, .ref aBadText, b24, rfl, (er.up s5.same), xC, (fun _ z => z), h24, ?_⟩
  refine ⟨by show 1 ≤ sizeLine; decide, fun m5 y5 => ?_⟩
  refine ⟨p5, m5, [b0, b1, b2, b3, b4, b5, b6, b7, b8, b9, b10, b11, b12, b13, b14, b15, b16, b17, b18, b19, b20, b21, b22, b23].map V.bl, [V.bl b24], rfl, rfl, (Step.new (S := NoS) y5).same _ _ e5, upd_same, (by show 25 ≤ sizeLine; decide), fun p6 n6 => ?_⟩
  exact q p6 _ ((s5.trans (Step.new y5)).trans (Step.new n6)) ((s5.trans (Step.new (o := .lst [V.bl b24]) y5)).free n6) upd_same
theorem sc_law : FnScope ["script", "pool", "letters", "one", "two", "name", "errors", "k", "n", "base"] ["script"] (defScope s_law) := ⟨rfl, rfl, rfl, by decide +kernel, rfl, by decide +kernel, by decide +kernel⟩
theorem ok_law {f : Addr} {fd : FuncData} (F : Fun K "law" "law" s_law f fd) (T : Bt mg) (C : Cl P w K mg base aHallError aBadLetters aBadWord aBadSize aBadNumber aBadRule aBadName aTooDeep aBadText aBadMachine aTooMany aTooGreat aNotLeast aNoWord aUnknownName aInUse aRing aBadEntry aNothingToUndo aNothingToRedo aBadTurner aNotOne aContradiction aBadAnswer aNoQuestion aBadSheet) (D_law_kinds : DefG P w K mg base CX0 1 "_law_kinds" ["error"] (spKinds K [aBadLetters, aBadRule, aBadNumber, aBadName, aTooDeep, aBadMachine, aTooMany, aTooGreat, aNotLeast, aNoWord, aNothingToUndo, aNothingToRedo, aBadTurner, aNotOne, aBadAnswer, aNoQuestion, aBadSheet, aBadWord, aBadSize, aUnknownName, aInUse, aRing, aBadEntry, aContradiction, aBadText])) (D_law_letters : DefG P w K mg base CX0 2 "_law_letters" ["pool", "most"] (spLetters)) (D_law_pick : DefG P w K mg base CX0 1 "_law_pick" ["pool", "many"] (spPick)) (D_law_stream : DefG P w K mg base CX0 2 "_law_stream" ["script"] (spStream K)) : FnG P w K mg base CX0 3 f fd ["script"] (spLaw K) := by
  refine FnG.calm F sc_law (fun vs H Q E h => by first | (obtain ⟨_, rfl, _⟩ := h; rfl) | (obtain ⟨_, _, rfl, _⟩ := h; rfl) | (obtain ⟨_, _, _, rfl, _⟩ := h; rfl) | (obtain ⟨_, _, _, _, rfl, _⟩ := h; rfl) | (obtain ⟨_, _, _, _, _, rfl, _⟩ := h; rfl) | (obtain ⟨_, _, _, _, _, _, rfl, _⟩ := h; rfl) | (obtain ⟨_, _, _, _, _, _, _, rfl, _⟩ := h; rfl) | (obtain ⟨_, _, _, _, _, _, _, _, rfl, _⟩ := h; rfl)) (fun cd A out z H vs Q E hg hr h => ?_)
  have nd := sc_law.nd
  obtain ⟨a, ns, rfl, hS, hl, q⟩ := h
  refine ⟨_, (pss_cons (ps_set (i := 1) nd rfl (by first | exact Or.inl rfl | exact Or.inr rfl) (pe_fn D_law_stream hg (hr.mono (by decide)) (pa_cons (pv 0) pa_nil)))
    (pss_cons (ps_set (i := 2) nd rfl (by first | exact Or.inl rfl | exact Or.inr rfl) (pe_fn D_law_letters hg (hr.mono (by decide)) (pa_cons (pv 1) (pa_cons pe_int pa_nil))))
    (pss_cons (ps_par3 (i := 3) (j := 4) (l := 5) (by rfl) nd rfl rfl rfl (by decide) (by decide) (by decide) rfl rfl rfl (pa_cons (pe_fn D_law_pick hg (hr.mono (by decide)) (pa_cons (pv 1) (pa_cons pe_int pa_nil))) (pa_cons (pe_op op_add pe_int (pe_fn D_law_pick hg (hr.mono (by decide)) (pa_cons (pv 1) (pa_cons pe_int pa_nil)))) (pa_cons (pe_op op_add_str (pv 2) (pe_callTy call_str_int (by rfl) T.m_str (by decide +kernel) (pa_cons (pe_fn D_law_pick hg (hr.mono (by decide)) (pa_cons (pv 1) (pa_cons pe_int pa_nil))) pa_nil))) pa_nil))) (by rfl))
    (pss_cons (ps_set (i := 6) nd rfl (by first | exact Or.inl rfl | exact Or.inr rfl) (pe_lst (pa_cons (pe_new0 C.e_BadLetters C.g_BadLetters C.x_BadLetters.kp) (pa_cons (pe_new0 C.e_BadRule C.g_BadRule C.x_BadRule.kp) (pa_cons (pe_new0 C.e_BadNumber C.g_BadNumber C.x_BadNumber.kp) (pa_cons (pe_new0 C.e_BadName C.g_BadName C.x_BadName.kp) (pa_cons (pe_new0 C.e_TooDeep C.g_TooDeep C.x_TooDeep.kp) (pa_cons (pe_new0 C.e_BadMachine C.g_BadMachine C.x_BadMachine.kp) (pa_cons (pe_new0 C.e_TooMany C.g_TooMany C.x_TooMany.kp) (pa_cons (pe_new0 C.e_TooGreat C.g_TooGreat C.x_TooGreat.kp) (pa_cons (pe_new0 C.e_NotLeast C.g_NotLeast C.x_NotLeast.kp) (pa_cons (pe_new0 C.e_NoWord C.g_NoWord C.x_NoWord.kp) pa_nil))))))))))))
    (pss_cons (ps_set (i := 6) nd rfl (by first | exact Or.inl rfl | exact Or.inr rfl) (pe_op op_cat (pv 6) (pe_lst (pa_cons (pe_new0 C.e_NothingToUndo C.g_NothingToUndo C.x_NothingToUndo.kp) (pa_cons (pe_new0 C.e_NothingToRedo C.g_NothingToRedo C.x_NothingToRedo.kp) (pa_cons (pe_new0 C.e_BadTurner C.g_BadTurner C.x_BadTurner.kp) (pa_cons (pe_new0 C.e_NotOne C.g_NotOne C.x_NotOne.kp) (pa_cons (pe_new0 C.e_BadAnswer C.g_BadAnswer C.x_BadAnswer.kp) (pa_cons (pe_new0 C.e_NoQuestion C.g_NoQuestion C.x_NoQuestion.kp) (pa_cons (pe_new0 C.e_BadSheet C.g_BadSheet C.x_BadSheet.kp) pa_nil))))))))))
    (pss_cons (ps_set (i := 6) nd rfl (by first | exact Or.inl rfl | exact Or.inr rfl) (pe_op op_cat (pv 6) (pe_lst (pa_cons (pe_newF C.M_BadWord (hr.mono (by decide)) (pa_cons (pv 3) pa_nil)) (pa_cons (pe_newF C.M_BadSize (hr.mono (by decide)) (pa_cons (pv 4) pa_nil)) (pa_cons (pe_newF C.M_UnknownName (hr.mono (by decide)) (pa_cons (pv 5) pa_nil)) (pa_cons (pe_newF C.M_InUse (hr.mono (by decide)) (pa_cons (pv 5) pa_nil)) (pa_cons (pe_newF C.M_Ring (hr.mono (by decide)) (pa_cons (pv 5) pa_nil)) (pa_cons (pe_newF C.M_BadEntry (hr.mono (by decide)) (pa_cons (pv 3) pa_nil)) (pa_cons (pe_newF C.M_Contradiction (hr.mono (by decide)) (pa_cons (pv 2) pa_nil)) (pa_cons (pe_newF C.M_BadText (hr.mono (by decide)) (pa_cons (pv 3) (pa_cons (pv 4) pa_nil))) pa_nil)))))))))))
    (pss_cons (ps_for PassesOwn.never rfl (pi_range1 (by rfl) T.m_range (pa_cons (pe_callB (lenQ K) (by rfl) T.m_len PySem.boot_len (pa_cons (pv 6) pa_nil)) pa_nil)) (pg_name (i := 7) nd rfl (by first | exact Or.inl rfl | exact Or.inr rfl))
    (pss_cons (ps_if (PW.pt (pw_or (pt_not (pt_val (pe_callB (isEV K) (by rfl) T.m_isinstance (by decide +kernel) (pa_cons (pe_ix (ixL K) (pv 6) (pv 7) (fun _ _ => rfl)) (pa_cons (pe_glob (v := .ref aHallError) rfl C.g_HallError rfl) pa_nil))))) (pw_or1 (pt_not (pt_val (pe_callB (isEV K) (by rfl) T.m_isinstance (by decide +kernel) (pa_cons (pe_ix (ixL K) (pv 6) (pv 7) (fun _ _ => rfl)) (pa_cons (pe_bltn (v := .ty "ValueError") (by rfl) T.m_ValueError (by decide +kernel) rfl) pa_nil)))))))) (pss_one (ps_ret pe_bl)) pss_nil)
      (pss_one (ps_if (pt_cmpR (op_neD hr.units) (pe_fn D_law_kinds hg (hr.mono (by decide)) (pa_cons (pe_ix (ixL K) (pv 6) (pv 7) (fun _ _ => rfl)) pa_nil)) (pe_lc (own := [("n", 8)]) (tt := tYes) (g := gName 8) rfl nd (pi_range1 (by rfl) T.m_range (pa_cons (pe_callB (lenQ K) (by rfl) T.m_len PySem.boot_len (pa_cons (pv 6) pa_nil)) pa_nil)) (blkOk_by (by kernel_rfl)) (fun _ _ _ _ _ => (pg_name (i := 8) nd rfl (by first | exact Or.inl rfl | exact Or.inr rfl))) (fun _ _ _ _ _ => pts_nil) (fun _ _ _ _ _ => (pe_cmpR op_eq (pv 8) (pv 7) (nomark _)))) (nomark _)) (pss_one (ps_ret pe_bl)) pss_nil))))
    (pss_cons (ps_if (pt_cmpR (op_neD hr.units) (pe_lst (pa_cons (pe_ef K (pe_ix (ixL K) (pv 6) pe_int (fun _ _ => rfl))) (pa_cons (pe_ef K (pe_ix (ixL K) (pv 6) pe_int (fun _ _ => rfl))) (pa_cons (pe_ef K (pe_ix (ixL K) (pv 6) pe_int (fun _ _ => rfl))) pa_nil)))) (pe_lst (pa_cons (pv 3) (pa_cons (pv 4) (pa_cons (pv 3) pa_nil)))) (nomark _)) (pss_one (ps_ret pe_bl)) pss_nil)
    (pss_cons (ps_if (pt_cmpR (op_neD hr.units) (pe_lst (pa_cons (pe_ef K (pe_ix (ixL K) (pv 6) pe_int (fun _ _ => rfl))) (pa_cons (pe_ef K (pe_ix (ixL K) (pv 6) pe_int (fun _ _ => rfl))) (pa_cons (pe_ef K (pe_ix (ixL K) (pv 6) pe_int (fun _ _ => rfl))) (pa_cons (pe_ef K (pe_ix (ixL K) (pv 6) pe_int (fun _ _ => rfl))) pa_nil))))) (pe_lst (pa_cons (pv 5) (pa_cons (pv 5) (pa_cons (pv 5) (pa_cons (pv 2) pa_nil))))) (nomark _)) (pss_one (ps_ret pe_bl)) pss_nil)
    (pss_cons (ps_set (i := 9) nd rfl (by first | exact Or.inl rfl | exact Or.inr rfl) (pe_new0 C.e_HallError C.g_HallError C.x_HallError.kp))
    (pss_one (ps_ret (pe_and (pe_cmpR (op_eqD hr.units) (pe_lst (pa_cons (pe_ef K (pe_ix (ixL K) (pv 6) pe_int (fun _ _ => rfl))) (pa_cons (pe_ef K (pe_ix (ixL K) (pv 6) pe_int (fun _ _ => rfl))) pa_nil))) (pe_lst (pa_cons (pv 3) (pa_cons (pv 4) pa_nil))) (nomark _)) (pe_and (pe_not (pe_callB (anyQ K rfl) (by rfl) T.m_any (by decide +kernel) (pa_cons (pe_fn D_law_kinds hg (hr.mono (by decide)) (pa_cons (pv 9) pa_nil)) pa_nil))) (pe_one (pe_callB (isEV K) (by rfl) T.m_isinstance (by decide +kernel) (pa_cons (pv 9) (pa_cons (pe_bltn (v := .ty "ValueError") (by rfl) T.m_ValueError (by decide +kernel) rfl) pa_nil)))))))))))))))))), ?_⟩
  refine ⟨.ref a, rfl, a, ns, rfl, hS, hl, fun H1 pa st1 npa po1 => ?_⟩
  refine ⟨.ref pa, rfl, pa, 6, rfl, po1, by decide, by decide, fun l H2 IL _ s2 P2 => ?_⟩
  refine ⟨.ref pa, rfl, pa, 60, rfl, P2.ok, by decide, by decide, fun k1 H3 a1 b1 _ s3 P3 => ?_⟩
  refine ⟨.ref pa, rfl, pa, 60, rfl, P3.ok, by decide, by decide, fun k2 H4 a2 b2 _ s4 P4 => ⟨_, _, rfl, rfl, ?_⟩⟩
  refine ⟨_, rfl, .ref pa, rfl, pa, 60, rfl, P4.ok, by decide, by decide, fun k3 H5 a3 b3 _ s5 P5 => ?_⟩
  obtain ⟨n3, rfl⟩ := Int.eq_ofNat_of_zero_le a3
  obtain ⟨ok3, len3⟩ := strOk_60 n3 (by omega)
  have okl : PyData.strOk (strOf l) = true := strOk_of fun c hc => by have := IL.abc c hc; omega
  have okn := strOk_app okl ok3
  have lenl : (strOf l).length ≤ 6 := by rw [strOf_len]; exact IL.six
  refine ⟨(n3 : Nat), rfl, ?_, _, _, rfl, rfl, ?_⟩
  · show ((n3 : Nat) : Int).natAbs.log2 < 1920
    exact Nat.lt_of_le_of_lt (Nat.log2_le_self _) (by show ((n3 : Nat) : Int).natAbs < 1920; omega)
  refine ⟨by show (strOf l).length + (Str.ofString (toString ((n3 : Nat) : Int))).length ≤ sizeLine; exact sz (by omega), ?_⟩
  refine ⟨_, _, _, rfl, ?_⟩
  generalize strOf l ++ Str.ofString (toString ((n3 : Nat) : Int)) = nm at okn ⊢
  generalize strOf l = lt at okl lenl ⊢
  generalize H5 = G0
  refine fun x0 y0 => ?_
  have c1 := same_new (o := exo x0 aBadLetters none) (Same.refl G0) y0
  have r0 : Err (upd G0 x0 (exo x0 aBadLetters none)) x0 aBadLetters [] := .inl ⟨rfl, upd_same⟩
  generalize upd G0 x0 (exo x0 aBadLetters none) = G1 at c1 r0 ⊢
  refine fun x1 y1 => ?_
  have c2 := same_new (o := exo x1 aBadRule none) (Same.refl G1) y1
  have r1 : Err (upd G1 x1 (exo x1 aBadRule none)) x1 aBadRule [] := .inl ⟨rfl, upd_same⟩
  generalize upd G1 x1 (exo x1 aBadRule none) = G2 at c2 r1 ⊢
  refine fun x2 y2 => ?_
  have c3 := same_new (o := exo x2 aBadNumber none) (Same.refl G2) y2
  have r2 : Err (upd G2 x2 (exo x2 aBadNumber none)) x2 aBadNumber [] := .inl ⟨rfl, upd_same⟩
  generalize upd G2 x2 (exo x2 aBadNumber none) = G3 at c3 r2 ⊢
  refine fun x3 y3 => ?_
  have c4 := same_new (o := exo x3 aBadName none) (Same.refl G3) y3
  have r3 : Err (upd G3 x3 (exo x3 aBadName none)) x3 aBadName [] := .inl ⟨rfl, upd_same⟩
  generalize upd G3 x3 (exo x3 aBadName none) = G4 at c4 r3 ⊢
  refine fun x4 y4 => ?_
  have c5 := same_new (o := exo x4 aTooDeep none) (Same.refl G4) y4
  have r4 : Err (upd G4 x4 (exo x4 aTooDeep none)) x4 aTooDeep [] := .inl ⟨rfl, upd_same⟩
  generalize upd G4 x4 (exo x4 aTooDeep none) = G5 at c5 r4 ⊢
  refine fun x5 y5 => ?_
  have c6 := same_new (o := exo x5 aBadMachine none) (Same.refl G5) y5
  have r5 : Err (upd G5 x5 (exo x5 aBadMachine none)) x5 aBadMachine [] := .inl ⟨rfl, upd_same⟩
  generalize upd G5 x5 (exo x5 aBadMachine none) = G6 at c6 r5 ⊢
  refine fun x6 y6 => ?_
  have c7 := same_new (o := exo x6 aTooMany none) (Same.refl G6) y6
  have r6 : Err (upd G6 x6 (exo x6 aTooMany none)) x6 aTooMany [] := .inl ⟨rfl, upd_same⟩
  generalize upd G6 x6 (exo x6 aTooMany none) = G7 at c7 r6 ⊢
  refine fun x7 y7 => ?_
  have c8 := same_new (o := exo x7 aTooGreat none) (Same.refl G7) y7
  have r7 : Err (upd G7 x7 (exo x7 aTooGreat none)) x7 aTooGreat [] := .inl ⟨rfl, upd_same⟩
  generalize upd G7 x7 (exo x7 aTooGreat none) = G8 at c8 r7 ⊢
  refine fun x8 y8 => ?_
  have c9 := same_new (o := exo x8 aNotLeast none) (Same.refl G8) y8
  have r8 : Err (upd G8 x8 (exo x8 aNotLeast none)) x8 aNotLeast [] := .inl ⟨rfl, upd_same⟩
  generalize upd G8 x8 (exo x8 aNotLeast none) = G9 at c9 r8 ⊢
  refine fun x9 y9 => ?_
  have c10 := same_new (o := exo x9 aNoWord none) (Same.refl G9) y9
  have r9 : Err (upd G9 x9 (exo x9 aNoWord none)) x9 aNoWord [] := .inl ⟨rfl, upd_same⟩
  generalize upd G9 x9 (exo x9 aNoWord none) = G10 at c10 r9 ⊢
  refine ⟨by show 10 ≤ sizeLine; decide, fun p1 np1 => ?_⟩
  have c11 := same_new (o := .lst [V.ref x0, V.ref x1, V.ref x2, V.ref x3, V.ref x4, V.ref x5, V.ref x6, V.ref x7, V.ref x8, V.ref x9]) (Same.refl G10) np1
  have ep1 : upd G10 p1 (.lst [V.ref x0, V.ref x1, V.ref x2, V.ref x3, V.ref x4, V.ref x5, V.ref x6, V.ref x7, V.ref x8, V.ref x9]) p1 = some (.lst [V.ref x0, V.ref x1, V.ref x2, V.ref x3, V.ref x4, V.ref x5, V.ref x6, V.ref x7, V.ref x8, V.ref x9]) := upd_same
  generalize upd G10 p1 (.lst [V.ref x0, V.ref x1, V.ref x2, V.ref x3, V.ref x4, V.ref x5, V.ref x6, V.ref x7, V.ref x8, V.ref x9]) = G11 at c11 ep1 ⊢
  refine ⟨.ref p1, rfl, ?_⟩
  refine fun x10 y10 => ?_
  have c12 := same_new (o := exo x10 aNothingToUndo none) (Same.refl G11) y10
  have r10 : Err (upd G11 x10 (exo x10 aNothingToUndo none)) x10 aNothingToUndo [] := .inl ⟨rfl, upd_same⟩
  generalize upd G11 x10 (exo x10 aNothingToUndo none) = G12 at c12 r10 ⊢
  refine fun x11 y11 => ?_
  have c13 := same_new (o := exo x11 aNothingToRedo none) (Same.refl G12) y11
  have r11 : Err (upd G12 x11 (exo x11 aNothingToRedo none)) x11 aNothingToRedo [] := .inl ⟨rfl, upd_same⟩
  generalize upd G12 x11 (exo x11 aNothingToRedo none) = G13 at c13 r11 ⊢
  refine fun x12 y12 => ?_
  have c14 := same_new (o := exo x12 aBadTurner none) (Same.refl G13) y12
  have r12 : Err (upd G13 x12 (exo x12 aBadTurner none)) x12 aBadTurner [] := .inl ⟨rfl, upd_same⟩
  generalize upd G13 x12 (exo x12 aBadTurner none) = G14 at c14 r12 ⊢
  refine fun x13 y13 => ?_
  have c15 := same_new (o := exo x13 aNotOne none) (Same.refl G14) y13
  have r13 : Err (upd G14 x13 (exo x13 aNotOne none)) x13 aNotOne [] := .inl ⟨rfl, upd_same⟩
  generalize upd G14 x13 (exo x13 aNotOne none) = G15 at c15 r13 ⊢
  refine fun x14 y14 => ?_
  have c16 := same_new (o := exo x14 aBadAnswer none) (Same.refl G15) y14
  have r14 : Err (upd G15 x14 (exo x14 aBadAnswer none)) x14 aBadAnswer [] := .inl ⟨rfl, upd_same⟩
  generalize upd G15 x14 (exo x14 aBadAnswer none) = G16 at c16 r14 ⊢
  refine fun x15 y15 => ?_
  have c17 := same_new (o := exo x15 aNoQuestion none) (Same.refl G16) y15
  have r15 : Err (upd G16 x15 (exo x15 aNoQuestion none)) x15 aNoQuestion [] := .inl ⟨rfl, upd_same⟩
  generalize upd G16 x15 (exo x15 aNoQuestion none) = G17 at c17 r15 ⊢
  refine fun x16 y16 => ?_
  have c18 := same_new (o := exo x16 aBadSheet none) (Same.refl G17) y16
  have r16 : Err (upd G17 x16 (exo x16 aBadSheet none)) x16 aBadSheet [] := .inl ⟨rfl, upd_same⟩
  generalize upd G17 x16 (exo x16 aBadSheet none) = G18 at c18 r16 ⊢
  refine ⟨by show 7 ≤ sizeLine; decide, fun p2 np2 => ?_⟩
  have c19 := same_new (o := .lst [V.ref x10, V.ref x11, V.ref x12, V.ref x13, V.ref x14, V.ref x15, V.ref x16]) (Same.refl G18) np2
  have ep2 : upd G18 p2 (.lst [V.ref x10, V.ref x11, V.ref x12, V.ref x13, V.ref x14, V.ref x15, V.ref x16]) p2 = some (.lst [V.ref x10, V.ref x11, V.ref x12, V.ref x13, V.ref x14, V.ref x15, V.ref x16]) := upd_same
  generalize upd G18 p2 (.lst [V.ref x10, V.ref x11, V.ref x12, V.ref x13, V.ref x14, V.ref x15, V.ref x16]) = G19 at c19 ep2 ⊢
  refine ⟨p1, p2, [V.ref x0, V.ref x1, V.ref x2, V.ref x3, V.ref x4, V.ref x5, V.ref x6, V.ref x7, V.ref x8, V.ref x9], [V.ref x10, V.ref x11, V.ref x12, V.ref x13, V.ref x14, V.ref x15, V.ref x16], rfl, rfl, (c19 _ _ (c18 _ _ (c17 _ _ (c16 _ _ (c15 _ _ (c14 _ _ (c13 _ _ (c12 _ _ ep1)))))))), ep2, (by show 17 ≤ sizeLine; decide), fun p3 np3 => ?_⟩
  have c20 := same_new (o := .lst ([V.ref x0, V.ref x1, V.ref x2, V.ref x3, V.ref x4, V.ref x5, V.ref x6, V.ref x7, V.ref x8, V.ref x9] ++ [V.ref x10, V.ref x11, V.ref x12, V.ref x13, V.ref x14, V.ref x15, V.ref x16])) (Same.refl G19) np3
  have ep3 : (upd G19 p3 (.lst ([V.ref x0, V.ref x1, V.ref x2, V.ref x3, V.ref x4, V.ref x5, V.ref x6, V.ref x7, V.ref x8, V.ref x9] ++ [V.ref x10, V.ref x11, V.ref x12, V.ref x13, V.ref x14, V.ref x15, V.ref x16]))) p3 = some (.lst [V.ref x0, V.ref x1, V.ref x2, V.ref x3, V.ref x4, V.ref x5, V.ref x6, V.ref x7, V.ref x8, V.ref x9, V.ref x10, V.ref x11, V.ref x12, V.ref x13, V.ref x14, V.ref x15, V.ref x16]) := upd_same
  generalize upd G19 p3 (.lst ([V.ref x0, V.ref x1, V.ref x2, V.ref x3, V.ref x4, V.ref x5, V.ref x6, V.ref x7, V.ref x8, V.ref x9] ++ [V.ref x10, V.ref x11, V.ref x12, V.ref x13, V.ref x14, V.ref x15, V.ref x16])) = G20 at c20 ep3 ⊢
  refine ⟨.ref p3, rfl, ?_⟩
  refine ⟨_, rfl, rfl, by show 1 ≤ 1000; decide, fun x17 d17 G21 y17 yd17 nd17 ea17 ed17 hk17 => ?_⟩
  have c21 := same_mk y17 yd17 hk17
  have r17 : Err G21 x17 aBadWord [("place", V.int k1)] := .inr ⟨d17, ea17, ed17⟩
  refine ⟨_, rfl, rfl, by show 1 ≤ 1000; decide, fun x18 d18 G22 y18 yd18 nd18 ea18 ed18 hk18 => ?_⟩
  have c22 := same_mk y18 yd18 hk18
  have r18 : Err G22 x18 aBadSize [("size", V.int (100 + k2))] := .inr ⟨d18, ea18, ed18⟩
  refine ⟨_, rfl, rfl, by show 1 ≤ 1000; decide, fun x19 d19 G23 y19 yd19 nd19 ea19 ed19 hk19 => ?_⟩
  have c23 := same_mk y19 yd19 hk19
  have r19 : Err G23 x19 aUnknownName [("name", V.str nm)] := .inr ⟨d19, ea19, ed19⟩
  refine ⟨_, rfl, rfl, by show 1 ≤ 1000; decide, fun x20 d20 G24 y20 yd20 nd20 ea20 ed20 hk20 => ?_⟩
  have c24 := same_mk y20 yd20 hk20
  have r20 : Err G24 x20 aInUse [("name", V.str nm)] := .inr ⟨d20, ea20, ed20⟩
  refine ⟨_, rfl, rfl, by show 1 ≤ 1000; decide, fun x21 d21 G25 y21 yd21 nd21 ea21 ed21 hk21 => ?_⟩
  have c25 := same_mk y21 yd21 hk21
  have r21 : Err G25 x21 aRing [("name", V.str nm)] := .inr ⟨d21, ea21, ed21⟩
  refine ⟨_, rfl, rfl, by show 1 ≤ 1000; decide, fun x22 d22 G26 y22 yd22 nd22 ea22 ed22 hk22 => ?_⟩
  have c26 := same_mk y22 yd22 hk22
  have r22 : Err G26 x22 aBadEntry [("place", V.int k1)] := .inr ⟨d22, ea22, ed22⟩
  refine ⟨_, rfl, rfl, by show 1 ≤ 1000; decide, fun x23 d23 G27 y23 yd23 nd23 ea23 ed23 hk23 => ?_⟩
  have c27 := same_mk y23 yd23 hk23
  have r23 : Err G27 x23 aContradiction [("word", V.str lt)] := .inr ⟨d23, ea23, ed23⟩
  refine ⟨_, rfl, _, rfl, rfl, by show 2 ≤ 1000; decide, fun x24 d24 G28 y24 yd24 nd24 ea24 ed24 hk24 => ?_⟩
  have c28 := same_mk y24 yd24 hk24
  have r24 : Err G28 x24 aBadText [("column", V.int (100 + k2)), ("line", V.int k1)] := .inr ⟨d24, ea24, ed24⟩
  refine ⟨by show 8 ≤ sizeLine; decide, fun p4 np4 => ?_⟩
  have c29 := same_new (o := .lst [V.ref x17, V.ref x18, V.ref x19, V.ref x20, V.ref x21, V.ref x22, V.ref x23, V.ref x24]) (Same.refl G28) np4
  have ep4 : upd G28 p4 (.lst [V.ref x17, V.ref x18, V.ref x19, V.ref x20, V.ref x21, V.ref x22, V.ref x23, V.ref x24]) p4 = some (.lst [V.ref x17, V.ref x18, V.ref x19, V.ref x20, V.ref x21, V.ref x22, V.ref x23, V.ref x24]) := upd_same
  generalize upd G28 p4 (.lst [V.ref x17, V.ref x18, V.ref x19, V.ref x20, V.ref x21, V.ref x22, V.ref x23, V.ref x24]) = G29 at c29 ep4 ⊢
  refine ⟨p3, p4, [V.ref x0, V.ref x1, V.ref x2, V.ref x3, V.ref x4, V.ref x5, V.ref x6, V.ref x7, V.ref x8, V.ref x9, V.ref x10, V.ref x11, V.ref x12, V.ref x13, V.ref x14, V.ref x15, V.ref x16], [V.ref x17, V.ref x18, V.ref x19, V.ref x20, V.ref x21, V.ref x22, V.ref x23, V.ref x24], rfl, rfl, (c29 _ _ (c28 _ _ (c27 _ _ (c26 _ _ (c25 _ _ (c24 _ _ (c23 _ _ (c22 _ _ (c21 _ _ ep3))))))))), ep4, (by show 25 ≤ sizeLine; decide), fun p5 np5 => ?_⟩
  have c30 := same_new (o := .lst ([V.ref x0, V.ref x1, V.ref x2, V.ref x3, V.ref x4, V.ref x5, V.ref x6, V.ref x7, V.ref x8, V.ref x9, V.ref x10, V.ref x11, V.ref x12, V.ref x13, V.ref x14, V.ref x15, V.ref x16] ++ [V.ref x17, V.ref x18, V.ref x19, V.ref x20, V.ref x21, V.ref x22, V.ref x23, V.ref x24])) (Same.refl G29) np5
  have ep5 : (upd G29 p5 (.lst ([V.ref x0, V.ref x1, V.ref x2, V.ref x3, V.ref x4, V.ref x5, V.ref x6, V.ref x7, V.ref x8, V.ref x9, V.ref x10, V.ref x11, V.ref x12, V.ref x13, V.ref x14, V.ref x15, V.ref x16] ++ [V.ref x17, V.ref x18, V.ref x19, V.ref x20, V.ref x21, V.ref x22, V.ref x23, V.ref x24]))) p5 = some (.lst [V.ref x0, V.ref x1, V.ref x2, V.ref x3, V.ref x4, V.ref x5, V.ref x6, V.ref x7, V.ref x8, V.ref x9, V.ref x10, V.ref x11, V.ref x12, V.ref x13, V.ref x14, V.ref x15, V.ref x16, V.ref x17, V.ref x18, V.ref x19, V.ref x20, V.ref x21, V.ref x22, V.ref x23, V.ref x24]) := upd_same
  generalize upd G29 p5 (.lst ([V.ref x0, V.ref x1, V.ref x2, V.ref x3, V.ref x4, V.ref x5, V.ref x6, V.ref x7, V.ref x8, V.ref x9, V.ref x10, V.ref x11, V.ref x12, V.ref x13, V.ref x14, V.ref x15, V.ref x16] ++ [V.ref x17, V.ref x18, V.ref x19, V.ref x20, V.ref x21, V.ref x22, V.ref x23, V.ref x24])) = G30 at c30 ep5 ⊢
  have f30 : Same G30 G30 := Same.refl _
  have f29 : Same G29 G30 := c30.trans f30
  have f28 : Same G28 G30 := c29.trans f29
  have f27 : Same G27 G30 := c28.trans f28
  have f26 : Same G26 G30 := c27.trans f27
  have f25 : Same G25 G30 := c26.trans f26
  have f24 : Same G24 G30 := c25.trans f25
  have f23 : Same G23 G30 := c24.trans f24
  have f22 : Same G22 G30 := c23.trans f23
  have f21 : Same G21 G30 := c22.trans f22
  have f20 : Same G20 G30 := c21.trans f21
  have f19 : Same G19 G30 := c20.trans f20
  have f18 : Same G18 G30 := c19.trans f19
  have f17 : Same G17 G30 := c18.trans f18
  have f16 : Same G16 G30 := c17.trans f17
  have f15 : Same G15 G30 := c16.trans f16
  have f14 : Same G14 G30 := c15.trans f15
  have f13 : Same G13 G30 := c14.trans f14
  have f12 : Same G12 G30 := c13.trans f13
  have f11 : Same G11 G30 := c12.trans f12
  have f10 : Same G10 G30 := c11.trans f11
  have f9 : Same G9 G30 := c10.trans f10
  have f8 : Same G8 G30 := c9.trans f9
  have f7 : Same G7 G30 := c8.trans f8
  have f6 : Same G6 G30 := c7.trans f7
  have f5 : Same G5 G30 := c6.trans f6
  have f4 : Same G4 G30 := c5.trans f5
  have f3 : Same G3 G30 := c4.trans f4
  have f2 : Same G2 G30 := c3.trans f3
  have f1 : Same G1 G30 := c2.trans f2
  have r0 := r0.up f1
  have r1 := r1.up f2
  have r2 := r2.up f3
  have r3 := r3.up f4
  have r4 := r4.up f5
  have r5 := r5.up f6
  have r6 := r6.up f7
  have r7 := r7.up f8
  have r8 := r8.up f9
  have r9 := r9.up f10
  have r10 := r10.up f12
  have r11 := r11.up f13
  have r12 := r12.up f14
  have r13 := r13.up f15
  have r14 := r14.up f16
  have r15 := r15.up f17
  have r16 := r16.up f18
  have r17 := r17.up f21
  have r18 := r18.up f22
  have r19 := r19.up f23
  have r20 := r20.up f24
  have r21 := r21.up f25
  have r22 := r22.up f26
  have r23 := r23.up f27
  have r24 := r24.up f28
  have tall : ∀ (i : Nat) (x : Addr), [x0, x1, x2, x3, x4, x5, x6, x7, x8, x9, x10, x11, x12, x13, x14, x15, x16, x17, x18, x19, x20, x21, x22, x23, x24][i]? = some x → Told1 K [aBadLetters, aBadRule, aBadNumber, aBadName, aTooDeep, aBadMachine, aTooMany, aTooGreat, aNotLeast, aNoWord, aNothingToUndo, aNothingToRedo, aBadTurner, aNotOne, aBadAnswer, aNoQuestion, aBadSheet, aBadWord, aBadSize, aUnknownName, aInUse, aRing, aBadEntry, aContradiction, aBadText] aHallError G30 x (0 + i) :=
    told_cons (told_mk r0 C.x_BadLetters C.q_BadLetters C.r_BadLetters (by decide)) (told_cons (told_mk r1 C.x_BadRule C.q_BadRule C.r_BadRule (by decide)) (told_cons (told_mk r2 C.x_BadNumber C.q_BadNumber C.r_BadNumber (by decide)) (told_cons (told_mk r3 C.x_BadName C.q_BadName C.r_BadName (by decide)) (told_cons (told_mk r4 C.x_TooDeep C.q_TooDeep C.r_TooDeep (by decide)) (told_cons (told_mk r5 C.x_BadMachine C.q_BadMachine C.r_BadMachine (by decide)) (told_cons (told_mk r6 C.x_TooMany C.q_TooMany C.r_TooMany (by decide)) (told_cons (told_mk r7 C.x_TooGreat C.q_TooGreat C.r_TooGreat (by decide)) (told_cons (told_mk r8 C.x_NotLeast C.q_NotLeast C.r_NotLeast (by decide)) (told_cons (told_mk r9 C.x_NoWord C.q_NoWord C.r_NoWord (by decide)) (told_cons (told_mk r10 C.x_NothingToUndo C.q_NothingToUndo C.r_NothingToUndo (by decide)) (told_cons (told_mk r11 C.x_NothingToRedo C.q_NothingToRedo C.r_NothingToRedo (by decide)) (told_cons (told_mk r12 C.x_BadTurner C.q_BadTurner C.r_BadTurner (by decide)) (told_cons (told_mk r13 C.x_NotOne C.q_NotOne C.r_NotOne (by decide)) (told_cons (told_mk r14 C.x_BadAnswer C.q_BadAnswer C.r_BadAnswer (by decide)) (told_cons (told_mk r15 C.x_NoQuestion C.q_NoQuestion C.r_NoQuestion (by decide)) (told_cons (told_mk r16 C.x_BadSheet C.q_BadSheet C.r_BadSheet (by decide)) (told_cons (told_mk r17 C.x_BadWord C.q_BadWord C.r_BadWord (by decide)) (told_cons (told_mk r18 C.x_BadSize C.q_BadSize C.r_BadSize (by decide)) (told_cons (told_mk r19 C.x_UnknownName C.q_UnknownName C.r_UnknownName (by decide)) (told_cons (told_mk r20 C.x_InUse C.q_InUse C.r_InUse (by decide)) (told_cons (told_mk r21 C.x_Ring C.q_Ring C.r_Ring (by decide)) (told_cons (told_mk r22 C.x_BadEntry C.q_BadEntry C.r_BadEntry (by decide)) (told_cons (told_mk r23 C.x_Contradiction C.q_Contradiction C.r_Contradiction (by decide)) (told_cons (told_mk r24 C.x_BadText C.q_BadText C.r_BadText (by decide)) (told_nil)))))))))))))))))))))))))
  have ep : G30 p5 = some (.lst ([x0, x1, x2, x3, x4, x5, x6, x7, x8, x9, x10, x11, x12, x13, x14, x15, x16, x17, x18, x19, x20, x21, x22, x23, x24].map V.ref)) := ep5
  generalize hxs : [x0, x1, x2, x3, x4, x5, x6, x7, x8, x9, x10, x11, x12, x13, x14, x15, x16, x17, x18, x19, x20, x21, x22, x23, x24] = as at tall ep
  refine ⟨.ref p5, rfl, p5, _, rfl, .inl (SqL.of ep), 25, by rw [← hxs]; rfl, by decide, by decide, ?_⟩
  refine for_range (lo := 0) (n := 25) (fun i σ H1 => Same G30 H1 ∧ ∃ (y7 y8 : Option V), σ = [some (.ref a), some (.ref pa), some (.str lt), some (.int k1), some (.int (100 + k2)), some (.str nm), some (.ref p5), y7, y8, none]) ⟨Same.refl _, none, none, rfl⟩ (fun i σ H1 hi hP => ?_) (fun σ H1 hP => ?_)
  · obtain ⟨sG, y7, y8, rfl⟩ := hP
    obtain ⟨x, hx⟩ : ∃ x, as[i]? = some x := ⟨_, List.getElem?_eq_getElem (by rw [← hxs]; exact hi)⟩
    obtain ⟨D, fs, er, xC, qE, qV, row⟩ := tall i x hx
    rw [Nat.zero_add] at row
    have er := er.up sG
    have ep := sG _ _ ep
    have hx' : atI (as.map V.ref) (0 + (i : Int)) = some (.ref x) := by rw [Int.zero_add]; exact atI_nat (getR hx)
    refine ⟨.ref p5, rfl, .int (0 + i), rfl, p5, _, _, .ref x, rfl, rfl, SqL.of ep, hx', x, D, fs, .ref aHallError, .ref aHallError, true, rfl, er, xC, (fun _ z => z), qE, ?_⟩
    refine ⟨true, rfl, iteNT ?_⟩
    refine ⟨.ref p5, rfl, .int (0 + i), rfl, p5, _, _, .ref x, rfl, rfl, SqL.of ep, hx', x, D, fs, .ty "ValueError", .type "ValueError", true, rfl, er, xC, (fun _ z => z), qV, ?_⟩
    refine ⟨true, rfl, iteNT ?_⟩
    refine ⟨.ref p5, rfl, .int (0 + i), rfl, p5, _, _, .ref x, rfl, rfl, SqL.of ep, hx', x, D, fs, _, rfl, er, xC, row, fun b H2 s2 nb eb => ?_⟩
    have ep2 := s2.same _ _ ep
    refine ⟨.ref p5, rfl, p5, _, rfl, .inl (SqL.of ep2), 25, by rw [← hxs]; rfl, by decide, by decide, fun Dl nDl => ?_⟩
    refine lc_map walkR (fun y => V.bl (decide (y = V.int (0 + (i : Nat))))) (fun _ => true) (by rw [lenR]; decide) (fun _ => trivial) (fun u y acc N hy fin _ => ?_) ?_
    · obtain ⟨_, rfl⟩ := rngI_at hy
      exact ⟨rfl, _, rfl, _, rfl, rfl, fin rfl⟩
    have sD : Same H2 (upd H2 Dl (.lst (((rngI 0 (Int.toNat 25)).filter fun _ => true).map fun y => V.bl (decide (y = V.int (0 + (i : Nat))))))) := same_new (Same.refl _) nDl
    have eD : (upd H2 Dl (.lst (((rngI 0 (Int.toNat 25)).filter fun _ => true).map fun y => V.bl (decide (y = V.int (0 + (i : Nat))))))) Dl = some (.lst (((List.range 25).map fun n => decide (n = i)).map V.bl)) := by rw [upd_same]; exact congrArg (fun l => some (HO.lst l)) (row_is i)
    generalize (upd H2 Dl (.lst (((rngI 0 (Int.toNat 25)).filter fun _ => true).map fun y => V.bl (decide (y = V.int (0 + (i : Nat))))))) = H3 at sD eD ⊢
    refine ⟨_, _, dp_of (Bdp (sD _ _ eb)), dp_of (Bdp eD), shaped_at (at_bools _), shaped_at (at_bools _), _, rfl, ?_⟩
    rw [eqv_at (at_bools _)]
    refine iteNT ?_
    exact ⟨sG.trans (s2.same.trans sD), _, _, rfl⟩
  · obtain ⟨sG, y7, y8, rfl⟩ := hP
    subst hxs
    have ep := sG _ _ ep
    refine ⟨.ref p5, rfl, p5, _, 17, .ref x17, rfl, rfl, SqL.of ep, rfl, x17, aBadWord, _, .int k1, rfl, r17.up sG, C.x_BadWord.is, C.n_BadWord.1, rfl, ?_⟩
    refine ⟨.ref p5, rfl, p5, _, 18, .ref x18, rfl, rfl, SqL.of ep, rfl, x18, aBadSize, _, .int (100 + k2), rfl, r18.up sG, C.x_BadSize.is, C.n_BadSize.1, rfl, ?_⟩
    refine ⟨.ref p5, rfl, p5, _, 22, .ref x22, rfl, rfl, SqL.of ep, rfl, x22, aBadEntry, _, .int k1, rfl, r22.up sG, C.x_BadEntry.is, C.n_BadEntry.1, rfl, ?_⟩
    refine ⟨by show 3 ≤ sizeLine; decide, fun mA nmA => ?_⟩
    refine ⟨_, rfl, _, rfl, _, rfl, by show 3 ≤ sizeLine; decide, fun qA nqA => ?_⟩
    have sA : Same H1 (upd (upd H1 mA (.lst [V.int k1, V.int (100 + k2), V.int k1])) qA (.lst [V.int k1, V.int (100 + k2), V.int k1])) := (same_new (Same.refl _) nmA).trans (same_new (Same.refl _) nqA)
    have emA : (upd (upd H1 mA (.lst [V.int k1, V.int (100 + k2), V.int k1])) qA (.lst [V.int k1, V.int (100 + k2), V.int k1])) mA = some (.lst [V.int k1, V.int (100 + k2), V.int k1]) := same_new (Same.refl _) nqA _ _ upd_same
    have eqA : (upd (upd H1 mA (.lst [V.int k1, V.int (100 + k2), V.int k1])) qA (.lst [V.int k1, V.int (100 + k2), V.int k1])) qA = some (.lst [V.int k1, V.int (100 + k2), V.int k1]) := upd_same
    generalize upd (upd H1 mA (.lst [V.int k1, V.int (100 + k2), V.int k1])) qA (.lst [V.int k1, V.int (100 + k2), V.int k1]) = KA at sA emA eqA ⊢
    refine ⟨.list (([k1, 100 + k2, k1] : List Int).map .int), .list (([k1, 100 + k2, k1] : List Int).map .int), dp_of (Idp (ns := [k1, 100 + k2, k1]) emA), dp_of (Idp (ns := [k1, 100 + k2, k1]) eqA), shaped_at (at_ints [k1, 100 + k2, k1]), shaped_at (at_ints [k1, 100 + k2, k1]), _, rfl, ?_⟩
    rw [eqv_at (at_ints [k1, 100 + k2, k1])]
    refine iteNT ?_
    have sA2 := sG.trans sA
    have ep := sA _ _ ep
    have ats := at_strs [nm, nm, nm, lt] (fun x hx => by
      simp only [List.mem_cons, List.not_mem_nil, or_false] at hx
      rcases hx with rfl | rfl | rfl | rfl
      · exact okn
      · exact okn
      · exact okn
      · exact okl)
    refine ⟨.ref p5, rfl, p5, _, 19, .ref x19, rfl, rfl, SqL.of ep, rfl, x19, aUnknownName, _, .str nm, rfl, r19.up sA2, C.x_UnknownName.is, C.n_UnknownName.1, rfl, ?_⟩
    refine ⟨.ref p5, rfl, p5, _, 20, .ref x20, rfl, rfl, SqL.of ep, rfl, x20, aInUse, _, .str nm, rfl, r20.up sA2, C.x_InUse.is, C.n_InUse.1, rfl, ?_⟩
    refine ⟨.ref p5, rfl, p5, _, 21, .ref x21, rfl, rfl, SqL.of ep, rfl, x21, aRing, _, .str nm, rfl, r21.up sA2, C.x_Ring.is, C.n_Ring.1, rfl, ?_⟩
    refine ⟨.ref p5, rfl, p5, _, 23, .ref x23, rfl, rfl, SqL.of ep, rfl, x23, aContradiction, _, .str lt, rfl, r23.up sA2, C.x_Contradiction.is, C.n_Contradiction.1, rfl, ?_⟩
    refine ⟨by show 4 ≤ sizeLine; decide, fun mB nmB => ?_⟩
    refine ⟨_, rfl, _, rfl, _, rfl, _, rfl, by show 4 ≤ sizeLine; decide, fun qB nqB => ?_⟩
    have sB : Same KA (upd (upd KA mB (.lst [V.str nm, V.str nm, V.str nm, V.str lt])) qB (.lst [V.str nm, V.str nm, V.str nm, V.str lt])) := (same_new (Same.refl _) nmB).trans (same_new (Same.refl _) nqB)
    have emB : (upd (upd KA mB (.lst [V.str nm, V.str nm, V.str nm, V.str lt])) qB (.lst [V.str nm, V.str nm, V.str nm, V.str lt])) mB = some (.lst [V.str nm, V.str nm, V.str nm, V.str lt]) := same_new (Same.refl _) nqB _ _ upd_same
    have eqB : (upd (upd KA mB (.lst [V.str nm, V.str nm, V.str nm, V.str lt])) qB (.lst [V.str nm, V.str nm, V.str nm, V.str lt])) qB = some (.lst [V.str nm, V.str nm, V.str nm, V.str lt]) := upd_same
    generalize upd (upd KA mB (.lst [V.str nm, V.str nm, V.str nm, V.str lt])) qB (.lst [V.str nm, V.str nm, V.str nm, V.str lt]) = KB at sB emB eqB ⊢
    refine ⟨.list ([nm, nm, nm, lt].map .str), .list ([nm, nm, nm, lt].map .str), dp_of (Sdp (ns := [nm, nm, nm, lt]) emB), dp_of (Sdp (ns := [nm, nm, nm, lt]) eqB), shaped_at (ats), shaped_at (ats), _, rfl, ?_⟩
    rw [eqv_at (ats)]
    refine iteNT ?_
    have sB2 := sA2.trans sB
    have ep := sB _ _ ep
    refine fun xb yb => ?_
    have sb := same_new (o := exo xb aHallError none) (Same.refl KB) yb
    have rb : Err (upd KB xb (exo xb aHallError none)) xb aHallError [] := .inl ⟨rfl, upd_same⟩
    generalize upd KB xb (exo xb aHallError none) = KC at sb rb ⊢
    have sC2 := sB2.trans sb
    have ep := sb _ _ ep
    refine ⟨.ref p5, rfl, p5, _, 24, .ref x24, rfl, rfl, SqL.of ep, rfl, x24, aBadText, _, .int k1, rfl, r24.up sC2, C.x_BadText.is, C.n_BadText.1, rfl, ?_⟩
    refine ⟨.ref p5, rfl, p5, _, 24, .ref x24, rfl, rfl, SqL.of ep, rfl, x24, aBadText, _, .int (100 + k2), rfl, r24.up sC2, C.x_BadText.is, C.n_BadText.2.1, rfl, ?_⟩
    refine ⟨by show 2 ≤ sizeLine; decide, fun mD nmD => ?_⟩
    refine ⟨_, rfl, _, rfl, by show 2 ≤ sizeLine; decide, fun qD nqD => ?_⟩
    have sD : Same KC (upd (upd KC mD (.lst [V.int k1, V.int (100 + k2)])) qD (.lst [V.int k1, V.int (100 + k2)])) := (same_new (Same.refl _) nmD).trans (same_new (Same.refl _) nqD)
    have emD : (upd (upd KC mD (.lst [V.int k1, V.int (100 + k2)])) qD (.lst [V.int k1, V.int (100 + k2)])) mD = some (.lst [V.int k1, V.int (100 + k2)]) := same_new (Same.refl _) nqD _ _ upd_same
    have eqD : (upd (upd KC mD (.lst [V.int k1, V.int (100 + k2)])) qD (.lst [V.int k1, V.int (100 + k2)])) qD = some (.lst [V.int k1, V.int (100 + k2)]) := upd_same
    generalize upd (upd KC mD (.lst [V.int k1, V.int (100 + k2)])) qD (.lst [V.int k1, V.int (100 + k2)]) = KD at sD emD eqD ⊢
    refine ⟨.list (([k1, 100 + k2] : List Int).map .int), .list (([k1, 100 + k2] : List Int).map .int), dp_of (Idp (ns := [k1, 100 + k2]) emD), dp_of (Idp (ns := [k1, 100 + k2]) eqD), shaped_at (at_ints [k1, 100 + k2]), shaped_at (at_ints [k1, 100 + k2]), _, rfl, ?_⟩
    rw [eqv_at (at_ints [k1, 100 + k2])]
    refine iteT ?_
    refine ⟨.ref xb, rfl, xb, aHallError, [], _, rfl, rb.up sD, C.x_HallError.is, C.r_HallError, fun bb H2 s2 nb eb => ?_⟩
    refine ⟨bb, _, rfl, SqL.of eb, _, rfl, _, rfl, iteT ?_⟩
    exact ⟨.ref xb, rfl, xb, aHallError, [], .ty "ValueError", .type "ValueError", true, rfl, (rb.up sD).up s2.same, C.x_HallError.is, (fun _ z => z), C.x_HallError.ve, q _⟩
end
/-- a def stands at its name -/
def AtTop (K : PySem.W.Frag) (x : Str) (st : Stmt) : Prop := ∃ (f : Addr) (fd : FuncData), Fun K x x st f fd ∧ PySem.W.nsIn K mainGlobals x = some (some (.ref f))
theorem atTop {K : PySem.W.Frag} {x : Str} {st : Stmt} {f : Addr} {oc kV dc pm cd ct : Value} {od an : Option Addr} {sl : Array (Option Value)} (a : PySem.W.nsIn K mainGlobals x = some (some (.ref f)))
    (l : K.lookup f = some ⟨oc, od, .func (PySem.W.fnOf x x (defArgs st) (defBody st) (defScope st) .none kV dc pm an cd ct), sl⟩) (c : PySem.W.codeIn K cd x = true) (k : PySem.W.keepIn K (.ref f) = true) : AtTop K x st := ⟨f, _, fun_mk l c k, a⟩
theorem all_mk {l : PySem.W.OpenLaw} {w : World} {K : PySem.W.Frag} {h : Heap} {mg : Str → Option Value} {fa aHallError aBadLetters aBadWord aBadSize aBadNumber aBadRule aBadName aTooDeep aBadText aBadMachine aTooMany aTooGreat aNotLeast aNoWord aUnknownName aInUse aRing aBadEntry aNothingToUndo aNothingToRedo aBadTurner aNotOne aContradiction aBadAnswer aNoQuestion aBadSheet : Addr} (X : K.In h) (G : h.Ns mainGlobals mg) (hfa : mg "law" = some (.ref fa))
    (A_law_pool : AtTop K "_law_pool" s_law_pool)
    (A_law_stream : AtTop K "_law_stream" s_law_stream)
    (A_law_pick : AtTop K "_law_pick" s_law_pick)
    (A_law_letters : AtTop K "_law_letters" s_law_letters)
    (A_law_kinds : AtTop K "_law_kinds" s_law_kinds)
    (A_law : AtTop K "law" s_law)
    (z_ValueError : PySem.W.nsIn K mainGlobals "ValueError" = some none)
    (z_any : PySem.W.nsIn K mainGlobals "any" = some none)
    (z_int : PySem.W.nsIn K mainGlobals "int" = some none)
    (z_isinstance : PySem.W.nsIn K mainGlobals "isinstance" = some none)
    (z_len : PySem.W.nsIn K mainGlobals "len" = some none)
    (z_min : PySem.W.nsIn K mainGlobals "min" = some none)
    (z_range : PySem.W.nsIn K mainGlobals "range" = some none)
    (z_str : PySem.W.nsIn K mainGlobals "str" = some none)
    (z_super : PySem.W.nsIn K mainGlobals "super" = some none)
    (Ac : Cl0 l.prog K aHallError aBadLetters aBadWord aBadSize aBadNumber aBadRule aBadName aTooDeep aBadText aBadMachine aTooMany aTooGreat aNotLeast aNoWord aUnknownName aInUse aRing aBadEntry aNothingToUndo aNothingToRedo aBadTurner aNotOne aContradiction aBadAnswer aNoQuestion aBadSheet) :
    ∃ fd : FuncData, (∀ (s : Shared) (v : Value), BindsTo s fd ⟨[v], []⟩ [("script", v)]) ∧ ∀ base : Heap, K.In base → base.Ns mainGlobals mg → FnG l.prog w K mg base CX0 3 fa fd ["script"] (spLaw K) := by
  have T : Bt mg := ⟨PySem.W.mg_none_of X G z_ValueError, PySem.W.mg_none_of X G z_any, PySem.W.mg_none_of X G z_int, PySem.W.mg_none_of X G z_isinstance, PySem.W.mg_none_of X G z_len, PySem.W.mg_none_of X G z_min, PySem.W.mg_none_of X G z_range, PySem.W.mg_none_of X G z_str, PySem.W.mg_none_of X G z_super⟩
  have C : ∀ base : Heap, Cl l.prog w K mg base aHallError aBadLetters aBadWord aBadSize aBadNumber aBadRule aBadName aTooDeep aBadText aBadMachine aTooMany aTooGreat aNotLeast aNoWord aUnknownName aInUse aRing aBadEntry aNothingToUndo aNothingToRedo aBadTurner aNotOne aContradiction aBadAnswer aNoQuestion aBadSheet := fun base => cl_mk X G T.m_super Ac
  have D_law_pool : ∀ base : Heap, DefG l.prog w K mg base CX0 1 "_law_pool" ["script"] (spPool K) := by
    obtain ⟨f, fd, F, a⟩ := A_law_pool
    exact fun base => ⟨f, fd, ok_law_pool F T (C base) , PySem.W.mg_of X G a, F.kp, F.binds (ps := ["script"]) fun _ _ _ _ _ _ us hl => match us, hl with | [_], _ => rfl⟩
  have D_law_stream : ∀ base : Heap, DefG l.prog w K mg base CX0 2 "_law_stream" ["script"] (spStream K) := by
    obtain ⟨f, fd, F, a⟩ := A_law_stream
    exact fun base => ⟨f, fd, ok_law_stream F T (C base) (D_law_pool base), PySem.W.mg_of X G a, F.kp, F.binds (ps := ["script"]) fun _ _ _ _ _ _ us hl => match us, hl with | [_], _ => rfl⟩
  have D_law_pick : ∀ base : Heap, DefG l.prog w K mg base CX0 1 "_law_pick" ["pool", "many"] (spPick) := by
    obtain ⟨f, fd, F, a⟩ := A_law_pick
    exact fun base => ⟨f, fd, ok_law_pick F T (C base) , PySem.W.mg_of X G a, F.kp, F.binds (ps := ["pool", "many"]) fun _ _ _ _ _ _ us hl => match us, hl with | [_, _], _ => rfl⟩
  have D_law_letters : ∀ base : Heap, DefG l.prog w K mg base CX0 2 "_law_letters" ["pool", "most"] (spLetters) := by
    obtain ⟨f, fd, F, a⟩ := A_law_letters
    exact fun base => ⟨f, fd, ok_law_letters F T (C base) (D_law_pick base), PySem.W.mg_of X G a, F.kp, F.binds (ps := ["pool", "most"]) fun _ _ _ _ _ _ us hl => match us, hl with | [_, _], _ => rfl⟩
  have D_law_kinds : ∀ base : Heap, DefG l.prog w K mg base CX0 1 "_law_kinds" ["error"] (spKinds K [aBadLetters, aBadRule, aBadNumber, aBadName, aTooDeep, aBadMachine, aTooMany, aTooGreat, aNotLeast, aNoWord, aNothingToUndo, aNothingToRedo, aBadTurner, aNotOne, aBadAnswer, aNoQuestion, aBadSheet, aBadWord, aBadSize, aUnknownName, aInUse, aRing, aBadEntry, aContradiction, aBadText]) := by
    obtain ⟨f, fd, F, a⟩ := A_law_kinds
    exact fun base => ⟨f, fd, ok_law_kinds F T (C base) , PySem.W.mg_of X G a, F.kp, F.binds (ps := ["error"]) fun _ _ _ _ _ _ us hl => match us, hl with | [_], _ => rfl⟩
  obtain ⟨f, fd, F, a⟩ := A_law
  have e := hfa.symm.trans (PySem.W.mg_of X G a)
  cases e
  refine ⟨fd, fun s v => ?_, fun base _ _ => ok_law F T (C base) (D_law_kinds base) (D_law_letters base) (D_law_pick base) (D_law_stream base)⟩
  obtain ⟨oc, od, kV, doc, pm, an, cdv, ct, osl, rfl, _, _⟩ := F.ex
  exact .of_eq rfl
end Hw
open PySem PySem.W PyProof.Rows
set_option maxHeartbeats 0 in
theorem PySem.Challenge.cw_hallofwords_k00_errors_stand_apart_holds : PySem.Challenge.rw_hallofwords_k00_errors_stand_apart.Holds := by
  w_on; o_law; k_head; (case hw => w_witness2)
  k_fill
  refine Hw.law_end (l := PySem.Challenge.rw_hallofwords_k00_errors_stand_apart) (n := 63) (k := 3) (x := "script") (sp := fun K => Hw.spLaw K) rfl (by decide) rfl ⟨rfl, by decide, by decide⟩ (fun w h Y => PySem.W.kIn_of Y) ?F (fun K H a ns hl _ hS => Hw.law_pre hl hS)
  case F =>
    intro w mg fa h KX G hmg
    refine' Hw.all_mk KX G hmg ?a0 ?a1 ?a2 ?a3 ?a4 ?a5 ?z0 ?z1 ?z2 ?z3 ?z4 ?z5 ?z6 ?z7 ?z8  ?cl
    (case a0 => (refine' Hw.atTop ?a ?l ?c ?k; (case a => k_is); (case l => k_is); (case c => k_is); (case k => k_is)))
    (case a1 => (refine' Hw.atTop ?a ?l ?c ?k; (case a => k_is); (case l => k_is); (case c => k_is); (case k => k_is)))
    (case a2 => (refine' Hw.atTop ?a ?l ?c ?k; (case a => k_is); (case l => k_is); (case c => k_is); (case k => k_is)))
    (case a3 => (refine' Hw.atTop ?a ?l ?c ?k; (case a => k_is); (case l => k_is); (case c => k_is); (case k => k_is)))
    (case a4 => (refine' Hw.atTop ?a ?l ?c ?k; (case a => k_is); (case l => k_is); (case c => k_is); (case k => k_is)))
    (case a5 => (refine' Hw.atTop ?a ?l ?c ?k; (case a => k_is); (case l => k_is); (case c => k_is); (case k => k_is)))
    (case z0 => k_is)
    (case z1 => k_is)
    (case z2 => k_is)
    (case z3 => k_is)
    (case z4 => k_is)
    (case z5 => k_is)
    (case z6 => k_is)
    (case z7 => k_is)
    (case z8 => k_is)
    (case cl => (refine' ⟨?w0, ?w1, ?w2, ?w3, ?w4, ?w5, ?w6, ?w7, ?w8, ?w9, ?w10, ?w11, ?w12, ?w13, ?w14, ?w15, ?w16, ?w17, ?w18, ?w19, ?w20, ?w21, ?w22, ?w23, ?w24, ?w25, ?w26, ?w27, ?w28, ?w29, ?w30, ?w31, ?w32, ?w33, ?w34, ?w35, ?w36, ?w37, ?w38, ?w39, ?w40, ?w41, ?w42, ?w43, ?w44, ?w45, ?w46, ?w47, ?w48, ?w49, ?w50, ?w51, ?w52, ?w53, ?w54, ?w55, ?w56, ?w57, ?w58, ?w59, ?w60, ?w61, ?w62, ?w63, ?w64, ?w65, ?w66, ?w67, ?w68, ?w69, ?w70, ?w71, ?w72, ?w73, ?w74, ?w75, ?w76, ?w77, ?w78, ?w79, ?w80, ?w81, ?w82, ?w83, ?w84, ?w85, ?w86, ?w87, ?w88, ?w89, ?w90, ?w91, ?w92, ?w93, ?w94, ?w95, ?w96, ?w97, ?w98, ?w99, ?w100, ?w101, ?w102, ?w103, ?w104, ?w105, ?w106, ?w107, ?w108, ?w109, ?w110, ?w111, ?w112, ?w113, ?w114, ?w115, ?w116, ?w117, ?w118, ?w119, ?w120, ?w121, ?w122, ?w123, ?w124, ?w125, ?w126, ?w127, ?w128, ?w129⟩; (case w0 => first | k_is | kit_is | k_exc | kernel_rfl); (case w1 => first | k_is | kit_is | k_exc | kernel_rfl); (case w2 => first | k_is | kit_is | k_exc | kernel_rfl); (case w3 => first | k_is | kit_is | k_exc | kernel_rfl); (case w4 => first | k_is | kit_is | k_exc | kernel_rfl); (case w5 => first | k_is | kit_is | k_exc | kernel_rfl); (case w6 => first | k_is | kit_is | k_exc | kernel_rfl); (case w7 => first | k_is | kit_is | k_exc | kernel_rfl); (case w8 => first | k_is | kit_is | k_exc | kernel_rfl); (case w9 => first | k_is | kit_is | k_exc | kernel_rfl); (case w10 => first | k_is | kit_is | k_exc | kernel_rfl); (case w11 => first | k_is | kit_is | k_exc | kernel_rfl); (case w12 => first | k_is | kit_is | k_exc | kernel_rfl); (case w13 => first | k_is | kit_is | k_exc | kernel_rfl); (case w14 => first | k_is | kit_is | k_exc | kernel_rfl); (case w15 => first | k_is | kit_is | k_exc | kernel_rfl); (case w16 => first | k_is | kit_is | k_exc | kernel_rfl); (case w17 => first | k_is | kit_is | k_exc | kernel_rfl); (case w18 => first | k_is | kit_is | k_exc | kernel_rfl); (case w19 => first | k_is | kit_is | k_exc | kernel_rfl); (case w20 => first | k_is | kit_is | k_exc | kernel_rfl); (case w21 => first | k_is | kit_is | k_exc | kernel_rfl); (case w22 => first | k_is | kit_is | k_exc | kernel_rfl); (case w23 => first | k_is | kit_is | k_exc | kernel_rfl); (case w24 => first | k_is | kit_is | k_exc | kernel_rfl); (case w25 => first | k_is | kit_is | k_exc | kernel_rfl); (case w26 => first | k_is | kit_is | k_exc | kernel_rfl); (case w27 => first | k_is | kit_is | k_exc | kernel_rfl); (case w28 => first | k_is | kit_is | k_exc | kernel_rfl); (case w29 => first | k_is | kit_is | k_exc | kernel_rfl); (case w30 => first | k_is | kit_is | k_exc | kernel_rfl); (case w31 => first | k_is | kit_is | k_exc | kernel_rfl); (case w32 => first | k_is | kit_is | k_exc | kernel_rfl); (case w33 => first | k_is | kit_is | k_exc | kernel_rfl); (case w34 => first | k_is | kit_is | k_exc | kernel_rfl); (case w35 => first | k_is | kit_is | k_exc | kernel_rfl); (case w36 => first | k_is | kit_is | k_exc | kernel_rfl); (case w37 => first | k_is | kit_is | k_exc | kernel_rfl); (case w38 => first | k_is | kit_is | k_exc | kernel_rfl); (case w39 => first | k_is | kit_is | k_exc | kernel_rfl); (case w40 => first | k_is | kit_is | k_exc | kernel_rfl); (case w41 => first | k_is | kit_is | k_exc | kernel_rfl); (case w42 => first | k_is | kit_is | k_exc | kernel_rfl); (case w43 => first | k_is | kit_is | k_exc | kernel_rfl); (case w44 => first | k_is | kit_is | k_exc | kernel_rfl); (case w45 => first | k_is | kit_is | k_exc | kernel_rfl); (case w46 => first | k_is | kit_is | k_exc | kernel_rfl); (case w47 => first | k_is | kit_is | k_exc | kernel_rfl); (case w48 => first | k_is | kit_is | k_exc | kernel_rfl); (case w49 => first | k_is | kit_is | k_exc | kernel_rfl); (case w50 => first | k_is | kit_is | k_exc | kernel_rfl); (case w51 => first | k_is | kit_is | k_exc | kernel_rfl); (case w52 => first | k_is | kit_is | k_exc | kernel_rfl); (case w53 => first | k_is | kit_is | k_exc | kernel_rfl); (case w54 => first | k_is | kit_is | k_exc | kernel_rfl); (case w55 => first | k_is | kit_is | k_exc | kernel_rfl); (case w56 => first | k_is | kit_is | k_exc | kernel_rfl); (case w57 => first | k_is | kit_is | k_exc | kernel_rfl); (case w58 => first | k_is | kit_is | k_exc | kernel_rfl); (case w59 => first | k_is | kit_is | k_exc | kernel_rfl); (case w60 => first | k_is | kit_is | k_exc | kernel_rfl); (case w61 => first | k_is | kit_is | k_exc | kernel_rfl); (case w62 => first | k_is | kit_is | k_exc | kernel_rfl); (case w63 => first | k_is | kit_is | k_exc | kernel_rfl); (case w64 => first | k_is | kit_is | k_exc | kernel_rfl); (case w65 => first | k_is | kit_is | k_exc | kernel_rfl); (case w66 => first | k_is | kit_is | k_exc | kernel_rfl); (case w67 => first | k_is | kit_is | k_exc | kernel_rfl); (case w68 => first | k_is | kit_is | k_exc | kernel_rfl); (case w69 => first | k_is | kit_is | k_exc | kernel_rfl); (case w70 => first | k_is | kit_is | k_exc | kernel_rfl); (case w71 => first | k_is | kit_is | k_exc | kernel_rfl); (case w72 => first | k_is | kit_is | k_exc | kernel_rfl); (case w73 => first | k_is | kit_is | k_exc | kernel_rfl); (case w74 => first | k_is | kit_is | k_exc | kernel_rfl); (case w75 => first | k_is | kit_is | k_exc | kernel_rfl); (case w76 => first | k_is | kit_is | k_exc | kernel_rfl); (case w77 => first | k_is | kit_is | k_exc | kernel_rfl); (case w78 => first | k_is | kit_is | k_exc | kernel_rfl); (case w79 => first | k_is | kit_is | k_exc | kernel_rfl); (case w80 => first | k_is | kit_is | k_exc | kernel_rfl); (case w81 => first | k_is | kit_is | k_exc | kernel_rfl); (case w82 => first | k_is | kit_is | k_exc | kernel_rfl); (case w83 => first | k_is | kit_is | k_exc | kernel_rfl); (case w84 => first | k_is | kit_is | k_exc | kernel_rfl); (case w85 => first | k_is | kit_is | k_exc | kernel_rfl); (case w86 => first | k_is | kit_is | k_exc | kernel_rfl); (case w87 => first | k_is | kit_is | k_exc | kernel_rfl); (case w88 => first | k_is | kit_is | k_exc | kernel_rfl); (case w89 => first | k_is | kit_is | k_exc | kernel_rfl); (case w90 => first | k_is | kit_is | k_exc | kernel_rfl); (case w91 => first | k_is | kit_is | k_exc | kernel_rfl); (case w92 => first | k_is | kit_is | k_exc | kernel_rfl); (case w93 => first | k_is | kit_is | k_exc | kernel_rfl); (case w94 => first | k_is | kit_is | k_exc | kernel_rfl); (case w95 => first | k_is | kit_is | k_exc | kernel_rfl); (case w96 => first | k_is | kit_is | k_exc | kernel_rfl); (case w97 => first | k_is | kit_is | k_exc | kernel_rfl); (case w98 => first | k_is | kit_is | k_exc | kernel_rfl); (case w99 => first | k_is | kit_is | k_exc | kernel_rfl); (case w100 => first | k_is | kit_is | k_exc | kernel_rfl); (case w101 => first | k_is | kit_is | k_exc | kernel_rfl); (case w102 => first | k_is | kit_is | k_exc | kernel_rfl); (case w103 => first | k_is | kit_is | k_exc | kernel_rfl); (case w104 => first | k_is | kit_is | k_exc | kernel_rfl); (case w105 => first | k_is | kit_is | k_exc | kernel_rfl); (case w106 => first | k_is | kit_is | k_exc | kernel_rfl); (case w107 => first | k_is | kit_is | k_exc | kernel_rfl); (case w108 => first | k_is | kit_is | k_exc | kernel_rfl); (case w109 => first | k_is | kit_is | k_exc | kernel_rfl); (case w110 => first | k_is | kit_is | k_exc | kernel_rfl); (case w111 => first | k_is | kit_is | k_exc | kernel_rfl); (case w112 => first | k_is | kit_is | k_exc | kernel_rfl); (case w113 => first | k_is | kit_is | k_exc | kernel_rfl); (case w114 => first | k_is | kit_is | k_exc | kernel_rfl); (case w115 => first | k_is | kit_is | k_exc | kernel_rfl); (case w116 => first | k_is | kit_is | k_exc | kernel_rfl); (case w117 => first | k_is | kit_is | k_exc | kernel_rfl); (case w118 => first | k_is | kit_is | k_exc | kernel_rfl); (case w119 => first | k_is | kit_is | k_exc | kernel_rfl); (case w120 => first | k_is | kit_is | k_exc | kernel_rfl); (case w121 => first | k_is | kit_is | k_exc | kernel_rfl); (case w122 => (refine' Hw.mkAt ?fi ?ft ?fl ?fc ?fo ?fv ?fh ?fp ?fe ?fm ?fq ?fs ?fx ?fy ?fr ?fz ?fb ⟨?n122_0, trivial⟩; (case fi => k_is); (case ft => k_is); (case fl => k_is); (case fc => k_is); (case fo => k_is); (case fv => exact rfl); (case fh => first | exact rfl | decide +kernel); (case fp => first | exact rfl | decide +kernel); (case fe => k_is); (case fm => k_is); (case fq => k_is); (case fs => ks_is); (case fx => k_is); (case fy => k_is); (case fr => first | exact rfl | kernel_rfl); (case fz => k_is); (case fb => kernel_rfl); (case n122_0 => k_is))); (case w123 => (refine' Hw.mkAt ?fi ?ft ?fl ?fc ?fo ?fv ?fh ?fp ?fe ?fm ?fq ?fs ?fx ?fy ?fr ?fz ?fb ⟨?n123_0, trivial⟩; (case fi => k_is); (case ft => k_is); (case fl => k_is); (case fc => k_is); (case fo => k_is); (case fv => exact rfl); (case fh => first | exact rfl | decide +kernel); (case fp => first | exact rfl | decide +kernel); (case fe => k_is); (case fm => k_is); (case fq => k_is); (case fs => ks_is); (case fx => k_is); (case fy => k_is); (case fr => first | exact rfl | kernel_rfl); (case fz => k_is); (case fb => kernel_rfl); (case n123_0 => k_is))); (case w124 => (refine' Hw.mkAt ?fi ?ft ?fl ?fc ?fo ?fv ?fh ?fp ?fe ?fm ?fq ?fs ?fx ?fy ?fr ?fz ?fb ⟨?n124_0, ?n124_1, trivial⟩; (case fi => k_is); (case ft => k_is); (case fl => k_is); (case fc => k_is); (case fo => k_is); (case fv => exact rfl); (case fh => first | exact rfl | decide +kernel); (case fp => first | exact rfl | decide +kernel); (case fe => k_is); (case fm => k_is); (case fq => k_is); (case fs => ks_is); (case fx => k_is); (case fy => k_is); (case fr => first | exact rfl | kernel_rfl); (case fz => k_is); (case fb => kernel_rfl); (case n124_0 => k_is); (case n124_1 => k_is))); (case w125 => (refine' Hw.mkAt ?fi ?ft ?fl ?fc ?fo ?fv ?fh ?fp ?fe ?fm ?fq ?fs ?fx ?fy ?fr ?fz ?fb ⟨?n125_0, trivial⟩; (case fi => k_is); (case ft => k_is); (case fl => k_is); (case fc => k_is); (case fo => k_is); (case fv => exact rfl); (case fh => first | exact rfl | decide +kernel); (case fp => first | exact rfl | decide +kernel); (case fe => k_is); (case fm => k_is); (case fq => k_is); (case fs => ks_is); (case fx => k_is); (case fy => k_is); (case fr => first | exact rfl | kernel_rfl); (case fz => k_is); (case fb => kernel_rfl); (case n125_0 => k_is))); (case w126 => (refine' Hw.mkAt ?fi ?ft ?fl ?fc ?fo ?fv ?fh ?fp ?fe ?fm ?fq ?fs ?fx ?fy ?fr ?fz ?fb ⟨?n126_0, trivial⟩; (case fi => k_is); (case ft => k_is); (case fl => k_is); (case fc => k_is); (case fo => k_is); (case fv => exact rfl); (case fh => first | exact rfl | decide +kernel); (case fp => first | exact rfl | decide +kernel); (case fe => k_is); (case fm => k_is); (case fq => k_is); (case fs => ks_is); (case fx => k_is); (case fy => k_is); (case fr => first | exact rfl | kernel_rfl); (case fz => k_is); (case fb => kernel_rfl); (case n126_0 => k_is))); (case w127 => (refine' Hw.mkAt ?fi ?ft ?fl ?fc ?fo ?fv ?fh ?fp ?fe ?fm ?fq ?fs ?fx ?fy ?fr ?fz ?fb ⟨?n127_0, trivial⟩; (case fi => k_is); (case ft => k_is); (case fl => k_is); (case fc => k_is); (case fo => k_is); (case fv => exact rfl); (case fh => first | exact rfl | decide +kernel); (case fp => first | exact rfl | decide +kernel); (case fe => k_is); (case fm => k_is); (case fq => k_is); (case fs => ks_is); (case fx => k_is); (case fy => k_is); (case fr => first | exact rfl | kernel_rfl); (case fz => k_is); (case fb => kernel_rfl); (case n127_0 => k_is))); (case w128 => (refine' Hw.mkAt ?fi ?ft ?fl ?fc ?fo ?fv ?fh ?fp ?fe ?fm ?fq ?fs ?fx ?fy ?fr ?fz ?fb ⟨?n128_0, trivial⟩; (case fi => k_is); (case ft => k_is); (case fl => k_is); (case fc => k_is); (case fo => k_is); (case fv => exact rfl); (case fh => first | exact rfl | decide +kernel); (case fp => first | exact rfl | decide +kernel); (case fe => k_is); (case fm => k_is); (case fq => k_is); (case fs => ks_is); (case fx => k_is); (case fy => k_is); (case fr => first | exact rfl | kernel_rfl); (case fz => k_is); (case fb => kernel_rfl); (case n128_0 => k_is))); (case w129 => (refine' Hw.mkAt ?fi ?ft ?fl ?fc ?fo ?fv ?fh ?fp ?fe ?fm ?fq ?fs ?fx ?fy ?fr ?fz ?fb ⟨?n129_0, trivial⟩; (case fi => k_is); (case ft => k_is); (case fl => k_is); (case fc => k_is); (case fo => k_is); (case fv => exact rfl); (case fh => first | exact rfl | decide +kernel); (case fp => first | exact rfl | decide +kernel); (case fe => k_is); (case fm => k_is); (case fq => k_is); (case fs => ks_is); (case fx => k_is); (case fy => k_is); (case fr => first | exact rfl | kernel_rfl); (case fz => k_is); (case fb => kernel_rfl); (case n129_0 => k_is)))))
