import PyProof.Rows.All
import Wide.All
import OpenK.AllK
import Wide.FinOn
import HandS.Base
import HandS.Call
import HandS.List
import HandS.Comp
import HandS.Ends
import HandS.Iter
import HandS.Text
import HandS.Words
import HandS.WordsList
import HandS.Replace
import HandS.IsInst
import HandS.Flow
import PyProof.ReprRoads
import HandS.Exc
import HandS.ExcOwn
import HandS.ExcIs
import HandS.HotCalls
import HandS.ExcInit
import HandS.Nested
import KE.KExcSuper
import HandS.Walk
import HandS.ExcValue
import KE.KExcIs
import HandS.Style
import HandS.Star
import HandS.SortKw
import KE.DatumOrd
import PyProof.ReprLen
import PyProof.Rows.StrDigits
import PySem.Challenge.RW_hallofwords_k03_parts_of_rules
set_option Elab.async false
set_option linter.all false
set_option maxRecDepth 100000
set_option maxHeartbeats 4000000
/-! a layer over the hand layer: defs that know that nothing is being shown (guards), deep data, frozen heaps -/
namespace Hw
open PySem PySem.Spec PyProof.Rows L2

/-- as the hand layer's FnOk, for callers around whom no repr runs -/
structure FnG (P : Program) (w : World) (K : PySem.W.Frag) (mg : Str → Option Value) (base : Heap) (CX : CXT) (k : Nat) (f : Addr) (fd : FuncData) (ps : List Str) (sp : Sp) : Prop where
  size : ∀ vs H Q E, sp vs H Q E → vs.length = ps.length
  go : ∀ (A : Around) (out : List Env) (z : Shared) (H : Hp) (ar : Args) (us : List Value) (vs : List V) (Q : VK) (E : XK), A.guards = some [] → Room k A →
    Env0 P w K mg base A out z H → BindsTo z fd ar (ps.zip us) → Vals vs us → sp vs H Q E → codeAny (model P w) A (.call (.ref f) ar) (CR CX out P w H z Q E) z
section
variable {P : Program} {w : World} {K : PySem.W.Frag} {mg : Str → Option Value} {base : Heap} {CX : CXT} {k j : Nat} {f : Addr} {fd : FuncData} {ps N : List Str} {sp sp' : Sp}
theorem FnG.ofOk (F : FnOk P w K mg base CX k f fd ps sp) : FnG P w K mg base CX k f fd ps sp :=
  ⟨F.len, fun A out z H ar us vs Q E _ => F.run A out z H ar us vs Q E⟩
theorem FnG.up (F : FnG P w K mg base CX j f fd ps sp) (h : j ≤ k) : FnG P w K mg base CX k f fd ps sp :=
  ⟨F.size, fun A out z H ar us vs Q E g r => F.go A out z H ar us vs Q E g (r.mono h)⟩
theorem FnG.weaker (F : FnG P w K mg base CX k f fd ps sp) (h : ∀ vs H Q E, sp' vs H Q E → sp vs H Q E) : FnG P w K mg base CX k f fd ps sp' :=
  ⟨fun vs H Q E q => F.size vs H Q E (h _ _ _ _ q), fun A out z H ar us vs Q E g r e b v q => F.go A out z H ar us vs Q E g r e b v (h _ _ _ _ q)⟩

/-- a def of the text keeps its promise, by its body -/
theorem FnG.body {x qual : Str} {st : Stmt} (F : Fun K x qual st f fd) (S : FnScope N ps (defScope st)) (sz : ∀ vs H Q E, sp vs H Q E → vs.length = ps.length)
    (bd : ∀ (cd : Value) (A : Around) (out : List Env) (z : Shared) (H : Hp) (vs : List V) (Q : VK) (E : XK), (A.deeper (envOfC qual (defScope st) z.heap.objs.size f cd)).guards = some [] →
      Room k (A.deeper (envOfC qual (defScope st) z.heap.objs.size f cd)) → sp vs H Q E →
      ∃ t, PSs (cxOf CX P w K mg base N qual (defScope st) f cd A out z H E) (defBody st) t ∧ t { nx := fun _ H' => Q .non H', rt := Q } (start N vs) H) : FnG P w K mg base CX (k + 1) f fd ps sp := by
  obtain ⟨oc, od, kV, dc, pm, an, cd, ct, sl, rfl, look, isC⟩ := F.ex
  refine ⟨sz, ?_⟩
  intro A out z H ar us vs Q E gd room en bi va pr
  have many := sz _ _ _ _ pr
  have stays : ∀ b o, base.get? b = some o → z.heap.get? b = some o := fun b o e => (en.bs b o e).1
  have inK : K.In z.heap := en.mod.kin.keeps stays
  have noL : z.heap.NoLimit := en.mod.nolimit.keeps stays
  have kinds : ∀ y ∈ ps.zip us, (defScope st).names.lookup y.1 = some .local ∨ ((defScope st).names.lookup y.1 = some .cell ∧ ((cellsFrom (z.heap.objs.size + 1) (defScope st).names []).lookup y.1).isSome = true) := by
    rintro ⟨n, v⟩ hy
    cases S.par n (List.of_mem_zip hy).1 with
    | inl q => exact .inl q
    | inr q => exact .inr ⟨q, PySem.W.cellsFrom_some _ _ _ (.inl q)⟩
  refine codeAny_call_function room.depth (inK _ _ look) rfl S.co S.gen rfl (PySem.W.codeRec_of inK isC) (bi _ _ _ _ ?_)
  refine wpAny_newFunctionEnv_cells S.kind kinds fun env e0 z1 c => ?_
  subst e0
  obtain ⟨t, ht, q⟩ := bd cd A out z H vs Q E gd (room.deeper _) pr
  have I := inv_start (CX := CX) (E := E) S room.hd en many va c
  refine ⟨noL.keeps c.toInCall.keep, codeAny_func (wpAny_mono (ht.run [] z1 _ H _ I q) (fun fl z2 r => ?_) fun _ _ r => r)⟩
  cases fl with
  | next =>
    obtain ⟨_, H2, J, q2⟩ := r
    exact ⟨.non, H2, J.os, J.bare, J.base, J.hok, rfl, q2⟩
  | ret u =>
    obtain ⟨v, _, H2, J, rv, q2⟩ := r
    exact ⟨v, H2, J.os, J.bare, J.base, J.hok, rv, q2⟩
  | brk => exact r.choose_spec.choose_spec.2.elim
  | cont => exact r.choose_spec.choose_spec.2.elim
/-- the same where no exception leaves -/
theorem FnG.calm {x qual : Str} {st : Stmt} (F : Fun K x qual st f fd) (S : FnScope N ps (defScope st)) (sz : ∀ vs H Q E, sp vs H Q E → vs.length = ps.length)
    (bd : ∀ (cd : Value) (A : Around) (out : List Env) (z : Shared) (H : Hp) (vs : List V) (Q : VK) (E : XK), (A.deeper (envOfC qual (defScope st) z.heap.objs.size f cd)).guards = some [] →
      Room k (A.deeper (envOfC qual (defScope st) z.heap.objs.size f cd)) → sp vs H Q E →
      ∃ t, PSs (cxOf CX0 P w K mg base N qual (defScope st) f cd A out z H E).nox (defBody st) t ∧ t { nx := fun _ H' => Q .non H', rt := Q } (start N vs) H) : FnG P w K mg base CX0 (k + 1) f fd ps sp :=
  FnG.body F S sz fun cd A out z H vs Q E g r q => let ⟨t, h, h2⟩ := bd cd A out z H vs Q E g r q; ⟨t, h.nox, h2⟩
end

/-- a def by its name: where it stands, what it promises, how it is bound -/
def DefG (P : Program) (w : World) (K : PySem.W.Frag) (mg : Str → Option Value) (base : Heap) (CX : CXT) (k : Nat) (x : Str) (ps : List Str) (sp : Sp) : Prop :=
  ∃ (f : Addr) (fd : FuncData), FnG P w K mg base CX k f fd ps sp ∧ mg x = some (.ref f) ∧ PySem.W.keepIn K (.ref f) = true ∧ Binds K fd ps []
theorem DefG.up {P : Program} {w : World} {K : PySem.W.Frag} {mg : Str → Option Value} {base : Heap} {CX : CXT} {k j : Nat} {x : Str} {ps : List Str} {sp : Sp} (D : DefG P w K mg base CX j x ps sp) (h : j ≤ k) : DefG P w K mg base CX k x ps sp :=
  let ⟨f, fd, F, r⟩ := D; ⟨f, fd, F.up h, r⟩
theorem DefG.weaker {P : Program} {w : World} {K : PySem.W.Frag} {mg : Str → Option Value} {base : Heap} {CX : CXT} {k : Nat} {x : Str} {ps : List Str} {sp sp' : Sp} (D : DefG P w K mg base CX k x ps sp) (h : ∀ vs H Q E, sp' vs H Q E → sp vs H Q E) : DefG P w K mg base CX k x ps sp' :=
  let ⟨f, fd, F, r⟩ := D; ⟨f, fd, F.weaker h, r⟩
section
variable {X : Cx} {CX : CXT} {k : Nat} {x : Str} {ps : List Str} {sp : Sp} {p pos : Pos} {e : Expr} {es : List Expr} {t : TA}
theorem go_call {f : Addr} {fd : FuncData} {pins : List (Addr × Obj)} {σ : L2.St} {H : Hp} {s : Shared} {Q : VK} {E : XK} {us : List Value} {vs : List V} (F : FnG X.prog X.w X.K X.mg X.base CX k f fd ps sp) (bi : Binds X.K fd ps []) (gd : X.A.guards = some []) (hr : Room k X.A)
    (out : ∀ e s', CX X.stack H s E e s' → X.xe e s') (I : Inv X pins σ H s) (va : Vals vs us) (q : sp vs H Q E) : wpAny (model X.prog X.w) X.A (call (.ref f) us) (EP X pins σ Q) X.xe s := by
  have len : us.length = ps.length := va.length ▸ F.size _ _ _ _ q
  have b := bi s us I.kIn (by rw [List.append_nil]; exact len)
  rw [List.append_nil] at b
  refine wpAny_call (codeAny_mono (F.go X.A X.stack s H _ us vs Q E gd hr I.env0 b va q) fun r s2 h => ?_)
  match r, h with
  | .error e, h => exact out e s2 h
  | .ok (.ret u), h => exact I.after h
  | .ok .next, h => exact h.elim
  | .ok .brk, h => exact h.elim
  | .ok .cont, h => exact h.elim
/-- f(e, ..) of a def that lets nothing out -/
theorem pe_fn (D : DefG X.prog X.w X.K X.mg X.base CX0 k x ps sp) (gd : X.A.guards = some []) (hr : Room k X.A) (ha : PA X (e :: es) t) (hg : Gl X x := by rfl) (hdb : (x == ("__debug__" : Str)) = false := by decide)
    (he : starEach (e :: es) X.env = (false, eval e X.env) :: starEach es X.env := by rfl) (hpl : (backTo pos (starEach es X.env)).any (·.1) = false := by rfl) : PE X (.Call (.Name x p) (e :: es) [] pos) (tCall sp [] E0 t) := by
  obtain ⟨f, fd, F, hm, kp, bi⟩ := D
  refine ⟨fun pins s σ H Q I q => wpAny_Call_Name_kw (ld_glob I hg hm ?_ hdb)⟩
  refine PySem.W.callWith_K (h₀ := X.base) I.ok.mod.kin kp (thn (ha.run pos pins s σ H _ I q) fun us s1 r => ?_) he hpl
  obtain ⟨vs, H1, J, va, q1⟩ := r
  rw [List.append_nil] at q1
  exact ⟨J.kIn, go_call F bi gd hr (fun _ _ z => z.elim) J va q1⟩
theorem pe_fn0 (D : DefG X.prog X.w X.K X.mg X.base CX0 k x ps sp) (gd : X.A.guards = some []) (hr : Room k X.A) (hg : Gl X x := by rfl) (hdb : (x == ("__debug__" : Str)) = false := by decide) : PE X (.Call (.Name x p) [] [] pos) (tCall sp [] E0 tNil) := by
  obtain ⟨f, fd, F, hm, kp, bi⟩ := D
  refine ⟨fun pins s σ H Q I q => wpAny_Call_Name_kw (ld_glob I hg hm ?_ hdb)⟩
  exact PySem.W.callWith_K0 I.kIn kp (go_call F bi gd hr (fun _ _ z => z.elim) I .nil q)
end

/-! ### repr of data -/
/-- what is read of a value of data: a leaf, or an object -/
theorem call_reprD {X : Cx} (gd : X.A.guards = some []) (hu : X.A.units + 200 < cLine) :
    CallR X (.builtin "repr") (fun xs H Q => ∃ a d, xs = [V.ref a] ∧ Dp X.K H (.ref a) d ∧ d.showable = true ∧ d.hasDict = false ∧ d.depth ≤ 100 ∧ d.shown.length ≤ sizeLine ∧ Q (.str d.shown) H) := by
  intro pins s σ H vs us Q I rv h
  obtain ⟨a, d, rfl, hd, h1, h2, h3, h4, q⟩ := h
  cases rv with
  | cons r rr =>
    cases rr
    have r' : _ = Value.ref a := r
    subst r'
    obtain ⟨as, rd⟩ := Dp.reads I d _ _ hd rfl
    refine repr_of_reads' rd h1 (fun z => by rw [h2] at z; cases z) gd (by omega) (fun _ _ e => e) (fun h' u tk kp => ?_) h4
    exact ⟨.str d.shown, H, I.kept (t' := tk) kp, ⟨u, rfl⟩, q⟩
theorem hu_rep {A : Around} {k : Nat} (hr : Room k A) : A.units + 200 < cLine := by have := hr.un; omega

/-! ### the rules that speak of the written part, it being named: a block's reading must not speak of the block -/
section
variable {X : Cx} (K : PySem.W.Frag)
theorem ixL (h : X.K = K := by rfl) : IxR X (rIxL K) := by subst h; exact ix_list
theorem ixT (h : X.K = K := by rfl) : IxR X (rIxT K) := by subst h; exact ix_tup
theorem slL (h : X.K = K := by rfl) : SlR X (rSlL K) := by subst h; exact sl_list
theorem slT (h : X.K = K := by rfl) : SlR X (rSlT K) := by subst h; exact sl_tup
theorem inQ (h : X.K = K := by rfl) : OpR X (compareOp .In) (rIn K false) := by subst h; exact op_in_seq
theorem notInQ (h : X.K = K := by rfl) : OpR X (compareOp .NotIn) (rIn K true) := by subst h; exact op_notIn_seq
theorem lenQ (h : X.K = K := by rfl) : CallR X (.builtin "len") (fun xs H Q => ∃ p ys, xs = [.ref p] ∧ (SqL K H p ys ∨ SqT K H p ys) ∧ Q (.int ys.length) H) := by subst h; exact call_len_seq
theorem listQ (h : X.K = K := by rfl) : CallR X (.type "list") (fun xs H Q => ∃ p ys, xs = [.ref p] ∧ (SqL K H p ys ∨ SqT K H p ys) ∧ ∀ l, H l = none → Q (.ref l) (upd H l (.lst ys))) := by subst h; exact call_list_of
theorem tupQ (h : X.K = K := by rfl) : CallR X (.type "tuple") (fun xs H Q => ∃ p ys, xs = [.ref p] ∧ ((SqL K H p ys ∧ ∀ l, H l = none → Q (.ref l) (upd H l (.tup ys))) ∨ (SqT K H p ys ∧ Q (.ref p) H))) := by subst h; exact call_tuple_of
theorem sumQ (hc : X.calm = true) (h : X.K = K := by rfl) : CallR X (.builtin "sum") (rSum K) := by subst h; exact cr_sum hc
theorem maxQ (hc : X.calm = true) (h : X.K = K := by rfl) : CallR X (.builtin "max") (rMax K) := by subst h; exact cr_max hc
theorem minQ (hc : X.calm = true) (h : X.K = K := by rfl) : CallR X (.builtin "min") (rMin K) := by subst h; exact cr_min hc
theorem anyQ (hc : X.calm = true) (h : X.K = K := by rfl) : CallR X (.builtin "any") (rAny K) := by subst h; exact cr_any hc
theorem allQ (hc : X.calm = true) (h : X.K = K := by rfl) : CallR X (.builtin "all") (rAll K) := by subst h; exact cr_all hc
theorem sortedQ (h : X.K = K := by rfl) : CallR X (.builtin "sorted") (rSorted K) := by subst h; exact cr_sorted
theorem isiQ (h : X.K = K := by rfl) : CallR X (.builtin "isinstance") (rIsi K) := by subst h; exact call_isi
variable {tg l e e2 : Expr} {tl : TE} {ta : TA} {p pos tpos apos : Pos} {elts es : List Expr} {kk k n : Nat} {t : TGs}
theorem piL (hl : PE X l tl) (h : X.K = K := by rfl) : PI X tg l (iList K tl) := by subst h; exact pi_list hl
theorem piT (hl : PE X l tl) (h : X.K = K := by rfl) : PI X tg l (iTup K tl) := by subst h; exact pi_tup hl
theorem piEnum (hg : Gl X "enumerate") (hm : X.mg "enumerate" = none) (ha : PA X [e] ta) (hs : starEach [e] X.env = [(false, eval e X.env)] := by rfl) (h : X.K = K := by rfl) :
    PI X (.Tuple elts kk tpos) (.Call (.Name "enumerate" p) [e] [] pos) (iEnum K ta) := by subst h; exact pi_enum hg hm ha hs
theorem piZip (hg : Gl X "zip") (hm : X.mg "zip" = none) (ha : PA X [e, e2] ta) (hs : starEach [e, e2] X.env = (false, eval e X.env) :: starEach [e2] X.env := by rfl)
    (hpl : (backTo pos (starEach [e2] X.env)).any (·.1) = false := by rfl) (h : X.K = K := by rfl) : PI X (.Tuple elts kk tpos) (.Call (.Name "zip" p) [e, e2] [] pos) (iZip K ta) := by subst h; exact pi_zip hg hm ha hs hpl
theorem piRev (hg : Gl X "reversed") (hm : X.mg "reversed" = none) (ha : PA X [e] ta) (hs : starEach [e] X.env = [(false, eval e X.env)] := by rfl) (h : X.K = K := by rfl) :
    PI X tg (.Call (.Name "reversed" p) [e] [] pos) (iRev K ta) := by subst h; exact pi_reversed hg hm ha hs
theorem gT (hc : X.calm = true) (hp : PGs X es t) (hn : (assignEach es X.env).length = n := by rfl) (hst : (assignEach es X.env).findIdx? (·.1) = none := by rfl) (h : X.K = K := by rfl) : PG X (.Tuple es k pos) (gTup K n t) := by
  subst h; exact pg_tup hc hp hn hst
theorem joinQ {o : Expr} {to te : TE} (ho : PE X o to) (he : PE X e te) (hs : starEach [e] X.env = [(false, eval e X.env)] := by rfl) (hb : attributeBase o "join" X.env (eval o X.env) = eval o X.env := by rfl) (hl : (apos.endLine == pos.line) = true := by rfl) (h : X.K = K := by rfl) :
    PE X (.Call (.Attribute o "join" apos) [e] [] pos) (tM1 (fun x xs H Q => ∃ a p, ∃ ys : List Str, x = .str a ∧ xs = [.ref p] ∧ (SqL K H p (ys.map V.str) ∨ SqT K H p (ys.map V.str)) ∧
      (ys.map (·.length)).sum + ys.length * a.length ≤ 16777216 ∧ Q (.str (Txt.join a ys)) H) to te) := by subst h; exact pe_join ho he hs hb hl
end
/-- text.index(sign), found -/
theorem pe_sindex {X : Cx} {o e : Expr} {to te : TE} {apos pos : Pos} (ho : PE X o to) (he : PE X e te) (hs : starEach [e] X.env = [(false, eval e X.env)] := by rfl) (hb : attributeBase o "index" X.env (eval o X.env) = eval o X.env := by rfl) (hl : (apos.endLine == pos.line) = true := by rfl) :
    PE X (.Call (.Attribute o "index" apos) [e] [] pos) (tM1 (fun x xs H Q => ∃ a b i rest, x = .str a ∧ xs = [.str b] ∧ Builtin.Str.occurrences a b 0 a.length 1 = i :: rest ∧ Q (.int (i : Nat)) H) to te) :=
  pe_m1 F.slot_str_index F.type_str_index mt_sindex ho he hs hb hl
end Hw

/-! calls of defs that may let an exception out -/
namespace Hw
open PySem PySem.Spec PyProof.Rows L2
section
variable {X : Cx} {CX : CXT} {k : Nat} {x : Str} {ps : List Str} {sp : Sp} {E : L2.St → XK} {p pos : Pos} {e : Expr} {es : List Expr} {t : TA}
/-- f(e, ..): what leaves it is as E tells, by the slots at the call -/
theorem pe_fnS (D : DefG X.prog X.w X.K X.mg X.base CX k x ps sp) (gd : X.A.guards = some []) (hr : Room k X.A) (hx : ∀ σ, PassesAt CX X σ (E σ)) (ha : PA X (e :: es) t) (hg : Gl X x := by rfl) (hdb : (x == ("__debug__" : Str)) = false := by decide)
    (he : starEach (e :: es) X.env = (false, eval e X.env) :: starEach es X.env := by rfl) (hpl : (backTo pos (starEach es X.env)).any (·.1) = false := by rfl) : PE X (.Call (.Name x p) (e :: es) [] pos) (tCallS sp E t) := by
  obtain ⟨f, fd, F, hm, kp, bi⟩ := D
  refine ⟨fun pins s σ H Q I q => wpAny_Call_Name_kw (ld_glob I hg hm ?_ hdb)⟩
  refine PySem.W.callWith_K (h₀ := X.base) I.ok.mod.kin kp (thn (ha.run pos pins s σ H _ I q) fun us s1 r => ?_) he hpl
  obtain ⟨vs, H1, J, va, q1⟩ := r
  refine ⟨J.kIn, ?_⟩
  have len : us.length = ps.length := va.length ▸ F.size _ _ _ _ q1
  have b := bi s1 us J.kIn (by rw [List.append_nil]; exact len)
  rw [List.append_nil] at b
  refine wpAny_call (codeAny_mono (F.go X.A X.stack s1 H1 _ us vs Q (E σ) gd hr J.env0 b va q1) fun r s2 h => ?_)
  match r, h with
  | .error e, h => exact hx σ pins H1 s1 e s2 J h
  | .ok (.ret u), h => exact J.after h
  | .ok .next, h => exact h.elim
  | .ok .brk, h => exact h.elim
  | .ok .cont, h => exact h.elim
/-- the same inside a try or a def that lets W out -/
theorem pe_fnW {W : WX} (D : DefG X.prog X.w X.K X.mg X.base (L2.CX X.prog X.w) k x ps sp) (gd : X.A.guards = some []) (hr : Room k X.A) (tk : Takes X W) (ha : PA X (e :: es) t) (hg : Gl X x := by rfl) (hdb : (x == ("__debug__" : Str)) = false := by decide)
    (he : starEach (e :: es) X.env = (false, eval e X.env) :: starEach es X.env := by rfl) (hpl : (backTo pos (starEach es X.env)).any (·.1) = false := by rfl) : PE X (.Call (.Name x p) (e :: es) [] pos) (tCallS sp (WE W) t) :=
  pe_fnS D gd hr (passAt tk) ha hg hdb he hpl
end
section
variable {X : Cx} {C : Addr} {bmB : List Value} {B newId initId : String}
/-- X(): an own class without own __init__, no arguments -/
theorem pmk_own0 {x : Str} {p pos : Pos} (F : ExcBaseFacts B newId initId bmB) (q : PySem.W.excIn X.K C bmB newId = true) (gC : X.mg x = some (.ref C)) (kC : PySem.W.keepIn X.K (.ref C) = true) (r : Raises X (.ref C)) (hg : Gl X x)
    (hdb : (x == ("__debug__" : Str)) = false := by decide) : PMk X (.Call (.Name x p) [] [] pos) (fun _ H Q => Q (.ref C) none H) := by
  intro pins s σ H Q I h
  refine wpAny_Call_Name_kw (ld_glob I hg gC ?_ hdb)
  refine PySem.W.callWith_K0 I.kIn kC ?_
  show wpAny _ _ (call (.ref C) []) _ _ _
  obtain ⟨bm, N, nm, qn, bs, hdct, sn, sub, ab, col, dd, k0, k1, k2, k3, k5, mN, hC, hN, hni, T⟩ := exc_obj I.kIn q
  refine wpAny_call_exc_subT F T hC hN hni (fun h' e hm => ?_) (Nat.zero_le _)
  exact mk_of I hm r h (I.hok.gone hm.new)
end
end Hw

/-! own exception classes: their facts, defs that are called with a caught error in an except suite -/
namespace Hw
open PySem PySem.Spec PyProof.Rows L2
/-- an own class stands at its name -/
structure OwnC (K : PySem.W.Frag) (mg : Str → Option Value) (x : Str) (C : Addr) : Prop where
  g : mg x = some (.ref C)
  kp : PySem.W.keepIn K (.ref C) = true
  b : PySem.W.subIn K (.ref C) (.type "BaseException") = some true
  t : PySem.W.typeIn K (.ref C) = some (.type "type")
  h : PySem.W.hasDictIn K C = true
/-- it is one that takes any arguments, and is raised -/
structure PlainC (K : PySem.W.Frag) (C : Addr) : Prop where
  e : PySem.W.excIn K C [.type "ValueError", .type "Exception", .type "BaseException", .type "object"] "ValueError.__new__" = true
  is : ExcC K C
  ve : PySem.W.kitOne K (.ref C) (.type "ValueError") = some true
theorem OwnC.catch {K : PySem.W.Frag} {mg : Str → Option Value} {x : Str} {C : Addr} {cls : Value} {b : Bool} (o : OwnC K mg x C) (s : PySem.W.subIn K cls (.ref C) = some b) : PySem.W.exmOne K cls (.ref C) = some b :=
  PySem.W.exm_ref o.b o.h o.t s
theorem takesNo {X : Cx} : Takes X (fun _ _ _ _ => False) := fun _ _ x => by
  obtain ⟨_, _, _, _, _, _, _, _, _, _, _, _, _, _, _, _, w⟩ := x
  exact w.elim
/-- isinstance(e, C) of a pinned error -/
theorem isEQ {X : Cx} (K : PySem.W.Frag) {a D : Addr} {oe : Obj} (hp : (a, oe) ∈ X.pn) (C : ExcC K D) (hz : Zc (.ref D) none oe) (hf : ∃ vs, oe.data = .fields vs) (hK : X.K = K := by rfl) : CallR X (.builtin "isinstance") (rIsE K D a) := by
  subst hK
  intro pins s σ H xs us Q I r h
  obtain ⟨c, cv, b, rfl, hcv, e, q⟩ := h
  match us, r with
  | [_, _], .cons rx (.cons rt .nil) =>
    cases rx
    cases hcv _ rt
    have hget := (I.pin (a, oe) (List.mem_append_left _ hp)).1
    obtain ⟨vs, hv⟩ := hf
    have J : PySem.W.InstAt s.heap a oe D none := by
      obtain ⟨oc, od, oda, osl⟩ := oe
      obtain ⟨h1, h2⟩ := hz
      cases h1
      cases h2
      cases hv
      exact ⟨hget, rfl, rfl, trivial⟩
    exact PySem.W.kia_one (PySem.W.handS_kitx_exc C.hg C.hk C.hs C.hd C.ha C.hn C.ht C.hm) I.kIn J e (fun z => nomatch z) fun tk => ⟨.bl b, H, I.kept (t' := tk) fun _ _ z => z, rfl, q⟩
/-- what a def promises that is called with a caught error: its place, its class, its dict -/
structure FnP (P : Program) (w : World) (K : PySem.W.Frag) (mg : Str → Option Value) (base : Heap) (k : Nat) (f : Addr) (fd : FuncData) (ps : List Str) (sp : Addr → Value → Option Addr → Sp) : Prop where
  size : ∀ a c d vs H Q E, sp a c d vs H Q E → vs.length = ps.length
  go : ∀ (A : Around) (out : List Env) (z : Shared) (H : Hp) (ar : Args) (us : List Value) (vs : List V) (Q : VK) (E : XK) (p : Addr × Obj) (c : Value) (d : Option Addr), L2H.RoomH k A → L2H.PinOk out H z p → Zc c d p.2 → (∃ ws, p.2.data = .fields ws) →
    Env0 P w K mg base A out z H → BindsTo z fd ar (ps.zip us) → Vals vs us → sp p.1 c d vs H Q E → codeAny (model P w) A (.call (.ref f) ar) (CR CX0 out P w H z Q E) z
theorem FnP.body {P : Program} {w : World} {K : PySem.W.Frag} {mg : Str → Option Value} {base : Heap} {k : Nat} {f : Addr} {fd : FuncData} {N ps : List Str} {sp : Addr → Value → Option Addr → Sp} {x qual : Str} {st : Stmt} (F : Fun K x qual st f fd) (S : FnScope N ps (defScope st))
    (sz : ∀ a c d vs H Q E, sp a c d vs H Q E → vs.length = ps.length)
    (bd : ∀ (cd : Value) (A : Around) (out : List Env) (z : Shared) (H : Hp) (vs : List V) (Q : VK) (E : XK) (p : Addr × Obj) (c : Value) (d : Option Addr), L2H.RoomH k (A.deeper (envOfC qual (defScope st) z.heap.objs.size f cd)) → Zc c d p.2 → (∃ ws, p.2.data = .fields ws) → sp p.1 c d vs H Q E →
      ∃ t, PSs (L2H.cxH CX0 P w K mg base N qual (defScope st) f cd A out z H E p).nox (defBody st) t ∧ t { nx := fun _ H' => Q .non H', rt := Q } (L2.start N vs) H) : FnP P w K mg base (k + 1) f fd ps sp := by
  obtain ⟨oc, od, kV, dc, pm, an, cd, ct, sl, rfl, look, isC⟩ := F.ex
  refine ⟨sz, ?_⟩
  intro A out z H ar us vs Q E p c d room pk hz hf en bi va pr
  have many := sz _ _ _ _ _ _ _ pr
  have stays : ∀ b o, base.get? b = some o → z.heap.get? b = some o := fun b o e => (en.bs b o e).1
  have inK : K.In z.heap := en.mod.kin.keeps stays
  have noL : z.heap.NoLimit := en.mod.nolimit.keeps stays
  have kinds : ∀ y ∈ ps.zip us, (defScope st).names.lookup y.1 = some .local ∨ ((defScope st).names.lookup y.1 = some .cell ∧ ((cellsFrom (z.heap.objs.size + 1) (defScope st).names []).lookup y.1).isSome = true) := by
    rintro ⟨n, v⟩ hy
    cases S.par n (List.of_mem_zip hy).1 with
    | inl q => exact .inl q
    | inr q => exact .inr ⟨q, PySem.W.cellsFrom_some _ _ _ (.inl q)⟩
  refine codeAny_call_function room.depth (inK _ _ look) rfl S.co S.gen rfl (PySem.W.codeRec_of inK isC) (bi _ _ _ _ ?_)
  refine wpAny_newFunctionEnv_cells S.kind kinds fun env e0 z1 w1 => ?_
  subst e0
  obtain ⟨t, ht, q⟩ := bd cd A out z H vs Q E p c d (room.deeper _) hz hf pr
  have I := L2H.inv_startH (CX := CX0) (E := E) S pk en many va w1
  refine ⟨noL.keeps w1.toInCall.keep, codeAny_func (wpAny_mono (ht.nox.run [] z1 _ H _ I q) (fun fl z2 r => ?_) fun _ _ r => r)⟩
  cases fl with
  | next =>
    obtain ⟨_, H2, J, q2⟩ := r
    exact ⟨.non, H2, J.os, J.bare, J.base, J.hok, rfl, q2⟩
  | ret u =>
    obtain ⟨v, _, H2, J, rv, q2⟩ := r
    exact ⟨v, H2, J.os, J.bare, J.base, J.hok, rv, q2⟩
  | brk => exact r.choose_spec.choose_spec.2.elim
  | cont => exact r.choose_spec.choose_spec.2.elim
def DefP (P : Program) (w : World) (K : PySem.W.Frag) (mg : Str → Option Value) (base : Heap) (k : Nat) (x : Str) (ps : List Str) (sp : Addr → Value → Option Addr → Sp) : Prop :=
  ∃ (f : Addr) (fd : FuncData), FnP P w K mg base k f fd ps sp ∧ mg x = some (.ref f) ∧ PySem.W.keepIn K (.ref f) = true ∧ Binds K fd ps []
/-- f(e, ..) in an except suite -/
theorem pe_fnP {X : Cx} {k : Nat} {x : Str} {ps : List Str} {sp : Addr → Value → Option Addr → Sp} {p pos : Pos} {e : Expr} {es : List Expr} {t : TA} {a : Addr} {oe : Obj} {c : Value} {d : Option Addr}
    (D : DefP X.prog X.w X.K X.mg X.base k x ps sp) (hr : L2H.RoomH k X.A) (hp : (a, oe) ∈ X.pn) (hz : Zc c d oe) (hf : ∃ ws, oe.data = .fields ws) (ha : PA X (e :: es) t) (hg : Gl X x := by rfl) (hdb : (x == ("__debug__" : Str)) = false := by decide)
    (he : starEach (e :: es) X.env = (false, eval e X.env) :: starEach es X.env := by rfl) (hpl : (backTo pos (starEach es X.env)).any (·.1) = false := by rfl) : PE X (.Call (.Name x p) (e :: es) [] pos) (tCall (sp a c d) [] E0 t) := by
  obtain ⟨f, fd, F, hm, kp, bi⟩ := D
  refine ⟨fun pins s σ H Q I q => wpAny_Call_Name_kw (ld_glob I hg hm ?_ hdb)⟩
  refine PySem.W.callWith_K (h₀ := X.base) I.ok.mod.kin kp (thn (ha.run pos pins s σ H _ I q) fun us s1 r => ?_) he hpl
  obtain ⟨vs, H1, J, va, q1⟩ := r
  rw [List.append_nil] at q1
  refine ⟨J.kIn, ?_⟩
  have len : us.length = ps.length := va.length ▸ F.size _ _ _ _ _ _ _ q1
  have b := bi s1 us J.kIn (by rw [List.append_nil]; exact len)
  rw [List.append_nil] at b
  have pn := J.pin (a, oe) (List.mem_append_left _ hp)
  have pk : L2H.PinOk X.stack H1 s1 (a, oe) := ⟨pn.1, pn.2.1, fun m => (List.mem_cons.mp (J.stkSub a m)).elim pn.2.2.1 pn.2.2.2.1, pn.2.2.2.2⟩
  refine wpAny_call (codeAny_mono (F.go X.A X.stack s1 H1 _ us vs Q E0 (a, oe) c d hr pk hz hf J.env0 b va q1) fun r s2 h => ?_)
  match r, h with
  | .error e, h => exact h.elim
  | .ok (.ret u), h => exact J.after h
  | .ok .next, h => exact h.elim
  | .ok .brk, h => exact h.elim
  | .ok .cont, h => exact h.elim
theorem roomS {k j : Nat} {A : Around} {h : Option Value} (r : Room k A) (l : j ≤ k) : L2H.RoomH j (A.mark h) := ⟨(r.mono l).dp, (r.mono l).un⟩
end Hw

/-! own errors whose __init__ says super().__init__(..) first, then lays fields -/
namespace Hw
open PySem PySem.Spec PyProof.Rows L2
/-- what the written part says of the class at C and of its __init__ at f -/
structure SuC (P : Program) (K : PySem.W.Frag) (mg : Str → Option Value) (C f cc : Addr) (F : NdefX.NF) : Prop where
  ob : OexC K C
  it : PySem.W.findIn K (.ref C) "__init__" = some (some (.ref f))
  ty : PySem.W.typeIn K (.ref f) = some (.type "function")
  fn : ∃ oc od doc pm ctv sl, K.lookup f = some ⟨oc, od, .func (F.fd doc pm ctv), sl⟩
  cl : F.cl = [(("__class__" : Str), cc)]
  cd : PySem.W.codeIn K (.ref F.c) F.qual = true
  co : ∃ ccl cdd vs ccs file tf, K.lookup F.c = some ⟨ccl, cdd, .fields vs, ccs⟩ ∧ vs[2]? = some (.str file tf) ∧ ((P.main.file : Str) == file) = true
  tp : (P.main.scope.names.lookup ("super" : Str)).isSome = false
  ce : ∃ a b d, K.lookup cc = some ⟨a, b, .cell (some (.ref C)), d⟩
  mr : PySem.W.mroIn K C (.ref C) = some true
  sp : mg "super" = none
  op : PySem.W.nsIn K cStatics "thirdparty.any" = some none
  su : PySem.W.ks_superIn K C C "__init__" = some (some (.builtin "ValueError.__init__"))
  ve : PySem.W.subIn K (.ref C) (.type "ValueError") = some true
section
variable {P : Program} {w : World} {K : PySem.W.Frag} {mg : Str → Option Value} {base : Heap} {C f cc : Addr} {F : NdefX.NF} {N ps : List Str}
/-- the arguments are told to the built-in __init__ -/
theorem mw_call {A : Around} {E : Value → Shared → Prop} {X : Cx} {pins : List (Addr × Obj)} {σ : L2.St} {H : Hp} {s : Shared} {a u : Addr} {us : List Value} {Q : Value → Shared → Prop} (T : OexC X.K C) (I : Inv X pins σ H s) (e : H a = some (exo a C none))
    (hu : s.heap.get? u = some (PySem.W.kxs_mw "ValueError.__init__" a)) (hl : us.length ≤ sizeLine) (h : ∀ s', Inv X pins σ H s' → Q .none s') : wpAny (model X.prog X.w) A (call (.ref u) us) Q E s := by
  obtain ⟨nm, q, N, bs, bm, sn, sub, ab, col, dd, k0, k1, k2, k3, k5, hC, hbm⟩ := T.cls
  obtain ⟨t1, ho⟩ := exo_at I.hok e
  have hC' := I.kIn _ _ hC
  obtain ⟨hp, g, d, t, os⟩ := s
  refine wpAny_call (codeAny_of_tree ?_)
  show wpAny _ A.in1 (callAny (.ref u) ⟨us, []⟩) _ _ _
  simp only [callAny]
  refine wpAny_bind (wpAny_load hu ?_)
  simp only [PySem.W.kxs_mw, show (Value.type "method-wrapper" == Value.type "method" || Value.type "method-wrapper" == Value.type "builtin_function_or_method" || Value.type "method-wrapper" == Value.type "method-wrapper") = true by decide, if_true]
  refine PySem.W.KFB.if_so (by decide) ?_
  refine wpAny_bind (PySem.W.check_bound_init PySem.F.excBase_ValueError.toExcCallFacts hC' ho rfl ?_)
  refine wpAny_bind (wpAny_pure (wpAny_pure ?_))
  refine ⟨plainId_quiet PySem.F.excBase_ValueError.init.plain _, codeAny_builtin PySem.F.excBase_ValueError.initEntry ?_⟩
  refine PySem.W.exc_init_tree (cls := .ref C) (t0 := t1) (dv := none) (c2 := .none) (c3 := .none) (b4 := .bool false) ho hl fun h' k hx _ => ?_
  have J := I.write (t' := t) (x := a) (e := a) (o := exo a C none) (by rw [e]; exact True.intro) (.inl rfl) k ⟨_, hx⟩ (exo_ok hx)
  have eu : upd H a (exo a C none) = H := by
    funext b
    by_cases hb : b = a
    · rw [hb, upd_same, e]
    · rw [upd_ne hb]
  rw [eu] at J
  exact h _ J
/-- the body: super().__init__(e, ..), then rest -/
theorem fn_su {k : Nat} {fd : FuncData} {sp : Sp} {p0 p1 p2 p3 p4 : Pos} {e : Expr} {es : List Expr} {rest : List Stmt} {oc : Value} {od : Option Addr} {doc pm ctv : Value} {sl : Array (Option Value)} {sf : Str} {ps' : List Str} {ar : Arg}
    (S : SuC P K mg C f cc F) (NS : NdefX.NScope N ps ["__class__"] F.scope) (lk : K.lookup f = some ⟨oc, od, .func (F.fd doc pm ctv), sl⟩)
    (hb : F.body = .Expr (.Call (.Attribute (.Call (.Name "super" p0) [] [] p1) "__init__" p2) (e :: es) [] p3) p4 :: rest) (hps : ps = sf :: ps') (har : (F.params.posonlyargs ++ F.params.args).head? = some ar) (hsf : ar.arg = sf)
    (hks : F.scope.names.lookup ("super" : Str) = some .globalImplicit)
    (len : ∀ vs H Q E, sp vs H Q E → vs.length = ps.length)
    (he : ∀ env : Env, starEach (e :: es) env = (false, eval e env) :: starEach es env) (hpl : ∀ (env : Env) (pos : Pos), (backTo pos (starEach es env)).any (·.1) = false)
    (hc : ∀ env : Env, ∃ pl, eval (.Call (.Attribute (.Call (.Name "super" p0) [] [] p1) "__init__" p2) (e :: es) [] p3) env = (do
      let ov ← attributeBase (.Call (.Name "super" p0) [] [] p1) "__init__" env (eval (.Call (.Name "super" p0) [] [] p1) env)
      standAt p2.atName
      let (f, first) ← holding [ov] (getMethod ov "__init__" pl)
      callWith p3 f first (backTo p3 (starEach (e :: es) env)) []))
    (hi : ∀ (L : Addr), interactive (NdefX.envF F f L) = false) (hsw : ∀ (L : Addr), swapsWith (.Call (.Attribute (.Call (.Name "super" p0) [] [] p1) "__init__" p2) (e :: es) [] p3) none p4.line (NdefX.envF F f L) = pure false)
    (bd : ∀ (A : Around) (out : List Env) (z : Shared) (H : Hp) (vs : List V) (Q : VK) (E : XK), sp vs H Q E →
      ∃ (a : Addr) (vs' : List V) (ta : TA) (t : TS), vs = .ref a :: vs' ∧ H a = some (exo a C none) ∧ PA (NdefX.ncx CX0 P w K mg base N F f A out z H E) (e :: es) ta ∧ ta (NdefX.startF N vs [none]) H (fun us H1 => us.length ≤ 1000 ∧ H1 = H) ∧
        PSs (NdefX.ncx CX0 P w K mg base N F f A out z H E) rest t ∧ t { nx := fun _ H' => Q .non H', rt := Q } (NdefX.startF N vs [none]) H) :
    FnOk P w K mg base CX0 (k + 1) f (F.fd doc pm ctv) ps sp := by
  refine ⟨len, fun A outer s H args us vs Q E hr e0 hbi r hsp => ?_⟩
  have hl := len _ _ _ _ hsp
  have stays : ∀ b o, base.get? b = some o → s.heap.get? b = some o := fun b o e => (e0.bs b o e).1
  have inK : K.In s.heap := e0.mod.kin.keeps stays
  have noL : s.heap.NoLimit := e0.mod.nolimit.keeps stays
  obtain ⟨a, vs', ta, t, rfl, ea, ha, qa, ht, qt⟩ := bd A outer s H vs Q E hsp
  obtain ⟨ca, cb, cd', lcc⟩ := S.ce
  have hcc : base.get? cc = some _ := e0.mod.kin _ _ lcc
  refine ks_codeAny_call_defAt (fd := F.fd doc pm ctv) (body := F.body) (binds := ps.zip us) hr.depth (inK _ _ lk) rfl noL (PySem.W.codeRec_of inK S.cd) rfl hbi NS.nocell (fun ⟨n, _⟩ hy => NS.par n (List.of_mem_zip hy).1) (fun h₁ hns hk₁ => ?_) NS.co NS.gen NS.kind
  show _root_.PySem.wpAt (model P w) (A.deeper (NdefX.envF F f s.heap.objs.size)) (.func F.body (NdefX.envF F f s.heap.objs.size)) (execs F.body (NdefX.envF F f s.heap.objs.size)) _ _ _
  have cells : NdefX.CellsAt F.cl ["__class__"] [none] s.heap H := by
    rw [S.cl]
    have look : ∀ {y : Str} {c : Addr}, ([(("__class__" : Str), cc)] : List (Str × Addr)).lookup y = some c → y = "__class__" ∧ c = cc := fun {y c} h => by
      rw [List.lookup_cons] at h
      cases hy : y == ("__class__" : Str) with
      | true => rw [hy] at h; exact ⟨eq_of_beq hy, (Option.some.inj h).symm⟩
      | false => rw [hy] at h; cases h
    refine ⟨rfl, fun y c h => ?_, fun x y c h1 h2 => ?_, fun i y h => ?_⟩
    · obtain ⟨_, rfl⟩ := look h
      exact ⟨(e0.bs _ _ hcc).2, _, _, inK _ _ lcc, rfl⟩
    · rw [(look h1).1, (look h2).1]
    · match i, h with
      | 0, h =>
        cases h
        exact ⟨cc, rfl, fun v z => by cases z⟩
      | i + 1, h => simp at h
  have kcc : H cc = none := (e0.bs _ _ hcc).2
  have kf : F.scope.names.lookup ("__class__" : Str) = some .free := NS.frk _ List.mem_cons_self
  let X : Cx := NdefX.ncx CX0 P w K mg base N F f A outer s H E
  have I : Inv X [] (NdefX.startF N (V.ref a :: vs') [none]) H { s with heap := h₁, toks := s.toks + (ps.zip us).length } := NdefX.inv_startN (f := f) NS hr.hd e0 hl r cells hns hk₁
  rw [hb]
  refine ks_wpAt_execs_cons (ks_wpAt_Expr_any ?_ (hi _) (hsw _))
  obtain ⟨pl, hev⟩ := hc (NdefX.envF F f s.heap.objs.size)
  refine ks_wpAt_MethodCall (pl := pl) ?_ hev
  obtain ⟨ccl, cdd, cvs, ccs, file, tf, lco, hcvs, hfile⟩ := S.co
  refine ks_wpAt_super_base (env := NdefX.envF F f s.heap.objs.size) hks kf (by decide) rfl (I.kIn _ _ lk) rfl har rfl (I.kIn _ _ lco) rfl hcvs hfile S.tp ?_
  obtain ⟨mb, hmb, hmbx⟩ := e0.mod.blt
  refine PySem.W.ks_loadName_global NS.kind hks (Calls.loadGlobal_builtin (e0.mod.glob.keeps I.bk) S.sp (hmb.keeps I.bk) ((hmbx _ (by decide)).trans (by decide +kernel)) ⟨rfl, ?_⟩)
  refine wpAny_loadName_free NS.kind kf (by show F.cl.lookup _ = _; rw [S.cl]; rfl) ⟨_, I.kIn _ _ lcc, rfl⟩ ?_
  have sfl : F.scope.names.lookup sf = some .local := NS.par _ (by rw [hps]; exact List.mem_cons_self)
  obtain ⟨m0, hns0, hlo⟩ := I.loc
  have n0 : N[0]? = some sf := by
    have q := congrArg (fun l => l[0]?) NS.pre
    rw [hps] at q
    simpa using q
  obtain ⟨u0, ru0, lo0⟩ := hlo 0 sf (.ref a) n0 rfl (.inl sfl)
  cases ru0
  have m0a : m0 sf = some (.ref a) := by
    rcases lo0 with ⟨_, h⟩ | ⟨h, _⟩
    · exact h
    · have h' : F.scope.names.lookup sf = some .cell ∨ F.scope.names.lookup sf = some .free := h
      rw [sfl] at h'
      rcases h' with h' | h' <;> cases h'
  rw [hsf]
  refine wpAny_loadName_local NS.kind sfl hns0 m0a ?_
  have T := S.ob
  obtain ⟨nm, q, N', bs, bm, sn, sub, ab, col, dd, k0, k1, k2, k3, k5, hCl, hbm⟩ := T.cls
  have hcl : PySem.W.clsIn K C = some { name := nm, bases := bs, mro := .ref C :: bm, ns := N', qualname := q, hasDict := true, slotNames := sn, subclasses := sub, abstract := ab, collection := col, hasDel := false } := by unfold PySem.W.clsIn; rw [hCl] <;> rfl
  have su := S.su
  unfold PySem.W.ks_superIn at su
  rw [hcl, Option.bind_some] at su
  obtain ⟨t1, hx⟩ := exo_at I.hok ea
  have hD := I.kIn _ _ hCl
  refine ks_wpAny_isType_cls hD rfl ⟨rfl, ?_⟩
  refine ks_wpAny_call_super hD rfl hx rfl (fun c z => by cases z) (PySem.W.looks_mroIn I.kIn S.mr) (fun h2 hso k2' => ?_)
  have I1 := I.kept (t' := s.toks + (ps.zip us).length) k2'
  obtain ⟨t2, hx2⟩ := exo_at I1.hok ea
  have J1 : PySem.W.InstAt h2 a _ C none := ⟨hx2, rfl, rfl, trivial⟩
  refine PySem.W.kxs_getMethod PySem.W.kxs_ValueError hso (PySem.W.looks_opaque I1.kIn S.op) (l₀ := .ref C :: bm) (fun A Q E s k q => wpAny_bind ((PySem.W.looks_clsIn I1.kIn hcl) A _ E s k (wpAny_pure q))) rfl I1.kIn su (J1.type.andThen (PySem.W.looks_subIn I1.kIn S.ve)) (PySem.W.ks_ne I1.kIn J1 hcl) (by decide) ?_
  have I2 := I1.kept (t' := s.toks + (ps.zip us).length + 1) (h' := h2.push (PySem.W.kxs_mw "ValueError.__init__" a)) (fun b o e => Heap.get?_push_of_some _ e)
  have hu : (h2.push (PySem.W.kxs_mw "ValueError.__init__" a)).get? h2.objs.size = some (PySem.W.kxs_mw "ValueError.__init__" a) := Heap.get?_push_at rfl rfl
  have fp := I1.fpOk (H' := H) (Nat.le_refl _) (I1.hok.fresh (Nat.le_refl _))
  have I3 : Inv X [(h2.objs.size, PySem.W.kxs_mw "ValueError.__init__" a)] (NdefX.startF N (V.ref a :: vs') [none]) H _ := ⟨I2.ok, I2.os, I2.bare, I2.base, I2.loc, I2.cell, I2.free, I2.freeC, fun p hp => by
    have e : p = (h2.objs.size, PySem.W.kxs_mw "ValueError.__init__" a) := by simpa using (show p ∈ ([] : List (Addr × Obj)) ++ [(h2.objs.size, PySem.W.kxs_mw "ValueError.__init__" a)] from hp)
    subst e
    exact ⟨hu, fp.1, fp.2.1, fp.2.2.1, fun v z => by cases z⟩, I2.hok, I2.len⟩
  show wpAny (model P w) X.A (callWith p3 (.ref h2.objs.size) [] (backTo p3 (starEach (e :: es) X.env)) []) _ X.xe _
  have hrun := ha.run p3 _ _ _ _ _ I3 qa
  rw [show starEach (e :: es) X.env = _ from he X.env]
  rw [show starEach (e :: es) (NdefX.ncx CX0 P w K mg base N F f A outer s H E).env = _ from he X.env] at hrun
  refine PySem.W.kxs_callWith (i := "ValueError.__init__") (x := a) (by show (false || (backTo p3 (starEach es X.env)).any (·.1)) = false; rw [hpl]; rfl) (Calls.evalArgs_plain (thn hrun fun ws s4 r4 => ?_))
  obtain ⟨vs4, H4, I4, va4, wl4, rfl⟩ := r4
  have hu4 : s4.heap.get? h2.objs.size = some (PySem.W.kxs_mw "ValueError.__init__" a) := (I4.pin _ (List.mem_append_right _ List.mem_cons_self)).1
  refine ⟨hu4, ?_⟩
  refine mw_call (X := X) S.ob I4 ea hu4 (by show ws.length ≤ sizeLine; rw [← va4.length, sizeLine_eq]; omega) fun s5 I5 => ?_
  have I6 : Inv X [] (NdefX.startF N (V.ref a :: vs') [none]) H4 s5 := ⟨I5.ok, I5.os, I5.bare, I5.base, I5.loc, I5.cell, I5.free, I5.freeC, fun p hp => absurd (show p ∈ ([] : List (Addr × Obj)) ++ [] from hp) (by simp), I5.hok, I5.len⟩
  refine _root_.PySem.wpAt_of_wpAny (wpAny_mono (ht.run [] s5 _ H4 _ I6 qt) (fun fl s' hs => ?_) fun e s' hs => hs)
  have fin : ∀ {σ' : L2.St} {H' : Hp} {v : V} {u : Value}, Inv X [] σ' H' s' → RelV v u → Q v H' → CE outer P w H4 s Q u s' := fun {σ' H' v u} J rv q => ⟨v, H', J.os, J.bare, J.base, J.hok, rv, q⟩
  cases fl with
  | ret u =>
    obtain ⟨v, σ', H', J, rv, q⟩ := hs
    exact fin J rv q
  | next =>
    obtain ⟨σ', H', J, q⟩ := hs
    exact fin (v := V.non) (u := Value.none) J rfl q
  | brk =>
    obtain ⟨_, _, _, q⟩ := hs
    exact False.elim q
  | cont =>
    obtain ⟨_, _, _, q⟩ := hs
    exact False.elim q
end
end Hw

/-! heaps: what is frozen (G) beside what changes; deep data and their encodings -/
namespace Hw
open PySem PySem.Spec PyProof.Rows L2

/-! ### frozen parts -/
theorem same_new {G H : Hp} {p : Addr} {o : HO} (s : Same G H) (n : H p = none) : Same G (upd H p o) := fun b u e => by
  rw [upd_ne (ne_of_none (s b u e) n)]; exact s b u e
theorem same_mut {G H : Hp} {p : Addr} {o : HO} (s : Same G H) (n : G p = none) : Same G (upd H p o) := fun b u e => by
  rw [upd_ne (ne_of_none e n)]; exact s b u e
/-- what stands at p is frozen too -/
theorem same_add {G H : Hp} {p : Addr} {o : HO} (s : Same G H) (e : H p = some o) : Same (upd G p o) H := fun b u h => by
  by_cases hb : b = p
  · subst hb; rw [upd_same] at h; rw [e]; exact h
  · rw [upd_ne hb] at h; exact s b u h
theorem same_sub {G : Hp} {p : Addr} {o : HO} (n : G p = none) : Same G (upd G p o) := same_new (Same.refl G) n
theorem free_of {G H : Hp} {p : Addr} (s : Same G H) (n : H p = none) : G p = none := s.free n
/-- the heap without one object -/
def off (H : Hp) (a : Addr) : Hp := fun b => if b = a then none else H b
theorem off_same {H : Hp} {a : Addr} : Same (off H a) H := fun b u e => by
  unfold off at e
  by_cases h : b = a
  · rw [if_pos h] at e; cases e
  · rw [if_neg h] at e; exact e
theorem off_at {H : Hp} {a : Addr} : off H a a = none := by unfold off; exact if_pos rfl
theorem off_ne {H : Hp} {a b : Addr} (h : b ≠ a) : off H a b = H b := by unfold off; exact if_neg h
/-- all but the one object stands as it stood -/
def Keep (a : Addr) (H H' : Hp) : Prop := ∀ b o, b ≠ a → H b = some o → H' b = some o
theorem Keep.refl (a : Addr) (H : Hp) : Keep a H H := fun _ _ _ h => h
theorem Keep.trans {a : Addr} {H H1 H2 : Hp} (x : Keep a H H1) (y : Keep a H1 H2) : Keep a H H2 := fun b o n h => y b o n (x b o n h)
theorem Keep.same {a : Addr} {G H H' : Hp} (x : Keep a H H') (s : Same G H) (n : G a = none) : Same G H' := fun b o h => x b o (ne_of_none h n) (s b o h)
theorem Keep.of {a : Addr} {H H' : Hp} (s : Same (off H a) H') : Keep a H H' := fun b o n h => s b o (by rw [off_ne n]; exact h)
theorem Keep.upd {a : Addr} {H : Hp} {o : HO} : Keep a H (upd H a o) := fun b u n h => by rw [upd_ne n]; exact h
theorem same_off {a : Addr} {G H : Hp} (s : Same G H) (n : G a = none) : Same G (off H a) := fun b o h => by
  rw [off_ne (ne_of_none h n)]; exact s b o h
theorem keep_same {a : Addr} {H H' : Hp} (s : Same H H') : Keep a H H' := fun b o _ h => s b o h

/-! ### deep data: lists and tuples that are tracked, of leaves -/
mutual
inductive Dq (H : Hp) : V → PyData → Prop
  | non : Dq H .non .none
  | bl (b : Bool) : Dq H (.bl b) (.bool b)
  | int (i : Int) : Dq H (.int i) (.int i)
  | str (x : Str) : Dq H (.str x) (.str x)
  | lst {a : Addr} {xs : List V} {ds : List PyData} : H a = some (.lst xs) → DqAll H xs ds → Dq H (.ref a) (.list ds)
  | tup {a : Addr} {xs : List V} {ds : List PyData} : H a = some (.tup xs) → DqAll H xs ds → Dq H (.ref a) (.tuple ds)
inductive DqAll (H : Hp) : List V → List PyData → Prop
  | nil : DqAll H [] []
  | cons {v : V} {vs : List V} {d : PyData} {ds : List PyData} : Dq H v d → DqAll H vs ds → DqAll H (v :: vs) (d :: ds)
end
mutual
theorem Dq_mono {G H : Hp} (e : Same G H) : ∀ (d : PyData) (v : V), Dq G v d → Dq H v d
  | .none, _, h => by cases h; exact .non
  | .bool _, _, h => by cases h; exact .bl _
  | .int _, _, h => by cases h; exact .int _
  | .str _, _, h => by cases h; exact .str _
  | .list ds, _, h => by
    cases h with
    | lst hs ha => exact .lst (e _ _ hs) (DqAll_mono e ds _ ha)
  | .tuple ds, _, h => by
    cases h with
    | tup hs ha => exact .tup (e _ _ hs) (DqAll_mono e ds _ ha)
  | .dict _, _, h => by cases h
theorem DqAll_mono {G H : Hp} (e : Same G H) : ∀ (ds : List PyData) (vs : List V), DqAll G vs ds → DqAll H vs ds
  | [], _, h => by cases h; exact .nil
  | d :: ds, _, h => by
    cases h with
    | cons h1 h2 => exact .cons (Dq_mono e d _ h1) (DqAll_mono e ds _ h2)
end
mutual
theorem Dq_Dp {K : PySem.W.Frag} {H : Hp} : ∀ (d : PyData) (v : V), Dq H v d → Dp K H v d
  | .none, _, h => by cases h; exact .non
  | .bool _, _, h => by cases h; exact .bl _
  | .int _, _, h => by cases h; exact .int _
  | .str _, _, h => by cases h; exact .str _
  | .list ds, _, h => by
    cases h with
    | lst hs ha => exact .lst (SqL.of hs) (DqAll_Dp ds _ ha)
  | .tuple ds, _, h => by
    cases h with
    | tup hs ha => exact .tup (SqT.of hs) (DqAll_Dp ds _ ha)
  | .dict _, _, h => by cases h
theorem DqAll_Dp {K : PySem.W.Frag} {H : Hp} : ∀ (ds : List PyData) (vs : List V), DqAll H vs ds → DpAll K H vs ds
  | [], _, h => by cases h; exact .nil
  | d :: ds, _, h => by
    cases h with
    | cons h1 h2 => exact .cons (Dq_Dp d _ h1) (DqAll_Dp ds _ h2)
end
section
variable {G H : Hp} {v : V} {vs : List V} {d : PyData} {ds es : List PyData}
theorem dp_up (h : Dq G v d) (e : Same G H) : Dq H v d := Dq_mono e d v h
theorem dps_up (h : DqAll G vs ds) (e : Same G H) : DqAll H vs ds := DqAll_mono e ds vs h
theorem dp_of {K : PySem.W.Frag} (h : Dq G v d) : Dp K G v d := Dq_Dp d v h
theorem dp_list (h : Dq G v (.list ds)) : ∃ a xs, v = .ref a ∧ G a = some (.lst xs) ∧ DqAll G xs ds := by
  cases h with
  | lst hs ha => exact ⟨_, _, rfl, hs, ha⟩
theorem dp_tuple (h : Dq G v (.tuple ds)) : ∃ a xs, v = .ref a ∧ G a = some (.tup xs) ∧ DqAll G xs ds := by
  cases h with
  | tup hs ha => exact ⟨_, _, rfl, hs, ha⟩
theorem dp_int {i : Int} (h : Dq G v (.int i)) : v = .int i := by cases h; rfl
theorem dp_bool {b : Bool} (h : Dq G v (.bool b)) : v = .bl b := by cases h; rfl
theorem dp_str {x : Str} (h : Dq G v (.str x)) : v = .str x := by cases h; rfl
theorem dp_none (h : Dq G v .none) : v = .non := by cases h; rfl
theorem dps_len : ∀ {vs : List V} {ds : List PyData}, DqAll G vs ds → vs.length = ds.length
  | _, _, .nil => rfl
  | _, _, .cons _ h => by rw [List.length_cons, List.length_cons, dps_len h]
theorem dps_get : ∀ {vs : List V} {ds : List PyData} {i : Nat} {d : PyData}, DqAll G vs ds → ds[i]? = some d → ∃ v, vs[i]? = some v ∧ Dq G v d
  | _, _, _, _, .nil, e => by simp at e
  | _, _, 0, _, .cons h _, e => by simp at e; subst e; exact ⟨_, rfl, h⟩
  | _, _, i + 1, d, .cons _ h, e => by
    obtain ⟨v, h1, h2⟩ := dps_get (i := i) (d := d) h (by simpa using e)
    exact ⟨v, by simpa using h1, h2⟩
theorem dps_get' : ∀ {vs : List V} {ds : List PyData} {i : Nat} {v : V}, DqAll G vs ds → vs[i]? = some v → ∃ d, ds[i]? = some d ∧ Dq G v d
  | _, _, _, _, .nil, e => by simp at e
  | _, _, 0, _, .cons h _, e => by simp at e; subst e; exact ⟨_, rfl, h⟩
  | _, _, i + 1, v, .cons _ h, e => by
    obtain ⟨d, h1, h2⟩ := dps_get' (i := i) (v := v) h (by simpa using e)
    exact ⟨d, by simpa using h1, h2⟩
theorem dps_app : ∀ {vs ws : List V} {ds es : List PyData}, DqAll G vs ds → DqAll G ws es → DqAll G (vs ++ ws) (ds ++ es)
  | _, _, _, _, .nil, h => h
  | _, _, _, _, .cons a b, h => .cons a (dps_app b h)
theorem dps_snoc (h : DqAll G vs ds) (h1 : Dq G v d) : DqAll G (vs ++ [v]) (ds ++ [d]) := dps_app h (.cons h1 .nil)
theorem dps_ints : ∀ {vs : List V} {ns : List Int}, DqAll G vs (ns.map PyData.int) → vs = ns.map V.int
  | _, [], h => by cases h; rfl
  | _, n :: ns, h => by
    cases h with
    | cons h1 h2 => rw [dp_int h1, dps_ints h2]; rfl
theorem dps_bools : ∀ {vs : List V} {ns : List Bool}, DqAll G vs (ns.map PyData.bool) → vs = ns.map V.bl
  | _, [], h => by cases h; rfl
  | _, n :: ns, h => by
    cases h with
    | cons h1 h2 => rw [dp_bool h1, dps_bools h2]; rfl
theorem dps_strs : ∀ {vs : List V} {ns : List Str}, DqAll G vs (ns.map PyData.str) → vs = ns.map V.str
  | _, [], h => by cases h; rfl
  | _, n :: ns, h => by
    cases h with
    | cons h1 h2 => rw [dp_str h1, dps_strs h2]; rfl
theorem ints_dps : ∀ {ns : List Int}, DqAll G (ns.map V.int) (ns.map PyData.int)
  | [] => .nil
  | n :: _ => .cons (.int n) ints_dps
theorem bools_dps : ∀ {ns : List Bool}, DqAll G (ns.map V.bl) (ns.map PyData.bool)
  | [] => .nil
  | n :: _ => .cons (.bl n) bools_dps
theorem strs_dps : ∀ {ns : List Str}, DqAll G (ns.map V.str) (ns.map PyData.str)
  | [] => .nil
  | n :: _ => .cons (.str n) strs_dps
end
/-! encodings -/
abbrev DI (ns : List Int) : PyData := .list (ns.map .int)
abbrev DB (bs : List Bool) : PyData := .list (bs.map .bool)
abbrev DS (xs : List Str) : PyData := .list (xs.map .str)
abbrev DT (t : List (List Int)) : PyData := .list (t.map DI)
/-- a machine -/
structure Mach where
  tab : List (List Int)
  ends : List Bool
abbrev DM (m : Mach) : PyData := .tuple [DT m.tab, DB m.ends]
section
variable {G H : Hp} {v : V} {a : Addr}
theorem dI {ns : List Int} (h : Dq G v (DI ns)) : ∃ a, v = .ref a ∧ G a = some (.lst (ns.map V.int)) := by
  obtain ⟨a, xs, e, hs, ha⟩ := dp_list h
  exact ⟨a, e, dps_ints ha ▸ hs⟩
theorem dB {ns : List Bool} (h : Dq G v (DB ns)) : ∃ a, v = .ref a ∧ G a = some (.lst (ns.map V.bl)) := by
  obtain ⟨a, xs, e, hs, ha⟩ := dp_list h
  exact ⟨a, e, dps_bools ha ▸ hs⟩
theorem dS {ns : List Str} (h : Dq G v (DS ns)) : ∃ a, v = .ref a ∧ G a = some (.lst (ns.map V.str)) := by
  obtain ⟨a, xs, e, hs, ha⟩ := dp_list h
  exact ⟨a, e, dps_strs ha ▸ hs⟩
theorem Idp {ns : List Int} (h : G a = some (.lst (ns.map V.int))) : Dq G (.ref a) (DI ns) := .lst h ints_dps
theorem Bdp {ns : List Bool} (h : G a = some (.lst (ns.map V.bl))) : Dq G (.ref a) (DB ns) := .lst h bools_dps
theorem Sdp {ns : List Str} (h : G a = some (.lst (ns.map V.str))) : Dq G (.ref a) (DS ns) := .lst h strs_dps
/-- a pair's parts -/
theorem dP {d e : PyData} (h : Dq G v (.tuple [d, e])) : ∃ a x y, v = .ref a ∧ G a = some (.tup [x, y]) ∧ Dq G x d ∧ Dq G y e := by
  obtain ⟨a, xs, e, hs, ha⟩ := dp_tuple h
  cases ha with
  | cons h1 h2 =>
    cases h2 with
    | cons h3 h4 =>
      cases h4
      exact ⟨a, _, _, e, hs, h1, h3⟩
/-- a machine's two lists -/
theorem dM {m : Mach} (h : Dq G v (DM m)) : ∃ a x y, v = .ref a ∧ G a = some (.tup [x, y]) ∧ Dq G x (DT m.tab) ∧ Dq G y (DB m.ends) := dP h
theorem Mdp {m : Mach} {x y : V} (h : G a = some (.tup [x, y])) (h1 : Dq G x (DT m.tab)) (h2 : Dq G y (DB m.ends)) : Dq G (.ref a) (DM m) := .tup h (.cons h1 (.cons h2 .nil))
/-- a table's row -/
theorem dT_row {t : List (List Int)} {xs : List V} {i : Nat} {r : List Int} (ha : DqAll G xs (t.map DI)) (e : t[i]? = some r) : ∃ b, xs[i]? = some (.ref b) ∧ G b = some (.lst (r.map V.int)) := by
  obtain ⟨v, h1, h2⟩ := dps_get (i := i) (d := DI r) ha (by rw [List.getElem?_map, e]; rfl)
  obtain ⟨b, rfl, h3⟩ := dI h2
  exact ⟨b, h1, h3⟩
end
theorem getI {ns : List Int} {i : Nat} {n : Int} (h : ns[i]? = some n) : (ns.map V.int)[i]? = some (.int n) := by rw [List.getElem?_map, h]; rfl
theorem getB {ns : List Bool} {i : Nat} {n : Bool} (h : ns[i]? = some n) : (ns.map V.bl)[i]? = some (.bl n) := by rw [List.getElem?_map, h]; rfl
theorem getS {ns : List Str} {i : Nat} {n : Str} (h : ns[i]? = some n) : (ns.map V.str)[i]? = some (.str n) := by rw [List.getElem?_map, h]; rfl
/-- at an int that is a place -/
theorem atI_of {α : Type} {xs : List α} {k : Int} {v : α} (h0 : 0 ≤ k) (h : xs[k.toNat]? = some v) : atI xs k = some v := by
  have e : ((k.toNat : Nat) : Int) = k := Int.toNat_of_nonneg h0
  rw [← e]; exact atI_nat h
theorem ixN_of {n : Nat} {k : Int} (h0 : 0 ≤ k) (h : k < n) : ixN n k = some k.toNat := by
  unfold ixN; rw [if_pos h0, if_pos h]
theorem exists_at {α : Type} {xs : List α} {k : Int} (h0 : 0 ≤ k) (h : k < xs.length) : ∃ v, xs[k.toNat]? = some v := by
  have : k.toNat < xs.length := by omega
  exact ⟨xs[k.toNat], List.getElem?_eq_getElem this⟩

/-! ### the drawn numbers: a place, then numbers below 60 -/
def PoolOk (H : Hp) (pa : Addr) : Prop := ∃ (p0 : Int) (ps : List Int), H pa = some (.lst ((p0 :: ps).map V.int)) ∧ 300 ≤ ps.length ∧ ps.length ≤ 5000 ∧ 0 ≤ p0 ∧ ∀ x ∈ ps, 0 ≤ x ∧ x < 60
theorem PoolOk.keep {H H' : Hp} {pa : Addr} (h : PoolOk H pa) (e : H' pa = H pa) : PoolOk H' pa := by
  obtain ⟨p0, ps, h1, h2⟩ := h
  exact ⟨p0, ps, by rw [e]; exact h1, h2⟩
theorem PoolOk.new {H : Hp} {pa p : Addr} {o : HO} (h : PoolOk H pa) (n : H p = none) : PoolOk (upd H p o) pa := by
  refine h.keep (upd_ne ?_)
  obtain ⟨p0, ps, h1, h2⟩ := h
  exact ne_of_none h1 n
theorem PoolOk.other {H : Hp} {pa p : Addr} {o : HO} (h : PoolOk H pa) (n : p ≠ pa) : PoolOk (upd H p o) pa := h.keep (upd_ne n.symm)

/-! ### what may happen between two moments -/
/-- S: the objects that may change (the drawn numbers); the others stay, none goes -/
structure Step (S : Addr → Prop) (H H' : Hp) : Prop where
  keep : ∀ b o, ¬ S b → H b = some o → H' b = some o
  dom : ∀ b, H' b = none → H b = none
abbrev NoS : Addr → Prop := fun _ => False
abbrev At (pa : Addr) : Addr → Prop := fun b => b = pa
section
variable {S S' : Addr → Prop} {H H1 H2 G G1 G2 H0 G0 : Hp} {p : Addr} {o : HO}
theorem Step.refl (S : Addr → Prop) (H : Hp) : Step S H H := ⟨fun _ _ _ h => h, fun _ h => h⟩
theorem Step.trans (a : Step S H H1) (b : Step S H1 H2) : Step S H H2 := ⟨fun c o n h => b.keep c o n (a.keep c o n h), fun c h => a.dom c (b.dom c h)⟩
theorem Step.wide (a : Step NoS H H1) : Step S H H1 := ⟨fun c o _ h => a.keep c o (fun z => z) h, a.dom⟩
theorem Step.same (a : Step NoS H H1) : Same H H1 := fun c o h => a.keep c o (fun z => z) h
theorem Step.new (n : H p = none) : Step S H (upd H p o) := ⟨fun b u _ h => by rw [upd_ne (ne_of_none h n)]; exact h, fun b h => by
  by_cases e : b = p
  · subst e; exact n
  · rw [upd_ne e] at h; exact h⟩
theorem Step.mut (s : S p) (n : H p ≠ none) : Step S H (upd H p o) := ⟨fun b u nb h => by rw [upd_ne (by rintro rfl; exact nb s)]; exact h, fun b h => by
  by_cases e : b = p
  · subst e; rw [upd_same] at h; cases h
  · rw [upd_ne e] at h; exact h⟩
/-- an object of one's own changes -/
theorem Step.own (a : Step S H0 H) (n : H0 p = none) : Step S H0 (upd H p o) := ⟨fun b u nb h => by rw [upd_ne (ne_of_none h n)]; exact a.keep b u nb h, fun b h => by
  by_cases e : b = p
  · subst e; exact n
  · rw [upd_ne e] at h; exact a.dom b h⟩
theorem Step.free (a : Step S H H1) (n : H1 p = none) : H p = none := a.dom p n
theorem Step.there (a : Step S H H1) (n : H p ≠ none) : H1 p ≠ none := fun z => n (a.dom p z)

/-- the drawn numbers are in order -/
def Pools (S : Addr → Prop) (H : Hp) : Prop := ∀ b, S b → PoolOk H b
theorem Pools.none : Pools NoS H := fun _ z => z.elim
theorem Pools.at {pa : Addr} (h : PoolOk H pa) : Pools (At pa) H := fun b e => by rw [show b = pa from e]; exact h
theorem Pools.ok {pa : Addr} (h : Pools (At pa) H) : PoolOk H pa := h pa rfl
theorem PoolOk.some {pa : Addr} (h : PoolOk H pa) : H pa ≠ Option.none := by
  obtain ⟨_, _, e, _⟩ := h
  rw [e]; exact fun z => nomatch z
theorem Pools.new (h : Pools S H) (n : H p = Option.none) : Pools S (upd H p o) := fun b s => (h b s).new n
theorem Pools.other (h : Pools S H) (n : ¬ S p) : Pools S (upd H p o) := fun b s => (h b s).other (by rintro rfl; exact n s)
theorem Pools.step (h : Pools S H) (a : Step NoS H H1) : Pools S H1 := fun b s => by
  obtain ⟨p0, ps, e, r⟩ := h b s
  exact ⟨p0, ps, a.same _ _ e, r⟩

/-- G is frozen in H, away from the drawn numbers -/
structure Ok (S : Addr → Prop) (H G : Hp) : Prop where
  same : Same G H
  pools : Pools S H
  out : ∀ b, S b → G b = none
/-- the frozen part has grown by new objects alone -/
structure Grow (G H G' : Hp) : Prop where
  same : Same G G'
  free : ∀ b, G b = none → H b ≠ none → G' b = none
/-- from H0 with its frozen part G0 to H with its frozen part G -/
structure Fz (S : Addr → Prop) (H0 G0 H G : Hp) : Prop where
  step : Step S H0 H
  grow : Grow G0 H0 G
  ok : Ok S H G
theorem Ok.fz (h : Ok S H G) : Fz S H G H G := ⟨Step.refl _ _, ⟨Same.refl _, fun _ h _ => h⟩, h⟩
theorem Ok.narrow (h : Ok S H G) : Ok NoS H G := ⟨h.same, Pools.none, fun _ z => z.elim⟩
theorem Fz.same (h : Fz S H0 G0 H G) : Same G H := h.ok.same
theorem Fz.up (h : Fz S H0 G0 H G) : Same G0 G := h.grow.same
theorem Fz.trans (a : Fz S H0 G0 H1 G1) (b : Fz S H1 G1 H2 G2) : Fz S H0 G0 H2 G2 :=
  ⟨a.step.trans b.step, ⟨a.grow.same.trans b.grow.same, fun c h n => b.grow.free c (a.grow.free c h n) (a.step.there n)⟩, b.ok⟩
/-- behind a call of a def that draws nothing -/
theorem Fz.call (a : Fz S H0 G0 H1 G1) (b : Fz NoS H1 G1 H2 G2) : Fz S H0 G0 H2 G2 :=
  ⟨a.step.trans b.step.wide, ⟨a.grow.same.trans b.grow.same, fun c h n => b.grow.free c (a.grow.free c h n) (a.step.there n)⟩,
    ⟨b.ok.same, a.ok.pools.step b.step, fun c s => b.grow.free c (a.ok.out c s) (a.ok.pools c s).some⟩⟩
/-- behind a call that hands back no object -/
theorem Fz.stepS (a : Fz S H0 G0 H1 G1) (b : Step S H1 H2) (po : Pools S H2) : Fz S H0 G0 H2 G1 :=
  ⟨a.step.trans b, a.grow, ⟨fun c o h => b.keep c o (fun s => by rw [a.ok.out c s] at h; cases h) (a.ok.same c o h), po, a.ok.out⟩⟩
theorem Fz.step0 (a : Fz S H0 G0 H1 G1) (b : Step NoS H1 H2) : Fz S H0 G0 H2 G1 := a.stepS b.wide (a.ok.pools.step b)
/-- a new object, frozen at once -/
theorem Fz.new (a : Fz S H0 G0 H G) (n : H p = none) : Fz S H0 G0 (upd H p o) (upd G p o) :=
  ⟨a.step.trans (Step.new n), ⟨a.grow.same.trans (same_sub (free_of a.ok.same n)), fun c h m => by
    rw [upd_ne (by rintro rfl; exact m (a.step.dom c n))]; exact a.grow.free c h m⟩,
    ⟨same_add (same_new a.ok.same n) upd_same, a.ok.pools.new n, fun b s => by
      rw [upd_ne (by rintro rfl; exact (a.ok.pools b s).some n)]; exact a.ok.out b s⟩⟩
/-- a new object that will change -/
theorem Fz.loc (a : Fz S H0 G0 H G) (n : H p = none) : Fz S H0 G0 (upd H p o) G :=
  ⟨a.step.trans (Step.new n), a.grow, ⟨same_new a.ok.same n, a.ok.pools.new n, a.ok.out⟩⟩
/-- it changes -/
theorem Fz.put (a : Fz S H0 G0 H G) (n : H0 p = none) (g : G p = none) (s : ¬ S p) : Fz S H0 G0 (upd H p o) G :=
  ⟨a.step.own n, a.grow, ⟨same_mut a.ok.same g, a.ok.pools.other s, a.ok.out⟩⟩
/-- it changes no more -/
theorem Fz.fix (a : Fz S H0 G0 H G) (n : H0 p = none) (e : H p = some o) (s : ¬ S p) : Fz S H0 G0 H (upd G p o) := by
  refine ⟨a.step, ⟨fun b u h => ?_, fun c h m => ?_⟩, ⟨same_add a.ok.same e, a.ok.pools, fun b t => ?_⟩⟩
  · by_cases hb : b = p
    · subst hb
      have := a.ok.same _ _ (a.grow.same _ _ h)
      rw [e] at this
      rw [upd_same]; exact this
    · rw [upd_ne hb]; exact a.grow.same _ _ h
  · rw [upd_ne (by rintro rfl; exact m n)]; exact a.grow.free c h m
  · rw [upd_ne (by rintro rfl; exact s t)]; exact a.ok.out b t
/-- many own objects change no more -/
theorem Fz.fixAll (a : Fz S H0 G0 H G) (as : List Addr) (n : ∀ p ∈ as, H0 p = none) (s : ∀ p ∈ as, ¬ S p) : Fz S H0 G0 H (fun b => if b ∈ as then H b else G b) := by
  refine ⟨a.step, ⟨fun b u h => ?_, fun c h m => ?_⟩, ⟨fun b u h => ?_, a.ok.pools, fun b t => ?_⟩⟩
  · show (if b ∈ as then H b else G b) = some u
    by_cases hb : b ∈ as
    · rw [if_pos hb]; exact a.ok.same _ _ (a.grow.same b u h)
    · rw [if_neg hb]; exact a.grow.same b u h
  · show (if c ∈ as then H c else G c) = none
    rw [if_neg fun z => m (n c z)]; exact a.grow.free c h m
  · by_cases hb : b ∈ as
    · have h' : (if b ∈ as then H b else G b) = some u := h
      rw [if_pos hb] at h'; exact h'
    · have h' : (if b ∈ as then H b else G b) = some u := h
      rw [if_neg hb] at h'; exact a.ok.same b u h'
  · show (if b ∈ as then H b else G b) = none
    rw [if_neg fun z => s b z t]; exact a.ok.out b t
theorem Fz.pool {pa : Addr} (a : Fz (At pa) H0 G0 H G) : PoolOk H pa := a.ok.pools pa rfl
theorem Ok.pool {pa : Addr} (a : Ok (At pa) H G) : PoolOk H pa := a.pools pa rfl
/-- an own object is none of the drawn numbers -/
theorem Ok.ne (h : Ok S H G) (n : H p = none) : ¬ S p := fun s => (h.pools p s).some n
/-- an own object stays behind a step -/
theorem Step.own_stays {u : HO} (a : Step S H H1) (s : ¬ S p) (e : H p = some u) : H1 p = some u := a.keep _ _ s e
theorem Grow.out {u : HO} (a : Grow G H G1) (g : G p = none) (e : H p = some u) : G1 p = none := a.free _ g (by rw [e]; exact fun z => nomatch z)
end

/-! ### comprehensions -/
section
variable {J : It} {items : List V} {Gd : Hp → Prop} {g : TG} {tt : TT} {te : TE} {vs : List Nat} {σ : L2.St} {H1 : Hp} {D : Addr} {Qd : Hp → Prop}
/-- elements that change nothing -/
theorem lc_map (w : Walk J items.length Gd (YAt items)) (F : V → V) (p : V → Bool) (hz : items.length ≤ 100000) (hG : ∀ acc, Gd (upd H1 D (.lst acc)))
    (hs : ∀ (i : Nat) (x : V) (acc : List V) (N : Hp → Prop), items[i]? = some x → (p x = true → ∃ acc', upd H1 D (.lst acc) D = some (.lst acc') ∧ acc'.length < sizeLine ∧ N (upd (upd H1 D (.lst acc)) D (.lst (acc' ++ [F x])))) → (p x = false → N (upd H1 D (.lst acc))) →
      g x (wipe σ vs) (upd H1 D (.lst acc)) fun σ2 H2 => wipe σ2 vs = wipe σ vs ∧ tt σ2 H2 fun b H3 => if b = true then te σ2 H3 fun y H4 => ∃ acc, H4 D = some (.lst acc) ∧ acc.length < sizeLine ∧ N (upd H4 D (.lst (acc ++ [y]))) else N H3)
    (hd : Qd (upd H1 D (.lst ((items.filter p).map F)))) :
    ∃ W : Nat → Nat → Hp → Prop, (∃ m, W 0 m (upd H1 D (.lst []))) ∧ ∀ i m H, W i m H →
      (J.stop i H ∧ Qd H) ∨ (J.go i H ∧ ∃ Nx : Hp → Prop, (∀ H', Nx H' → ∃ m', m' < m ∧ W (i + 1) m' H') ∧ ∀ x H', J.yld i H x H' → g x (wipe σ vs) H' fun σ2 H2 => wipe σ2 vs = wipe σ vs ∧ tt σ2 H2 fun b H3 =>
        if b = true then te σ2 H3 fun y H4 => ∃ acc, H4 D = some (.lst acc) ∧ acc.length < sizeLine ∧ Nx (upd H4 D (.lst (acc ++ [y]))) else Nx H3) := by
  have len : ∀ i, (((items.take i).filter p).map F).length ≤ items.length := fun i => by
    rw [List.length_map]
    exact Nat.le_trans (List.length_filter_le _ _) (by rw [List.length_take]; omega)
  refine lc_it w (fun i H => H = upd H1 D (.lst (((items.take i).filter p).map F))) rfl (fun i H _ e => by rw [e]; exact hG _) (fun i x H H' hi e y => ?_) (fun H e => ?_)
  · obtain ⟨rfl, hx⟩ := y
    subst e
    have hsn : (items.take (i + 1)).filter p = (items.take i).filter p ++ (if p x = true then [x] else []) := by
      rw [List.take_add_one, hx, List.filter_append]
      show _ ++ List.filter p [x] = _
      unfold List.filter
      cases p x <;> rfl
    refine hs i x _ _ hx (fun hp => ⟨_, upd_same, Nat.lt_of_le_of_lt (Nat.le_trans (len i) hz) (by decide), ?_⟩) (fun hp => ?_)
    · show _ = upd H1 D _
      rw [upd_upd, hsn, if_pos hp, List.map_append]
      rfl
    · show _ = upd H1 D _
      rw [hsn, if_neg (by rw [hp]; exact Bool.false_ne_true), List.append_nil]
  · rw [e, List.take_of_length_le (Nat.le_refl _)]
    exact hd
/-- elements that may draw and make new data; R tells of the item at each place; the list may change later -/
theorem lc_drawU {S : Addr → Prop} {G1 : Hp} {R : Nat → PyData → Prop} (w : Walk J items.length Gd (YAt items)) (hz : items.length ≤ 100000) (ok : Ok S H1 G1) (nD : H1 D = none) (hG : ∀ H, Same G1 H → Gd H)
    (hs : ∀ (i : Nat) (x : V) (H G : Hp) (N : Hp → Prop), items[i]? = some x → i < items.length → Fz S H1 G1 H G → (∀ y H4 G4 d, Fz S H G H4 G4 → Dq G4 y d → R i d → ∃ acc, H4 D = some (.lst acc) ∧ acc.length < sizeLine ∧ N (upd H4 D (.lst (acc ++ [y])))) →
      g x (wipe σ vs) H fun σ2 H2 => wipe σ2 vs = wipe σ vs ∧ tt σ2 H2 fun b H3 => if b = true then te σ2 H3 fun y H4 => ∃ acc, H4 D = some (.lst acc) ∧ acc.length < sizeLine ∧ N (upd H4 D (.lst (acc ++ [y]))) else N H3)
    (hd : ∀ H G acc ds, Fz S H1 G1 H G → G D = none → H D = some (.lst acc) → DqAll G acc ds → ds.length = items.length → (∀ (i : Nat) d, ds[i]? = some d → R i d) → Qd H) :
    ∃ W : Nat → Nat → Hp → Prop, (∃ m, W 0 m (upd H1 D (.lst []))) ∧ ∀ i m H, W i m H →
      (J.stop i H ∧ Qd H) ∨ (J.go i H ∧ ∃ Nx : Hp → Prop, (∀ H', Nx H' → ∃ m', m' < m ∧ W (i + 1) m' H') ∧ ∀ x H', J.yld i H x H' → g x (wipe σ vs) H' fun σ2 H2 => wipe σ2 vs = wipe σ vs ∧ tt σ2 H2 fun b H3 =>
        if b = true then te σ2 H3 fun y H4 => ∃ acc, H4 D = some (.lst acc) ∧ acc.length < sizeLine ∧ Nx (upd H4 D (.lst (acc ++ [y]))) else Nx H3) := by
  have sD : ¬ S D := ok.ne nD
  refine lc_it w (fun i H => ∃ G acc ds, Fz S H1 G1 H G ∧ G D = none ∧ H D = some (.lst acc) ∧ DqAll G acc ds ∧ ds.length = i ∧ ∀ (j : Nat) d, ds[j]? = some d → R j d)
    ⟨G1, [], [], ok.fz.loc nD, free_of ok.same nD, upd_same, .nil, rfl, fun j d e => by simp at e⟩ (fun i H _ e => ?_) (fun i x H H' hi e y => ?_) (fun H e => ?_)
  · obtain ⟨G, _, _, z, _⟩ := e
    exact hG H (z.up.trans z.same)
  · obtain ⟨rfl, hx⟩ := y
    obtain ⟨G, acc, ds, z, gD, hD, dp, dl, hR⟩ := e
    refine hs i x H' G _ hx hi z fun y H4 G4 d z4 d4 r4 => ?_
    have hD4 : H4 D = some (.lst acc) := z4.step.own_stays sD hD
    have gD4 : G4 D = none := z4.grow.out gD hD
    have la := dps_len dp
    refine ⟨acc, hD4, Nat.lt_of_le_of_lt (show acc.length ≤ 100000 by omega) (by decide), G4, acc ++ [y], ds ++ [d], (z.trans z4).put nD gD4 sD, gD4, upd_same, dps_snoc (dps_up dp z4.up) d4, by rw [List.length_append, dl]; rfl, fun j e he => ?_⟩
    by_cases hj : j < ds.length
    · rw [List.getElem?_append_left hj] at he
      exact hR j e he
    · rw [List.getElem?_append_right (by omega)] at he
      have : j - ds.length = 0 := by
        cases h : j - ds.length with
        | zero => rfl
        | succ m => rw [h] at he; simp at he
      have hji : j = i := by omega
      subst hji
      rw [this] at he
      simp at he
      subst he
      exact r4
  · obtain ⟨G, acc, ds, z, gD, hD, dp, dl, hR⟩ := e
    exact hd H G acc ds z gD hD dp dl hR
/-- the same, the list frozen -/
theorem lc_draw {S : Addr → Prop} {G1 : Hp} {R : Nat → PyData → Prop} (w : Walk J items.length Gd (YAt items)) (hz : items.length ≤ 100000) (ok : Ok S H1 G1) (nD : H1 D = none) (hG : ∀ H, Same G1 H → Gd H)
    (hs : ∀ (i : Nat) (x : V) (H G : Hp) (N : Hp → Prop), items[i]? = some x → i < items.length → Fz S H1 G1 H G → (∀ y H4 G4 d, Fz S H G H4 G4 → Dq G4 y d → R i d → ∃ acc, H4 D = some (.lst acc) ∧ acc.length < sizeLine ∧ N (upd H4 D (.lst (acc ++ [y])))) →
      g x (wipe σ vs) H fun σ2 H2 => wipe σ2 vs = wipe σ vs ∧ tt σ2 H2 fun b H3 => if b = true then te σ2 H3 fun y H4 => ∃ acc, H4 D = some (.lst acc) ∧ acc.length < sizeLine ∧ N (upd H4 D (.lst (acc ++ [y]))) else N H3)
    (hd : ∀ H G ds, Fz S H1 G1 H G → Dq G (.ref D) (.list ds) → H D ≠ none → ds.length = items.length → (∀ (i : Nat) d, ds[i]? = some d → R i d) → Qd H) :
    ∃ W : Nat → Nat → Hp → Prop, (∃ m, W 0 m (upd H1 D (.lst []))) ∧ ∀ i m H, W i m H →
      (J.stop i H ∧ Qd H) ∨ (J.go i H ∧ ∃ Nx : Hp → Prop, (∀ H', Nx H' → ∃ m', m' < m ∧ W (i + 1) m' H') ∧ ∀ x H', J.yld i H x H' → g x (wipe σ vs) H' fun σ2 H2 => wipe σ2 vs = wipe σ vs ∧ tt σ2 H2 fun b H3 =>
        if b = true then te σ2 H3 fun y H4 => ∃ acc, H4 D = some (.lst acc) ∧ acc.length < sizeLine ∧ Nx (upd H4 D (.lst (acc ++ [y]))) else Nx H3) :=
  lc_drawU w hz ok nD hG hs fun H G acc ds z gD hD dp dl hR =>
    hd H _ ds (z.fix nD hD (ok.ne nD)) (.lst upd_same (dps_up dp (same_sub gD))) (by rw [hD]; exact fun z => nomatch z) dl hR
end
end Hw

/-! own errors held as values -/
namespace Hw
open PySem PySem.Spec PyProof.Rows L2
/-- at a: an error of the class at C, its fields fs -/
def Err (H : Hp) (a C : Addr) (fs : List (Str × V)) : Prop := (fs = [] ∧ H a = some (exo a C none)) ∨ ∃ d, H a = some (exo a C (some d)) ∧ H d = some (exd d fs)
theorem Err.up {H H' : Hp} {a C : Addr} {fs : List (Str × V)} (e : Err H a C fs) (s : Same H H') : Err H' a C fs := by
  rcases e with ⟨h, h1⟩ | ⟨d, h1, h2⟩
  · exact .inl ⟨h, s _ _ h1⟩
  · exact .inr ⟨d, s _ _ h1, s _ _ h2⟩
theorem Err.inst {P : Program} {w : World} {H : Hp} {h : Heap} {a C : Addr} {fs : List (Str × V)} (e : Err H a C fs) (hok : HOk P w H h) : ∃ (ox : Obj) (od : Option Obj), PySem.W.InstAt h a ox C od := by
  rcases e with ⟨_, h1⟩ | ⟨d, h1, h2⟩
  · obtain ⟨t, q⟩ := exo_at hok h1
    exact ⟨_, none, q, rfl, rfl, trivial⟩
  · obtain ⟨t, q⟩ := exo_at hok h1
    obtain ⟨mA, hns, _⟩ := exd_at hok h2
    obtain ⟨o, _, _, ho, _⟩ := hns
    exact ⟨_, some o, q, rfl, rfl, ho⟩
/-- isinstance of an error that is held -/
def rIsV (K : PySem.W.Frag) : List V → Hp → VK → Prop := fun xs H Q => ∃ (a C : Addr) (fs : List (Str × V)) (c : V) (cv : Value) (b : Bool), xs = [.ref a, c] ∧ Err H a C fs ∧ ExcC K C ∧ (∀ u, RelV c u → u = cv) ∧ PySem.W.kitOne K (.ref C) cv = some b ∧ Q (.bl b) H
theorem isEV {X : Cx} (K : PySem.W.Frag) (hK : X.K = K := by rfl) : CallR X (.builtin "isinstance") (rIsV K) := by
  subst hK
  intro pins s σ H xs us Q I r h
  obtain ⟨a, C, fs, c, cv, b, rfl, er, xC, hcv, e, q⟩ := h
  match us, r with
  | [_, _], .cons rx (.cons rt .nil) =>
    cases rx
    cases hcv _ rt
    obtain ⟨ox, od, J⟩ := er.inst I.hok
    obtain ⟨cd, hcd, _⟩ := PySem.W.any_some xC.hd
    exact PySem.W.kia_one (PySem.W.kitx_exc (by rw [hcd]; rfl) xC.hg xC.hk xC.hs xC.ha xC.hn xC.ht xC.hm) I.kIn J e (fun z => nomatch z) fun tk => ⟨.bl b, H, I.kept (t' := tk) fun _ _ z => z, rfl, q⟩
/-- err.f -/
def tEf (K : PySem.W.Frag) (f : Str) (te : TE) : TE := fun σ H Q => te σ H fun x H1 => ∃ (a C : Addr) (fs : List (Str × V)) (v : V), x = .ref a ∧ Err H1 a C fs ∧ ExcC K C ∧ PySem.W.findIn K (.ref C) f = some none ∧ fs.lookup f = some v ∧ Q v H1
theorem pe_ef {X : Cx} (K : PySem.W.Frag) {e : Expr} {te : TE} {pos : Pos} {f : Str} (he : PE X e te) (hb : attributeBase e f X.env (eval e X.env) = eval e X.env := by rfl) (hK : X.K = K := by rfl) : PE X (.Attribute e f pos) (tEf K f te) := by
  subst hK
  refine ⟨fun pins s σ H Q I h => ?_⟩
  refine attr_of hb (thn (he.run pins s σ H _ I h) fun u s1 hh => ?_)
  obtain ⟨x, H1, I1, rx, a, C, fs, v, rfl, er, xC, hno, hl, q⟩ := hh
  cases rx
  rcases er with ⟨rfl, _⟩ | ⟨d, h1, h2⟩
  · cases hl
  · obtain ⟨t, hx⟩ := exo_at I1.hok h1
    obtain ⟨mA, hns, hr⟩ := exd_at I1.hok h2
    obtain ⟨od, ho, hlo⟩ := lookIn_ns hns
    obtain ⟨u, hu, ru⟩ := RelO.some_of (v := v) (o := mA f) (by rw [← hl]; exact hr f)
    have J : PySem.W.InstAt s1.heap a _ C (some od) := ⟨hx, rfl, rfl, ho⟩
    exact PySem.HandSPX.exc_get I1.kIn J xC.hg xC.hk xC.hs (PySem.W.findObj_own xC.hd hno rfl (by rw [hlo, hu])) (handed_of ru) ⟨v, H1, I1.tok _, ru, q⟩
section
variable {X : Cx} {C : Addr} {x : Str} {p pos : Pos}
/-- X(), a new error -/
def tNew0 (C : Addr) : TE := fun _ H Q => ∀ a, H a = none → Q (.ref a) (upd H a (exo a C none))
theorem pe_new0 (q : PySem.W.excIn X.K C [.type "ValueError", .type "Exception", .type "BaseException", .type "object"] "ValueError.__new__" = true) (gC : X.mg x = some (.ref C)) (kC : PySem.W.keepIn X.K (.ref C) = true) (hg : Gl X x := by rfl)
    (hdb : (x == ("__debug__" : Str)) = false := by decide) : PE X (.Call (.Name x p) [] [] pos) (tNew0 C) := by
  refine ⟨fun pins s σ H Q I h => wpAny_Call_Name_kw (ld_glob I hg gC ?_ hdb)⟩
  refine PySem.W.callWith_K0 I.kIn kC ?_
  show wpAny _ _ (call (.ref C) []) _ _ _
  obtain ⟨bm, N, nm, qn, bs, hdct, sn, sub, ab, col, dd, k0, k1, k2, k3, k5, mN, hC, hN, hni, T⟩ := exc_obj I.kIn q
  obtain ⟨hp, g, d, t, os⟩ := s
  refine wpAny_call_exc_subT PySem.F.excBase_ValueError T hC hN hni (fun h' e hm => ?_) (Nat.zero_le _)
  obtain ⟨t1, he, _, _⟩ := hm.there
  have na : H e = none := I.hok.gone hm.new
  exact ⟨.ref e, _, I.laidN (t' := t) hm.keeps hm.new na (exo_ok he), rfl, h e na⟩
/-- what __init__ promises: the fields are laid -/
def spInit (C : Addr) (names : List Str) : Sp := fun vs H Q _ => ∃ (a : Addr) (us : List V), vs = .ref a :: us ∧ us.length = names.length ∧ H a = some (exo a C none) ∧
  ∀ (d : Addr) (H' : Hp), H d = none → H' a = some (exo a C (some d)) → H' d = some (exd d (names.zip us).reverse) → (∀ b, b ≠ a → b ≠ d → H' b = H b) → Q .non H'
structure MkC (P : Program) (w : World) (K : PySem.W.Frag) (mg : Str → Option Value) (base : Heap) (x : Str) (C : Addr) (names : List Str) : Prop where
  ob : OexC K C
  g : mg x = some (.ref C)
  fn : ∃ (f : Addr) (fd : FuncData), PySem.W.findIn K (.ref C) "__init__" = some (some (.ref f)) ∧ PySem.W.typeIn K (.ref f) = some (.type "function") ∧ FnOk P w K mg base CX0 1 f fd ("self" :: names) (spInit C names) ∧ Binds K fd ("self" :: names) []
/-- X(e, ..), a new error with its fields -/
def tNewF (C : Addr) (names : List Str) (ta : TA) : TE := fun σ H Q => ta σ H fun us H1 => us.length = names.length ∧ us.length ≤ 1000 ∧
  ∀ (a d : Addr) (H2 : Hp), H1 a = none → H1 d = none → d ≠ a → H2 a = some (exo a C (some d)) → H2 d = some (exd d (names.zip us).reverse) → (∀ b, b ≠ a → b ≠ d → H2 b = H1 b) → Q (.ref a) H2
theorem pe_newF {names : List Str} {e : Expr} {es : List Expr} {ta : TA} (M : MkC X.prog X.w X.K X.mg X.base x C names) (hr : Room 2 X.A) (ha : PA X (e :: es) ta) (hg : Gl X x := by rfl) (hdb : (x == ("__debug__" : Str)) = false := by decide)
    (he : starEach (e :: es) X.env = (false, eval e X.env) :: starEach es X.env := by rfl) (hpl : (backTo pos (starEach es X.env)).any (·.1) = false := by rfl) : PE X (.Call (.Name x p) (e :: es) [] pos) (tNewF C names ta) := by
  obtain ⟨f, fd, iC, tI, F1, bi⟩ := M.fn
  obtain ⟨nm, q, N, bs, bm, sn, sub, ab, col, dd, k0, k1, k2, k3, k5, hC, hbm⟩ := M.ob.cls
  refine ⟨fun pins s σ H Q I h => wpAny_Call_Name_kw (ld_glob I hg M.g ?_ hdb)⟩
  refine PySem.W.callWith_K (h₀ := X.base) I.ok.mod.kin M.ob.kC (thn (ha.run pos pins s σ H _ I h) fun us s1 r => ?_) he hpl
  obtain ⟨vs, H1, I1, r1, nl, hz, q1⟩ := r
  refine ⟨I1.kIn, ?_⟩
  show wpAny _ _ (call (.ref C) us) _ _ _
  obtain ⟨hp, g, dr, tk, os⟩ := s1
  have hsz : hp.objs.size ≤ hp.objs.size + 1 := Nat.le_succ _
  have hn : H1 (hp.objs.size + 1) = none := I1.hok.fresh hsz
  have kk : ∀ b o, hp.get? b = some o → ((hp.push (PySem.W.kdv_tup us)).push (PySem.HandSPX.excO C hp.objs.size)).get? b = some o := fun b o e => Heap.get?_push_of_some _ (Heap.get?_push_of_some _ e)
  have hget : ((hp.push (PySem.W.kdv_tup us)).push (PySem.HandSPX.excO C hp.objs.size)).get? (hp.objs.size + 1) = some (PySem.HandSPX.excO C hp.objs.size) := by heap_get
  have I2 := I1.laid (t' := tk) (a := hp.objs.size + 1) (o := exo (hp.objs.size + 1) C none) (h' := (hp.push (PySem.W.kdv_tup us)).push (PySem.HandSPX.excO C hp.objs.size)) kk hsz (exo_ok hget)
  have r2 : Vals (V.ref (hp.objs.size + 1) :: vs) (Value.ref (hp.objs.size + 1) :: us) := .cons rfl r1
  have hus : us.length ≤ sizeLine := by
    rw [← Paired.length r1, sizeLine_eq]
    omega
  have hl : (Value.ref (hp.objs.size + 1) :: us ++ []).length = (("self" : Str) :: names).length := by
    rw [List.append_nil, List.length_cons, List.length_cons, ← Paired.length r1, nl]
  have b := bi _ (Value.ref (hp.objs.size + 1) :: us) I2.kIn hl
  rw [List.append_nil] at b
  have hq : spInit C names (V.ref (hp.objs.size + 1) :: vs) (upd H1 (hp.objs.size + 1) (exo (hp.objs.size + 1) C none)) (fun v H2 => v = .non ∧ Q (.ref (hp.objs.size + 1)) H2) (fun _ _ _ => False) :=
    ⟨_, vs, rfl, nl, upd_same, fun d H' hd h1 h2 h3 => by
      have da : d ≠ hp.objs.size + 1 := fun z => by rw [z, upd_same] at hd; cases hd
      rw [upd_ne da] at hd
      exact ⟨rfl, q1 _ d H' hn hd da h1 h2 fun b hb hbd => by rw [h3 b hb hbd, upd_ne hb]⟩⟩
  refine wpAny_call (PySem.HandSPX.call_own PySem.F.excBase_ValueError (fun Y => PySem.HandSPX.refsVE_contains Y bm hbm) (I1.kIn _ _ hC) (PySem.W.looks_findIn I1.kIn iC) (fun self => PySem.W.bind_fn I1.kIn self tI) hus
    (codeAny_mono (F1.run _ X.stack _ _ ⟨Value.ref (hp.objs.size + 1) :: us, []⟩ (Value.ref (hp.objs.size + 1) :: us) _ _ (fun _ _ _ => False) (hr.make C us []) (I2.env0.make C us []) b r2 hq) fun r s' hq' => ?_))
  match r, hq' with
  | .error er, hq' => exact hq'.elim
  | .ok (.ret u), hq' =>
    obtain ⟨v, H2, os2, bare2, un2, hok2, rv, ⟨rfl, q2⟩⟩ := hq'
    obtain ⟨h2, g2, d2, t2, os'⟩ := s'
    obtain rfl : os' = os := os2
    exact ⟨rv, .ref _, H2, I2.call (h' := h2) (g' := g2) (d' := d2) (t' := t2) (ch := []) un2 hok2 bare2 (fun b z => absurd z (by simp)), rfl, q2⟩
  | .ok .next, hq' => exact hq'.elim
  | .ok .brk, hq' => exact hq'.elim
  | .ok .cont, hq' => exact hq'.elim
end
/-! ### the classes' facts, gathered -/
def exB (K : PySem.W.Frag) (C : Addr) : Bool := PySem.W.keepIn K (.ref C) && (decide (PySem.W.subIn K (.ref C) (.type "BaseException") = some true) && (decide (PySem.W.typeIn K (.ref C) = some (.type "type")) && (PySem.W.hasDictIn K C &&
  (decide (PySem.W.findIn K (.ref C) "__getattribute__" = some (some (.builtin "BaseException.__getattribute__"))) && (decide (PySem.W.findIn K (.ref C) "__getattr__" = some none) && (decide (PySem.W.findIn K (.ref C) "__class__" = some (some (.builtin "object.__class__"))) &&
  (decide (PySem.W.specialIn K (.builtin "object.__class__") "__get__" = some (some (.builtin "getset_descriptor.__get__"))) && (decide (PySem.W.takesIn K (.builtin "object.__class__") = some true) && (decide (PySem.W.mroIn K C (.type "object") = some true) && decide (PySem.W.kitOne K (.ref C) (.type "ValueError") = some true))))))))))
structure ExF (K : PySem.W.Frag) (C : Addr) : Prop where
  kp : PySem.W.keepIn K (.ref C) = true
  t : PySem.W.typeIn K (.ref C) = some (.type "type")
  is : ExcC K C
  ve : PySem.W.kitOne K (.ref C) (.type "ValueError") = some true
theorem exB_ok {K : PySem.W.Frag} {C : Addr} (h : exB K C = true) : ExF K C := by
  unfold exB at h
  simp only [Bool.and_eq_true, decide_eq_true_eq] at h
  obtain ⟨h1, h2, h3, h4, h5, h6, h7, h8, h9, h10, h11⟩ := h
  exact ⟨h1, h3, ⟨h5, h6, h2, h4, h7, h8, h9, h10⟩, h11⟩
/-- which of the classes an error of the class C is of -/
def kitRow (K : PySem.W.Frag) (C : Addr) (ks : List Addr) (row : List Bool) : Bool := decide (ks.map (fun k => PySem.W.kitOne K (.ref C) (.ref k)) = row.map some)
theorem kitRow_ok {K : PySem.W.Frag} {C : Addr} {ks : List Addr} {row : List Bool} (h : kitRow K C ks row = true) : ks.map (fun k => PySem.W.kitOne K (.ref C) (.ref k)) = row.map some := of_decide_eq_true h
def NoF (K : PySem.W.Frag) (C : Addr) : List Str → Prop
  | [] => True
  | n :: r => PySem.W.findIn K (.ref C) n = some none ∧ NoF K C r
abbrev nfOf (st : Stmt) (q : Str) (cc cd : Addr) : NdefX.NF := { name := "__init__", qual := q, params := defArgs st, body := defBody st, scope := defScope st, cl := [(("__class__" : Str), cc)], c := cd }
/-- the class at C has the __init__ that st says -/
def MkAt (P : Program) (K : PySem.W.Frag) (C : Addr) (st : Stmt) (q : Str) (names : List Str) : Prop := ∃ (f cc cd : Addr) (oc : Value) (od : Option Addr) (doc pm ctv : Value) (sl : Array (Option Value)),
  (∀ mg : Str → Option Value, mg "super" = none → SuC P K mg C f cc (nfOf st q cc cd)) ∧ K.lookup f = some ⟨oc, od, .func ((nfOf st q cc cd).fd doc pm ctv), sl⟩ ∧ NoF K C names
theorem mkAt {P : Program} {K : PySem.W.Frag} {C f cc cd : Addr} {st : Stmt} {q : Str} {names : List Str} {oc : Value} {od : Option Addr} {doc pm ctv : Value} {sl : Array (Option Value)} {ccl : Value} {cdd : Option Addr} {vs : Array Value} {ccs : Array (Option Value)} {file : Str} {tf : Tok} {a : Value} {b : Option Addr} {d : Array (Option Value)}
    {nm qn : Str} {N : Addr} {bs bm : List Value} {sn : List Str} {sub : List Value} {ab : Bool} {col : Option Bool} {dd : Option Addr} {k0 k1 k2 k3 k5 : Option Value}
    (i : PySem.W.findIn K (.ref C) "__init__" = some (some (.ref f))) (ti : PySem.W.typeIn K (.ref f) = some (.type "function")) (lk : K.lookup f = some ⟨oc, od, .func (PySem.W.fnX "__init__" q (defArgs st) (defBody st) (defScope st) [(("__class__" : Str), cc)] .none .none doc pm none (.ref cd) ctv), sl⟩)
    (ccd : PySem.W.codeIn K (.ref cd) q = true) (lc : K.lookup cd = some ⟨ccl, cdd, .fields vs, ccs⟩) (hv : vs[2]? = some (.str file tf)) (hf : ((P.main.file : Str) == file) = true) (tp : (P.main.scope.names.lookup ("super" : Str)).isSome = false) (ce : K.lookup cc = some ⟨a, b, .cell (some (.ref C)), d⟩)
    (mr : PySem.W.mroIn K C (.ref C) = some true) (op : PySem.W.nsIn K cStatics "thirdparty.any" = some none) (su : PySem.W.ks_superIn K C C "__init__" = some (some (.builtin "ValueError.__init__"))) (ve : PySem.W.subIn K (.ref C) (.type "ValueError") = some true)
    (lC : K.lookup C = some (excClassObj nm qn C N bs bm true sn sub ab col dd k0 k1 k2 k3 k5 "ValueError.__new__")) (rv : PySem.HandSPX.refsVE bm = true) (sa : PySem.W.findIn K (.ref C) "__setattr__" = some (some (.builtin "object.__setattr__"))) (ex : exB K C = true) (nf : NoF K C names) : MkAt P K C st q names := by
  have E := exB_ok ex
  exact ⟨f, cc, cd, oc, od, doc, pm, ctv, sl, fun mg hs => ⟨⟨⟨nm, qn, N, bs, bm, sn, sub, ab, col, dd, k0, k1, k2, k3, k5, lC, rv⟩, sa, E.is.hs, E.t, E.kp⟩, i, ti, ⟨_, _, _, _, _, _, lk⟩, rfl, ccd, ⟨_, _, _, _, _, _, lc, hv, hf⟩, tp, ⟨_, _, _, ce⟩, mr, hs, op, su, ve⟩, lk, nf⟩
/-- the def within a class -/
def clsDef (s : Stmt) (j : Nat) : Stmt := match s with
  | .ClassDef _ _ _ body .. => body.getD j (.Pass ⟨0, 0, 0, 0⟩)
  | _ => .Pass ⟨0, 0, 0, 0⟩
theorem cons_map {x : Option Bool} {xs : List (Option Bool)} {r : List Bool} (h : x :: xs = r.map some) : ∃ b r', r = b :: r' ∧ x = some b ∧ xs = r'.map some := by
  cases r with
  | nil => cases h
  | cons b r => rw [List.map_cons] at h; exact ⟨b, r, rfl, (List.cons.inj h).1, (List.cons.inj h).2⟩
theorem nil_map {r : List Bool} (h : [] = r.map some) : r = [] := by
  cases r with
  | nil => rfl
  | cons b r => cases h
/-- what is told of an error: which of the classes it is of -/
def spKinds (K : PySem.W.Frag) (ks : List Addr) : Sp := fun vs H Q _ => ∃ (a D : Addr) (fs : List (Str × V)) (row : List Bool), vs = [.ref a] ∧ Err H a D fs ∧ ExcC K D ∧ ks.map (fun k => PySem.W.kitOne K (.ref D) (.ref k)) = row.map some ∧
  ∀ (b : Addr) (H' : Hp), Step NoS H H' → H b = none → H' b = some (.lst (row.map V.bl)) → Q (.ref b) H'
end Hw

/-! the end of a law row for a def that knows that nothing is being shown -/
namespace Hw
open PySem PySem.Spec PyProof.Rows L2

theorem enter_law {P : Program} {w : World} {K : PySem.W.Frag} {mg mb : Str → Option Value} {k : Nat} {fa a : Addr} {fd : FuncData} {x : Str} {sp : Sp} {z : Shared} {vs : List Value} {ns : List Int}
    (inK : K.In z.heap) (gl : z.heap.Ns mainGlobals mg) (bu : z.heap.Ns builtinsNs mb) (bb : ∀ x : Str, x ≠ "__name__" → mb x = bootBuiltins x) (nl : z.heap.NoLimit) (ge : z.gens = #[])
    (ob : z.heap.get? a = some { cls := .type "list", data := .seq vs.toArray }) (ia : IntsAre vs ns) (sl : ns.length ≤ sizeLine) (room : Room k callerA)
    (F : ∀ base : Heap, K.In base → base.Ns mainGlobals mg → FnG P w K mg base CX0 k fa fd [x] sp) (bi : ∀ (s : Shared) (u : Value), BindsTo s fd ⟨[u], []⟩ [(x, u)])
    (pr : ∀ H : Hp, Only H → SqL K H a (ns.map V.int) → sp [.ref a] H (fun v _ => v = .bl true) fun _ _ _ => False) :
    codeAny (model P w) callerA (.call (.ref fa) ⟨[.ref a], []⟩) (fun r y => r = .ok (.ret (.bool true)) ∧ OldK z.heap y.heap ∧ y.os = z.os ∧ AllBare y.gens) z := by
  have lv := ia.length
  -- the script's object, where it is none of the top's own
  let O : Obj := { cls := .type "list", data := .seq vs.toArray }
  have main : ∀ H : Hp, (∀ b, H b = none ∨ (b = a ∧ H b = some (.frz O (.lst (ns.map V.int))) ∧ K.lookup a = none)) → SqL K H a (ns.map V.int) → HOk P w H z.heap →
      codeAny (model P w) callerA (.call (.ref fa) ⟨[.ref a], []⟩) (fun r y => r = .ok (.ret (.bool true)) ∧ OldK z.heap y.heap ∧ y.os = z.os ∧ AllBare y.gens) z := by
    intro H only seq ok
    have onlyH : Only H := fun b => (only b).imp id fun q => ⟨O, ns.map V.int, q.2.1⟩
    have dict0 : ∀ {b : Addr} {o : Obj} {es : Array DictEntry} {n : Nat}, z.heap.get? b = some o → o.data = .dict es n → H b = none := by
      intro b o es n e d
      rcases only b with q | ⟨rfl, _, _⟩
      · exact q
      · rw [ob] at e
        cases e
        exact nomatch (d : Data.seq _ _ = Data.dict es n)
    have ns' : ∀ {b : Addr} {m : Str → Option Value}, z.heap.Ns b m → (hidT z.heap H).Ns b m := by
      rintro b m ⟨o, es, n, e, d, r⟩
      exact ⟨o, es, n, hidT_get e (dict0 e d), d, r⟩
    have inB : K.In (hidT z.heap H) := by
      intro b o e
      rcases only b with q | ⟨rfl, _, q⟩
      · exact hidT_get (inK b o e) q
      · rw [q] at e; cases e
    have md : Mod K mg (hidT z.heap H) := by
      obtain ⟨mc, c1, c2⟩ := nl
      exact ⟨inB, ns' gl, ⟨mb, ns' bu, bb⟩, ⟨mc, ns' c1, c2⟩⟩
    have en : Env0 P w K mg (hidT z.heap H) callerA [] z H :=
      { frames := rfl, mod := md, bs := fun b o e => of_hidT e, bsz := Nat.le_of_eq (hidT_size _ _), funs := trivial, frf := fun b hb => (List.not_mem_nil hb).elim, hok := ok, bare := .of_eq ge }
    have run := (F _ inB (ns' gl)).go callerA [] z H ⟨[.ref a], []⟩ [.ref a] [.ref a] _ _ rfl room en (bi z (.ref a)) (.cons rfl .nil) (pr H onlyH seq)
    refine codeAny_mono run fun r y h => ?_
    match r, h with
    | .error _, h => exact h.elim
    | .ok .next, h => exact h.elim
    | .ok .brk, h => exact h.elim
    | .ok .cont, h => exact h.elim
    | .ok (.ret u), ⟨v, H2, os, bare, un, ok2, rv, q⟩ =>
      have q1 : v = V.bl true := q
      rw [q1] at rv
      have q2 : u = Value.bool true := rv
      refine ⟨by rw [q2], OldK.of_keep fun b o e => ?_, os, bare⟩
      rcases only b with n | ⟨rfl, n, _⟩
      · exact un.keep b o e n (List.not_mem_nil) (List.not_mem_nil)
      · obtain ⟨g1, _⟩ := ok _ _ n
        obtain ⟨g2, _⟩ := ok2 _ _ (un.frzs _ _ _ n)
        rw [g1] at e
        rw [g2]; exact e
  rcases hk : K.lookup a with _ | o
  · refine main (fun b => if b = a then some (.frz O (.lst (ns.map V.int))) else none) (fun b => ?_) (.inl (.inr ⟨O, if_pos rfl⟩)) fun b u e => ?_
    · by_cases c : b = a
      · exact .inr ⟨c, if_pos c, hk⟩
      · exact .inl (if_neg c)
    · by_cases c : b = a
      · subst c
        have e' : some (HO.frz O (.lst (ns.map V.int))) = some u := (if_pos rfl).symm.trans e
        cases e'
        exact ⟨ob, by rw [List.length_map]; exact sl, vs, _, vals_ints ia, ob⟩
      · have e' := (if_neg c).symm.trans e
        cases e'
  · have oo := inK a o hk
    rw [ob] at oo
    cases oo
    exact main (fun _ => none) (fun _ => .inl rfl) (.inr ⟨_, vs.toArray, _, hk, rfl, rfl, rfl, by rw [List.size_toArray, lv]; exact sl, vals_ints ia⟩) fun _ _ e => nomatch (e : (none : Option HO) = _)

/-- what k_head leaves, from the law's promise -/
theorem law_end {l : PySem.W.OpenLaw} {n k : Nat} {q : Program} {loose : List Str} {XP : (Str → Option Value) → Heap → Prop} {YP : World → Heap → Prop} {d : DefRec} {K : Params → PySem.W.Frag} {sp : PySem.W.Frag → Sp} {x : Str}
    (most : l.most = some n) (small : n ≤ sizeLine) (nodef : d.params.defaults = []) (room : Room k callerA) (inK : ∀ (w : World) (h : Heap), YP w h → (K w.params).In h)
    (F : ∀ (w : World) (mg : Str → Option Value) (fa : Addr) (h : Heap), (K w.params).In h → h.Ns mainGlobals mg → mg d.name = some (.ref fa) →
      ∃ fd : FuncData, (∀ (s : Shared) (u : Value), BindsTo s fd ⟨[u], []⟩ [(x, u)]) ∧ ∀ base : Heap, (K w.params).In base → base.Ns mainGlobals mg → FnG l.prog w (K w.params) mg base CX0 k fa fd [x] (sp (K w.params)))
    (pr : ∀ (K : PySem.W.Frag) (H : Hp) (a : Addr) (ns : List Int), ns.length ≤ n → Only H → SqL K H a (ns.map V.int) → sp K [.ref a] H (fun v _ => v = .bl true) fun _ _ _ => False) :
    PySem.W.WalkO q loose XP YP l.row.toRowW d [] (fun f vs => PySem.call f vs) := by
  refine Att.attach_call most nodef fun w z0 z1 mg mb fa o pm cd dc a vs ns G Y h1 h2 h3 h4 h5 h6 h7 h8 => ?_
  obtain ⟨fd, bi, go⟩ := F w mg fa _ (inK w _ Y) G.T.g h4
  exact enter_law (inK w _ Y) G.T.g G.T.b G.T.builtins G.T.nolimit h8 h5 h6 (Nat.le_trans h7 small) room go bi (fun H c e => pr _ H a ns h7 c e)
end Hw

/-! the laws' own drawing: what the shared defs promise -/
namespace Hw
open PySem PySem.Spec PyProof.Rows L2
theorem small60 {x : Int} : 0 ≤ x % 60 ∧ x % 60 < 60 := ⟨Int.emod_nonneg _ (by decide), Int.emod_lt_of_pos _ (by decide)⟩
theorem all_snoc {α : Type} {p : α → Prop} {xs : List α} {x : α} (h : ∀ y ∈ xs, p y) (h1 : p x) : ∀ y ∈ xs ++ [x], p y := fun y hy => by
  rcases List.mem_append.mp hy with h2 | h2
  · exact h y h2
  · rw [List.mem_singleton.mp h2]; exact h1
theorem snoc2 {α : Type} {p : α → Prop} {xs : List α} {x y : α} (h : ∀ y ∈ xs, p y) (h1 : p x) (h2 : p y) : ∀ z ∈ xs ++ [x, y], p z := fun z hz => by
  rcases List.mem_append.mp hz with q | q
  · exact h z q
  · rcases List.mem_cons.mp q with q | q
    · rw [q]; exact h1
    · rw [List.mem_singleton.mp q]; exact h2
theorem sz {n : Nat} (h : n ≤ 100000) : n ≤ sizeLine := Nat.le_trans h (by decide)
theorem szl {n : Nat} (h : n ≤ 100000) : n < sizeLine := Nat.lt_of_le_of_lt h (by decide)
theorem one_more {H : Hp} {c : Addr} {ps : List Int} {x : Int} : upd H c (.lst (ps.map V.int ++ [.int x])) c = some (.lst ((ps ++ [x]).map V.int)) := by rw [upd_same, List.map_append]; rfl
theorem two_more {H : Hp} {c : Addr} {ps : List Int} {x y : Int} : upd H c (.lst (ps.map V.int ++ [.int x, .int y])) c = some (.lst ((ps ++ [x, y]).map V.int)) := by rw [upd_same, List.map_append]; rfl
/-- _law_pick: some number below many -/
def spPick : Sp := fun vs H Q _ => ∃ (pa : Addr) (n : Int), vs = [.ref pa, .int n] ∧ PoolOk H pa ∧ 1 ≤ n ∧ n < 2 ^ 30 ∧
  ∀ (k : Int) (H' : Hp), 0 ≤ k → k < n → k < 60 → Step (At pa) H H' → Pools (At pa) H' → Q (.int k) H'
/-- _law_pool: a new list of at least 300 numbers below 60 -/
def spPool (K : PySem.W.Frag) : Sp := fun vs H Q _ => ∃ (a : Addr) (ns : List Int), vs = [.ref a] ∧ SqL K H a (ns.map V.int) ∧ ns.length ≤ 63 ∧
  ∀ (H' : Hp) (p : Addr) (ps : List Int), Step NoS H H' → H p = none → H' p = some (.lst (ps.map V.int)) → 300 ≤ ps.length → ps.length ≤ 4500 → (∀ x ∈ ps, 0 ≤ x ∧ x < 60) → Q (.ref p) H'
/-- _law_stream: the same, a place ahead -/
def spStream (K : PySem.W.Frag) : Sp := fun vs H Q _ => ∃ (a : Addr) (ns : List Int), vs = [.ref a] ∧ SqL K H a (ns.map V.int) ∧ ns.length ≤ 63 ∧
  ∀ (H' : Hp) (p : Addr), Step NoS H H' → H p = none → PoolOk H' p → Q (.ref p) H'
/-- the letters of the alphabet, by their codes -/
def abc : List Nat := (List.range 26).map (97 + ·)
/-- a text of letters: its codes -/
def strOf (l : List Nat) : Str := ⟨l.toArray⟩
/-- letters: one to six different ones -/
structure IsLetters (l : List Nat) : Prop where
  pos : 0 < l.length
  six : l.length ≤ 6
  nodup : l.Nodup
  abc : ∀ c ∈ l, 97 ≤ c ∧ c < 123
/-- _law_letters -/
def spLetters : Sp := fun vs H Q _ => ∃ (pa : Addr) (n : Int), vs = [.ref pa, .int n] ∧ PoolOk H pa ∧ 1 ≤ n ∧ n ≤ 6 ∧
  ∀ (l : List Nat) (H' : Hp), IsLetters l → (l.length : Int) ≤ n → Step (At pa) H H' → Pools (At pa) H' → Q (.str (strOf l)) H'
/-! texts by their codes -/
theorem strOf_cps (l : List Nat) : (strOf l).cps.toList = l := by show l.toArray.toList = l; simp
theorem strOf_len (l : List Nat) : (strOf l).length = l.length := by show l.toArray.size = l.length; simp
theorem strOf_self (x : Str) : strOf x.cps.toList = x := by
  obtain ⟨c⟩ := x
  show (⟨c.toList.toArray⟩ : Str) = ⟨c⟩
  simp
theorem strOf_inj {a b : List Nat} (h : strOf a = strOf b) : a = b := by rw [← strOf_cps a, h, strOf_cps]
theorem one_sign (c : Nat) : (⟨#[c]⟩ : Str) = strOf [c] := rfl
theorem empty_str : ("" : Str) = strOf [] := by decide +kernel
theorem txt_join (l : List Nat) : Txt.join "" (l.map fun k => strOf [k]) = strOf l := by
  have h := PyProof.Rows.join_closes (sep := "") (sep' := ⟨#[]⟩) (ys := l.map fun k => strOf [k]) (by decide +kernel)
  rw [eq_of_beq h]
  exact PyProof.Rows.join_ones l
theorem sum_ones (l : List Nat) : ((l.map fun k => strOf [k]).map (·.length)).sum = l.length := by
  induction l with
  | nil => rfl
  | cons x r ih => rw [List.map_cons, List.map_cons, List.sum_cons, ih, List.length_cons]; show 1 + r.length = _; omega

/-! what is walked, by its items -/
abbrev rngI (lo : Int) (n : Nat) : List V := (List.range n).map fun i => V.int (lo + (i : Nat))
abbrev sgnI (l : List Nat) : List V := l.map fun c => V.str (strOf [c])
theorem rngI_at {lo : Int} {n i : Nat} {x : V} (h : (rngI lo n)[i]? = some x) : i < n ∧ x = .int (lo + i) := by
  rw [List.getElem?_map] at h
  by_cases hi : i < n
  · rw [List.getElem?_range hi] at h
    exact ⟨hi, (Option.some.inj h).symm⟩
  · rw [List.getElem?_eq_none (by rw [List.length_range]; omega)] at h
    cases h
theorem sgnI_at {l : List Nat} {i : Nat} {x : V} (h : (sgnI l)[i]? = some x) : ∃ c, l[i]? = some c ∧ x = .str (strOf [c]) := by
  rw [List.getElem?_map] at h
  cases e : l[i]? with
  | none => rw [e] at h; cases h
  | some c => rw [e] at h; exact ⟨c, rfl, (Option.some.inj h).symm⟩
theorem walkR {lo : Int} {n : Nat} : Walk (Itr lo n) (rngI lo n).length (fun _ => True) (YAt (rngI lo n)) := by
  have l : (rngI lo n).length = n := by rw [List.length_map, List.length_range]
  rw [l]
  refine walk_range.mono (fun _ h => h) fun i H x H' hi _ y => ?_
  obtain ⟨rfl, rfl⟩ := y
  refine ⟨rfl, ?_⟩
  rw [List.getElem?_map, List.getElem?_range hi]
  rfl
theorem walkS {l : List Nat} : Walk (Its (strOf l)) (sgnI l).length (fun _ => True) (YAt (sgnI l)) := by
  have e : (sgnI l).length = (strOf l).cps.size := by rw [List.length_map]; exact (strOf_len l).symm
  rw [e]
  refine walk_str.mono (fun _ h => h) fun i H x H' hi _ y => ?_
  obtain ⟨rfl, c, h1, rfl⟩ := y
  refine ⟨rfl, ?_⟩
  have h2 : l[i]? = some c := by rw [← h1]; show _ = l.toArray[i]?; simp
  rw [List.getElem?_map, h2]
  rfl
theorem lenR {lo : Int} {n : Nat} : (rngI lo n).length = n := by rw [List.length_map, List.length_range]
theorem lenS {l : List Nat} : (sgnI l).length = l.length := List.length_map ..

/-! drawn machines -/
theorem data_of {α : Type} {f : α → PyData} {P : α → Prop} : ∀ {ds : List PyData}, (∀ (i : Nat) d, ds[i]? = some d → ∃ a, d = f a ∧ P a) → ∃ as : List α, ds = as.map f ∧ as.length = ds.length ∧ ∀ a ∈ as, P a
  | [], _ => ⟨[], rfl, rfl, fun _ z => nomatch z⟩
  | d :: ds, h => by
    obtain ⟨a, e, pa⟩ := h 0 d rfl
    obtain ⟨as, e2, l2, h2⟩ := data_of (ds := ds) fun i x hx => h (i + 1) x hx
    refine ⟨a :: as, by rw [e, e2]; rfl, by rw [List.length_cons, List.length_cons, l2], fun b hb => ?_⟩
    rcases List.mem_cons.mp hb with rfl | hb
    · exact pa
    · exact h2 b hb
/-- a machine over so many letters: states below their number -/
structure MachOk (k : Nat) (m : Mach) : Prop where
  ends : m.ends.length = m.tab.length
  pos : 1 ≤ m.tab.length
  most : m.tab.length ≤ 60
  row : ∀ r ∈ m.tab, r.length = k
  tgt : ∀ r ∈ m.tab, ∀ t ∈ r, 0 ≤ t ∧ t < m.tab.length
/-- a drawn machine of at most n states -/
def DrawM (K : PySem.W.Frag) (Q : VK) (pa : Addr) (H G : Hp) (l : List Nat) (n : Nat) : Prop :=
  ∀ (H' G' : Hp) (r : V) (m : Mach), Fz (At pa) H G H' G' → Dq G' r (DM m) → MachOk l.length m → m.tab.length ≤ n → Q r H'
def spMachine (K : PySem.W.Frag) : Sp := fun vs H Q _ => ∃ (pa : Addr) (l : List Nat) (n : Nat) (G : Hp), vs = [.ref pa, .str (strOf l), .int (n : Nat)] ∧ IsLetters l ∧ 1 ≤ n ∧ n ≤ 60 ∧ Ok (At pa) H G ∧ DrawM K Q pa H G l n
def spBlocks (K : PySem.W.Frag) : Sp := fun vs H Q _ => ∃ (pa : Addr) (l : List Nat) (nb nw : Int) (G : Hp), vs = [.ref pa, .str (strOf l), .int nb, .int nw] ∧ IsLetters l ∧ 1 ≤ nb ∧ nb ≤ 60 ∧ 1 ≤ nw ∧ nw ≤ 59 ∧ Ok (At pa) H G ∧ DrawM K Q pa H G l 60
theorem sum_pos_take : ∀ {ss : List Int} {i : Nat} {x : Int}, (∀ y ∈ ss, 1 ≤ y) → ss[i]? = some x → (ss.take i).sum + x ≤ ss.sum ∧ 0 ≤ (ss.take i).sum
  | [], _, _, _, h => by simp at h
  | y :: r, 0, x, hp, h => by
    have e : y = x := Option.some.inj h
    subst e
    have h2 : 0 ≤ r.sum := by
      clear h
      induction r with
      | nil => exact Int.le_refl 0
      | cons z q ih =>
        rw [List.sum_cons]
        have h1 := ih fun w hw => hp w (by rcases List.mem_cons.mp hw with rfl | hw; exact List.mem_cons_self; exact List.mem_cons_of_mem _ (List.mem_cons_of_mem _ hw))
        have := hp z (List.mem_cons_of_mem _ List.mem_cons_self)
        omega
    rw [List.take_zero, List.sum_cons]
    show (0 : Int) + y ≤ _ ∧ _
    exact ⟨by omega, Int.le_refl 0⟩
  | y :: r, i + 1, x, hp, h => by
    have ih := sum_pos_take (ss := r) (i := i) (x := x) (fun w hw => hp w (List.mem_cons_of_mem _ hw)) (by simpa using h)
    have := hp y List.mem_cons_self
    rw [List.take_succ_cons, List.sum_cons, List.sum_cons]
    omega
theorem sum_take_succ {ss : List Int} {i : Nat} {x : Int} (h : ss[i]? = some x) : (ss.take (i + 1)).sum = (ss.take i).sum + x := by
  rw [List.take_add_one, h, List.sum_append]
  show _ + (x + 0) = _
  omega
theorem map_set_int {ns : List Int} {j : Nat} {x : Int} : (ns.map V.int).set j (.int x) = (ns.set j x).map V.int := by rw [List.map_set]
/-- some machine over k letters comes back -/
def ToM (S : Addr → Prop) (Q : VK) (H G : Hp) (k : Nat) : Prop := ∀ (H' G' : Hp) (r : V) (m : Mach), Fz S H G H' G' → Dq G' r (DM m) → MachOk k m → Q r H'
def spRenamed : Sp := fun vs H Q _ => ∃ (v : V) (m : Mach) (k : Nat) (G : Hp), vs = [v] ∧ Ok NoS H G ∧ Dq G v (DM m) ∧ MachOk k m ∧ k ≤ 6 ∧ ToM NoS Q H G k
/-- _law_moved, _law_doubled -/
def spMoved : Sp := fun vs H Q _ => ∃ (pa : Addr) (v : V) (m : Mach) (k : Nat) (G : Hp), vs = [.ref pa, v] ∧ Ok (At pa) H G ∧ Dq G v (DM m) ∧ MachOk k m ∧ 1 ≤ k ∧ k ≤ 6 ∧ ToM (At pa) Q H G k
def spDoubled : Sp := fun vs H Q _ => ∃ (pa : Addr) (v : V) (m : Mach) (k : Nat) (G : Hp), vs = [.ref pa, v] ∧ Ok (At pa) H G ∧ Dq G v (DM m) ∧ MachOk k m ∧ k ≤ 6 ∧ m.tab.length ≤ 30 ∧ ToM (At pa) Q H G k
def spShaped : Sp := fun vs H Q _ => ∃ (pa : Addr) (l : List Nat) (G : Hp), vs = [.ref pa, .str (strOf l)] ∧ IsLetters l ∧ Ok (At pa) H G ∧ ToM (At pa) Q H G l.length
theorem MachOk.at_row {k : Nat} {m : Mach} (mo : MachOk k m) {s : Int} (h0 : 0 ≤ s) (h : s < m.tab.length) : ∃ r, m.tab[s.toNat]? = some r ∧ r.length = k ∧ ∀ t ∈ r, 0 ≤ t ∧ t < m.tab.length := by
  obtain ⟨r, e⟩ := exists_at h0 h
  have hr := List.mem_of_getElem? e
  exact ⟨r, e, mo.row r hr, mo.tgt r hr⟩
theorem MachOk.at_end {k : Nat} {m : Mach} (mo : MachOk k m) {s : Int} (h0 : 0 ≤ s) (h : s < m.tab.length) : ∃ b, m.ends[s.toNat]? = some b := exists_at h0 (by rw [mo.ends]; exact h)
theorem intsAt {ns : List Int} {i : Nat} {x : V} (h : (ns.map V.int)[i]? = some x) : ∃ n, ns[i]? = some n ∧ x = .int n := by
  rw [List.getElem?_map] at h
  cases e : ns[i]? with
  | none => rw [e] at h; cases h
  | some n => rw [e] at h; exact ⟨n, rfl, (Option.some.inj h).symm⟩
theorem filter_all {α : Type} {xs : List α} : xs.filter (fun _ => true) = xs := List.filter_eq_self.mpr fun _ _ => rfl
/-- rows at told places -/
theorem dqs_refs {G : Hp} : ∀ {as : List Addr} {t : List (List Int)}, as.length = t.length → (∀ (j : Nat) a, as[j]? = some a → ∃ r, t[j]? = some r ∧ G a = some (.lst (r.map V.int))) → DqAll G (as.map V.ref) (t.map DI)
  | [], [], _, _ => .nil
  | [], _ :: _, h, _ => by simp at h
  | _ :: _, [], h, _ => by simp at h
  | a :: as, r :: t, h, hh => by
    obtain ⟨r', e, ha⟩ := hh 0 a rfl
    have : r = r' := Option.some.inj e
    subst this
    exact .cons (Idp ha) (dqs_refs (by simpa using h) fun j b hb => hh (j + 1) b hb)
theorem nodup_at {α : Type} : ∀ {l : List α} (_ : l.Nodup) {i j : Nat} {x : α} (_ : l[i]? = some x) (_ : l[j]? = some x), i = j
  | [], _, _, _, _, h, _ => by simp at h
  | a :: l, nd, 0, 0, _, _, _ => rfl
  | a :: l, nd, 0, j + 1, x, h1, h2 => by
    have e : a = x := Option.some.inj h1
    rw [e] at nd
    exact absurd (List.mem_of_getElem? (show l[j]? = some x from h2)) (List.nodup_cons.mp nd).1
  | a :: l, nd, i + 1, 0, x, h1, h2 => by
    have e : a = x := Option.some.inj h2
    rw [e] at nd
    exact absurd (List.mem_of_getElem? (show l[i]? = some x from h1)) (List.nodup_cons.mp nd).1
  | a :: l, nd, i + 1, j + 1, x, h1, h2 => by
    have := nodup_at (l := l) (List.nodup_cons.mp nd).2 (i := i) (j := j) (x := x) h1 h2
    omega

/-! where a sign stands -/
theorem idx_of {c : Nat} : ∀ {l : List Nat} {i : Nat}, l[i]? = some c → (∀ k, k < i → l[k]? ≠ some c) → l.idxOf c = i
  | [], _, h, _ => by simp at h
  | a :: l, 0, h, _ => by
    have e : a = c := Option.some.inj h
    rw [e, List.idxOf_cons_self]
  | a :: l, i + 1, h, hn => by
    have ne : a ≠ c := fun e => hn 0 (Nat.succ_pos _) (by rw [e]; rfl)
    rw [List.idxOf_cons, beq_false_of_ne ne, cond_false, idx_of (l := l) (i := i) h fun k hk => hn (k + 1) (by omega)]
theorem sign_at {l : List Nat} {c : Nat} (h : c ∈ l) : ∃ rest, Builtin.Str.occurrences (strOf l) (strOf [c]) 0 (strOf l).length 1 = l.idxOf c :: rest := by
  have hs : ∀ i, (i + (strOf [c]).length ≤ (strOf l).length ∧ Builtin.Str.subAt (strOf l) (strOf [c]) i = true) ↔ l[i]? = some c := fun i => by
    have := StrLaws.subAt_one (strOf l) c i
    rw [strOf_cps] at this
    exact this
  rcases StrLaws.occ_head (strOf l) (strOf [c]) 1 (Nat.le_refl 1) with ⟨_, hn⟩ | ⟨i, r, e, ha, hn⟩
  · obtain ⟨i, hi⟩ := List.getElem?_of_mem h
    exact absurd ((hs i).mpr hi) (hn i)
  · refine ⟨r, ?_⟩
    rw [e, idx_of ((hs i).mp ha) fun k hk z => hn k hk ((hs k).mpr z)]

/-! the law -/
def spLaw (K : PySem.W.Frag) : Sp := fun vs H Q _ => ∃ (a : Addr) (ns : List Int), vs = [.ref a] ∧ SqL K H a (ns.map V.int) ∧ ns.length ≤ 63 ∧ ∀ H', Q (.bl true) H'
theorem law_pre {K : PySem.W.Frag} {H : Hp} {a : Addr} {ns : List Int} (hl : ns.length ≤ 63) (hS : SqL K H a (ns.map V.int)) : spLaw K [.ref a] H (fun v _ => v = .bl true) fun _ _ _ => False :=
  ⟨a, ns, rfl, hS, hl, fun _ => rfl⟩
theorem cut_to {xs : List V} {k : Nat} : cutV xs none (some (k : Int)) = xs.take k := by
  unfold cutV
  rw [HT.sIx_none, show HT.sIx xs.length xs.length (some (k : Int)) = min k xs.length from HT.sIx_nat xs.length xs.length k, List.drop_zero, Nat.sub_zero]
  by_cases h : k ≤ xs.length
  · rw [Nat.min_eq_left h]
  · rw [Nat.min_eq_right (by omega), List.take_length, List.take_of_length_le (by omega)]
theorem exists_max : ∀ {ns : List Int}, 0 < ns.length → ∃ m, m ∈ ns ∧ ∀ y ∈ ns, y ≤ m
  | [x], _ => ⟨x, List.mem_cons_self, fun y hy => by rw [List.mem_singleton.mp hy]; exact Int.le_refl _⟩
  | x :: y :: r, _ => by
    obtain ⟨m, hm, h⟩ := exists_max (ns := y :: r) (by simp)
    by_cases c : x ≤ m
    · exact ⟨m, List.mem_cons_of_mem _ hm, fun z hz => (List.mem_cons.mp hz).elim (fun e => e ▸ c) (h z)⟩
    · exact ⟨x, List.mem_cons_self, fun z hz => (List.mem_cons.mp hz).elim (fun e => e ▸ Int.le_refl _) fun q => by have := h z q; omega⟩
theorem iteNS' {c A B : Prop} [Decidable c] (hc : c) (h : B) : if (!decide c) = true then A else B := iteNS hc h
end Hw

/-! errors told apart, and lists of plain values compared -/
namespace Hw
open PySem PySem.Spec PyProof.Rows L2
theorem lay_at : ∀ ds : List PyData, (∀ d ∈ ds, PyData.canLay0 d = true ∧ PyData.depth d = 0) → PyData.canLayAll0 ds = true ∧ PyData.depthAll ds = 0
  | [], _ => ⟨by rw [PyData.canLayAll0], by rw [PyData.depthAll]⟩
  | x :: xs, h => by
    obtain ⟨h1, h2⟩ := lay_at xs fun w hw => h w (List.mem_cons_of_mem _ hw)
    obtain ⟨g1, g2⟩ := h x List.mem_cons_self
    exact ⟨by rw [PyData.canLayAll0, h1, g1]; rfl, by rw [PyData.depthAll, h2, g2]; rfl⟩
theorem shaped_at {ds : List PyData} (h : ∀ d ∈ ds, PyData.canLay0 d = true ∧ PyData.depth d = 0) : SeqAt.shaped (.list ds) = true := by
  obtain ⟨h1, h2⟩ := lay_at ds h
  unfold SeqAt.shaped
  rw [Bool.and_eq_true_iff]
  refine ⟨by rw [PyData.canLay0]; exact h1, decide_eq_true ?_⟩
  rw [PyData.depth, h2]; omega
theorem eqv_at {ds : List PyData} (h : ∀ d ∈ ds, PyData.canLay0 d = true ∧ PyData.depth d = 0) : PyData.eqv (.list ds) (.list ds) = true := by
  refine SeqAt.eqv_refl _ ?_
  rw [PyData.canLay0]; exact (lay_at ds h).1
theorem at_bools (bs : List Bool) : ∀ d ∈ bs.map PyData.bool, PyData.canLay0 d = true ∧ PyData.depth d = 0 := fun d hd => by
  obtain ⟨b, _, rfl⟩ := List.mem_map.mp hd
  exact ⟨by rw [PyData.canLay0], by rw [PyData.depth]⟩
theorem at_ints (bs : List Int) : ∀ d ∈ bs.map PyData.int, PyData.canLay0 d = true ∧ PyData.depth d = 0 := fun d hd => by
  obtain ⟨b, _, rfl⟩ := List.mem_map.mp hd
  exact ⟨by rw [PyData.canLay0], by rw [PyData.depth]⟩
theorem at_strs (bs : List Str) (h : ∀ x ∈ bs, PyData.strOk x = true) : ∀ d ∈ bs.map PyData.str, PyData.canLay0 d = true ∧ PyData.depth d = 0 := fun d hd => by
  obtain ⟨b, hb, rfl⟩ := List.mem_map.mp hd
  exact ⟨by rw [PyData.canLay0]; exact h b hb, by rw [PyData.depth]⟩
theorem strOk_of {l : List Nat} (h : ∀ c ∈ l, c < 0x110000) : PyData.strOk (strOf l) = true := by
  unfold PyData.strOk
  show l.toArray.all _ = true
  rw [List.all_toArray]
  exact List.all_eq_true.mpr fun c hc => decide_eq_true (h c hc)
theorem strOk_app {x y : Str} (h : PyData.strOk x = true) (g : PyData.strOk y = true) : PyData.strOk (x ++ y) = true := by
  unfold PyData.strOk at *
  show (x.cps ++ y.cps).all _ = true
  rw [Array.all_append, h, g]; rfl
theorem strOk_60 : ∀ k : Nat, k < 60 → PyData.strOk (toString (k : Int) : Str) = true ∧ (toString (k : Int) : Str).length ≤ 100 := by decide +kernel
theorem same_mk {H H' : Hp} {x d : Addr} (nx : H x = none) (nd : H d = none) (hk : ∀ b, b ≠ x → b ≠ d → H' b = H b) : Same H H' := fun b u e => by
  rw [hk b (ne_of_none e nx) (ne_of_none e nd)]; exact e
/-- the error at x is of the k-th class alone -/
def Told1 (K : PySem.W.Frag) (ks : List Addr) (hE : Addr) (G : Hp) (x : Addr) (k : Nat) : Prop := ∃ (D : Addr) (fs : List (Str × V)), Err G x D fs ∧ ExcC K D ∧ PySem.W.kitOne K (.ref D) (.ref hE) = some true ∧ PySem.W.kitOne K (.ref D) (.type "ValueError") = some true ∧
  ks.map (fun k => PySem.W.kitOne K (.ref D) (.ref k)) = ((List.range 25).map fun n => decide (n = k)).map some
theorem told_nil {K : PySem.W.Frag} {ks : List Addr} {hE : Addr} {G : Hp} {k : Nat} : ∀ i x, ([] : List Addr)[i]? = some x → Told1 K ks hE G x (k + i) := fun i x h => by simp at h
theorem told_cons {K : PySem.W.Frag} {ks : List Addr} {hE : Addr} {G : Hp} {k : Nat} {x : Addr} {xs : List Addr} (h : Told1 K ks hE G x k) (t : ∀ i y, xs[i]? = some y → Told1 K ks hE G y (k + 1 + i)) : ∀ i y, (x :: xs)[i]? = some y → Told1 K ks hE G y (k + i) := fun i y e => by
  match i, e with
  | 0, e => cases e; exact h
  | i + 1, e => rw [show k + (i + 1) = k + 1 + i by omega]; exact t i y e
theorem told_mk {K : PySem.W.Frag} {ks : List Addr} {hE : Addr} {G : Hp} {x : Addr} {k : Nat} {D : Addr} {fs : List (Str × V)} {row : List Bool} (e : Err G x D fs) (xf : ExF K D) (q : PySem.W.kitOne K (.ref D) (.ref hE) = some true)
    (r : ks.map (fun k => PySem.W.kitOne K (.ref D) (.ref k)) = row.map some) (hr : row = (List.range 25).map fun n => decide (n = k)) : Told1 K ks hE G x k := ⟨D, fs, e, xf.is, q, xf.ve, by rw [r, hr]⟩
theorem row_is (k : Nat) : (((rngI 0 25).filter fun _ => true).map fun x => V.bl (decide (x = V.int (0 + (k : Nat))))) = (((List.range 25).map fun n => decide (n = k)).map V.bl) := by
  rw [filter_all]
  show ((List.range 25).map _).map _ = _
  rw [List.map_map, List.map_map]
  refine List.map_congr_left fun n _ => ?_
  show V.bl (decide (V.int (0 + (n : Nat)) = V.int (0 + (k : Nat)))) = V.bl (decide (n = k))
  congr 1
  by_cases h : n = k
  · rw [h, decide_eq_true rfl, decide_eq_true rfl]
  · rw [decide_eq_false h, decide_eq_false fun z => h (by have := V.int.inj z; omega)]
theorem getR {as : List Addr} {i : Nat} {x : Addr} (h : as[i]? = some x) : (as.map V.ref)[i]? = some (.ref x) := by rw [List.getElem?_map, h]; rfl
theorem iteNT {A B : Prop} (h : B) : if (!true) = true then A else B := by rw [if_neg (by decide)]; exact h
theorem iteF {A B : Prop} (h : B) : if false = true then A else B := by rw [if_neg (by decide)]; exact h
theorem iteT {A B : Prop} (h : A) : if true = true then A else B := by rw [if_pos rfl]; exact h
end Hw

/-! rules: their data, their parts -/
namespace Hw
open PySem PySem.Spec PyProof.Rows L2
theorem paStar (K : PySem.W.Frag) {X : Cx} {e : Expr} {es : List Expr} {te : TE} {t : TA} {p : Pos} (he : PE X e te) (hr : PA X es t) (hs : starEach (.Starred e p :: es) X.env = (true, eval e X.env) :: starEach es X.env := by rfl) (h : X.K = K := by rfl) :
    PA X (.Starred e p :: es) (StX.tStar K te t) := by
  subst h
  exact StX.pa_star he hr hs
inductive Rl where
  | none
  | empty
  | one (w : List Nat)
  | name (x : Str)
  | nt (r : Rl)
  | times (r : Rl) (lo : Nat) (hi : Option Nat)
  | lst (k : Fin 3) (rs : List Rl)
abbrev kindOf : Fin 3 → Str
  | 0 => "row"
  | 1 => "either"
  | 2 => "both"
abbrev hiD : Option Nat → PyData
  | .none => .none
  | .some n => .int (n : Nat)
mutual
def dR : Rl → PyData
  | .none => .tuple [.str "none"]
  | .empty => .tuple [.str "empty"]
  | .one w => .tuple [.str "one", .str (strOf w)]
  | .name x => .tuple [.str "name", .str x]
  | .nt r => .tuple [.str "not", dR r]
  | .times r lo hi => .tuple [.str "times", dR r, .int (lo : Nat), hiD hi]
  | .lst k rs => .tuple [.str (kindOf k), .list (dRs rs)]
def dRs : List Rl → List PyData
  | [] => []
  | r :: rs => dR r :: dRs rs
end
mutual
def Rl.dep : Rl → Nat
  | .nt r => r.dep + 1
  | .times r _ _ => r.dep + 1
  | .lst _ rs => Rl.deps rs + 1
  | .none => 0
  | .empty => 0
  | .one _ => 0
  | .name _ => 0
def Rl.deps : List Rl → Nat
  | [] => 0
  | r :: rs => max r.dep (Rl.deps rs)
end
/-- the rules that stand in a rule -/
def Rl.subs : Rl → List Rl
  | .nt r => [r]
  | .times r _ _ => [r]
  | .lst _ rs => rs
  | _ => []
theorem dRs_map : ∀ rs : List Rl, dRs rs = rs.map dR
  | [] => by rw [dRs]; rfl
  | r :: rs => by rw [dRs, dRs_map rs]; rfl
theorem deps_mem : ∀ {rs : List Rl} {r : Rl}, r ∈ rs → r.dep ≤ Rl.deps rs
  | [], _, h => nomatch h
  | x :: xs, r, h => by
    rw [Rl.deps]
    rcases List.mem_cons.mp h with rfl | h
    · exact Nat.le_max_left _ _
    · exact Nat.le_trans (deps_mem h) (Nat.le_max_right _ _)
theorem subs_dep {r s : Rl} (h : s ∈ r.subs) : s.dep < r.dep := by
  cases r with
  | nt r => rw [Rl.dep]; cases List.mem_singleton.mp h; omega
  | times r lo hi => rw [Rl.dep]; cases List.mem_singleton.mp h; omega
  | lst k rs => rw [Rl.dep]; exact Nat.lt_succ_of_le (deps_mem h)
  | none => cases h
  | empty => cases h
  | one w => cases h
  | name x => cases h
theorem dps_at {G : Hp} {xs : List V} {rs : List Rl} (h : DqAll G xs (dRs rs)) {i : Nat} {x : V} (hx : xs[i]? = some x) : ∃ r, rs[i]? = some r ∧ r ∈ rs ∧ Dq G x (dR r) := by
  rw [dRs_map] at h
  obtain ⟨d, hd, q⟩ := dps_get' h hx
  rw [List.getElem?_map] at hd
  cases e : rs[i]? with
  | none => rw [e] at hd; cases hd
  | some r => rw [e] at hd; cases hd; exact ⟨r, rfl, List.mem_of_getElem? e, q⟩
theorem kind_in (k : Fin 3) : inV (.str (kindOf k)) [.str "row", .str "either", .str "both"] = true := by
  match k with
  | 0 => rfl
  | 1 => rfl
  | 2 => rfl
abbrev Rl.tag : Rl → Str
  | .none => "none"
  | .empty => "empty"
  | .one _ => "one"
  | .name _ => "name"
  | .nt _ => "not"
  | .times _ _ _ => "times"
  | .lst k _ => kindOf k
abbrev Rl.args : Rl → List PyData
  | .none => []
  | .empty => []
  | .one w => [.str (strOf w)]
  | .name x => [.str x]
  | .nt r => [dR r]
  | .times r lo hi => [dR r, .int (lo : Nat), hiD hi]
  | .lst _ rs => [.list (dRs rs)]
theorem dR_eq (r : Rl) : dR r = .tuple (.str r.tag :: r.args) := by cases r <;> rw [dR]
theorem dR_at {H : Hp} {v : V} {r : Rl} (h : Dq H v (dR r)) : ∃ a xs, v = .ref a ∧ H a = some (.tup (.str r.tag :: xs)) ∧ DqAll H xs r.args := by
  rw [dR_eq] at h
  obtain ⟨a, xs, rfl, e, d⟩ := dp_tuple h
  cases d with
  | cons d1 d2 => cases dp_str d1; exact ⟨a, _, rfl, e, d2⟩
theorem dps_one {H : Hp} {xs : List V} {d : PyData} (h : DqAll H xs [d]) : ∃ x, xs = [x] ∧ Dq H x d := by
  cases h with
  | cons h1 h2 => cases h2; exact ⟨_, rfl, h1⟩
theorem dps_three {H : Hp} {xs : List V} {d e f : PyData} (h : DqAll H xs [d, e, f]) : ∃ x y z, xs = [x, y, z] ∧ Dq H x d ∧ Dq H y e ∧ Dq H z f := by
  cases h with
  | cons h1 h2 => cases h2 with
    | cons h2 h3 => cases h3 with
      | cons h3 h4 => cases h4; exact ⟨_, _, _, rfl, h1, h2, h3⟩
def Rl.isL : Rl → Bool
  | .lst _ _ => true
  | _ => false
def Rl.isI : Rl → Bool
  | .nt _ => true
  | .times _ _ _ => true
  | _ => false
theorem tag_L (r : Rl) : inV (.str r.tag) [.str "row", .str "either", .str "both"] = r.isL := by
  cases r with
  | lst k rs => exact kind_in k
  | _ => rfl
theorem tag_I (r : Rl) : inV (.str r.tag) [.str "not", .str "times"] = r.isI := by
  cases r with
  | lst k rs => match k with
    | 0 => rfl
    | 1 => rfl
    | 2 => rfl
  | _ => rfl
/-- a def of an empty promise -/
theorem FnG.vac {P : Program} {w : World} {K : PySem.W.Frag} {mg : Str → Option Value} {base : Heap} {CX : CXT} {k : Nat} {f : Addr} {fd : FuncData} {ps : List Str} {sp : Sp} (h : ∀ vs H Q E, ¬ sp vs H Q E) : FnG P w K mg base CX k f fd ps sp :=
  ⟨fun vs H Q E z => (h vs H Q E z).elim, fun A outer s H args us vs Q E => by intros; exact (h _ _ _ _ (by assumption)).elim⟩
def spRulesIn : Sp := fun vs H Q _ => ∃ (r : Rl) (v : V) (G : Hp), vs = [v] ∧ Same G H ∧ Dq G v (dR r) ∧ ∀ (p : Addr) (H' : Hp) (xs : List V), Step NoS H H' → H p = none → H' p = some (.lst xs) → DqAll G xs (dRs r.subs) → Q (.ref p) H'
mutual
/-- a rule as it is drawn over the letters l -/
def Rl.Ok (l : List Nat) : Rl → Prop
  | .none => True
  | .empty => True
  | .one w => w ≠ [] ∧ w.length ≤ 6 ∧ ∀ c ∈ w, c ∈ l
  | .name x => x ∈ (["x", "not", "row7", "abcdefghijkl"] : List Str)
  | .nt r => r.Ok l
  | .times r lo hi => r.Ok l ∧ lo ≤ 3 ∧ ∀ h, hi = some h → lo ≤ h ∧ h ≤ 5
  | .lst _ rs => rs ≠ [] ∧ rs.length ≤ 3 ∧ Rl.Oks l rs
def Rl.Oks (l : List Nat) : List Rl → Prop
  | [] => True
  | r :: rs => r.Ok l ∧ Rl.Oks l rs
end
theorem oks_mem {l : List Nat} : ∀ {rs : List Rl} {r : Rl}, Rl.Oks l rs → r ∈ rs → r.Ok l
  | [], _, _, h => nomatch h
  | x :: xs, r, o, h => by
    rw [Rl.Oks] at o
    rcases List.mem_cons.mp h with rfl | h
    · exact o.1
    · exact oks_mem o.2 h
theorem subs_ok {l : List Nat} {r s : Rl} (o : r.Ok l) (h : s ∈ r.subs) : s.Ok l := by
  cases r with
  | nt r => rw [Rl.Ok] at o; cases List.mem_singleton.mp h; exact o
  | times r lo hi => rw [Rl.Ok] at o; cases List.mem_singleton.mp h; exact o.1
  | lst k rs => rw [Rl.Ok] at o; exact oks_mem o.2.2 h
  | none => cases h
  | empty => cases h
  | one w => cases h
  | name x => cases h
theorem subs_len {l : List Nat} {r : Rl} (o : r.Ok l) : r.subs.length ≤ 3 := by
  cases r with
  | lst k rs => rw [Rl.Ok] at o; exact o.2.1
  | nt r => exact (by decide : 1 ≤ 3)
  | times r lo hi => exact (by decide : 1 ≤ 3)
  | _ => exact Nat.zero_le _
/-- a list rule's list is new -/
def NewL (H G : Hp) (v : V) (r : Rl) : Prop := r.isL = true → ∃ (a q : Addr) (xs : List V), v = .ref a ∧ G a = some (.tup [.str r.tag, .ref q]) ∧ G q = some (.lst xs) ∧ xs.length ≤ 3 ∧ H q = none
theorem NewL.up {H H1 G G1 : Hp} {v : V} {r : Rl} (n : NewL H1 G v r) (a : Step NoS H H1) (b : Same G G1) : NewL H G1 v r := fun e => by
  obtain ⟨a', q, xs, e1, e2, e3, e4, e5⟩ := n e
  exact ⟨a', q, xs, e1, b _ _ e2, b _ _ e3, e4, a.free e5⟩
def spCopied (n : Nat) : Sp := fun vs H Q _ => ∃ r : Rl, r.dep < n ∧ ∃ (v : V) (G : Hp) (l : List Nat), vs = [v] ∧ r.Ok l ∧ Ok NoS H G ∧ Dq G v (dR r) ∧ ∀ (v' : V) (H' G' : Hp), Fz NoS H G H' G' → Dq G' v' (dR r) → NewL H G' v' r → Q v' H'
theorem dRs_of {ds : List PyData} {rs : List Rl} (hl : ds.length = rs.length) (h : ∀ (i : Nat) d, ds[i]? = some d → ∃ s, rs[i]? = some s ∧ d = dR s) : ds = dRs rs := by
  rw [dRs_map]
  refine List.ext_getElem? fun i => ?_
  rw [List.getElem?_map]
  cases e : ds[i]? with
  | none =>
    have := List.getElem?_eq_none_iff.mp e
    rw [List.getElem?_eq_none (by omega)]; rfl
  | some d =>
    obtain ⟨s, hs, rfl⟩ := h i d e
    rw [hs]; rfl
theorem dps_len' {G : Hp} {xs : List V} {rs : List Rl} (h : DqAll G xs (dRs rs)) : xs.length = rs.length := by rw [dps_len h, dRs_map, List.length_map]
mutual
/-- the parts, a rule ahead of those in it -/
def Rl.parts : Rl → List Rl
  | .none => [.none]
  | .empty => [.empty]
  | .one w => [.one w]
  | .name x => [.name x]
  | .nt r => .nt r :: r.parts
  | .times r lo hi => .times r lo hi :: r.parts
  | .lst k rs => .lst k rs :: Rl.partss rs
def Rl.partss : List Rl → List Rl
  | [] => []
  | r :: rs => r.parts ++ Rl.partss rs
end
theorem partss_app : ∀ rs ss : List Rl, Rl.partss (rs ++ ss) = Rl.partss rs ++ Rl.partss ss
  | [], ss => by rw [Rl.partss]; rfl
  | r :: rs, ss => by rw [List.cons_append, Rl.partss, Rl.partss, partss_app rs ss, List.append_assoc]
theorem partss_one (r : Rl) : Rl.partss [r] = r.parts := by rw [Rl.partss, Rl.partss, List.append_nil]
theorem parts_eq (r : Rl) : r.parts = r :: Rl.partss r.subs := by
  cases r with
  | nt r => rw [Rl.parts]; show _ = _ :: Rl.partss [r]; rw [partss_one]
  | times r lo hi => rw [Rl.parts]; show _ = _ :: Rl.partss [r]; rw [partss_one]
  | lst k rs => rw [Rl.parts]; rfl
  | none => rw [Rl.parts]; show _ = _ :: Rl.partss []; rw [Rl.partss]
  | empty => rw [Rl.parts]; show _ = _ :: Rl.partss []; rw [Rl.partss]
  | one w => rw [Rl.parts]; show _ = _ :: Rl.partss []; rw [Rl.partss]
  | name x => rw [Rl.parts]; show _ = _ :: Rl.partss []; rw [Rl.partss]
theorem partss_len {l : List Nat} {B : Nat} : ∀ {rs : List Rl}, (∀ r ∈ rs, r.parts.length ≤ B) → (Rl.partss rs).length ≤ rs.length * B
  | [], _ => by rw [Rl.partss]; exact Nat.zero_le _
  | r :: rs, h => by
    rw [Rl.partss, List.length_append, List.length_cons, Nat.add_mul, Nat.one_mul]
    have := partss_len (l := l) (B := B) (rs := rs) fun s hs => h s (List.mem_cons_of_mem _ hs)
    have := h r List.mem_cons_self
    omega
theorem parts_len {l : List Nat} : ∀ (n : Nat) (r : Rl), r.dep < n → r.Ok l → r.parts.length ≤ 4 ^ n
  | 0, r, h, _ => absurd h (Nat.not_lt_zero _)
  | n + 1, r, h, o => by
    rw [parts_eq, List.length_cons, Nat.pow_succ]
    have h1 := partss_len (l := l) (B := 4 ^ n) (rs := r.subs) fun s hs => parts_len n s (by have := subs_dep hs; omega) (subs_ok o hs)
    have h2 := subs_len o
    have h3 : r.subs.length * 4 ^ n ≤ 3 * 4 ^ n := Nat.mul_le_mul_right _ h2
    have h4 : 1 ≤ 4 ^ n := Nat.one_le_pow _ _ (by decide)
    omega
def spParts (n : Nat) : Sp := fun vs H Q _ => ∃ r : Rl, r.dep < n ∧ r.dep < 8 ∧ ∃ (v : V) (G : Hp) (l : List Nat), vs = [v] ∧ r.Ok l ∧ Ok NoS H G ∧ Dq G v (dR r) ∧
  ∀ (p : Addr) (H' G' : Hp) (xs : List V), Fz NoS H G H' G' → H p = none → G' p = none → H' p = some (.lst xs) → DqAll G' xs (dRs r.parts) → (∀ (i : Nat) x s, xs[i]? = some x → r.parts[i]? = some s → NewL H G' x s) → Q (.ref p) H'
/-! ### max(xs, default=k) -/
theorem maxOf_int : ∀ (xs : List Int) (x : Int), PySem.W.maxOf x xs ∈ x :: xs ∧ ∀ y ∈ x :: xs, y ≤ PySem.W.maxOf x xs
  | [], x => ⟨List.mem_cons_self, fun y hy => by rw [List.mem_singleton.mp hy]; exact Int.le_refl _⟩
  | z :: xs, x => by
    have e : PySem.W.maxOf x (z :: xs) = PySem.W.maxOf (if x < z then z else x) xs := by
      show List.foldl _ (if decide (x < z) = true then z else x) xs = _
      unfold PySem.W.maxOf
      by_cases h : x < z
      · rw [if_pos (decide_eq_true h), if_pos h]
      · rw [if_neg (by rw [decide_eq_false h]; decide), if_neg h]
    obtain ⟨h1, h2⟩ := maxOf_int xs (if x < z then z else x)
    rw [e]
    by_cases h : x < z
    · rw [if_pos h] at h1 h2 ⊢
      refine ⟨List.mem_cons_of_mem _ h1, fun y hy => ?_⟩
      rcases List.mem_cons.mp hy with rfl | hy
      · have := h2 z List.mem_cons_self; omega
      · exact h2 y hy
    · rw [if_neg h] at h1 h2 ⊢
      refine ⟨?_, fun y hy => ?_⟩
      · rcases List.mem_cons.mp h1 with h1 | h1
        · rw [h1]; exact List.mem_cons_self
        · exact List.mem_cons_of_mem _ (List.mem_cons_of_mem _ h1)
      · rcases List.mem_cons.mp hy with rfl | hy
        · exact h2 y List.mem_cons_self
        · rcases List.mem_cons.mp hy with rfl | hy
          · have := h2 x List.mem_cons_self; omega
          · exact h2 y (List.mem_cons_of_mem _ hy)
def rMaxD (K : PySem.W.Frag) : List V → List V → Hp → VK → Prop := fun vs zs H Q => ∃ (a : Addr) (ns : List Int) (k : Int), vs = [V.ref a] ∧ zs = [.int k] ∧ SqL K H a (ns.map V.int) ∧ (ns = [] → Q (.int k) H) ∧ ∀ m, m ∈ ns → (∀ y ∈ ns, y ≤ m) → Q (.int m) H
theorem maxDQ (K : PySem.W.Frag) {X : Cx} (hc : X.calm = true) (hu : X.A.units + 64 < cLine) (hK : X.K = K := by rfl) : CallRK X (.builtin "max") ["default"] (rMaxD K) := by
  subst hK
  intro pins s σ H xs zs us ws Q I rx rz h
  obtain ⟨a, ns, k, rfl, rfl, hs, q0, q1⟩ := h
  obtain ⟨u, rfl, ru⟩ := vals1 rz
  obtain ⟨its, rv, pl, hz⟩ := I.list hs
  rw [Vals.ref1 rx]
  have hi : PyProof.Rows.IntsAre its.toArray.toList ns := by simpa using rv.ints
  refine PySem.W.max_list_datum_default (I.ok.hd hc) pl.isList (xs := ns) (PySem.W.HoldAll.of_ints hi) (by show X.A.units + 1 + 0 < cLine; omega) (fun e h' tk hk => ?_) (fun y ys i v h' tk e hv r hk => ?_)
  · exact ⟨.int k, H, I.kept (t' := tk) hk, ru, q0 e⟩
  · obtain ⟨as, r⟩ := r
    have m := maxOf_int ys y
    rw [← e] at m
    cases r
    exact ⟨.int _, H, I.kept (t' := tk) hk, ⟨_, rfl⟩, q1 _ m.1 m.2⟩
/-! ### sizes and depths -/
mutual
/-- how deep the deepest part stands -/
def Rl.dpt : Rl → Nat
  | .nt r => r.dpt + 1
  | .times r _ _ => r.dpt + 1
  | .lst _ rs => Rl.dpts rs
  | .none => 0
  | .empty => 0
  | .one _ => 0
  | .name _ => 0
def Rl.dpts : List Rl → Nat
  | [] => 0
  | r :: rs => max (r.dpt + 1) (Rl.dpts rs)
end
theorem dpt_eq (r : Rl) : r.dpt = Rl.dpts r.subs := by
  cases r with
  | nt r => rw [Rl.dpt]; show _ = Rl.dpts [r]; rw [Rl.dpts, Rl.dpts]; omega
  | times r lo hi => rw [Rl.dpt]; show _ = Rl.dpts [r]; rw [Rl.dpts, Rl.dpts]; omega
  | lst k rs => rw [Rl.dpt]; rfl
  | none => rw [Rl.dpt]; show _ = Rl.dpts []; rw [Rl.dpts]
  | empty => rw [Rl.dpt]; show _ = Rl.dpts []; rw [Rl.dpts]
  | one w => rw [Rl.dpt]; show _ = Rl.dpts []; rw [Rl.dpts]
  | name x => rw [Rl.dpt]; show _ = Rl.dpts []; rw [Rl.dpts]
theorem dpts_max : ∀ {rs : List Rl} {m : Int}, m ∈ rs.map (fun s => 1 + (s.dpt : Int)) → (∀ y ∈ rs.map (fun s => 1 + (s.dpt : Int)), y ≤ m) → m = (Rl.dpts rs : Nat)
  | [], m, h, _ => by cases h
  | r :: rs, m, h, g => by
    rw [Rl.dpts]
    rw [List.map_cons] at h g
    have gr := g _ List.mem_cons_self
    by_cases hr : rs = []
    · subst hr
      rw [Rl.dpts]
      rcases List.mem_cons.mp h with rfl | h
      · omega
      · cases h
    · have ih : ∀ m' : Int, m' ∈ rs.map (fun s => 1 + (s.dpt : Int)) → (∀ y ∈ rs.map (fun s => 1 + (s.dpt : Int)), y ≤ m') → m' = (Rl.dpts rs : Nat) := fun m' => dpts_max
      obtain ⟨m', h1, h2⟩ := exists_max (ns := rs.map (fun s => 1 + (s.dpt : Int))) (by rw [List.length_map]; exact List.length_pos_iff.mpr hr)
      have e := ih m' h1 h2
      have g2 := g m' (List.mem_cons_of_mem _ h1)
      rcases List.mem_cons.mp h with rfl | h
      · omega
      · have := h2 m h
        omega
def spSize (n : Nat) : Sp := fun vs H Q _ => ∃ r : Rl, r.dep < n ∧ ∃ (v : V) (G : Hp) (l : List Nat), vs = [v] ∧ r.Ok l ∧ Same G H ∧ Dq G v (dR r) ∧ ∀ H', Step NoS H H' → Q (.int (r.parts.length : Nat)) H'
def spDepth (n : Nat) : Sp := fun vs H Q _ => ∃ r : Rl, r.dep < n ∧ ∃ (v : V) (G : Hp) (l : List Nat), vs = [v] ∧ r.Ok l ∧ Same G H ∧ Dq G v (dR r) ∧ ∀ H', Step NoS H H' → Q (.int (r.dpt : Nat)) H'
theorem ints_of {ds : List PyData} {rs : List Rl} {F : Rl → Int} (hl : ds.length = rs.length) (h : ∀ (i : Nat) d, ds[i]? = some d → ∃ s, rs[i]? = some s ∧ d = .int (F s)) : ds = (rs.map F).map PyData.int := by
  refine List.ext_getElem? fun i => ?_
  rw [List.getElem?_map, List.getElem?_map]
  cases e : ds[i]? with
  | none =>
    have := List.getElem?_eq_none_iff.mp e
    rw [List.getElem?_eq_none (by omega)]; rfl
  | some d =>
    obtain ⟨s, hs, rfl⟩ := h i d e
    rw [hs]; rfl
theorem bools_of {ds : List PyData} {rs : List Rl} {F : Rl → Bool} (hl : ds.length = rs.length) (h : ∀ (i : Nat) d, ds[i]? = some d → ∃ s, rs[i]? = some s ∧ d = .bool (F s)) : ds = (rs.map F).map PyData.bool := by
  refine List.ext_getElem? fun i => ?_
  rw [List.getElem?_map, List.getElem?_map]
  cases e : ds[i]? with
  | none =>
    have := List.getElem?_eq_none_iff.mp e
    rw [List.getElem?_eq_none (by omega)]; rfl
  | some d =>
    obtain ⟨s, hs, rfl⟩ := h i d e
    rw [hs]; rfl
theorem sum_parts : ∀ rs : List Rl, (rs.map fun s => (s.parts.length : Int)).sum = ((Rl.partss rs).length : Int)
  | [] => by rw [Rl.partss]; rfl
  | r :: rs => by rw [Rl.partss, List.map_cons, List.sum_cons, sum_parts rs, List.length_append]; omega
/-! ### may the word without signs belong to it -/
mutual
def Rl.mbe : Rl → Bool
  | .none => false
  | .empty => true
  | .one _ => false
  | .name _ => false
  | .nt r => !r.mbe
  | .times r lo _ => decide (lo = 0) || r.mbe
  | .lst k rs => if k = 1 then (Rl.mbes rs).any id else (Rl.mbes rs).all id
def Rl.mbes : List Rl → List Bool
  | [] => []
  | r :: rs => r.mbe :: Rl.mbes rs
end
theorem mbes_map : ∀ rs : List Rl, Rl.mbes rs = rs.map Rl.mbe
  | [] => by rw [Rl.mbes]; rfl
  | r :: rs => by rw [Rl.mbes, mbes_map rs]; rfl
def spMbe (n : Nat) : Sp := fun vs H Q _ => ∃ r : Rl, r.dep < n ∧ ∃ (v : V) (G : Hp) (l : List Nat), vs = [v] ∧ r.Ok l ∧ Same G H ∧ Dq G v (dR r) ∧ ∀ H', Step NoS H H' → Q (.bl r.mbe) H'
/-! ### comprehensions with a test, that make objects on the way -/
section
variable {J : It} {items : List V} {Gd : Hp → Prop} {g : TG} {tt : TT} {te : TE} {vs : List Nat} {σ : L2.St} {H1 : Hp} {D : Addr} {Qd : Hp → Prop}
theorem lc_pick (w : Walk J items.length Gd (YAt items)) (hz : items.length ≤ 100000) (nD : H1 D = none) (F : Nat → V) (p : Nat → Bool) (hG : ∀ H, Step NoS H1 H → Gd H)
    (hs : ∀ (i : Nat) (x : V) (H : Hp) (N : Hp → Prop), items[i]? = some x → i < items.length → Step NoS H1 H → (p i = true → ∀ H4, Step NoS H H4 → ∃ acc, H4 D = some (.lst acc) ∧ acc.length < sizeLine ∧ N (upd H4 D (.lst (acc ++ [F i])))) → (p i = false → ∀ H4, Step NoS H H4 → N H4) →
      g x (wipe σ vs) H fun σ2 H2 => wipe σ2 vs = wipe σ vs ∧ tt σ2 H2 fun b H3 => if b = true then te σ2 H3 fun y H4 => ∃ acc, H4 D = some (.lst acc) ∧ acc.length < sizeLine ∧ N (upd H4 D (.lst (acc ++ [y]))) else N H3)
    (hd : ∀ H, Step NoS H1 H → H D = some (.lst (((List.range items.length).filter p).map F)) → Qd H) :
    ∃ W : Nat → Nat → Hp → Prop, (∃ m, W 0 m (upd H1 D (.lst []))) ∧ ∀ i m H, W i m H →
      (J.stop i H ∧ Qd H) ∨ (J.go i H ∧ ∃ Nx : Hp → Prop, (∀ H', Nx H' → ∃ m', m' < m ∧ W (i + 1) m' H') ∧ ∀ x H', J.yld i H x H' → g x (wipe σ vs) H' fun σ2 H2 => wipe σ2 vs = wipe σ vs ∧ tt σ2 H2 fun b H3 =>
        if b = true then te σ2 H3 fun y H4 => ∃ acc, H4 D = some (.lst acc) ∧ acc.length < sizeLine ∧ Nx (upd H4 D (.lst (acc ++ [y]))) else Nx H3) := by
  refine lc_it w (fun i H => Step NoS H1 H ∧ H D = some (.lst (((List.range i).filter p).map F))) ⟨(Step.refl _ _).own nD, upd_same⟩ (fun i H _ e => hG H e.1) (fun i x H H' hi e y => ?_) (fun H e => hd H e.1 e.2)
  obtain ⟨rfl, hx⟩ := y
  obtain ⟨s, hD⟩ := e
  have ll : (((List.range i).filter p).map F).length ≤ i := by
    rw [List.length_map]
    have := List.length_filter_le p (List.range i)
    rw [List.length_range] at this
    exact this
  refine hs i x H' _ hx hi s (fun hp H4 s4 => ⟨_, s4.same _ _ hD, szl (by omega), (s.trans s4).own nD, ?_⟩) (fun hp H4 s4 => ⟨s.trans s4, ?_⟩)
  · rw [upd_same, List.range_succ, List.filter_append, List.map_append, List.filter_cons_of_pos hp]; rfl
  · rw [List.range_succ, List.filter_append, List.map_append, List.filter_cons_of_neg (by rw [hp]; decide), List.filter_nil, List.map_nil, List.append_nil]
    exact s4.same _ _ hD
end
/-- the letters' lists in the parts "one" -/
def onesOf : List Rl → List (List Nat)
  | [] => []
  | .one w :: rs => w :: onesOf rs
  | _ :: rs => onesOf rs
abbrev oneF : List Rl → Nat → V := fun ps i => match ps[i]? with
  | some (.one w) => .str (strOf w)
  | _ => .non
abbrev oneP : List Rl → Nat → Bool := fun ps i => match ps[i]? with
  | some (.one _) => true
  | _ => false
theorem ones_is : ∀ ps : List Rl, ((List.range ps.length).filter (oneP ps)).map (oneF ps) = ((onesOf ps).map strOf).map V.str
  | [] => rfl
  | r :: rs => by
    have h := ones_is rs
    have e1 : ((List.range rs.length).map (· + 1)).filter (oneP (r :: rs)) = ((List.range rs.length).filter (oneP rs)).map (· + 1) := by
      rw [List.filter_map]; rfl
    rw [List.length_cons, List.range_succ_eq_map]
    have e2 : (((List.range rs.length).filter (oneP rs)).map (· + 1)).map (oneF (r :: rs)) = ((List.range rs.length).filter (oneP rs)).map (oneF rs) := by
      rw [List.map_map]; rfl
    have sc : List.map Nat.succ (List.range rs.length) = List.map (· + 1) (List.range rs.length) := rfl
    cases r with
    | one w => rw [List.filter_cons_of_pos rfl, List.map_cons, sc, e1, e2, h]; rfl
    | none => rw [List.filter_cons_of_neg Bool.false_ne_true, sc, e1, e2, h]; rfl
    | empty => rw [List.filter_cons_of_neg Bool.false_ne_true, sc, e1, e2, h]; rfl
    | name x => rw [List.filter_cons_of_neg Bool.false_ne_true, sc, e1, e2, h]; rfl
    | nt s => rw [List.filter_cons_of_neg Bool.false_ne_true, sc, e1, e2, h]; rfl
    | times s lo hi => rw [List.filter_cons_of_neg Bool.false_ne_true, sc, e1, e2, h]; rfl
    | lst k ss => rw [List.filter_cons_of_neg Bool.false_ne_true, sc, e1, e2, h]; rfl
/-- the letters of l that stand in one of the lists -/
def sgnIn (l : List Nat) (ws : List (List Nat)) : List Nat := l.filter fun c => ws.any fun w => decide (c ∈ w)
def spSigns : Sp := fun vs H Q _ => ∃ (l : List Nat) (r : Rl) (v : V) (G : Hp), vs = [.str (strOf l), v] ∧ l.length ≤ 6 ∧ r.dep < 8 ∧ r.Ok l ∧ Ok NoS H G ∧ Dq G v (dR r) ∧ ∀ H', Step NoS H H' → Q (.str (strOf (sgnIn l (onesOf r.parts)))) H'
def spSo : Sp := fun vs H Q _ => ∃ (a b : Bool), vs = [.bl a, .bl b] ∧ Q (.bl (decide (a = b))) H
def spWhole : Sp := fun vs H Q _ => ∃ (a b : Int), vs = [.int a, .int b] ∧ Q (.bl (decide (a = b))) H
theorem range_pick {α : Type} (l : List α) (d : α) (q : α → Bool) : ((List.range l.length).filter fun i => q (l.getD i d)).map (fun i => l.getD i d) = l.filter q := by
  have e : l = (List.range l.length).map (fun i => l.getD i d) := by
    refine List.ext_getElem? fun i => ?_
    rw [List.getElem?_map]
    by_cases h : i < l.length
    · rw [List.getElem?_range h, List.getElem?_eq_getElem h, Option.map_some, List.getD_eq_getElem?_getD, List.getElem?_eq_getElem h]; rfl
    · rw [List.getElem?_eq_none (by omega), List.getElem?_eq_none (by rw [List.length_range]; omega)]; rfl
  conv => rhs; rw [e, List.filter_map]
  rfl
theorem pick_sgn (l : List Nat) (ws : List (List Nat)) : ((List.range (sgnI l).length).filter fun i => ws.any fun w => decide (l.getD i 0 ∈ w)).map (fun i => V.str (strOf [l.getD i 0])) = ((sgnIn l ws).map fun c => strOf [c]).map V.str := by
  rw [lenS]
  have h := range_pick l 0 fun c => ws.any fun w => decide (c ∈ w)
  unfold sgnIn
  rw [← h, List.map_map, List.map_map]
  rfl
theorem sgnAt {l : List Nat} {i : Nat} {x : V} (h : (sgnI l)[i]? = some x) : x = .str (strOf [l.getD i 0]) := by
  obtain ⟨c, hc, rfl⟩ := sgnI_at h
  rw [List.getD_eq_getElem?_getD, hc]; rfl
theorem ones_len : ∀ ps : List Rl, (onesOf ps).length ≤ ps.length
  | [] => Nat.le_refl _
  | r :: rs => by
    have h := ones_len rs
    cases r with
    | one w => exact Nat.succ_le_succ h
    | _ => exact Nat.le_succ_of_le h
def inF (c : Nat) : V → V := fun x => match x with
  | .str z => .bl (decide (c ∈ z.cps.toList))
  | _ => .non
theorem in_rows (c : Nat) (ws : List (List Nat)) : ((((ws.map strOf).map V.str).filter fun _ => true).map (inF c)) = (ws.map fun w => decide (c ∈ w)).map V.bl := by
  rw [filter_all, List.map_map, List.map_map, List.map_map]
  refine List.map_congr_left fun w _ => ?_
  show V.bl (decide (c ∈ (strOf w).cps.toList)) = V.bl (decide (c ∈ w))
  rw [strOf_cps]
theorem strAt {ws : List (List Nat)} {i : Nat} {x : V} (h : ((ws.map strOf).map V.str)[i]? = some x) : ∃ w, ws[i]? = some w ∧ x = .str (strOf w) := by
  rw [List.getElem?_map, List.getElem?_map] at h
  cases e : ws[i]? with
  | none => rw [e] at h; cases h
  | some w => rw [e] at h; cases h; exact ⟨w, rfl, rfl⟩
/-! ### rules drawn -/
def spLawSigns : Sp := fun vs H Q _ => ∃ (pa : Addr) (l : List Nat), vs = [.ref pa, .str (strOf l)] ∧ IsLetters l ∧ Pools (At pa) H ∧
  ∀ (w : List Nat) (H' : Hp), w ≠ [] → w.length ≤ 6 → (∀ c ∈ w, c ∈ l) → Step (At pa) H H' → Pools (At pa) H' → Q (.str (strOf w)) H'
theorem eqv_nil (ds : List PyData) : PyData.eqv (.list ds) (.list []) = ds.isEmpty := by
  cases ds with
  | nil => simp [PyData.eqv, PyData.eqvAll]
  | cons d ds => simp [PyData.eqv, PyData.eqvAll]
theorem oks_of {l : List Nat} : ∀ {rs : List Rl}, (∀ r ∈ rs, r.Ok l) → Rl.Oks l rs
  | [], _ => by rw [Rl.Oks]; trivial
  | r :: rs, h => by rw [Rl.Oks]; exact ⟨h r List.mem_cons_self, oks_of fun s hs => h s (List.mem_cons_of_mem _ hs)⟩
theorem deps_le {n : Nat} : ∀ {rs : List Rl}, (∀ r ∈ rs, r.dep ≤ n) → Rl.deps rs ≤ n
  | [], _ => by rw [Rl.deps]; exact Nat.zero_le _
  | r :: rs, h => by rw [Rl.deps]; exact Nat.max_le.mpr ⟨h r List.mem_cons_self, deps_le fun s hs => h s (List.mem_cons_of_mem _ hs)⟩
theorem mem_partss {y : Rl} : ∀ {rs : List Rl}, y ∈ Rl.partss rs ↔ ∃ r ∈ rs, y ∈ r.parts
  | [] => by
    rw [Rl.partss]
    exact Iff.intro (fun h => by cases h) (fun ⟨_, h, _⟩ => by cases h)
  | r :: rs => by
    rw [Rl.partss, List.mem_append, mem_partss]
    constructor
    · rintro (h | ⟨s, hs, h⟩)
      · exact ⟨r, List.mem_cons_self, h⟩
      · exact ⟨s, List.mem_cons_of_mem _ hs, h⟩
    · rintro ⟨s, hs, h⟩
      rcases List.mem_cons.mp hs with rfl | hs
      · exact .inl h
      · exact .inr ⟨s, hs, h⟩
/-- no part is a name -/
def Rl.Pure (r : Rl) : Prop := ∀ x, Rl.name x ∉ r.parts
theorem pure_mk {r : Rl} (h0 : ∀ x, Rl.name x ≠ r) (h : ∀ s ∈ r.subs, s.Pure) : r.Pure := fun x hx => by
  rw [parts_eq] at hx
  rcases List.mem_cons.mp hx with e | hx
  · exact h0 x e
  · obtain ⟨s, hs, h'⟩ := mem_partss.mp hx
    exact h s hs x h'
theorem pure_sub {r s : Rl} (p : r.Pure) (h : s ∈ r.subs) : s.Pure := fun x hx => p x (by rw [parts_eq]; exact List.mem_cons_of_mem _ (mem_partss.mpr ⟨s, h, hx⟩))
theorem pure_ne {x : Str} (p : (Rl.name x).Pure) : False := p x (by rw [Rl.parts]; exact List.mem_cons_self)
def spLawRule (n : Nat) : Sp := fun vs H Q _ => ∃ d : Nat, d < n ∧ ∃ (pa : Addr) (l : List Nat) (G : Hp), vs = [.ref pa, .str (strOf l), .int (d : Nat)] ∧ IsLetters l ∧ Ok (At pa) H G ∧
  ∀ (v : V) (H' G' : Hp) (r : Rl), Fz (At pa) H G H' G' → Dq G' v (dR r) → r.Ok l → r.Pure → r.dep ≤ d → Q v H'
theorem pickN {k : Int} {xs : List Int} {P : Int → Prop} (h0 : 0 ≤ k) (h1 : k < xs.length) (h : ∀ x ∈ xs, P x) : ∃ x : Int, P x ∧ atI (xs.map V.int) k = some (.int x) := by
  obtain ⟨x, hx⟩ := exists_at h0 h1
  exact ⟨x, h x (List.mem_of_getElem? hx), atI_of h0 (getI hx)⟩
theorem pick_kind {k : Int} (h3 : 3 ≤ k) (h9 : k < 9) : ∃ f : _root_.Fin 3, atI [V.str "row", V.str "row", V.str "row", V.str "either", V.str "either", V.str "both"] (k - 3) = some (.str (kindOf f)) := by
  have h : k = 3 ∨ k = 4 ∨ k = 5 ∨ k = 6 ∨ k = 7 ∨ k = 8 := by omega
  rcases h with rfl | rfl | rfl | rfl | rfl | rfl
  · exact ⟨0, rfl⟩
  · exact ⟨0, rfl⟩
  · exact ⟨0, rfl⟩
  · exact ⟨1, rfl⟩
  · exact ⟨1, rfl⟩
  · exact ⟨2, rfl⟩
abbrev hiV : Option Nat → V
  | .none => .non
  | .some n => .int (n : Nat)
theorem hiV_d {G : Hp} : ∀ h : Option Nat, Dq G (hiV h) (hiD h)
  | .none => .non
  | .some n => .int _
theorem pick_hi {lo : Nat} {k : Int} (h0 : 0 ≤ k) (h1 : k < 5) : ∃ hi : Option Nat, (∀ h, hi = some h → lo ≤ h ∧ h ≤ lo + 2) ∧ atI [V.non, V.non, V.int (lo : Nat), V.int ((lo : Nat) + 1), V.int ((lo : Nat) + 2)] k = some (hiV hi) := by
  have h : k = 0 ∨ k = 1 ∨ k = 2 ∨ k = 3 ∨ k = 4 := by omega
  rcases h with rfl | rfl | rfl | rfl | rfl
  · exact ⟨none, (fun _ z => nomatch z), rfl⟩
  · exact ⟨none, (fun _ z => nomatch z), rfl⟩
  · exact ⟨some lo, fun h e => by cases e; omega, rfl⟩
  · exact ⟨some (lo + 1), fun h e => by cases e; omega, rfl⟩
  · exact ⟨some (lo + 2), fun h e => by cases e; omega, rfl⟩
/-! ### the places behind a rule, in the word without signs -/
def plB (b : Bool) : List V := if b = true then [.int 0] else []
def spBehind (n : Nat) : Sp := fun vs H Q _ => ∃ r : Rl, r.dep < n ∧ ∃ (v : V) (G : Hp) (l : List Nat) (p : Addr) (b : Bool), vs = [v, .str "", .ref p] ∧ r.Ok l ∧ r.Pure ∧ Same G H ∧ Dq G v (dR r) ∧ H p = some (.lst (plB b)) ∧
  ∀ (p' : Addr) (H' : Hp), Step NoS H H' → (p' = p ∨ H p' = none) → H' p' = some (.lst (plB (b && r.mbe))) → Q (.ref p') H'
def spTurns (n : Nat) : Sp := fun vs H Q _ => ∃ r : Rl, r.dep < n ∧ ∃ (v : V) (G : Hp) (l : List Nat) (p : Addr) (b : Bool) (lo : Nat) (hi : Option Nat), vs = [v, .str "", .ref p] ∧ (Rl.times r lo hi).Ok l ∧ r.Pure ∧ Same G H ∧ Dq G v (dR (.times r lo hi)) ∧ H p = some (.lst (plB b)) ∧
  ∀ (p' : Addr) (H' : Hp), Step NoS H H' → (p' = p ∨ H p' = none) → H' p' = some (.lst (plB (b && (decide (lo = 0) || r.mbe)))) → Q (.ref p') H'
theorem plB_cat (a b : Bool) : inV (.int 0) (plB a ++ plB b) = (a || b) := by cases a <;> cases b <;> decide +kernel
theorem plB_in (a : Bool) : inV (.int 0) (plB a) = a := by cases a <;> decide +kernel
theorem plB_len (a : Bool) : (plB a).length ≤ 1 := by cases a <;> decide
theorem plB_dq {G : Hp} {p : Addr} {b : Bool} (h : G p = some (.lst (plB b))) : Dq G (.ref p) (.list ((if b = true then [(0 : Int)] else []).map .int)) := by
  cases b
  · exact Idp (ns := []) h
  · exact Idp (ns := [0]) h
theorem hi_dq {G : Hp} {x : V} {h : Option Nat} (d : Dq G x (hiD h)) : x = hiV h := by
  cases h with
  | none => exact dp_none d
  | some n => exact dp_int d
theorem plB_flat (a b : Bool) : (plB a ++ plB b).all flatV = true := by cases a <;> cases b <;> rfl
theorem plB_flat1 (a : Bool) : (plB a).all flatV = true := by cases a <;> rfl
theorem plB_pick (c : Bool) : (((List.range (rngI 0 1).length).filter fun _ => c).map fun i => V.int (0 + (i : Nat))) = plB c := by cases c <;> rfl
theorem plB_at {b : Bool} {i : Nat} {x : V} (h : (plB b)[i]? = some x) : b = true ∧ i = 0 ∧ x = .int 0 := by
  cases b with
  | false => cases h
  | true =>
    match i, h with
    | 0, h => cases h; exact ⟨rfl, rfl, rfl⟩
    | i + 1, h => cases h
theorem inV_app (x : V) (a b : List V) : inV x (a ++ b) = (inV x a || inV x b) := by unfold inV; rw [List.any_append]
theorem mbes_take {rs : List Rl} {i : Nat} {s : Rl} (h : rs[i]? = some s) : Rl.mbes (rs.take (i + 1)) = Rl.mbes (rs.take i) ++ [s.mbe] := by
  rw [mbes_map, mbes_map, List.take_add_one, h, List.map_append]; rfl
theorem range_getD {α : Type} (l : List α) (d : α) : (List.range l.length).map (fun i => l.getD i d) = l := by
  have h := range_pick l d fun _ => true
  rw [filter_all, filter_all] at h
  exact h
theorem plB_pos (b c : Bool) : (decide (0 < (plB b).length) && c) = (b && c) := by cases b <;> rfl
def spHas : Sp := fun vs H Q _ => ∃ (r : Rl) (v : V) (G : Hp) (l : List Nat), vs = [v, .str ""] ∧ r.dep < 8 ∧ r.Ok l ∧ r.Pure ∧ Same G H ∧ Dq G v (dR r) ∧ ∀ H', Step NoS H H' → Q (.bl r.mbe) H'
/-! ### the parts with their depths -/
mutual
def Rl.partsD : Rl → Nat → List (Rl × Nat)
  | .none, d => [(.none, d)]
  | .empty, d => [(.empty, d)]
  | .one w, d => [(.one w, d)]
  | .name x, d => [(.name x, d)]
  | .nt r, d => (.nt r, d) :: r.partsD (d + 1)
  | .times r lo hi, d => (.times r lo hi, d) :: r.partsD (d + 1)
  | .lst k rs, d => (.lst k rs, d) :: Rl.partssD rs (d + 1)
def Rl.partssD : List Rl → Nat → List (Rl × Nat)
  | [], _ => []
  | r :: rs, d => r.partsD d ++ Rl.partssD rs d
end
theorem partssD_app : ∀ (rs ss : List Rl) (d : Nat), Rl.partssD (rs ++ ss) d = Rl.partssD rs d ++ Rl.partssD ss d
  | [], ss, d => by rw [Rl.partssD]; rfl
  | r :: rs, ss, d => by rw [List.cons_append, Rl.partssD, Rl.partssD, partssD_app rs ss, List.append_assoc]
theorem partssD_one (r : Rl) (d : Nat) : Rl.partssD [r] d = r.partsD d := by rw [Rl.partssD, Rl.partssD, List.append_nil]
theorem partsD_eq (r : Rl) (d : Nat) : r.partsD d = (r, d) :: Rl.partssD r.subs (d + 1) := by
  cases r with
  | nt r => rw [Rl.partsD]; show _ = _ :: Rl.partssD [r] _; rw [partssD_one]
  | times r lo hi => rw [Rl.partsD]; show _ = _ :: Rl.partssD [r] _; rw [partssD_one]
  | lst k rs => rw [Rl.partsD]; rfl
  | none => rw [Rl.partsD]; show _ = _ :: Rl.partssD [] _; rw [Rl.partssD]
  | empty => rw [Rl.partsD]; show _ = _ :: Rl.partssD [] _; rw [Rl.partssD]
  | one w => rw [Rl.partsD]; show _ = _ :: Rl.partssD [] _; rw [Rl.partssD]
  | name x => rw [Rl.partsD]; show _ = _ :: Rl.partssD [] _; rw [Rl.partssD]
mutual
theorem partsD_fst : ∀ (r : Rl) (d : Nat), (r.partsD d).map (·.1) = r.parts
  | .none, d => by rw [Rl.partsD, Rl.parts]; rfl
  | .empty, d => by rw [Rl.partsD, Rl.parts]; rfl
  | .one w, d => by rw [Rl.partsD, Rl.parts]; rfl
  | .name x, d => by rw [Rl.partsD, Rl.parts]; rfl
  | .nt r, d => by rw [Rl.partsD, Rl.parts, List.map_cons, partsD_fst r]
  | .times r lo hi, d => by rw [Rl.partsD, Rl.parts, List.map_cons, partsD_fst r]
  | .lst k rs, d => by rw [Rl.partsD, Rl.parts, List.map_cons, partssD_fst rs]
theorem partssD_fst : ∀ (rs : List Rl) (d : Nat), (Rl.partssD rs d).map (·.1) = Rl.partss rs
  | [], d => by rw [Rl.partssD, Rl.partss]; rfl
  | r :: rs, d => by rw [Rl.partssD, Rl.partss, List.map_append, partsD_fst r, partssD_fst rs]
end
abbrev dPD (p : Rl × Nat) : PyData := .tuple [dR p.1, .int (p.2 : Nat)]
def spLawParts (n : Nat) : Sp := fun vs H Q _ => ∃ r : Rl, r.dep < n ∧ r.dep < 8 ∧ ∃ (v : V) (G : Hp) (l : List Nat) (d : Nat), vs = [v, .int (d : Nat)] ∧ r.Ok l ∧ Ok NoS H G ∧ Dq G v (dR r) ∧
  ∀ (p : Addr) (H' G' : Hp), Fz NoS H G H' G' → Dq G' (.ref p) (.list ((r.partsD d).map dPD)) → Q (.ref p) H'
def spNamed : Sp := fun vs H Q _ => ∃ (r : Rl) (pa : Addr) (v : V) (G : Hp) (l : List Nat), vs = [.ref pa, v] ∧ r.Ok l ∧ Ok (At pa) H G ∧ Dq G v (dR r) ∧
  ∀ (v' : V) (H' G' : Hp) (k : _root_.Fin 3) (x : Str), Fz (At pa) H G H' G' → Dq G' v' (dR (.lst k [.name x, r, .times (.name x) 0 none])) → (Rl.lst k [.name x, r, .times (.name x) 0 none]).Ok l → Q v' H'
theorem in_L (r : Rl) : (if false = true then !inV (.str r.tag) [.str "row", .str "either", .str "both"] else inV (.str r.tag) [.str "row", .str "either", .str "both"]) = r.isL := by rw [if_neg (by decide)]; exact tag_L r
theorem in_I (r : Rl) : (if false = true then !inV (.str r.tag) [.str "not", .str "times"] else inV (.str r.tag) [.str "not", .str "times"]) = r.isI := by rw [if_neg (by decide)]; exact tag_I r
end Hw

/-! data that may be shown: their depth and the length of their text -/
namespace Hw
open PySem PySem.Spec PyProof.Rows L2
structure Sh (d : PyData) (k n : Nat) : Prop where
  show_ : d.showable = true
  nod : d.hasDict = false
  deep : d.depth ≤ k
  size : d.shown.length ≤ n
theorem Sh.mono {d : PyData} {k n k' n' : Nat} (h : Sh d k n) (hk : k ≤ k') (hn : n ≤ n') : Sh d k' n' := ⟨h.show_, h.nod, Nat.le_trans h.deep hk, Nat.le_trans h.size hn⟩
theorem sh_int {i : Int} {b : Nat} (h : i.natAbs ≤ b) (hb : b < 2 ^ 250) : Sh (.int i) 0 (b + 2) where
  show_ := by
    rw [PyData.showable]
    refine decide_eq_true ?_
    by_cases h0 : i.natAbs = 0
    · rw [h0]; decide
    · have := (Nat.log2_lt h0).mpr (Nat.lt_of_le_of_lt h hb)
      omega
  nod := by rw [PyData.hasDict]
  deep := by rw [PyData.depth]; exact Nat.le_refl 0
  size := by
    rw [PyData.shown]
    have := PyProof.Rows.len_str_of_int i
    omega
theorem sh_bool {b : Bool} : Sh (.bool b) 0 5 where
  show_ := by rw [PyData.showable]
  nod := by rw [PyData.hasDict]
  deep := by rw [PyData.depth]; exact Nat.le_refl 0
  size := by rw [PyData.shown]; cases b <;> decide +kernel
theorem sh_none : Sh .none 0 5 where
  show_ := by rw [PyData.showable]
  nod := by rw [PyData.hasDict]
  deep := by rw [PyData.depth]; exact Nat.le_refl 0
  size := by rw [PyData.shown]; decide +kernel
theorem sh_str {l : List Nat} (h : ∀ c ∈ l, c < 16 ^ 8) : Sh (.str (strOf l)) 0 (10 * l.length + 2) where
  show_ := by rw [PyData.showable]
  nod := by rw [PyData.hasDict]
  deep := by rw [PyData.depth]; exact Nat.le_refl 0
  size := by
    rw [PyData.shown]
    have := StrLaws.reprText_len (strOf l) (by rw [strOf_cps]; exact h)
    rw [strOf_len] at this
    exact this
theorem sh_all {k n : Nat} : ∀ {ds : List PyData}, (∀ d ∈ ds, Sh d k n) → PyData.showableAll ds = true ∧ PyData.hasDictAll ds = false ∧ PyData.depthAll ds ≤ k ∧ ((PyData.shownAll ds).map (·.length)).sum ≤ ds.length * n ∧ (PyData.shownAll ds).length = ds.length
  | [], _ => by
    refine ⟨by rw [PyData.showableAll], by rw [PyData.hasDictAll], by rw [PyData.depthAll]; omega, ?_, ?_⟩
    · rw [PyData.shownAll]; exact Nat.zero_le _
    · rw [PyData.shownAll]; rfl
  | d :: ds, h => by
    obtain ⟨h1, h2, h3, h4, h5⟩ := sh_all (ds := ds) fun e he => h e (List.mem_cons_of_mem _ he)
    have hd := h d List.mem_cons_self
    refine ⟨by rw [PyData.showableAll, hd.show_, h1]; rfl, by rw [PyData.hasDictAll, hd.nod, h2]; rfl, by rw [PyData.depthAll]; exact Nat.max_le.mpr ⟨hd.deep, h3⟩, ?_, ?_⟩
    · rw [PyData.shownAll, List.map_cons, List.sum_cons, List.length_cons, Nat.add_mul, Nat.one_mul]
      have := hd.size
      omega
    · rw [PyData.shownAll, List.length_cons, List.length_cons, h5]
theorem sh_list {k n : Nat} {ds : List PyData} (h : ∀ d ∈ ds, Sh d k n) : Sh (.list ds) (k + 1) (ds.length * (n + 2) + 3) := by
  obtain ⟨h1, h2, h3, h4, h5⟩ := sh_all h
  refine ⟨by rw [PyData.showable]; exact h1, by rw [PyData.hasDict]; exact h2, by rw [PyData.depth]; omega, ?_⟩
  rw [PyData.shown]
  have := listText_len_le (PyData.shownAll ds)
  rw [h5] at this
  rw [Nat.mul_add]
  omega
theorem sh_tuple {k n : Nat} {ds : List PyData} (h : ∀ d ∈ ds, Sh d k n) : Sh (.tuple ds) (k + 1) (ds.length * (n + 2) + 3) := by
  obtain ⟨h1, h2, h3, h4, h5⟩ := sh_all h
  refine ⟨by rw [PyData.showable]; exact h1, by rw [PyData.hasDict]; exact h2, by rw [PyData.depth]; omega, ?_⟩
  rw [PyData.shown]
  have := tupleText_len_le (PyData.shownAll ds)
  rw [h5] at this
  rw [Nat.mul_add]
  omega
/-- a machine -/
theorem sh_mach {k : Nat} {m : Mach} (mo : MachOk k m) (h6 : k ≤ 6) : Sh (DM m) 3 60000 := by
  have rows : ∀ d ∈ m.tab.map DI, Sh d 1 400 := fun d hd => by
    obtain ⟨r, hr, rfl⟩ := List.mem_map.mp hd
    have := sh_list (ds := r.map PyData.int) (k := 0) (n := 62) fun e he => by
      obtain ⟨t, ht, rfl⟩ := List.mem_map.mp he
      have := mo.tgt r hr t ht
      have := mo.most
      exact (sh_int (b := 60) (by omega) (by decide)).mono (Nat.le_refl _) (Nat.le_refl _)
    refine this.mono (Nat.le_refl _) ?_
    rw [List.length_map, mo.row r hr]
    omega
  have tab := sh_list rows
  have ends := sh_list (ds := m.ends.map PyData.bool) (k := 0) (n := 5) fun e he => by
    obtain ⟨t, _, rfl⟩ := List.mem_map.mp he
    exact sh_bool
  rw [List.length_map] at tab ends
  have h1 := mo.most
  have h2 := mo.ends
  have all : ∀ d ∈ [DT m.tab, DB m.ends], Sh d 2 25000 := fun d hd => by
    rcases List.mem_cons.mp hd with rfl | hd
    · exact tab.mono (Nat.le_refl _) (by omega)
    · rw [List.mem_singleton.mp hd]
      exact ends.mono (by decide) (by omega)
  refine (sh_tuple all).mono (Nat.le_refl _) ?_
  show 2 * (25000 + 2) + 3 ≤ 60000
  decide
/-- what repr asks of a value of data -/
theorem repr_ok {d : PyData} {k n : Nat} (h : Sh d k n) (hk : k ≤ 100) (hn : n ≤ 16000000) : d.showable = true ∧ d.hasDict = false ∧ d.depth ≤ 100 ∧ d.shown.length ≤ sizeLine :=
  ⟨h.show_, h.nod, Nat.le_trans h.deep hk, Nat.le_trans (Nat.le_trans h.size hn) (by decide)⟩
end Hw

/-! list.clear; how long the text of a rule is -/
namespace Hw
open PySem PySem.Spec PyProof.Rows L2
def rClear : V → List V → Hp → VK → Prop := fun x xs H Q => ∃ (a : Addr) (ys : List V), x = .ref a ∧ xs = [] ∧ H a = some (.lst ys) ∧ Q .non (upd H a (.lst []))
theorem mt_clear {X : Cx} : MtR X "list.clear" rClear := by
  intro ps sh st Hp0 xv al vv ul QQ In rA rB hh
  obtain ⟨a, ys, rfl, rfl, ha, qq⟩ := hh
  cases rA
  have hnil := rB.zero
  subst hnil
  obtain ⟨zz, is, nn, rr, hls, eo⟩ := In.lstM ha
  refine call_meets F.slot_list_clear ⟨_, eo, rfl⟩ F.entry_list_clear (F.args_list_clear_1 _) (AutoSeq1.list_clear_list_0 a is.toArray nn (by rw [List.size_toArray]; omega)) ⟨eo, ?_⟩
  exact ⟨.non, _, In.lset (its' := []) ha eo rfl .nil (Nat.zero_le _), rfl, qq⟩
/-! ### sizes of texts -/
def szR : Nat → Nat
  | 0 => 300
  | n + 1 => 6 * szR n + 30
theorem szR_le (n : Nat) : 300 ≤ szR n ∧ szR n ≤ szR (n + 1) := by
  induction n with
  | zero => exact ⟨Nat.le_refl _, by decide⟩
  | succ n ih => exact ⟨by rw [szR]; omega, by rw [szR, szR]; omega⟩
theorem sh_tag {x : Str} (h : x.cps.toList.length ≤ 12) (g : ∀ c ∈ x.cps.toList, c < 16 ^ 8) : Sh (.str x) 0 122 := by
  have := sh_str (l := x.cps.toList) g
  rw [strOf_self] at this
  exact this.mono (Nat.le_refl _) (by omega)
theorem tags_ok : ∀ x ∈ (["none", "empty", "one", "name", "not", "times", "row", "either", "both", "x", "row7", "abcdefghijkl"] : List Str), x.cps.toList.length ≤ 12 ∧ ∀ c ∈ x.cps.toList, c < 16 ^ 8 := by decide +kernel
theorem sh_w {x : Str} (h : x ∈ (["none", "empty", "one", "name", "not", "times", "row", "either", "both", "x", "row7", "abcdefghijkl"] : List Str)) : Sh (.str x) 0 122 := sh_tag (tags_ok x h).1 (tags_ok x h).2
theorem tag_mem (r : Rl) : r.tag ∈ (["none", "empty", "one", "name", "not", "times", "row", "either", "both", "x", "row7", "abcdefghijkl"] : List Str) := by
  cases r with
  | none => show ("none" : Str) ∈ _; decide +kernel
  | empty => show ("empty" : Str) ∈ _; decide +kernel
  | one w => show ("one" : Str) ∈ _; decide +kernel
  | name x => show ("name" : Str) ∈ _; decide +kernel
  | nt s => show ("not" : Str) ∈ _; decide +kernel
  | times s lo hi => show ("times" : Str) ∈ _; decide +kernel
  | lst k rs => match k with
    | 0 => show ("row" : Str) ∈ _; decide +kernel
    | 1 => show ("either" : Str) ∈ _; decide +kernel
    | 2 => show ("both" : Str) ∈ _; decide +kernel
theorem sh_name {x : Str} (h : x ∈ (["x", "not", "row7", "abcdefghijkl"] : List Str)) : Sh (.str x) 0 122 := sh_w (by
  simp only [List.mem_cons, List.not_mem_nil, or_false] at h ⊢
  rcases h with rfl | rfl | rfl | rfl
  · simp
  · simp
  · simp
  · simp)
theorem sh_two {d e : PyData} {k m : Nat} (hd : Sh d k m) (he : Sh e k m) : Sh (.tuple [d, e]) (k + 1) (2 * (m + 2) + 3) := sh_tuple fun x hx => by
  rcases List.mem_cons.mp hx with rfl | hx
  · exact hd
  · rw [List.mem_singleton.mp hx]; exact he
theorem sh_hi {hi : Option Nat} (h : ∀ x, hi = some x → x ≤ 5) : Sh (hiD hi) 0 122 := by
  cases hi with
  | none => exact sh_none.mono (Nat.le_refl _) (by decide)
  | some n => exact (sh_int (i := (n : Nat)) (b := 5) (by have := h n rfl; omega) (by decide)).mono (Nat.le_refl _) (by decide)
theorem sh_rule {l : List Nat} (hl : ∀ c ∈ l, c < 16 ^ 8) : ∀ (n : Nat) (r : Rl), r.dep < n + 1 → r.Ok l → Sh (dR r) (2 * n + 1) (szR n) := by
  have leaf : ∀ (n : Nat) {d : PyData} {k m : Nat}, Sh d k m → k ≤ 1 → m ≤ 300 → Sh d (2 * n + 1) (szR n) := fun n _ _ _ h hk hm => h.mono (by omega) (Nat.le_trans hm (szR_le n).1)
  have one : ∀ {x : Str}, x ∈ (["none", "empty", "one", "name", "not", "times", "row", "either", "both", "x", "row7", "abcdefghijkl"] : List Str) → Sh (.tuple [.str x]) 1 127 := fun h => (sh_tuple (k := 0) (n := 122) fun d hd => by rw [List.mem_singleton.mp hd]; exact sh_w h).mono (Nat.le_refl _) (by show 1 * (122 + 2) + 3 ≤ 127; decide)
  intro n
  induction n with
  | zero =>
    intro r hd o
    cases r with
    | none => rw [dR]; exact leaf 0 (one (tag_mem .none)) (by decide) (by decide)
    | empty => rw [dR]; exact leaf 0 (one (tag_mem .empty)) (by decide) (by decide)
    | one w => rw [dR]; rw [Rl.Ok] at o; exact leaf 0 (sh_two (k := 0) (m := 122) (sh_w (tag_mem (.one w))) ((sh_str fun c hc => hl c (o.2.2 c hc)).mono (Nat.le_refl _) (by have := o.2.1; omega))) (by decide) (by decide)
    | name x => rw [dR]; rw [Rl.Ok] at o; exact leaf 0 (sh_two (k := 0) (m := 122) (sh_w (tag_mem (.name x))) (sh_name o)) (by decide) (by decide)
    | nt s => rw [Rl.dep] at hd; omega
    | times s lo hi => rw [Rl.dep] at hd; omega
    | lst k rs => rw [Rl.dep] at hd; omega
  | succ n ih =>
    intro r hd o
    have m3 := (szR_le n).1
    have up : ∀ {x : Str}, x ∈ (["none", "empty", "one", "name", "not", "times", "row", "either", "both", "x", "row7", "abcdefghijkl"] : List Str) → Sh (.str x) (2 * n + 1) (szR n) := fun h => (sh_w h).mono (by omega) (by omega)
    cases r with
    | none => rw [dR]; exact leaf _ (one (tag_mem .none)) (by decide) (by decide)
    | empty => rw [dR]; exact leaf _ (one (tag_mem .empty)) (by decide) (by decide)
    | one w => rw [dR]; rw [Rl.Ok] at o; exact leaf _ (sh_two (k := 0) (m := 122) (sh_w (tag_mem (.one w))) ((sh_str fun c hc => hl c (o.2.2 c hc)).mono (Nat.le_refl _) (by have := o.2.1; omega))) (by decide) (by decide)
    | name x => rw [dR]; rw [Rl.Ok] at o; exact leaf _ (sh_two (k := 0) (m := 122) (sh_w (tag_mem (.name x))) (sh_name o)) (by decide) (by decide)
    | nt s =>
      rw [dR]
      rw [Rl.dep] at hd
      rw [Rl.Ok] at o
      exact (sh_two (up (tag_mem (.nt s))) (ih s (by omega) o)).mono (by omega) (by rw [szR]; omega)
    | times s lo hi =>
      rw [dR]
      rw [Rl.dep] at hd
      rw [Rl.Ok] at o
      have hlo : Sh (.int (lo : Nat)) (2 * n + 1) (szR n) := (sh_int (i := (lo : Nat)) (b := 5) (by have := o.2.1; omega) (by decide)).mono (by omega) (by omega)
      have hhi : Sh (hiD hi) (2 * n + 1) (szR n) := (sh_hi fun x e => (o.2.2 x e).2).mono (by omega) (by omega)
      refine (sh_tuple (k := 2 * n + 1) (n := szR n) fun d hd' => ?_).mono (by omega) (by show 4 * (szR n + 2) + 3 ≤ _; rw [szR]; omega)
      simp only [List.mem_cons, List.not_mem_nil, or_false] at hd'
      rcases hd' with rfl | rfl | rfl | rfl
      · exact up (tag_mem (.times s lo hi))
      · exact ih s (by omega) o.1
      · exact hlo
      · exact hhi
    | lst k rs =>
      rw [dR, dRs_map]
      rw [Rl.dep] at hd
      rw [Rl.Ok] at o
      have inner : Sh (.list (rs.map dR)) (2 * n + 2) (3 * szR n + 9) := by
        refine (sh_list (k := 2 * n + 1) (n := szR n) fun d hd' => ?_).mono (Nat.le_refl _) ?_
        · obtain ⟨s, hs, rfl⟩ := List.mem_map.mp hd'
          exact ih s (by have := deps_mem hs; omega) (oks_mem o.2.2 hs)
        · rw [List.length_map]
          have : rs.length * (szR n + 2) ≤ 3 * (szR n + 2) := Nat.mul_le_mul_right _ o.2.1
          omega
      exact (sh_two ((up (tag_mem (.lst k rs))).mono (by omega) (by omega)) inner).mono (by omega) (by rw [szR]; omega)
/-- pieces: what the texts of all of them need -/
structure ShS (ds : List PyData) (k S : Nat) : Prop where
  show_ : PyData.showableAll ds = true
  nod : PyData.hasDictAll ds = false
  deep : PyData.depthAll ds ≤ k
  size : ((PyData.shownAll ds).map (·.length)).sum ≤ S
  len : (PyData.shownAll ds).length = ds.length
theorem shs_nil {k S : Nat} : ShS [] k S := ⟨by rw [PyData.showableAll], by rw [PyData.hasDictAll], by rw [PyData.depthAll]; omega, by rw [PyData.shownAll]; exact Nat.zero_le _, by rw [PyData.shownAll]; rfl⟩
theorem shs_cons {d : PyData} {ds : List PyData} {k n S : Nat} (h : Sh d k n) (g : ShS ds k S) : ShS (d :: ds) k (n + S) where
  show_ := by rw [PyData.showableAll, h.show_, g.show_]; rfl
  nod := by rw [PyData.hasDictAll, h.nod, g.nod]; rfl
  deep := by rw [PyData.depthAll]; exact Nat.max_le.mpr ⟨h.deep, g.deep⟩
  size := by
    rw [PyData.shownAll, List.map_cons, List.sum_cons]
    have := h.size
    have := g.size
    omega
  len := by rw [PyData.shownAll, List.length_cons, List.length_cons, g.len]
theorem shs_app {es : List PyData} {k T : Nat} (g : ShS es k T) : ∀ {ds : List PyData} {S : Nat}, ShS ds k S → ShS (ds ++ es) k (S + T)
  | [], S, _ => ⟨g.show_, g.nod, g.deep, by have := g.size; show ((PyData.shownAll es).map (·.length)).sum ≤ _; omega, g.len⟩
  | d :: ds, S, h => by
    obtain ⟨h1, h2, h3, h4, h5⟩ := h
    rw [PyData.showableAll, Bool.and_eq_true] at h1
    rw [PyData.hasDictAll, Bool.or_eq_false_iff] at h2
    rw [PyData.depthAll] at h3
    rw [PyData.shownAll, List.map_cons, List.sum_cons] at h4
    rw [PyData.shownAll, List.length_cons, List.length_cons] at h5
    have ih := shs_app g (ds := ds) (S := S - d.shown.length) ⟨h1.2, h2.2, by omega, by omega, by omega⟩
    have c := shs_cons (d := d) (n := d.shown.length) ⟨h1.1, h2.1, by omega, Nat.le_refl _⟩ ih
    exact ⟨c.show_, c.nod, c.deep, by have := c.size; rw [List.cons_append]; omega, c.len⟩
theorem shs_list {ds : List PyData} {k S : Nat} (h : ShS ds k S) : Sh (.list ds) (k + 1) (S + 2 * ds.length + 3) := by
  obtain ⟨h1, h2, h3, h4, h5⟩ := h
  refine ⟨by rw [PyData.showable]; exact h1, by rw [PyData.hasDict]; exact h2, by rw [PyData.depth]; omega, ?_⟩
  rw [PyData.shown]
  have := listText_len_le (PyData.shownAll ds)
  rw [h5] at this
  omega
def pzR : Nat → Nat
  | 0 => szR 0
  | n + 1 => szR (n + 1) + 3 * pzR n
theorem dRs_app (a b : List Rl) : dRs (a ++ b) = dRs a ++ dRs b := by rw [dRs_map, dRs_map, dRs_map, List.map_append]
theorem ShS.mono {ds : List PyData} {k S k' S' : Nat} (h : ShS ds k S) (hk : k ≤ k') (hS : S ≤ S') : ShS ds k' S' := ⟨h.show_, h.nod, Nat.le_trans h.deep hk, Nat.le_trans h.size hS, h.len⟩
theorem shs_partss {k P : Nat} : ∀ {rs : List Rl}, (∀ r ∈ rs, ShS (dRs r.parts) k P) → ShS (dRs (Rl.partss rs)) k (rs.length * P)
  | [], _ => by rw [Rl.partss, dRs_map]; exact shs_nil
  | r :: rs, h => by
    rw [Rl.partss, dRs_app]
    refine (shs_app (shs_partss fun s hs => h s (List.mem_cons_of_mem _ hs)) (h r List.mem_cons_self)).mono (Nat.le_refl _) ?_
    rw [List.length_cons, Nat.add_mul, Nat.one_mul]; omega
theorem sh_parts {l : List Nat} (hl : ∀ c ∈ l, c < 16 ^ 8) : ∀ (n : Nat) (r : Rl), r.dep < n + 1 → r.Ok l → ShS (dRs r.parts) (2 * n + 1) (pzR n) := by
  intro n
  induction n with
  | zero =>
    intro r hd o
    have hs : r.subs = [] := by
      cases e : r.subs with
      | nil => rfl
      | cons s ss => have := subs_dep (r := r) (s := s) (by rw [e]; exact List.mem_cons_self); omega
    rw [parts_eq, hs, Rl.partss, dRs_map]
    exact (shs_cons (sh_rule hl 0 r hd o) shs_nil (S := 0)).mono (Nat.le_refl _) (Nat.le_refl _)
  | succ n ih =>
    intro r hd o
    have h := shs_partss (k := 2 * n + 1) (P := pzR n) (rs := r.subs) fun s hs => ih s (by have := subs_dep hs; omega) (subs_ok o hs)
    have l3 : r.subs.length * pzR n ≤ 3 * pzR n := Nat.mul_le_mul_right _ (subs_len o)
    rw [parts_eq]
    have e : dRs (r :: Rl.partss r.subs) = dR r :: dRs (Rl.partss r.subs) := by rw [dRs_map, dRs_map]; rfl
    rw [e]
    exact (shs_cons (sh_rule hl (n + 1) r hd o) (h.mono (by omega) (Nat.le_refl _))).mono (Nat.le_refl _) (by rw [pzR]; omega)
theorem partAt {G : Hp} {us : List V} {r : Rl} {d : Nat} (h : DqAll G us ((r.partsD d).map dPD)) {i : Nat} {y : V} (hx : us[i]? = some y) :
    ∃ (s : Rl) (e : Nat) (t : Addr) (x : V), r.parts[i]? = some s ∧ (r.partsD d)[i]? = some (s, e) ∧ y = .ref t ∧ G t = some (.tup [x, .int (e : Nat)]) ∧ Dq G x (dR s) := by
  obtain ⟨z, hz, dz⟩ := dps_get' h hx
  rw [List.getElem?_map] at hz
  cases e : (r.partsD d)[i]? with
  | none => rw [e] at hz; cases hz
  | some p =>
    rw [e] at hz
    cases hz
    obtain ⟨t, x, n, rfl, et, dx, dn⟩ := dP dz
    cases dp_int dn
    refine ⟨p.1, p.2, t, x, ?_, rfl, rfl, et, dx⟩
    rw [← partsD_fst r d, List.getElem?_map, e]; rfl
theorem pz4 : pzR 4 ≤ 1000000 := by decide
mutual
/-- the depths: all of them at most d + dpt, which stands there -/
theorem depths_r : ∀ (r : Rl) (d : Nat), (∀ p ∈ r.partsD d, d ≤ p.2 ∧ p.2 ≤ d + r.dpt) ∧ ∃ p ∈ r.partsD d, p.2 = d + r.dpt
  | .none, d => by rw [Rl.partsD, Rl.dpt]; exact ⟨fun p h => by rw [List.mem_singleton.mp h]; exact ⟨Nat.le_refl _, Nat.le_refl _⟩, _, List.mem_cons_self, rfl⟩
  | .empty, d => by rw [Rl.partsD, Rl.dpt]; exact ⟨fun p h => by rw [List.mem_singleton.mp h]; exact ⟨Nat.le_refl _, Nat.le_refl _⟩, _, List.mem_cons_self, rfl⟩
  | .one w, d => by rw [Rl.partsD, Rl.dpt]; exact ⟨fun p h => by rw [List.mem_singleton.mp h]; exact ⟨Nat.le_refl _, Nat.le_refl _⟩, _, List.mem_cons_self, rfl⟩
  | .name x, d => by rw [Rl.partsD, Rl.dpt]; exact ⟨fun p h => by rw [List.mem_singleton.mp h]; exact ⟨Nat.le_refl _, Nat.le_refl _⟩, _, List.mem_cons_self, rfl⟩
  | .nt r, d => by
    rw [Rl.partsD, Rl.dpt]
    obtain ⟨h1, p, hp, e⟩ := depths_r r (d + 1)
    refine ⟨fun q hq => ?_, p, List.mem_cons_of_mem _ hp, by omega⟩
    rcases List.mem_cons.mp hq with rfl | hq
    · exact ⟨Nat.le_refl _, Nat.le_add_right _ _⟩
    · have := h1 q hq; omega
  | .times r lo hi, d => by
    rw [Rl.partsD, Rl.dpt]
    obtain ⟨h1, p, hp, e⟩ := depths_r r (d + 1)
    refine ⟨fun q hq => ?_, p, List.mem_cons_of_mem _ hp, by omega⟩
    rcases List.mem_cons.mp hq with rfl | hq
    · exact ⟨Nat.le_refl _, Nat.le_add_right _ _⟩
    · have := h1 q hq; omega
  | .lst k rs, d => by
    rw [Rl.partsD, Rl.dpt]
    obtain ⟨h1, h2⟩ := depths_rs rs d
    refine ⟨fun q hq => ?_, ?_⟩
    · rcases List.mem_cons.mp hq with rfl | hq
      · exact ⟨Nat.le_refl _, Nat.le_add_right _ _⟩
      · exact h1 q hq
    · rcases h2 with h2 | ⟨p, hp, e⟩
      · exact ⟨_, List.mem_cons_self, by rw [h2]; rfl⟩
      · exact ⟨p, List.mem_cons_of_mem _ hp, e⟩
theorem depths_rs : ∀ (rs : List Rl) (d : Nat), (∀ p ∈ Rl.partssD rs (d + 1), d ≤ p.2 ∧ p.2 ≤ d + Rl.dpts rs) ∧ (Rl.dpts rs = 0 ∨ ∃ p ∈ Rl.partssD rs (d + 1), p.2 = d + Rl.dpts rs)
  | [], d => by rw [Rl.partssD, Rl.dpts]; exact ⟨(fun p h => by cases h), .inl rfl⟩
  | r :: rs, d => by
    rw [Rl.partssD, Rl.dpts]
    obtain ⟨h1, p, hp, e⟩ := depths_r r (d + 1)
    obtain ⟨g1, g2⟩ := depths_rs rs d
    refine ⟨fun q hq => ?_, .inr ?_⟩
    · rcases List.mem_append.mp hq with hq | hq
      · have := h1 q hq; omega
      · have := g1 q hq; omega
    · by_cases c : Rl.dpts rs ≤ r.dpt + 1
      · exact ⟨p, List.mem_append_left _ hp, by omega⟩
      · rcases g2 with g2 | ⟨p', hp', e'⟩
        · omega
        · exact ⟨p', List.mem_append_right _ hp', by omega⟩
end
end Hw
namespace Hw
open PySem PySem.Spec PyProof.Rows L2
def topS (i : Nat) : Stmt := PySem.Challenge.pw_hallofwords_k03_parts_of_rules.main.body.getD i (.Pass ⟨0, 0, 0, 0⟩)
/-- the built-in names stand as they are -/
structure Bt (K : PySem.W.Frag) (mg : Str → Option Value) : Prop where
  m_all : mg "all" = none
  m_any : mg "any" = none
  m_bool : mg "bool" = none
  m_int : mg "int" = none
  m_isinstance : mg "isinstance" = none
  m_len : mg "len" = none
  m_list : mg "list" = none
  m_max : mg "max" = none
  m_min : mg "min" = none
  m_range : mg "range" = none
  m_repr : mg "repr" = none
  m_str : mg "str" = none
  m_sum : mg "sum" = none
  c_LISTS : ∃ a, mg "LISTS" = some (.ref a) ∧ ∀ H, SqT K H a [.str "row", .str "either", .str "both"]
abbrev s_rules_in : Stmt := topS 2
abbrev s_copied_rule : Stmt := topS 3
abbrev s_parts_of : Stmt := topS 4
abbrev s_size_of : Stmt := topS 5
abbrev s_depth_of : Stmt := topS 6
abbrev s_signs_of : Stmt := topS 7
abbrev s_may_be_empty : Stmt := topS 8
abbrev s_law_pool : Stmt := topS 10
abbrev s_law_stream : Stmt := topS 11
abbrev s_law_pick : Stmt := topS 12
abbrev s_law_letters : Stmt := topS 13
abbrev s_law_signs : Stmt := topS 14
abbrev s_law_rule : Stmt := topS 15
abbrev s_law_turns : Stmt := topS 17
abbrev s_law_behind : Stmt := topS 16
abbrev s_law_has : Stmt := topS 18
abbrev s_law_is_so : Stmt := topS 19
abbrev s_law_parts : Stmt := topS 20
abbrev s_law_named : Stmt := topS 21
abbrev s_law_is_whole : Stmt := topS 22
abbrev s_law : Stmt := topS 23
section
variable {P : Program} {w : World} {K : PySem.W.Frag} {mg : Str → Option Value} {base : Heap}
theorem sc_rules_in : FnScope ["rule"] ["rule"] (defScope s_rules_in) := ⟨rfl, rfl, rfl, by decide +kernel, rfl, by decide +kernel, by decide +kernel⟩
theorem ok_rules_in {f : Addr} {fd : FuncData} (F : Fun K "rules_in" "rules_in" s_rules_in f fd) (T : Bt K mg)  : FnG P w K mg base CX0 1 f fd ["rule"] (spRulesIn) := by
  refine FnG.calm F sc_rules_in (fun vs H Q E h => by first | (obtain ⟨_, rfl, _⟩ := h; rfl) | (obtain ⟨_, _, rfl, _⟩ := h; rfl) | (obtain ⟨_, _, _, rfl, _⟩ := h; rfl) | (obtain ⟨_, _, _, _, rfl, _⟩ := h; rfl) | (obtain ⟨_, _, _, _, _, rfl, _⟩ := h; rfl) | (obtain ⟨_, _, _, _, _, _, rfl, _⟩ := h; rfl) | (obtain ⟨_, _, _, _, _, _, _, rfl, _⟩ := h; rfl) | (obtain ⟨_, _, _, _, _, _, _, _, rfl, _⟩ := h; rfl) | (obtain ⟨_, _, _, _, _, _, _, _, _, rfl, _⟩ := h; rfl) | (obtain ⟨_, _, _, _, _, _, _, _, _, _, rfl, _⟩ := h; rfl) | (obtain ⟨_, _, _, _, _, _, _, _, _, _, _, rfl, _⟩ := h; rfl) | (obtain ⟨_, _, _, _, _, _, _, _, _, _, _, _, rfl, _⟩ := h; rfl)) (fun cd A out z H vs Q E hg hr h => ?_)
  have nd := sc_rules_in.nd
  obtain ⟨r, v, G, rfl, sm, dv, q⟩ := h
  have sL := T.c_LISTS.choose_spec.2
  refine ⟨_, (pss_cons (ps_if (pt_cmpR (inQ K) (pe_ix (ixT K) (pv 0) pe_int (fun _ _ => rfl)) (pe_glob (v := .ref T.c_LISTS.choose) rfl T.c_LISTS.choose_spec.1 rfl) rfl) (pss_one (ps_ret (pe_callTy (listQ K) (by rfl) T.m_list (by decide +kernel) (pa_cons (pe_ix (ixT K) (pv 0) pe_int (fun _ _ => rfl)) pa_nil)))) pss_nil)
    (pss_cons (ps_if (pt_cmpR (inQ K) (pe_ix (ixT K) (pv 0) pe_int (fun _ _ => rfl)) (pe_tup (pa_cons pe_str (pa_cons pe_str pa_nil))) rfl) (pss_one (ps_ret (pe_lst (pa_cons (pe_ix (ixT K) (pv 0) pe_int (fun _ _ => rfl)) pa_nil)))) pss_nil)
    (pss_one (ps_ret (pe_lst pa_nil))))), ?_⟩
  generalize T.c_LISTS.choose = aL at sL ⊢
  obtain ⟨a, xs, rfl, eaG, dxs⟩ := dR_at dv
  have ea := sm _ _ eaG
  refine ⟨.ref a, rfl, a, _, 0, .str r.tag, rfl, rfl, SqT.of ea, atI_nat (j := 0) rfl, aL, _, rfl, .inr (sL _), rfl, rfl, _, rfl, ?_⟩
  rw [if_neg (by decide), tag_L]
  refine ite2 (fun hL => ?_) (fun hL => ?_)
  · cases r with
    | lst k rs =>
      obtain ⟨x, rfl, dx⟩ := dps_one dxs
      obtain ⟨b, ys, rfl, eb, dys⟩ := dp_list dx
      exact ⟨.ref a, rfl, a, _, 1, .ref b, rfl, rfl, SqT.of ea, atI_nat (j := 1) rfl, b, ys, rfl, .inl (SqL.of (sm _ _ eb)), fun p np => q p _ ys (Step.new np) np upd_same dys⟩
    | _ => cases hL
  · show tSeq _ _ _ _ _
    refine ⟨.ref a, rfl, a, _, 0, .str r.tag, rfl, rfl, SqT.of ea, atI_nat (j := 0) rfl, by decide, fun t nt => ?_⟩
    have s1 : Step NoS H (upd H t (.tup [.str "not", .str "times"])) := Step.new nt
    refine ⟨t, _, rfl, .inr (SqT.of upd_same), rfl, rfl, _, rfl, ?_⟩
    rw [if_neg (by decide), tag_I]
    generalize upd H t (.tup [.str "not", .str "times"]) = H1 at s1 ⊢
    have ea1 := s1.same _ _ ea
    refine ite2 (fun hI => ?_) (fun hI => ?_)
    · have : ∃ s, r.subs = [s] ∧ ∃ x ys, xs = x :: ys ∧ Dq G x (dR s) := by
        cases r with
        | nt s => obtain ⟨x, rfl, dx⟩ := dps_one dxs; exact ⟨s, rfl, x, [], rfl, dx⟩
        | times s lo hi => obtain ⟨x, y, z, rfl, dx, _, _⟩ := dps_three dxs; exact ⟨s, rfl, x, [y, z], rfl, dx⟩
        | _ => cases hI
      obtain ⟨s, hs, x, ys, rfl, dx⟩ := this
      refine ⟨.ref a, rfl, a, _, 1, x, rfl, rfl, SqT.of ea1, atI_nat (j := 1) rfl, (by show 1 ≤ sizeLine; decide), fun p np => q p _ [x] (s1.trans (Step.new np)) (s1.free np) upd_same ?_⟩
      rw [hs, dRs_map]
      exact .cons dx .nil
    · have hs : r.subs = [] := by
        cases r with
        | lst k rs => cases hL rfl
        | nt s => cases hI rfl
        | times s lo hi => cases hI rfl
        | _ => rfl
      refine ⟨by decide, fun p np => q p _ [] (s1.trans (Step.new np)) (s1.free np) upd_same ?_⟩
      rw [hs, dRs_map]
      exact .nil
theorem sc_copied_rule : FnScope ["rule", "one"] ["rule"] (defScope s_copied_rule) := ⟨rfl, rfl, rfl, by decide +kernel, rfl, by decide +kernel, by decide +kernel⟩
theorem ok_copied_rule {f : Addr} {fd : FuncData} (F : Fun K "copied_rule" "copied_rule" s_copied_rule f fd) (T : Bt K mg) {dd : Nat}  (Dcopied_rule : DefG P w K mg base CX0 (1 + 1 * dd) "copied_rule" ["rule"] (spCopied dd)) : FnG P w K mg base CX0 (1 + 1 * (dd + 1)) f fd ["rule"] (spCopied (dd + 1)) := by
  refine FnG.calm F sc_copied_rule (fun vs H Q E h => by first | (obtain ⟨_, rfl, _⟩ := h; rfl) | (obtain ⟨_, _, rfl, _⟩ := h; rfl) | (obtain ⟨_, _, _, rfl, _⟩ := h; rfl) | (obtain ⟨_, _, _, _, rfl, _⟩ := h; rfl) | (obtain ⟨_, _, _, _, _, rfl, _⟩ := h; rfl) | (obtain ⟨_, _, _, _, _, _, rfl, _⟩ := h; rfl) | (obtain ⟨_, _, _, _, _, _, _, rfl, _⟩ := h; rfl) | (obtain ⟨_, _, _, _, _, _, _, _, rfl, _⟩ := h; rfl) | (obtain ⟨_, _, _, _, _, _, _, _, _, rfl, _⟩ := h; rfl) | (obtain ⟨_, _, _, _, _, _, _, _, _, _, rfl, _⟩ := h; rfl) | (obtain ⟨_, _, _, _, _, _, _, _, _, _, _, rfl, _⟩ := h; rfl) | (obtain ⟨_, _, _, _, _, _, _, _, _, _, _, _, rfl, _⟩ := h; rfl)) (fun cd A out z H vs Q E hg hr h => ?_)
  have nd := sc_copied_rule.nd
  replace hr : Room (1 + 1 * dd + 0) _ := hr
  obtain ⟨r, hd, v, G, l, rfl, ro, ok, dv, q⟩ := h
  have sL := T.c_LISTS.choose_spec.2
  refine ⟨_, (pss_cons (ps_if (pt_cmpR (inQ K) (pe_ix (ixT K) (pv 0) pe_int (fun _ _ => rfl)) (pe_glob (v := .ref T.c_LISTS.choose) rfl T.c_LISTS.choose_spec.1 rfl) rfl) (pss_one (ps_ret (pe_tup (pa_cons (pe_ix (ixT K) (pv 0) pe_int (fun _ _ => rfl)) (pa_cons (pe_lc (own := [("one", 1)]) (tt := tYes) (g := gName 1) rfl nd (piL K (pe_ix (ixT K) (pv 0) pe_int (fun _ _ => rfl))) (blkOk_by (by kernel_rfl)) (fun _ _ _ _ _ => (pg_name (i := 1) nd rfl (by first | exact Or.inl rfl | exact Or.inr rfl))) (fun _ _ _ _ _ => pts_nil) (fun _ _ _ _ _ => (pe_fn Dcopied_rule hg (hr.mono (by first | decide | omega)) (pa_cons (pv 1) pa_nil)))) pa_nil))))) pss_nil)
    (pss_cons (ps_if (pt_cmpR (inQ K) (pe_ix (ixT K) (pv 0) pe_int (fun _ _ => rfl)) (pe_tup (pa_cons pe_str (pa_cons pe_str pa_nil))) rfl) (pss_one (ps_ret (pe_tup (pa_cons (pe_ix (ixT K) (pv 0) pe_int (fun _ _ => rfl)) (pa_cons (pe_fn Dcopied_rule hg (hr.mono (by first | decide | omega)) (pa_cons (pe_ix (ixT K) (pv 0) pe_int (fun _ _ => rfl)) pa_nil)) (paStar K (pe_slice (slT K) (pv 0) (po_some pe_int) po_none) pa_nil)))))) pss_nil)
    (pss_one (ps_ret (pv 0))))), ?_⟩
  generalize T.c_LISTS.choose = aL at sL ⊢
  obtain ⟨a, xs, rfl, ea, dxs⟩ := dR_at dv
  have eaH := ok.same _ _ ea
  refine ⟨.ref a, rfl, a, _, 0, .str r.tag, rfl, rfl, SqT.of eaH, atI_nat (j := 0) rfl, aL, _, rfl, .inr (sL _), rfl, rfl, _, rfl, ?_⟩
  rw [if_neg (by decide), tag_L]
  refine ite2 (fun hL => ?_) (fun hL => ?_)
  · cases r with
    | lst k rs =>
      obtain ⟨x, rfl, dx⟩ := dps_one dxs
      obtain ⟨b, ys, rfl, eb, dys⟩ := dp_list dx
      have lys := dps_len' dys
      have l3 : rs.length ≤ 3 := subs_len ro
      refine ⟨.ref a, rfl, a, _, 0, .str (kindOf k), rfl, rfl, SqT.of eaH, atI_nat (j := 0) rfl, ?_⟩
      refine ⟨.ref a, rfl, a, _, 1, .ref b, rfl, rfl, SqT.of eaH, atI_nat (j := 1) rfl, b, rfl, ⟨_, SqL.of (ok.same _ _ eb)⟩, fun D nD => ?_⟩
      refine lc_draw (R := fun i d => ∃ s, rs[i]? = some s ∧ d = dR s) (walk_list (xs := ys)) (by omega) ok nD (fun H s => SqL.of (s _ _ eb)) (fun i x H2 G2 N hi hl z2 fin => ?_) (fun H2 G2 ds z2 dp2 nD2 hl hR => ?_)
      · obtain ⟨s, hs, ms, ds⟩ := dps_at dys hi
        refine ⟨rfl, ?_⟩
        have lt : s.dep < dd := by have := subs_dep (r := .lst k rs) ms; omega
        exact ⟨x, rfl, s, lt, x, G2, l, rfl, subs_ok (r := .lst k rs) ro ms, z2.ok, dp_up ds z2.up, fun v' H' G' z' d' _ => fin v' H' G' (dR s) z' d' ⟨s, hs, rfl⟩⟩
      · have e := dRs_of (by omega) hR
        subst e
        obtain ⟨D', ws, eD, eDG, dws⟩ := dp_list dp2
        cases eD
        have lws := dps_len' dws
        refine ⟨by show 2 ≤ sizeLine; decide, fun t nt => ?_⟩
        have z3 := z2.ok.fz.new (o := .tup [.str (kindOf k), .ref D]) nt
        have sG := same_sub (o := .tup [.str (kindOf k), .ref D]) (free_of z2.same nt)
        refine q _ _ _ (z2.trans z3) ?_ (fun _ => ⟨t, D, ws, rfl, upd_same, sG _ _ eDG, by omega, nD⟩)
        rw [dR]
        exact .tup upd_same (.cons (.str _) (.cons (dp_up dp2 sG) .nil))
    | _ => cases hL
  · show tSeq _ _ _ _ _
    refine ⟨.ref a, rfl, a, _, 0, .str r.tag, rfl, rfl, SqT.of eaH, atI_nat (j := 0) rfl, by decide, fun t nt => ?_⟩
    have z1 := ok.fz.loc (o := .tup [.str "not", .str "times"]) nt
    refine ⟨t, _, rfl, .inr (SqT.of upd_same), rfl, rfl, _, rfl, ?_⟩
    rw [if_neg (by decide), tag_I]
    generalize upd H t (.tup [.str "not", .str "times"]) = H1 at z1 ⊢
    have ea1 := z1.same _ _ ea
    refine ite2 (fun hI => ?_) (fun hI => ?_)
    · have fin : ∀ (s : Rl) (x : V) (ys : List V), s ∈ r.subs → xs = x :: ys → Dq G x (dR s) → cutV (.str r.tag :: x :: ys) (some 2) none = ys → HT.sIx (ys.length + 2) 0 (some 2) ≠ 0 → ys.length ≤ 2 → (∀ G2 v2, Same G G2 → Dq G2 v2 (dR s) → ∀ t, Dq (upd G2 t (.tup (.str r.tag :: v2 :: ys))) (.ref t) (dR r) ∨ G2 t ≠ none) →
          (tTup (tCons (tOp (rIxT K) (tVar 0) (tC (V.int 0))) (tCons (tCall (spCopied dd) [] E0 (tCons (tOp (rIxT K) (tVar 0) (tC (V.int 1))) tNil)) (StX.tStar K (tSl (rSlT K) (tVar 0) (tPart (tC (V.int 2))) tNoPart) tNil)))) (L2.start ["rule", "one"] [V.ref a]) H1 Q := by
        rintro s x ys ms rfl dx hc hi l2 hD
        have lt : s.dep < dd := by have := subs_dep ms; omega
        refine ⟨.ref a, rfl, a, _, 0, .str r.tag, rfl, rfl, SqT.of ea1, atI_nat (j := 0) rfl, .ref a, rfl, a, _, 1, x, rfl, rfl, SqT.of ea1, atI_nat (j := 1) rfl, s, lt, x, G, l, rfl, subs_ok ro ms, z1.ok, dx, fun v2 H2 G2 z2 d2 _ => ?_⟩
        have ea2 := z2.step.same _ _ ea1
        refine ⟨.ref a, rfl, 2, rfl, a, _, rfl, SqT.of ea2, (fun z => hi z.1), fun p np => ?_⟩
        rw [hc]
        have z3 := z2.ok.fz.loc (o := .tup ys) np
        refine ⟨p, ys, rfl, .inl (SqT.of upd_same), ?_⟩
        refine (show (V.str r.tag :: v2 :: (ys ++ [])).length ≤ sizeLine ∧ ∀ u, upd H2 p (.tup ys) u = none → Q (.ref u) (upd (upd H2 p (.tup ys)) u (.tup (V.str r.tag :: v2 :: (ys ++ [])))) from ?_)
        rw [List.append_nil]
        refine ⟨by show ys.length + 2 ≤ sizeLine; exact sz (by omega), fun t nt => ?_⟩
        have z4 := z3.ok.fz.new (o := .tup (.str r.tag :: v2 :: ys)) nt
        refine q _ _ _ (((z1.trans z2).trans z3).trans z4) ?_ (fun e => absurd e hL)
        exact (hD G2 v2 z2.up d2 t).elim id fun n => absurd (free_of z3.same nt) n
      cases r with
      | nt s =>
        obtain ⟨x, rfl, dx⟩ := dps_one dxs
        refine fin s x [] (List.mem_singleton.mpr rfl) rfl dx rfl (by decide) (by decide) fun G2 v2 sG d2 t => ?_
        by_cases n : G2 t = none
        · left
          rw [dR]
          exact .tup upd_same (.cons (.str _) (.cons (dp_up d2 (same_sub n)) .nil))
        · exact .inr n
      | times s lo hi =>
        obtain ⟨x, y, z, rfl, dx, dy, dz⟩ := dps_three dxs
        refine fin s x [y, z] (List.mem_singleton.mpr rfl) rfl dx rfl (by show HT.sIx 4 0 (some 2) ≠ 0; decide) (by show 2 ≤ 2; decide) fun G2 v2 sG d2 t => ?_
        by_cases n : G2 t = none
        · left
          rw [dR]
          have sT := same_sub (o := .tup [.str "times", v2, y, z]) n
          exact .tup upd_same (.cons (.str _) (.cons (dp_up d2 sT) (.cons (dp_up dy (sG.trans sT)) (.cons (dp_up dz (sG.trans sT)) .nil))))
        · exact .inr n
      | _ => cases hI
    · exact ⟨.ref a, rfl, q _ H1 G z1 dv (fun e => absurd e hL)⟩
theorem sc_parts_of : FnScope ["rule", "found", "one"] ["rule"] (defScope s_parts_of) := ⟨rfl, rfl, rfl, by decide +kernel, rfl, by decide +kernel, by decide +kernel⟩
theorem ok_parts_of {f : Addr} {fd : FuncData} (F : Fun K "parts_of" "parts_of" s_parts_of f fd) (T : Bt K mg) {dd : Nat} (Dcopied_rule : DefG P w K mg base CX0 (1 + 1 * 8) "copied_rule" ["rule"] (spCopied 8)) (Drules_in : DefG P w K mg base CX0 1 "rules_in" ["rule"] (spRulesIn)) (Dparts_of : DefG P w K mg base CX0 (10 + 1 * dd) "parts_of" ["rule"] (spParts dd)) : FnG P w K mg base CX0 (10 + 1 * (dd + 1)) f fd ["rule"] (spParts (dd + 1)) := by
  refine FnG.calm F sc_parts_of (fun vs H Q E h => by first | (obtain ⟨_, rfl, _⟩ := h; rfl) | (obtain ⟨_, _, rfl, _⟩ := h; rfl) | (obtain ⟨_, _, _, rfl, _⟩ := h; rfl) | (obtain ⟨_, _, _, _, rfl, _⟩ := h; rfl) | (obtain ⟨_, _, _, _, _, rfl, _⟩ := h; rfl) | (obtain ⟨_, _, _, _, _, _, rfl, _⟩ := h; rfl) | (obtain ⟨_, _, _, _, _, _, _, rfl, _⟩ := h; rfl) | (obtain ⟨_, _, _, _, _, _, _, _, rfl, _⟩ := h; rfl) | (obtain ⟨_, _, _, _, _, _, _, _, _, rfl, _⟩ := h; rfl) | (obtain ⟨_, _, _, _, _, _, _, _, _, _, rfl, _⟩ := h; rfl) | (obtain ⟨_, _, _, _, _, _, _, _, _, _, _, rfl, _⟩ := h; rfl) | (obtain ⟨_, _, _, _, _, _, _, _, _, _, _, _, rfl, _⟩ := h; rfl)) (fun cd A out z H vs Q E hg hr h => ?_)
  have nd := sc_parts_of.nd
  replace hr : Room (10 + 1 * dd + 0) _ := hr
  obtain ⟨r, hd, h8, v, G, l, rfl, ro, ok, dv, q⟩ := h
  refine ⟨_, (pss_cons (ps_set (i := 1) nd rfl (by first | exact Or.inl rfl | exact Or.inr rfl) (pe_lst (pa_cons (pe_fn Dcopied_rule hg (hr.mono (by first | decide | omega)) (pa_cons (pv 0) pa_nil)) pa_nil)))
    (pss_cons (ps_for PassesOwn.never rfl (piL K (pe_fn Drules_in hg (hr.mono (by first | decide | omega)) (pa_cons (pv 0) pa_nil))) (pg_name (i := 2) nd rfl (by first | exact Or.inl rfl | exact Or.inr rfl))
    (pss_one (ps_expr (pe_bm PySem.F.plainAttrs_list PySem.F.slot_list_extend PySem.F.type_list_extend mt_extend (pv 1) (pa_cons (pe_fn Dparts_of hg (hr.mono (by first | decide | omega)) (pa_cons (pv 2) pa_nil)) pa_nil)))))
    (pss_one (ps_ret (pv 1))))), ?_⟩
  refine ⟨v, rfl, r, h8, v, G, l, rfl, ro, ok, dv, fun v1 H1 G1 z1 d1 nl1 => ⟨by show 1 ≤ sizeLine; decide, fun p np => ?_⟩⟩
  have hp0 : H p = none := z1.step.free np
  have z2 := z1.trans (z1.ok.fz.loc (o := .lst [v1]) np)
  have gp2 : G1 p = none := free_of z1.same np
  have ep2 : upd H1 p (.lst [v1]) p = some (.lst [v1]) := upd_same
  generalize upd H1 p (.lst [v1]) = H2 at z2 ep2 ⊢
  refine ⟨v, rfl, r, v, G, rfl, z2.up.trans z2.same, dv, fun b H3 xs s3 nb eb dxs => ⟨b, rfl, ⟨_, SqL.of eb⟩, ?_⟩⟩
  have ep3 := s3.same _ _ ep2
  have z3 := z2.step0 s3
  have hb0 : H b = none := z2.step.free nb
  have nbp : b ≠ p := fun e => by rw [e, ep2] at nb; cases nb
  have gb : G1 b = none := free_of z2.same nb
  have z4 := z3.fix hb0 eb (fun z => z)
  have s4 : Same G1 (upd G1 b (.lst xs)) := same_sub gb
  have gp4 : upd G1 b (.lst xs) p = none := by rw [upd_ne (Ne.symm nbp)]; exact gp2
  have eb4 : upd G1 b (.lst xs) b = some (.lst xs) := upd_same
  have d4 := dp_up d1 s4
  have dx4 : DqAll (upd G1 b (.lst xs)) xs (dRs r.subs) := dps_up dxs (z1.up.trans s4)
  generalize upd G1 b (.lst xs) = G4 at z4 s4 gp4 eb4 d4 dx4
  have lx := dps_len' dx4
  have l3 := subs_len ro
  have lp : ∀ s ∈ r.subs, s.parts.length ≤ 4 ^ 7 := fun s ms => parts_len 7 s (by have := subs_dep ms; omega) (subs_ok ro ms)
  refine for_it (walk_list (xs := xs)) (fun i σ H5 => ∃ (G5 : Hp) (ws : List V) (y2 : Option V), σ = [some v, some (.ref p), y2] ∧ Fz NoS H G H5 G5 ∧ Same G4 G5 ∧ G5 p = none ∧ H5 p = some (.lst ws) ∧ DqAll G5 ws (dRs (r :: Rl.partss (r.subs.take i))) ∧ ∀ (j : Nat) x s, ws[j]? = some x → (r :: Rl.partss (r.subs.take i))[j]? = some s → NewL H G5 x s)
    ⟨G4, [v1], none, rfl, z4, Same.refl _, gp4, ep3, ?_, ?_⟩ (fun i σ H5 _ hP => ?_) (fun i x σ H5 H5' hi hP hy => ?_) (fun σ H5 hP => ?_)
  · rw [List.take_zero, Rl.partss, dRs_map]
    exact .cons d4 .nil
  · intro j x s hj hs
    rw [List.take_zero, Rl.partss] at hs
    match j, hj, hs with
    | 0, hj, hs => cases hj; cases hs; exact nl1.up (Step.refl _ _) s4
    | j + 1, hj, hs => simp at hj
  · obtain ⟨G5, ws, y2, rfl, z5, s5, _⟩ := hP
    exact SqL.of (z5.same _ _ (s5 _ _ eb4))
  · obtain ⟨rfl, hx⟩ := hy
    obtain ⟨G5, ws, y2, rfl, z5, s5, g5, hp, dw, nl⟩ := hP
    obtain ⟨s, hs, ms, ds⟩ := dps_at dx4 hx
    have lt := subs_dep ms
    have lws := dps_len' dw
    have lps := lp s ms
    have lpt := partss_len (l := l) (B := 4 ^ 7) (rs := r.subs.take i) fun u hu => lp u (List.mem_of_mem_take hu)
    have lti : (r.subs.take i).length * 4 ^ 7 ≤ 3 * 4 ^ 7 := Nat.mul_le_mul_right _ (by rw [List.length_take]; omega)
    have etk : r.subs.take (i + 1) = r.subs.take i ++ [s] := by rw [List.take_add_one, hs]; rfl
    refine ⟨.ref p, rfl, .inl ⟨rfl, _, SqL.of hp⟩, x, rfl, s, by omega, by omega, x, G5, l, rfl, subs_ok ro ms, z5.ok, dp_up ds s5, fun p6 H6 G6 ws6 z6 np6 gp6 ep6 dw6 nl6 => ⟨p, p6, ws, ws6, rfl, rfl, z6.step.same _ _ hp, ep6, ?_, ?_⟩⟩
    · rw [List.length_cons] at lws
      have := dps_len' dw6
      exact sz (by omega)
    · refine ⟨G6, ws ++ ws6, some x, rfl, (z5.trans z6).put hp0 (z6.grow.out g5 hp) (fun z => z), s5.trans z6.up, z6.grow.out g5 hp, upd_same, ?_, ?_⟩
      · rw [etk, partss_app, partss_one, ← List.cons_append, dRs_map, List.map_append, ← dRs_map, ← dRs_map]
        exact dps_app (dps_up dw z6.up) dw6
      · intro j y u hj hu
        rw [etk, partss_app, partss_one, ← List.cons_append] at hu
        by_cases hjl : j < ws.length
        · rw [List.getElem?_append_left hjl] at hj
          rw [List.getElem?_append_left (by omega)] at hu
          exact (nl j y u hj hu).up (Step.refl _ _) z6.up
        · rw [List.getElem?_append_right (by omega)] at hj
          rw [List.getElem?_append_right (by omega), ← lws] at hu
          exact (nl6 _ y u hj hu).up z5.step (Same.refl _)
  · obtain ⟨G5, ws, y2, rfl, z5, s5, g5, hp, dw, nl⟩ := hP
    rw [lx, List.take_length, ← parts_eq] at dw nl
    exact ⟨.ref p, rfl, q p H5 G5 ws z5 hp0 g5 hp dw nl⟩
theorem sc_size_of : FnScope ["rule", "one"] ["rule"] (defScope s_size_of) := ⟨rfl, rfl, rfl, by decide +kernel, rfl, by decide +kernel, by decide +kernel⟩
theorem ok_size_of {f : Addr} {fd : FuncData} (F : Fun K "size_of" "size_of" s_size_of f fd) (T : Bt K mg) {dd : Nat} (Drules_in : DefG P w K mg base CX0 1 "rules_in" ["rule"] (spRulesIn)) (Dsize_of : DefG P w K mg base CX0 (3 + 1 * dd) "size_of" ["rule"] (spSize dd)) : FnG P w K mg base CX0 (3 + 1 * (dd + 1)) f fd ["rule"] (spSize (dd + 1)) := by
  refine FnG.calm F sc_size_of (fun vs H Q E h => by first | (obtain ⟨_, rfl, _⟩ := h; rfl) | (obtain ⟨_, _, rfl, _⟩ := h; rfl) | (obtain ⟨_, _, _, rfl, _⟩ := h; rfl) | (obtain ⟨_, _, _, _, rfl, _⟩ := h; rfl) | (obtain ⟨_, _, _, _, _, rfl, _⟩ := h; rfl) | (obtain ⟨_, _, _, _, _, _, rfl, _⟩ := h; rfl) | (obtain ⟨_, _, _, _, _, _, _, rfl, _⟩ := h; rfl) | (obtain ⟨_, _, _, _, _, _, _, _, rfl, _⟩ := h; rfl) | (obtain ⟨_, _, _, _, _, _, _, _, _, rfl, _⟩ := h; rfl) | (obtain ⟨_, _, _, _, _, _, _, _, _, _, rfl, _⟩ := h; rfl) | (obtain ⟨_, _, _, _, _, _, _, _, _, _, _, rfl, _⟩ := h; rfl) | (obtain ⟨_, _, _, _, _, _, _, _, _, _, _, _, rfl, _⟩ := h; rfl)) (fun cd A out z H vs Q E hg hr h => ?_)
  have nd := sc_size_of.nd
  replace hr : Room (3 + 1 * dd + 0) _ := hr
  obtain ⟨r, hd, v, G, l, rfl, ro, sm, dv, q⟩ := h
  have l3 := subs_len ro
  refine ⟨_, (pss_one (ps_ret (pe_op op_add pe_int (pe_callB (sumQ K rfl) (by rfl) T.m_sum (by decide +kernel) (pa_cons (pe_lc (own := [("one", 1)]) (tt := tYes) (g := gName 1) rfl nd (piL K (pe_fn Drules_in hg (hr.mono (by first | decide | omega)) (pa_cons (pv 0) pa_nil))) (blkOk_by (by kernel_rfl)) (fun _ _ _ _ _ => (pg_name (i := 1) nd rfl (by first | exact Or.inl rfl | exact Or.inr rfl))) (fun _ _ _ _ _ => pts_nil) (fun _ _ _ _ _ => (pe_fn Dsize_of hg (hr.mono (by first | decide | omega)) (pa_cons (pv 1) pa_nil)))) pa_nil))))), ?_⟩
  refine ⟨v, rfl, r, v, G, rfl, sm, dv, fun b H1 xs s1 nb eb dxs => ⟨b, rfl, ⟨_, SqL.of eb⟩, fun D nD => ?_⟩⟩
  have lx := dps_len' dxs
  have ok1 : Ok NoS H1 H1 := ⟨Same.refl _, Pools.none, fun _ z => z.elim⟩
  refine lc_draw (R := fun i d => ∃ s, r.subs[i]? = some s ∧ d = .int (s.parts.length : Int)) (walk_list (xs := xs)) (by omega) ok1 nD (fun H s => SqL.of (s _ _ eb)) (fun i x H2 G2 N hi hl z2 fin => ?_) (fun H2 G2 ds z2 dp2 _ hl hR => ?_)
  · obtain ⟨s, hs, ms, ds⟩ := dps_at dxs hi
    have lt := subs_dep ms
    exact ⟨rfl, x, rfl, s, by omega, x, G, l, rfl, subs_ok ro ms, sm.trans (s1.same.trans z2.step.same), ds, fun H3 s3 => fin _ H3 G2 (.int (s.parts.length : Int)) (z2.ok.fz.step0 s3) (.int _) ⟨s, hs, rfl⟩⟩
  · have e := ints_of (F := fun s => (s.parts.length : Int)) (by omega) hR
    subst e
    obtain ⟨D', eD, hD⟩ := dI dp2
    cases eD
    refine ⟨D, _, rfl, SqL.of (z2.same _ _ hD), _, _, rfl, rfl, ?_⟩
    have ev : (fun i j : Int => V.int (i + j)) 1 ((Rl.partss r.subs).length : Int) = V.int ((r.parts.length : Nat) : Int) := congrArg V.int (by rw [parts_eq, List.length_cons]; omega)
    rw [sum_parts, ev]
    exact q H2 (s1.trans z2.step)
theorem sc_depth_of : FnScope ["rule", "one"] ["rule"] (defScope s_depth_of) := ⟨rfl, rfl, rfl, by decide +kernel, rfl, by decide +kernel, by decide +kernel⟩
theorem ok_depth_of {f : Addr} {fd : FuncData} (F : Fun K "depth_of" "depth_of" s_depth_of f fd) (T : Bt K mg) {dd : Nat} (Drules_in : DefG P w K mg base CX0 1 "rules_in" ["rule"] (spRulesIn)) (Ddepth_of : DefG P w K mg base CX0 (3 + 1 * dd) "depth_of" ["rule"] (spDepth dd)) : FnG P w K mg base CX0 (3 + 1 * (dd + 1)) f fd ["rule"] (spDepth (dd + 1)) := by
  refine FnG.calm F sc_depth_of (fun vs H Q E h => by first | (obtain ⟨_, rfl, _⟩ := h; rfl) | (obtain ⟨_, _, rfl, _⟩ := h; rfl) | (obtain ⟨_, _, _, rfl, _⟩ := h; rfl) | (obtain ⟨_, _, _, _, rfl, _⟩ := h; rfl) | (obtain ⟨_, _, _, _, _, rfl, _⟩ := h; rfl) | (obtain ⟨_, _, _, _, _, _, rfl, _⟩ := h; rfl) | (obtain ⟨_, _, _, _, _, _, _, rfl, _⟩ := h; rfl) | (obtain ⟨_, _, _, _, _, _, _, _, rfl, _⟩ := h; rfl) | (obtain ⟨_, _, _, _, _, _, _, _, _, rfl, _⟩ := h; rfl) | (obtain ⟨_, _, _, _, _, _, _, _, _, _, rfl, _⟩ := h; rfl) | (obtain ⟨_, _, _, _, _, _, _, _, _, _, _, rfl, _⟩ := h; rfl) | (obtain ⟨_, _, _, _, _, _, _, _, _, _, _, _, rfl, _⟩ := h; rfl)) (fun cd A out z H vs Q E hg hr h => ?_)
  have nd := sc_depth_of.nd
  replace hr : Room (3 + 1 * dd + 0) _ := hr
  obtain ⟨r, hd, v, G, l, rfl, ro, sm, dv, q⟩ := h
  have l3 := subs_len ro
  refine ⟨_, (pss_one (ps_ret (pe_callBK (maxDQ K rfl hr.units) (by rfl) T.m_max (by decide +kernel) (pa_cons (pe_lc (own := [("one", 1)]) (tt := tYes) (g := gName 1) rfl nd (piL K (pe_fn Drules_in hg (hr.mono (by first | decide | omega)) (pa_cons (pv 0) pa_nil))) (blkOk_by (by kernel_rfl)) (fun _ _ _ _ _ => (pg_name (i := 1) nd rfl (by first | exact Or.inl rfl | exact Or.inr rfl))) (fun _ _ _ _ _ => pts_nil) (fun _ _ _ _ _ => (pe_op op_add pe_int (pe_fn Ddepth_of hg (hr.mono (by first | decide | omega)) (pa_cons (pv 1) pa_nil))))) pa_nil) (pk_cons pe_int pk_nil)))), ?_⟩
  refine ⟨v, rfl, r, v, G, rfl, sm, dv, fun b H1 xs s1 nb eb dxs => ⟨b, rfl, ⟨_, SqL.of eb⟩, fun D nD => ?_⟩⟩
  have lx := dps_len' dxs
  have ok1 : Ok NoS H1 H1 := ⟨Same.refl _, Pools.none, fun _ z => z.elim⟩
  refine lc_draw (R := fun i d => ∃ s, r.subs[i]? = some s ∧ d = .int (1 + (s.dpt : Int))) (walk_list (xs := xs)) (by omega) ok1 nD (fun H s => SqL.of (s _ _ eb)) (fun i x H2 G2 N hi hl z2 fin => ?_) (fun H2 G2 ds z2 dp2 _ hl hR => ?_)
  · obtain ⟨s, hs, ms, ds⟩ := dps_at dxs hi
    have lt := subs_dep ms
    exact ⟨rfl, x, rfl, s, by omega, x, G, l, rfl, subs_ok ro ms, sm.trans (s1.same.trans z2.step.same), ds, fun H3 s3 => ⟨_, _, rfl, rfl, fin _ H3 G2 (.int (1 + (s.dpt : Int))) (z2.ok.fz.step0 s3) (.int _) ⟨s, hs, rfl⟩⟩⟩
  · have e := ints_of (F := fun s => 1 + (s.dpt : Int)) (by omega) hR
    subst e
    obtain ⟨D', eD, hD⟩ := dI dp2
    cases eD
    refine ⟨D, r.subs.map fun s => 1 + (s.dpt : Int), 0, rfl, rfl, SqL.of (z2.same _ _ hD), fun e => ?_, fun m h1 h2 => ?_⟩
    · have e := List.map_eq_nil_iff.mp e
      have := q H2 (s1.trans z2.step)
      rw [dpt_eq, e, Rl.dpts] at this
      exact this
    · rw [dpts_max h1 h2, ← dpt_eq]
      exact q H2 (s1.trans z2.step)
theorem sc_signs_of : FnScope ["letters", "rule", "signs", "one", "sign", "row"] ["letters", "rule"] (defScope s_signs_of) := ⟨rfl, rfl, rfl, by decide +kernel, rfl, by decide +kernel, by decide +kernel⟩
theorem ok_signs_of {f : Addr} {fd : FuncData} (F : Fun K "signs_of" "signs_of" s_signs_of f fd) (T : Bt K mg) (Dparts_of : DefG P w K mg base CX0 (10 + 1 * 8) "parts_of" ["rule"] (spParts 8)) : FnG P w K mg base CX0 19 f fd ["letters", "rule"] (spSigns) := by
  refine FnG.calm F sc_signs_of (fun vs H Q E h => by first | (obtain ⟨_, rfl, _⟩ := h; rfl) | (obtain ⟨_, _, rfl, _⟩ := h; rfl) | (obtain ⟨_, _, _, rfl, _⟩ := h; rfl) | (obtain ⟨_, _, _, _, rfl, _⟩ := h; rfl) | (obtain ⟨_, _, _, _, _, rfl, _⟩ := h; rfl) | (obtain ⟨_, _, _, _, _, _, rfl, _⟩ := h; rfl) | (obtain ⟨_, _, _, _, _, _, _, rfl, _⟩ := h; rfl) | (obtain ⟨_, _, _, _, _, _, _, _, rfl, _⟩ := h; rfl) | (obtain ⟨_, _, _, _, _, _, _, _, _, rfl, _⟩ := h; rfl) | (obtain ⟨_, _, _, _, _, _, _, _, _, _, rfl, _⟩ := h; rfl) | (obtain ⟨_, _, _, _, _, _, _, _, _, _, _, rfl, _⟩ := h; rfl) | (obtain ⟨_, _, _, _, _, _, _, _, _, _, _, _, rfl, _⟩ := h; rfl)) (fun cd A out z H vs Q E hg hr h => ?_)
  have nd := sc_signs_of.nd
  obtain ⟨l, r, v, G, rfl, l6, h8, ro, ok, dv, q⟩ := h
  refine ⟨_, (pss_cons (ps_set (i := 2) nd rfl (by first | exact Or.inl rfl | exact Or.inr rfl) (pe_lc (own := [("one", 3)]) (g := gName 3) rfl nd (piL K (pe_fn Dparts_of hg (hr.mono (by first | decide | omega)) (pa_cons (pv 1) pa_nil))) (blkOk_by (by kernel_rfl)) (fun _ _ _ _ _ => (pg_name (i := 3) nd rfl (by first | exact Or.inl rfl | exact Or.inr rfl))) (fun _ _ _ _ _ => pts_one (pt_cmpR op_eq (pe_ix (ixT K) (pv 3) pe_int (fun _ _ => rfl)) pe_str (nomark _))) (fun _ _ _ _ _ => (pe_ix (ixT K) (pv 3) pe_int (fun _ _ => rfl)))))
    (pss_one (ps_ret (joinQ K pe_str (pe_lc (own := [("sign", 4)]) (g := gName 4) rfl nd (pi_str (pv 0)) (blkOk_by (by kernel_rfl)) (fun _ _ _ _ _ => (pg_name (i := 4) nd rfl (by first | exact Or.inl rfl | exact Or.inr rfl))) (fun _ _ _ _ _ => pts_one (pt_val (pe_callB (anyQ K rfl) (by rfl) T.m_any (by decide +kernel) (pa_cons (pe_lc (own := [("row", 5)]) (tt := tYes) (g := gName 5) rfl nd (piL K (pv 2)) (blkOk_by (by kernel_rfl)) (fun _ _ _ _ _ => (pg_name (i := 5) nd rfl (by first | exact Or.inl rfl | exact Or.inr rfl))) (fun _ _ _ _ _ => pts_nil) (fun _ _ _ _ _ => (pe_cmpR op_in_sign (pv 4) (pv 5) rfl))) pa_nil)))) (fun _ _ _ _ _ => (pv 4))))))), ?_⟩
  refine ⟨v, rfl, r, h8, h8, v, G, l, rfl, ro, ok, dv, fun p H1 G1 xs z1 np gp ep dxs _ => ⟨p, rfl, ⟨_, SqL.of ep⟩, fun D nD => ?_⟩⟩
  have lx := dps_len' dxs
  have lp := parts_len (l := l) 8 r h8 ro
  refine lc_pick (walk_list (xs := xs)) (by omega) nD (oneF r.parts) (oneP r.parts) (fun H s => SqL.of (s.same _ _ ep)) (fun i x H2 N hi hl s2 yes no => ?_) (fun H2 s2 hD => ?_)
  · obtain ⟨s, hs, ms, ds⟩ := dps_at dxs hi
    obtain ⟨a, ws, rfl, ea, dws⟩ := dR_at ds
    have ea2 := s2.same _ _ (z1.same _ _ ea)
    refine ⟨rfl, .ref a, rfl, a, _, 0, .str s.tag, rfl, rfl, SqT.of ea2, atI_nat (j := 0) rfl, rfl, _, rfl, ?_⟩
    have two : (∃ w, s = .one w) ∨ (decide (V.str s.tag = V.str "one") = false ∧ oneP r.parts i = false) := by
      have e : ∀ u, s = u → oneP [u] 0 = oneP r.parts i := fun u e => by
        show _ = (match r.parts[i]? with | some (.one _) => true | _ => false)
        rw [hs, e]; rfl
      cases s with
      | one w => exact .inl ⟨w, rfl⟩
      | none => exact .inr ⟨(show decide (V.str "none" = V.str "one") = false by decide +kernel), (e _ rfl).symm⟩
      | empty => exact .inr ⟨(show decide (V.str "empty" = V.str "one") = false by decide +kernel), (e _ rfl).symm⟩
      | name x => exact .inr ⟨(show decide (V.str "name" = V.str "one") = false by decide +kernel), (e _ rfl).symm⟩
      | nt x => exact .inr ⟨(show decide (V.str "not" = V.str "one") = false by decide +kernel), (e _ rfl).symm⟩
      | times x lo hi => exact .inr ⟨(show decide (V.str "times" = V.str "one") = false by decide +kernel), (e _ rfl).symm⟩
      | lst k ss =>
        refine .inr ⟨?_, (e _ rfl).symm⟩
        match k with
        | 0 => exact (show decide (V.str "row" = V.str "one") = false by decide +kernel)
        | 1 => exact (show decide (V.str "either" = V.str "one") = false by decide +kernel)
        | 2 => exact (show decide (V.str "both" = V.str "one") = false by decide +kernel)
    rcases two with ⟨w, rfl⟩ | ⟨e1, e2⟩
    · obtain ⟨x, rfl, dx⟩ := dps_one dws
      cases dp_str dx
      have hp : oneP r.parts i = true := by
        show (match r.parts[i]? with | some (.one _) => true | _ => false) = true
        rw [hs]
      have hF : oneF r.parts i = .str (strOf w) := by
        show (match r.parts[i]? with | some (.one w) => V.str (strOf w) | _ => V.non) = _
        rw [hs]
      have y := yes hp H2 (Step.refl _ _)
      rw [hF] at y
      rw [decide_eq_true rfl]
      exact iteT ⟨.ref a, rfl, a, _, 1, .str (strOf w), rfl, rfl, SqT.of ea2, atI_nat (j := 1) rfl, y⟩
    · rw [e1]
      exact iteF (no e2 H2 (Step.refl _ _))
  · rw [lx, ones_is] at hD
    have s12 : Step NoS H H2 := z1.step.trans s2
    have lw := ones_len r.parts
    generalize onesOf r.parts = ws at hD q lw ⊢
    refine ⟨⟨_, rfl⟩, _, rfl, _, rfl, fun D2 nD2 => ?_⟩
    refine lc_pick walkS (by rw [lenS]; omega) nD2 (fun i => V.str (strOf [l.getD i 0])) (fun i => ws.any fun w => decide (l.getD i 0 ∈ w)) (fun _ _ => trivial) (fun i x H3 N hi hl s3 yes no => ?_) (fun H3 s3 hD2 => ?_)
    · have ex := sgnAt hi
      subst ex
      generalize l.getD i 0 = c at yes no ⊢
      refine ⟨rfl, .ref D, rfl, D, rfl, ⟨_, SqL.of (s3.same _ _ hD)⟩, fun D3 nD3 => ?_⟩
      refine lc_map (walk_list (xs := (ws.map strOf).map V.str)) (inF c) (fun _ => true) (by rw [List.length_map, List.length_map]; omega) (fun acc => SqL.of (same_new (Same.refl _) nD3 _ _ (s3.same _ _ hD))) (fun j y acc N3 hj fin _ => ?_) ?_
      · obtain ⟨w, hw, rfl⟩ := strAt hj
        exact ⟨rfl, _, rfl, .str (strOf w), rfl, c, strOf w, rfl, rfl, fin rfl⟩
      · rw [in_rows]
        have s4 : Step NoS H3 (upd H3 D3 (.lst ((ws.map fun w => decide (c ∈ w)).map V.bl))) := Step.new nD3
        refine ⟨D3, _, rfl, SqL.of upd_same, _, rfl, ?_⟩
        rw [List.any_map]
        show if (ws.any fun w => decide (c ∈ w)) = true then _ else _
        cases hb : ws.any fun w => decide (c ∈ w) with
        | true => exact iteT ⟨_, rfl, yes hb _ s4⟩
        | false => exact iteF (no hb _ s4)
    · rw [pick_sgn] at hD2
      have ls : (sgnIn l ws).length ≤ l.length := List.length_filter_le _ _
      refine ⟨"", D2, (sgnIn l ws).map fun c => strOf [c], rfl, rfl, .inl (SqL.of hD2), ?_, ?_⟩
      · rw [sum_ones, List.length_map]
        show (sgnIn l ws).length + (sgnIn l ws).length * 0 ≤ _
        omega
      · rw [txt_join]
        exact q H3 (s12.trans s3)
theorem sc_may_be_empty : FnScope ["rule", "kind", "told", "one"] ["rule"] (defScope s_may_be_empty) := ⟨rfl, rfl, rfl, by decide +kernel, rfl, by decide +kernel, by decide +kernel⟩
theorem ok_may_be_empty {f : Addr} {fd : FuncData} (F : Fun K "may_be_empty" "may_be_empty" s_may_be_empty f fd) (T : Bt K mg) {dd : Nat} (Drules_in : DefG P w K mg base CX0 1 "rules_in" ["rule"] (spRulesIn)) (Dmay_be_empty : DefG P w K mg base CX0 (3 + 1 * dd) "may_be_empty" ["rule"] (spMbe dd)) : FnG P w K mg base CX0 (3 + 1 * (dd + 1)) f fd ["rule"] (spMbe (dd + 1)) := by
  refine FnG.calm F sc_may_be_empty (fun vs H Q E h => by first | (obtain ⟨_, rfl, _⟩ := h; rfl) | (obtain ⟨_, _, rfl, _⟩ := h; rfl) | (obtain ⟨_, _, _, rfl, _⟩ := h; rfl) | (obtain ⟨_, _, _, _, rfl, _⟩ := h; rfl) | (obtain ⟨_, _, _, _, _, rfl, _⟩ := h; rfl) | (obtain ⟨_, _, _, _, _, _, rfl, _⟩ := h; rfl) | (obtain ⟨_, _, _, _, _, _, _, rfl, _⟩ := h; rfl) | (obtain ⟨_, _, _, _, _, _, _, _, rfl, _⟩ := h; rfl) | (obtain ⟨_, _, _, _, _, _, _, _, _, rfl, _⟩ := h; rfl) | (obtain ⟨_, _, _, _, _, _, _, _, _, _, rfl, _⟩ := h; rfl) | (obtain ⟨_, _, _, _, _, _, _, _, _, _, _, rfl, _⟩ := h; rfl) | (obtain ⟨_, _, _, _, _, _, _, _, _, _, _, _, rfl, _⟩ := h; rfl)) (fun cd A out z H vs Q E hg hr h => ?_)
  have nd := sc_may_be_empty.nd
  replace hr : Room (3 + 1 * dd + 0) _ := hr
  obtain ⟨r, hd, v, G, l, rfl, ro, sm, dv, q⟩ := h
  have l3 := subs_len ro
  refine ⟨_, (pss_cons (ps_set (i := 1) nd rfl (by first | exact Or.inl rfl | exact Or.inr rfl) (pe_ix (ixT K) (pv 0) pe_int (fun _ _ => rfl)))
    (pss_cons (ps_setLc (i := 2) (own := [("one", 3)]) (tt := tYes) (g := gName 3) rfl nd rfl rfl (sw_true rfl rfl rfl (by decide +kernel)) (piL K (pe_fn Drules_in hg (hr.mono (by first | decide | omega)) (pa_cons (pv 0) pa_nil))) (blkOk_by (by kernel_rfl)) (fun _ _ _ _ _ => (pg_name (i := 3) nd rfl (by first | exact Or.inl rfl | exact Or.inr rfl))) (fun _ _ _ _ _ => pts_nil) (fun _ _ _ _ _ => (pe_fn Dmay_be_empty hg (hr.mono (by first | decide | omega)) (pa_cons (pv 3) pa_nil))))
    (pss_cons (ps_if (pt_cmpR (inQ K) (pv 1) (pe_tup (pa_cons pe_str (pa_cons pe_str pa_nil))) rfl) (pss_one (ps_ret (pe_callB (allQ K rfl) (by rfl) T.m_all (by decide +kernel) (pa_cons (pv 2) pa_nil)))) pss_nil)
    (pss_cons (ps_if (pt_cmpR op_eq (pv 1) pe_str (nomark _)) (pss_one (ps_ret (pe_callB (anyQ K rfl) (by rfl) T.m_any (by decide +kernel) (pa_cons (pv 2) pa_nil)))) pss_nil)
    (pss_cons (ps_if (pt_cmpR op_eq (pv 1) pe_str (nomark _)) (pss_one (ps_ret (pe_not (pe_ix (ixL K) (pv 2) pe_int (fun _ _ => rfl))))) pss_nil)
    (pss_cons (ps_if (pt_cmpR op_eq (pv 1) pe_str (nomark _)) (pss_one (ps_ret (pe_or (pe_cmpR op_eq (pe_ix (ixT K) (pv 0) pe_int (fun _ _ => rfl)) pe_int (nomark _)) (pe_one (pe_ix (ixL K) (pv 2) pe_int (fun _ _ => rfl)))))) pss_nil)
    (pss_one (ps_ret (pe_cmpR op_eq (pv 1) pe_str (nomark _)))))))))), ?_⟩
  obtain ⟨a, ws, rfl, ea, dws⟩ := dR_at dv
  refine ⟨.ref a, rfl, a, _, 0, .str r.tag, rfl, rfl, SqT.of (sm _ _ ea), atI_nat (j := 0) rfl, ?_⟩
  refine ⟨.ref a, rfl, r, .ref a, G, rfl, sm, dv, fun b H1 xs s1 nb eb dxs => ⟨b, rfl, ⟨_, SqL.of eb⟩, fun D nD => ?_⟩⟩
  have lx := dps_len' dxs
  have ok1 : Ok NoS H1 H1 := ⟨Same.refl _, Pools.none, fun _ z => z.elim⟩
  refine lc_draw (R := fun i d => ∃ s, r.subs[i]? = some s ∧ d = .bool s.mbe) (walk_list (xs := xs)) (by omega) ok1 nD (fun H s => SqL.of (s _ _ eb)) (fun i x H2 G2 N hi hl z2 fin => ?_) (fun H2 G2 ds z2 dp2 _ hl hR => ?_)
  · obtain ⟨s, hs, ms, ds⟩ := dps_at dxs hi
    have lt := subs_dep ms
    exact ⟨rfl, x, rfl, s, by omega, x, G, l, rfl, subs_ok ro ms, sm.trans (s1.same.trans z2.step.same), ds, fun H3 s3 => fin _ H3 G2 (.bool s.mbe) (z2.ok.fz.step0 s3) (.bl _) ⟨s, hs, rfl⟩⟩
  · have e := bools_of (F := Rl.mbe) (by omega) hR
    subst e
    obtain ⟨D', eD, hD⟩ := dB dp2
    cases eD
    have hD2 := z2.same _ _ hD
    have s2 := s1.trans z2.step
    have ea2 := s2.same _ _ (sm _ _ ea)
    clear hR hD z2 dp2
    cases r with
    | none =>
      refine ⟨_, rfl, by decide, fun t nt => ⟨t, _, rfl, .inr (SqT.of upd_same), rfl, rfl, _, rfl, ?_⟩⟩
      have s3 := s2.trans (Step.new (o := .tup [.str "row", .str "both"]) nt)
      have hD3 := same_new (o := .tup [.str "row", .str "both"]) (Same.refl _) nt _ _ hD2
      have ea3 := same_new (o := .tup [.str "row", .str "both"]) (Same.refl _) nt _ _ ea2
      generalize upd H2 t (.tup [.str "row", .str "both"]) = H3 at s3 hD3 ea3 ⊢
      refine ite2 (fun h => absurd h (show ¬ (if false = true then !inV (.str "none") [.str "row", .str "both"] else inV (.str "none") [.str "row", .str "both"]) = true by decide +kernel)) (fun _ => ?_)
      refine ⟨_, rfl, rfl, _, rfl, ite2 (fun h => absurd h (show ¬ decide (V.str "none" = V.str "either") = true by decide +kernel)) (fun _ => ?_)⟩
      refine ⟨_, rfl, rfl, _, rfl, ite2 (fun h => absurd h (show ¬ decide (V.str "none" = V.str "not") = true by decide +kernel)) (fun _ => ?_)⟩
      refine ⟨_, rfl, rfl, _, rfl, ite2 (fun h => absurd h (show ¬ decide (V.str "none" = V.str "times") = true by decide +kernel)) (fun _ => ?_)⟩
      have e := q H3 s3
      rw [Rl.mbe] at e
      exact ⟨_, rfl, rfl, (show Q (.bl (decide (V.str "none" = V.str "empty"))) H3 from (show decide (V.str "none" = V.str "empty") = false by decide +kernel) ▸ e)⟩
    | empty =>
      refine ⟨_, rfl, by decide, fun t nt => ⟨t, _, rfl, .inr (SqT.of upd_same), rfl, rfl, _, rfl, ?_⟩⟩
      have s3 := s2.trans (Step.new (o := .tup [.str "row", .str "both"]) nt)
      have hD3 := same_new (o := .tup [.str "row", .str "both"]) (Same.refl _) nt _ _ hD2
      have ea3 := same_new (o := .tup [.str "row", .str "both"]) (Same.refl _) nt _ _ ea2
      generalize upd H2 t (.tup [.str "row", .str "both"]) = H3 at s3 hD3 ea3 ⊢
      refine ite2 (fun h => absurd h (show ¬ (if false = true then !inV (.str "empty") [.str "row", .str "both"] else inV (.str "empty") [.str "row", .str "both"]) = true by decide +kernel)) (fun _ => ?_)
      refine ⟨_, rfl, rfl, _, rfl, ite2 (fun h => absurd h (show ¬ decide (V.str "empty" = V.str "either") = true by decide +kernel)) (fun _ => ?_)⟩
      refine ⟨_, rfl, rfl, _, rfl, ite2 (fun h => absurd h (show ¬ decide (V.str "empty" = V.str "not") = true by decide +kernel)) (fun _ => ?_)⟩
      refine ⟨_, rfl, rfl, _, rfl, ite2 (fun h => absurd h (show ¬ decide (V.str "empty" = V.str "times") = true by decide +kernel)) (fun _ => ?_)⟩
      have e := q H3 s3
      rw [Rl.mbe] at e
      exact ⟨_, rfl, rfl, (show Q (.bl (decide (V.str "empty" = V.str "empty"))) H3 from (show decide (V.str "empty" = V.str "empty") = true by decide +kernel) ▸ e)⟩
    | one w =>
      refine ⟨_, rfl, by decide, fun t nt => ⟨t, _, rfl, .inr (SqT.of upd_same), rfl, rfl, _, rfl, ?_⟩⟩
      have s3 := s2.trans (Step.new (o := .tup [.str "row", .str "both"]) nt)
      have hD3 := same_new (o := .tup [.str "row", .str "both"]) (Same.refl _) nt _ _ hD2
      have ea3 := same_new (o := .tup [.str "row", .str "both"]) (Same.refl _) nt _ _ ea2
      generalize upd H2 t (.tup [.str "row", .str "both"]) = H3 at s3 hD3 ea3 ⊢
      refine ite2 (fun h => absurd h (show ¬ (if false = true then !inV (.str "one") [.str "row", .str "both"] else inV (.str "one") [.str "row", .str "both"]) = true by decide +kernel)) (fun _ => ?_)
      refine ⟨_, rfl, rfl, _, rfl, ite2 (fun h => absurd h (show ¬ decide (V.str "one" = V.str "either") = true by decide +kernel)) (fun _ => ?_)⟩
      refine ⟨_, rfl, rfl, _, rfl, ite2 (fun h => absurd h (show ¬ decide (V.str "one" = V.str "not") = true by decide +kernel)) (fun _ => ?_)⟩
      refine ⟨_, rfl, rfl, _, rfl, ite2 (fun h => absurd h (show ¬ decide (V.str "one" = V.str "times") = true by decide +kernel)) (fun _ => ?_)⟩
      have e := q H3 s3
      rw [Rl.mbe] at e
      exact ⟨_, rfl, rfl, (show Q (.bl (decide (V.str "one" = V.str "empty"))) H3 from (show decide (V.str "one" = V.str "empty") = false by decide +kernel) ▸ e)⟩
    | name x =>
      refine ⟨_, rfl, by decide, fun t nt => ⟨t, _, rfl, .inr (SqT.of upd_same), rfl, rfl, _, rfl, ?_⟩⟩
      have s3 := s2.trans (Step.new (o := .tup [.str "row", .str "both"]) nt)
      have hD3 := same_new (o := .tup [.str "row", .str "both"]) (Same.refl _) nt _ _ hD2
      have ea3 := same_new (o := .tup [.str "row", .str "both"]) (Same.refl _) nt _ _ ea2
      generalize upd H2 t (.tup [.str "row", .str "both"]) = H3 at s3 hD3 ea3 ⊢
      refine ite2 (fun h => absurd h (show ¬ (if false = true then !inV (.str "name") [.str "row", .str "both"] else inV (.str "name") [.str "row", .str "both"]) = true by decide +kernel)) (fun _ => ?_)
      refine ⟨_, rfl, rfl, _, rfl, ite2 (fun h => absurd h (show ¬ decide (V.str "name" = V.str "either") = true by decide +kernel)) (fun _ => ?_)⟩
      refine ⟨_, rfl, rfl, _, rfl, ite2 (fun h => absurd h (show ¬ decide (V.str "name" = V.str "not") = true by decide +kernel)) (fun _ => ?_)⟩
      refine ⟨_, rfl, rfl, _, rfl, ite2 (fun h => absurd h (show ¬ decide (V.str "name" = V.str "times") = true by decide +kernel)) (fun _ => ?_)⟩
      have e := q H3 s3
      rw [Rl.mbe] at e
      exact ⟨_, rfl, rfl, (show Q (.bl (decide (V.str "name" = V.str "empty"))) H3 from (show decide (V.str "name" = V.str "empty") = false by decide +kernel) ▸ e)⟩
    | nt s =>
      refine ⟨_, rfl, by decide, fun t nt => ⟨t, _, rfl, .inr (SqT.of upd_same), rfl, rfl, _, rfl, ?_⟩⟩
      have s3 := s2.trans (Step.new (o := .tup [.str "row", .str "both"]) nt)
      have hD3 := same_new (o := .tup [.str "row", .str "both"]) (Same.refl _) nt _ _ hD2
      have ea3 := same_new (o := .tup [.str "row", .str "both"]) (Same.refl _) nt _ _ ea2
      generalize upd H2 t (.tup [.str "row", .str "both"]) = H3 at s3 hD3 ea3 ⊢
      refine ite2 (fun h => absurd h (show ¬ (if false = true then !inV (.str "not") [.str "row", .str "both"] else inV (.str "not") [.str "row", .str "both"]) = true by decide +kernel)) (fun _ => ?_)
      refine ⟨_, rfl, rfl, _, rfl, ite2 (fun h => absurd h (show ¬ decide (V.str "not" = V.str "either") = true by decide +kernel)) (fun _ => ?_)⟩
      refine ⟨_, rfl, rfl, _, rfl, ite2 (fun _ => ?_) (fun h => absurd (decide_eq_true rfl) h)⟩
      have e := q H3 s3
      rw [Rl.mbe] at e
      exact ⟨.ref D, rfl, D, _, 0, .bl s.mbe, rfl, rfl, SqL.of hD3, rfl, _, rfl, e⟩
    | times s lo hi =>
      refine ⟨_, rfl, by decide, fun t nt => ⟨t, _, rfl, .inr (SqT.of upd_same), rfl, rfl, _, rfl, ?_⟩⟩
      have s3 := s2.trans (Step.new (o := .tup [.str "row", .str "both"]) nt)
      have hD3 := same_new (o := .tup [.str "row", .str "both"]) (Same.refl _) nt _ _ hD2
      have ea3 := same_new (o := .tup [.str "row", .str "both"]) (Same.refl _) nt _ _ ea2
      generalize upd H2 t (.tup [.str "row", .str "both"]) = H3 at s3 hD3 ea3 ⊢
      refine ite2 (fun h => absurd h (show ¬ (if false = true then !inV (.str "times") [.str "row", .str "both"] else inV (.str "times") [.str "row", .str "both"]) = true by decide +kernel)) (fun _ => ?_)
      refine ⟨_, rfl, rfl, _, rfl, ite2 (fun h => absurd h (show ¬ decide (V.str "times" = V.str "either") = true by decide +kernel)) (fun _ => ?_)⟩
      refine ⟨_, rfl, rfl, _, rfl, ite2 (fun h => absurd h (show ¬ decide (V.str "times" = V.str "not") = true by decide +kernel)) (fun _ => ?_)⟩
      refine ⟨_, rfl, rfl, _, rfl, ite2 (fun _ => ?_) (fun h => absurd (decide_eq_true rfl) h)⟩
      have e := q H3 s3
      rw [Rl.mbe] at e
      obtain ⟨x, y, z, rfl, _, dy, _⟩ := dps_three dws
      cases dp_int dy
      refine ⟨.ref a, rfl, a, _, 2, .int (lo : Nat), rfl, rfl, SqT.of ea3, atI_nat (j := 2) rfl, rfl, _, rfl, ?_⟩
      by_cases h0 : lo = 0
      · subst h0
        exact iteT e
      · have hn : decide (V.int ((lo : Nat) : Int) = V.int 0) = false := decide_eq_false fun z => h0 (by have := V.int.inj z; omega)
        rw [hn]
        rw [decide_eq_false h0] at e
        exact iteF ⟨.ref D, rfl, D, _, 0, .bl s.mbe, rfl, rfl, SqL.of hD3, rfl, e⟩
    | lst k rs =>
      have hDm : H2 D = some (.lst ((Rl.mbes rs).map V.bl)) := by rw [mbes_map]; exact hD2
      have q : ∀ H', Step NoS H H' → Q (.bl (if k = 1 then (Rl.mbes rs).any id else (Rl.mbes rs).all id)) H' := fun H' s' => by have := q H' s'; rwa [Rl.mbe] at this
      clear hD2
      match k, ea2, q with
      | 0, ea2, q =>
        refine ⟨_, rfl, by decide, fun t nt => ⟨t, _, rfl, .inr (SqT.of upd_same), rfl, rfl, _, rfl, ?_⟩⟩
        have s3 := s2.trans (Step.new (o := .tup [.str "row", .str "both"]) nt)
        have hD3 := same_new (o := .tup [.str "row", .str "both"]) (Same.refl _) nt _ _ hDm
        have ea3 := same_new (o := .tup [.str "row", .str "both"]) (Same.refl _) nt _ _ ea2
        generalize upd H2 t (.tup [.str "row", .str "both"]) = H3 at s3 hD3 ea3 ⊢
        refine ite2 (fun _ => ?_) (fun h => absurd (show (if false = true then !inV (.str "row") [.str "row", .str "both"] else inV (.str "row") [.str "row", .str "both"]) = true by decide +kernel) h)
        exact ⟨.ref D, rfl, D, _, rfl, SqL.of hD3, q H3 s3⟩
      | 1, ea2, q =>
        refine ⟨_, rfl, by decide, fun t nt => ⟨t, _, rfl, .inr (SqT.of upd_same), rfl, rfl, _, rfl, ?_⟩⟩
        have s3 := s2.trans (Step.new (o := .tup [.str "row", .str "both"]) nt)
        have hD3 := same_new (o := .tup [.str "row", .str "both"]) (Same.refl _) nt _ _ hDm
        have ea3 := same_new (o := .tup [.str "row", .str "both"]) (Same.refl _) nt _ _ ea2
        generalize upd H2 t (.tup [.str "row", .str "both"]) = H3 at s3 hD3 ea3 ⊢
        refine ite2 (fun h => absurd h (show ¬ (if false = true then !inV (.str "either") [.str "row", .str "both"] else inV (.str "either") [.str "row", .str "both"]) = true by decide +kernel)) (fun _ => ?_)
        refine ⟨_, rfl, rfl, _, rfl, ite2 (fun _ => ?_) (fun h => absurd (decide_eq_true rfl) h)⟩
        exact ⟨.ref D, rfl, D, _, rfl, SqL.of hD3, q H3 s3⟩
      | 2, ea2, q =>
        refine ⟨_, rfl, by decide, fun t nt => ⟨t, _, rfl, .inr (SqT.of upd_same), rfl, rfl, _, rfl, ?_⟩⟩
        have s3 := s2.trans (Step.new (o := .tup [.str "row", .str "both"]) nt)
        have hD3 := same_new (o := .tup [.str "row", .str "both"]) (Same.refl _) nt _ _ hDm
        have ea3 := same_new (o := .tup [.str "row", .str "both"]) (Same.refl _) nt _ _ ea2
        generalize upd H2 t (.tup [.str "row", .str "both"]) = H3 at s3 hD3 ea3 ⊢
        refine ite2 (fun _ => ?_) (fun h => absurd (show (if false = true then !inV (.str "both") [.str "row", .str "both"] else inV (.str "both") [.str "row", .str "both"]) = true by decide +kernel) h)
        exact ⟨.ref D, rfl, D, _, rfl, SqL.of hD3, q H3 s3⟩
theorem sc_law_pool : FnScope ["script", "pool", "state", "k", "cell", "step", "one", "two"] ["script"] (defScope s_law_pool) := ⟨rfl, rfl, rfl, by decide +kernel, rfl, by decide +kernel, by decide +kernel⟩
theorem ok_law_pool {f : Addr} {fd : FuncData} (F : Fun K "_law_pool" "_law_pool" s_law_pool f fd) (T : Bt K mg)  : FnG P w K mg base CX0 1 f fd ["script"] (spPool K) := by
  refine FnG.calm F sc_law_pool (fun vs H Q E h => by first | (obtain ⟨_, rfl, _⟩ := h; rfl) | (obtain ⟨_, _, rfl, _⟩ := h; rfl) | (obtain ⟨_, _, _, rfl, _⟩ := h; rfl) | (obtain ⟨_, _, _, _, rfl, _⟩ := h; rfl) | (obtain ⟨_, _, _, _, _, rfl, _⟩ := h; rfl) | (obtain ⟨_, _, _, _, _, _, rfl, _⟩ := h; rfl) | (obtain ⟨_, _, _, _, _, _, _, rfl, _⟩ := h; rfl) | (obtain ⟨_, _, _, _, _, _, _, _, rfl, _⟩ := h; rfl) | (obtain ⟨_, _, _, _, _, _, _, _, _, rfl, _⟩ := h; rfl) | (obtain ⟨_, _, _, _, _, _, _, _, _, _, rfl, _⟩ := h; rfl) | (obtain ⟨_, _, _, _, _, _, _, _, _, _, _, rfl, _⟩ := h; rfl) | (obtain ⟨_, _, _, _, _, _, _, _, _, _, _, _, rfl, _⟩ := h; rfl)) (fun cd A out z H vs Q E hg hr h => ?_)
  have nd := sc_law_pool.nd
  obtain ⟨a, ns, rfl, hS, hl, q⟩ := h
  refine ⟨_, (pss_cons (ps_set (i := 1) nd rfl (by first | exact Or.inl rfl | exact Or.inr rfl) (pe_lst pa_nil))
    (pss_cons (ps_set (i := 2) nd rfl (by first | exact Or.inl rfl | exact Or.inr rfl) pe_int)
    (pss_cons (ps_for PassesOwn.never rfl (pi_range1 (by rfl) T.m_range (pa_cons (pe_callB (call_min2 rfl) (by rfl) T.m_min (by decide +kernel) (pa_cons (pe_callB (lenQ K) (by rfl) T.m_len PySem.boot_len (pa_cons (pv 0) pa_nil)) (pa_cons pe_int pa_nil))) pa_nil)) (pg_name (i := 3) nd rfl (by first | exact Or.inl rfl | exact Or.inr rfl))
    (pss_cons (ps_set (i := 4) nd rfl (by first | exact Or.inl rfl | exact Or.inr rfl) (pe_ix (ixL K) (pv 0) (pv 3) (fun _ _ => rfl)))
      (pss_cons (ps_set (i := 2) nd rfl (by first | exact Or.inl rfl | exact Or.inr rfl) (pe_op op_mod (pe_callTy call_int1 (by rfl) T.m_int (by decide +kernel) (pa_cons (pe_op op_add (pe_op op_add (pe_op op_mul (pv 2) pe_int) (pe_op op_mul (pv 4) pe_int)) (pv 3)) pa_nil)) pe_int))
      (pss_one (ps_if (pt_cmpR op_ge (pv 4) (pe_op op_pow pe_int pe_int) (nomark _)) (pss_one (ps_for PassesOwn.never rfl (pi_range1 (by rfl) T.m_range (pa_cons pe_int pa_nil)) (pg_name (i := 5) nd rfl (by first | exact Or.inl rfl | exact Or.inr rfl))
        (pss_cons (ps_if (pt_cmpR op_eq (pv 4) pe_int (nomark _)) (pss_one ps_break) pss_nil)
          (pss_cons (ps_expr (pe_bm PySem.F.plainAttrs_list PySem.F.slot_list_append PySem.F.type_list_append mt_append (pv 1) (pa_cons (pe_op op_mod (pe_callTy call_int1 (by rfl) T.m_int (by decide +kernel) (pa_cons (pv 4) pa_nil)) pe_int) pa_nil)))
          (pss_one (ps_set (i := 4) nd rfl (by first | exact Or.inl rfl | exact Or.inr rfl) (pe_op op_fdiv (pv 4) pe_int))))))) (pss_cons (ps_set (i := 6) nd rfl (by first | exact Or.inl rfl | exact Or.inr rfl) (pe_op op_mod (pe_callTy call_int1 (by rfl) T.m_int (by decide +kernel) (pa_cons (pe_op op_add (pe_op op_add (pe_op op_mul (pv 4) pe_int) (pe_op op_mul (pv 3) pe_int)) pe_int) pa_nil)) pe_int))
        (pss_cons (ps_set (i := 7) nd rfl (by first | exact Or.inl rfl | exact Or.inr rfl) (pe_op op_mod (pe_callTy call_int1 (by rfl) T.m_int (by decide +kernel) (pa_cons (pe_op op_add (pe_op op_add (pe_op op_mul (pv 6) pe_int) (pe_op op_mul (pv 4) pe_int)) (pv 3)) pa_nil)) pe_int))
        (pss_one (ps_set (i := 1) nd rfl (by first | exact Or.inl rfl | exact Or.inr rfl) (pe_op op_cat (pv 1) (pe_lst (pa_cons (pe_op op_mod (pe_callTy call_int1 (by rfl) T.m_int (by decide +kernel) (pa_cons (pe_op op_fdiv (pv 6) pe_int) pa_nil)) pe_int) (pa_cons (pe_op op_mod (pe_callTy call_int1 (by rfl) T.m_int (by decide +kernel) (pa_cons (pv 7) pa_nil)) pe_int) pa_nil)))))))))))))
    (pss_cons (ps_for PassesOwn.never rfl (pi_range1 (by rfl) T.m_range (pa_cons pe_int pa_nil)) (pg_name (i := 5) nd rfl (by first | exact Or.inl rfl | exact Or.inr rfl))
    (pss_cons (ps_set (i := 2) nd rfl (by first | exact Or.inl rfl | exact Or.inr rfl) (pe_op op_mod (pe_callTy call_int1 (by rfl) T.m_int (by decide +kernel) (pa_cons (pe_op op_add (pe_op op_mul (pv 2) pe_int) pe_int) pa_nil)) pe_int))
      (pss_one (ps_expr (pe_bm PySem.F.plainAttrs_list PySem.F.slot_list_append PySem.F.type_list_append mt_append (pv 1) (pa_cons (pe_op op_mod (pe_callTy call_int1 (by rfl) T.m_int (by decide +kernel) (pa_cons (pe_op op_fdiv (pv 2) pe_int) pa_nil)) pe_int) pa_nil))))))
    (pss_one (ps_ret (pv 1))))))), ?_⟩
  refine ⟨Nat.zero_le _, fun p0 n0 => ?_⟩
  refine ⟨.ref a, rfl, a, _, rfl, .inl ((same_new (Same.refl H) n0).seq hS), _, _, rfl, _, rfl, ?_, ?_, ?_⟩
  · split <;> omega
  · split <;> omega
  refine for_range (lo := 0) (fun i σ H1 => ∃ (p : Addr) (ps : List Int) (st : Int) (y3 y4 y5 y6 y7 : Option V), σ = [some (.ref a), some (.ref p), some (.int st), y3, y4, y5, y6, y7] ∧ Step NoS H H1 ∧ H p = none ∧ H1 p = some (.lst (ps.map V.int)) ∧ ps.length ≤ 60 * i ∧ ∀ x ∈ ps, 0 ≤ x ∧ x < 60)
    ⟨p0, [], 17, none, none, none, none, none, rfl, Step.new n0, n0, upd_same, Nat.le_refl _, fun _ z => nomatch z⟩ (fun i σ H1 hi hp => ?_) (fun σ H1 hp => ?_)
  · obtain ⟨p, ps, st, y3, y4, y5, y6, y7, rfl, sm, fp, hp, lp, bp⟩ := hp
    have hi' : (0 + (i : Int)) < ns.length := by
      rw [List.length_map] at hi
      split at hi <;> omega
    have hi63 : i < 63 := by
      rw [List.length_map] at hi
      split at hi <;> omega
    obtain ⟨cell, hc⟩ := exists_at (xs := ns) (show (0 : Int) ≤ 0 + (i : Int) by omega) hi'
    -- cell = script[k]
    refine ⟨.ref a, rfl, _, rfl, a, _, _, .int cell, rfl, rfl, sm.same.seq hS, atI_of (by omega) (getI hc), ?_⟩
    -- state = ..
    refine ⟨_, rfl, _, _, rfl, rfl, .inr ⟨by decide, by decide⟩, _, rfl, _, _, rfl, rfl, .inr ⟨by decide, by decide⟩, _, _, rfl, rfl, _, rfl, _, _, rfl, rfl, .inl ⟨_, rfl, _, _, rfl, rfl, by omega, ?_⟩⟩
    -- if cell >= 10 ** 18
    refine ⟨_, rfl, _, _, rfl, rfl, ⟨by decide, by decide, by decide⟩, _, _, rfl, rfl, _, rfl, ite2 (fun _ => ?_) (fun _ => ?_)⟩
    · refine ⟨60, rfl, by decide, by decide, ?_⟩
      refine for_range (lo := 0) (n := 60) (fun j σ H2 => ∃ (ps : List Int) (st c : Int) (y5 : Option V), σ = [some (.ref a), some (.ref p), some (.int st), some (.int (0 + (i : Int))), some (.int c), y5, y6, y7] ∧ Step NoS H H2 ∧ H2 p = some (.lst (ps.map V.int)) ∧ ps.length ≤ 60 * i + j ∧ ∀ x ∈ ps, 0 ≤ x ∧ x < 60)
        ⟨ps, _, cell, y5, rfl, sm, hp, lp, bp⟩ (fun j σ H2 hj hq => ?_) (fun σ H2 hq => ?_)
      · obtain ⟨ps, st, c, y5, rfl, sm, hp, lp, bp⟩ := hq
        refine ⟨_, rfl, rfl, _, rfl, ite2 (fun _ => ?_) (fun _ => ?_)⟩
        · exact ⟨p, ps, st, _, _, _, _, _, rfl, sm, fp, hp, by omega, bp⟩
        · refine ⟨.ref p, rfl, .inl ⟨rfl, _, SqL.of hp⟩, _, rfl, .inl ⟨_, rfl, _, _, rfl, rfl, by omega, p, _, _, rfl, rfl, hp, szl (by rw [List.length_map]; omega), ?_⟩⟩
          refine ⟨_, rfl, _, _, rfl, rfl, ⟨by decide, by decide⟩, ps ++ [c % 60], st, _, _, rfl, sm.own fp, ?_, ?_, all_snoc bp small60⟩
          · rw [upd_same, List.map_append]; rfl
          · rw [List.length_append]; show ps.length + 1 ≤ _; omega
      · obtain ⟨ps, st, c, y5, rfl, sm, hp, lp, bp⟩ := hq
        exact ⟨p, ps, st, _, _, _, _, _, rfl, sm, fp, hp, by omega, bp⟩
    · -- one, two
      refine ⟨_, rfl, _, _, rfl, rfl, .inr ⟨by decide, by decide⟩, _, rfl, _, _, rfl, rfl, .inr ⟨by decide, by decide⟩, _, _, rfl, rfl, _, _, rfl, rfl, .inl ⟨_, rfl, _, _, rfl, rfl, by omega, ?_⟩⟩
      refine ⟨_, rfl, _, _, rfl, rfl, .inr ⟨by decide, by decide⟩, _, rfl, _, _, rfl, rfl, .inr ⟨by decide, by decide⟩, _, _, rfl, rfl, _, rfl, _, _, rfl, rfl, .inl ⟨_, rfl, _, _, rfl, rfl, by omega, ?_⟩⟩
      refine ⟨.ref p, rfl, _, rfl, _, _, rfl, rfl, ⟨by decide, by decide⟩, .inl ⟨_, rfl, _, _, rfl, rfl, by omega, _, rfl, .inl ⟨_, rfl, _, _, rfl, rfl, by omega, by show 2 ≤ sizeLine; decide, fun b nb => ?_⟩⟩⟩
      have hpb : p ≠ b := ne_of_none hp nb
      refine ⟨p, b, _, _, rfl, rfl, (by rw [upd_ne hpb]; exact hp), upd_same, sz (by rw [List.length_map]; show ps.length + 2 ≤ _; omega), fun c nc => ?_⟩
      have nc1 : H1 c = none := by
        by_cases e : c = b
        · rw [e]; exact nb
        · rw [upd_ne e] at nc; exact nc
      refine ⟨c, ps ++ [_, _], _, _, _, _, _, _, rfl, (sm.trans (Step.new nb)).trans (Step.new nc), sm.free nc1, two_more, ?_, snoc2 bp small60 small60⟩
      rw [List.length_append]; show ps.length + 2 ≤ _; omega
  · obtain ⟨p, ps, st, y3, y4, y5, y6, y7, rfl, sm, fp, hp, lp, bp⟩ := hp
    have hk : ps.length ≤ 3780 := by
      refine Nat.le_trans lp ?_
      rw [List.length_map]
      split <;> omega
    refine ⟨300, rfl, by decide, by decide, ?_⟩
    refine for_range (lo := 0) (n := 300) (fun j σ H2 => ∃ (ps : List Int) (st : Int) (y5 : Option V), σ = [some (.ref a), some (.ref p), some (.int st), y3, y4, y5, y6, y7] ∧ Step NoS H H2 ∧ H2 p = some (.lst (ps.map V.int)) ∧ j ≤ ps.length ∧ ps.length ≤ 3780 + j ∧ ∀ x ∈ ps, 0 ≤ x ∧ x < 60)
      ⟨ps, st, y5, rfl, sm, hp, Nat.zero_le _, by omega, bp⟩ (fun j σ H2 hj hq => ?_) (fun σ H2 hq => ?_)
    · obtain ⟨ps, st, y5, rfl, sm, hp, lp1, lp2, bp⟩ := hq
      refine ⟨_, rfl, _, _, rfl, rfl, .inr ⟨by decide, by decide⟩, _, _, rfl, rfl, .inl ⟨_, rfl, _, _, rfl, rfl, by omega, ?_⟩⟩
      refine ⟨.ref p, rfl, .inl ⟨rfl, _, SqL.of hp⟩, _, rfl, _, _, rfl, rfl, ⟨by decide, by decide⟩, .inl ⟨_, rfl, _, _, rfl, rfl, by omega, p, _, _, rfl, rfl, hp, szl (by rw [List.length_map]; omega), ?_⟩⟩
      refine ⟨ps ++ [_], _, _, rfl, sm.own fp, one_more, ?_, ?_, all_snoc bp small60⟩
      · rw [List.length_append]; show _ ≤ ps.length + 1; omega
      · rw [List.length_append]; show ps.length + 1 ≤ _; omega
    · obtain ⟨ps, st, y5, rfl, sm, hp, lp1, lp2, bp⟩ := hq
      exact ⟨.ref p, rfl, q H2 p ps sm fp hp lp1 (by omega) bp⟩
theorem sc_law_stream : FnScope ["script"] ["script"] (defScope s_law_stream) := ⟨rfl, rfl, rfl, by decide +kernel, rfl, by decide +kernel, by decide +kernel⟩
theorem ok_law_stream {f : Addr} {fd : FuncData} (F : Fun K "_law_stream" "_law_stream" s_law_stream f fd) (T : Bt K mg) (D_law_pool : DefG P w K mg base CX0 1 "_law_pool" ["script"] (spPool K)) : FnG P w K mg base CX0 2 f fd ["script"] (spStream K) := by
  refine FnG.calm F sc_law_stream (fun vs H Q E h => by first | (obtain ⟨_, rfl, _⟩ := h; rfl) | (obtain ⟨_, _, rfl, _⟩ := h; rfl) | (obtain ⟨_, _, _, rfl, _⟩ := h; rfl) | (obtain ⟨_, _, _, _, rfl, _⟩ := h; rfl) | (obtain ⟨_, _, _, _, _, rfl, _⟩ := h; rfl) | (obtain ⟨_, _, _, _, _, _, rfl, _⟩ := h; rfl) | (obtain ⟨_, _, _, _, _, _, _, rfl, _⟩ := h; rfl) | (obtain ⟨_, _, _, _, _, _, _, _, rfl, _⟩ := h; rfl) | (obtain ⟨_, _, _, _, _, _, _, _, _, rfl, _⟩ := h; rfl) | (obtain ⟨_, _, _, _, _, _, _, _, _, _, rfl, _⟩ := h; rfl) | (obtain ⟨_, _, _, _, _, _, _, _, _, _, _, rfl, _⟩ := h; rfl) | (obtain ⟨_, _, _, _, _, _, _, _, _, _, _, _, rfl, _⟩ := h; rfl)) (fun cd A out z H vs Q E hg hr h => ?_)
  have nd := sc_law_stream.nd
  obtain ⟨a, ns, rfl, hS, hl, q⟩ := h
  refine ⟨_, (pss_one (ps_ret (pe_op op_cat (pe_lst (pa_cons pe_int pa_nil)) (pe_fn D_law_pool hg (hr.mono (by first | decide | omega)) (pa_cons (pv 0) pa_nil))))), ?_⟩
  refine ⟨by show 1 ≤ sizeLine; decide, fun b nb => ?_⟩
  have s1 : Step NoS H (upd H b (.lst [.int 0])) := Step.new nb
  refine ⟨.ref a, rfl, a, ns, rfl, s1.same.seq hS, hl, fun H2 p ps s2 np hp l1 l2 hb => ?_⟩
  refine ⟨b, p, _, _, rfl, rfl, s2.same _ _ upd_same, hp, sz (by rw [List.length_map]; show 1 + ps.length ≤ _; omega), fun c nc => ?_⟩
  exact q _ c ((s1.trans s2).trans (Step.new nc)) ((s1.trans s2).free nc) ⟨0, ps, upd_same, l1, by omega, by decide, hb⟩
theorem sc_law_pick : FnScope ["pool", "many"] ["pool", "many"] (defScope s_law_pick) := ⟨rfl, rfl, rfl, by decide +kernel, rfl, by decide +kernel, by decide +kernel⟩
theorem ok_law_pick {f : Addr} {fd : FuncData} (F : Fun K "_law_pick" "_law_pick" s_law_pick f fd) (T : Bt K mg)  : FnG P w K mg base CX0 1 f fd ["pool", "many"] (spPick) := by
  refine FnG.calm F sc_law_pick (fun vs H Q E h => by first | (obtain ⟨_, rfl, _⟩ := h; rfl) | (obtain ⟨_, _, rfl, _⟩ := h; rfl) | (obtain ⟨_, _, _, rfl, _⟩ := h; rfl) | (obtain ⟨_, _, _, _, rfl, _⟩ := h; rfl) | (obtain ⟨_, _, _, _, _, rfl, _⟩ := h; rfl) | (obtain ⟨_, _, _, _, _, _, rfl, _⟩ := h; rfl) | (obtain ⟨_, _, _, _, _, _, _, rfl, _⟩ := h; rfl) | (obtain ⟨_, _, _, _, _, _, _, _, rfl, _⟩ := h; rfl) | (obtain ⟨_, _, _, _, _, _, _, _, _, rfl, _⟩ := h; rfl) | (obtain ⟨_, _, _, _, _, _, _, _, _, _, rfl, _⟩ := h; rfl) | (obtain ⟨_, _, _, _, _, _, _, _, _, _, _, rfl, _⟩ := h; rfl) | (obtain ⟨_, _, _, _, _, _, _, _, _, _, _, _, rfl, _⟩ := h; rfl)) (fun cd A out z H vs Q E hg hr h => ?_)
  have nd := sc_law_pick.nd
  obtain ⟨pa, n, rfl, ⟨p0, ps, hp, l1, l2, h0, hb⟩, n1, n2, q⟩ := h
  refine ⟨_, (pss_cons (ps_asg (pe_op op_add pe_int (pe_op op_mod (pe_callTy call_int1 (by rfl) T.m_int (by decide +kernel) (pa_cons (pe_ix (ixL K) (pv 0) pe_int (fun _ _ => rfl)) pa_nil)) (pe_op op_sub (pe_callB (lenQ K) (by rfl) T.m_len PySem.boot_len (pa_cons (pv 0) pa_nil)) pe_int))) (pg_sub (pv 0) pe_int set_list))
    (pss_one (ps_ret (pe_op op_mod (pe_callTy call_int1 (by rfl) T.m_int (by decide +kernel) (pa_cons (pe_ix (ixL K) (pv 0) (pe_ix (ixL K) (pv 0) pe_int (fun _ _ => rfl)) (fun _ _ => rfl)) pa_nil)) (pv 1))))), ?_⟩
  have ll : (((p0 :: ps).map V.int).length : Int) - 1 = ps.length := by rw [List.length_map, List.length_cons]; omega
  refine ⟨.ref pa, rfl, pa, _, 0, .int p0, rfl, rfl, SqL.of hp, atI_nat (j := 0) rfl, .inl ⟨_, rfl, .ref pa, rfl, pa, _, rfl, .inl (SqL.of hp), _, _, rfl, rfl, _, _, rfl, rfl, (by rw [ll]; omega), _, _, rfl, rfl, .ref pa, rfl, pa, _, 0, 0, rfl, rfl, hp, ixN_of (k := 0) (by omega) (by rw [List.length_map, List.length_cons]; omega), ?_⟩⟩
  rw [ll]
  have hm1 : 0 ≤ p0 % (ps.length : Int) := Int.emod_nonneg _ (by omega)
  have hm2 : p0 % (ps.length : Int) < ps.length := Int.emod_lt_of_pos _ (by omega)
  obtain ⟨v, hv⟩ := exists_at (xs := ps) hm1 hm2
  have hv2 : ((((p0 :: ps).map V.int).set 0 (.int (1 + p0 % (ps.length : Int)))))[(1 + p0 % (ps.length : Int)).toNat]? = some (.int v) := by
    rw [show (1 + p0 % (ps.length : Int)).toNat = (p0 % (ps.length : Int)).toNat + 1 by omega]
    exact getI hv
  have hvb := hb v (List.mem_of_getElem? hv)
  refine ⟨.ref pa, rfl, .ref pa, rfl, pa, _, 0, .int (1 + p0 % (ps.length : Int)), rfl, rfl, SqL.of upd_same, atI_nat (j := 0) rfl, pa, _, _, .int v, rfl, rfl, SqL.of upd_same, atI_of (by omega) hv2, .inl ⟨_, rfl, _, rfl, _, _, rfl, rfl, by omega, ?_⟩⟩
  refine q _ _ (Int.emod_nonneg _ (by omega)) (Int.emod_lt_of_pos _ (by omega)) ?_ (Step.mut rfl (by rw [hp]; exact fun z => nomatch z)) (Pools.at ⟨_, ps, by rw [upd_same]; rfl, l1, l2, by omega, hb⟩)
  by_cases c : v < n
  · rw [Int.emod_eq_of_lt hvb.1 c]; exact hvb.2
  · have := Int.emod_lt_of_pos v (show (0 : Int) < n by omega)
    omega
theorem sc_law_letters : FnScope ["pool", "most", "many", "signs", "at", "step", "k"] ["pool", "most"] (defScope s_law_letters) := ⟨rfl, rfl, rfl, by decide +kernel, rfl, by decide +kernel, by decide +kernel⟩
-- pre
theorem pick6 {k : Int} (h0 : 0 ≤ k) (h1 : k < 6) : ∃ s : Nat, s ∈ [1, 3, 5, 7, 9, 11] ∧ atI [V.int 1, V.int 3, V.int 5, V.int 7, V.int 9, V.int 11] k = some (.int (s : Nat)) := by
  have h : k = 0 ∨ k = 1 ∨ k = 2 ∨ k = 3 ∨ k = 4 ∨ k = 5 := by omega
  rcases h with rfl | rfl | rfl | rfl | rfl | rfl
  · exact ⟨1, by decide, rfl⟩
  · exact ⟨3, by decide, rfl⟩
  · exact ⟨5, by decide, rfl⟩
  · exact ⟨7, by decide, rfl⟩
  · exact ⟨9, by decide, rfl⟩
  · exact ⟨11, by decide, rfl⟩
def drawnSigns (at_ st m : Nat) : List Nat := (List.range m).map fun k => 97 + (at_ + st * k) % 26
theorem drawn_nodup : ∀ a < 26, ∀ s ∈ [1, 3, 5, 7, 9, 11], ∀ m < 7, (drawnSigns a s m).Nodup := by decide +kernel
theorem drawn_letters {a s m : Nat} (ha : a < 26) (hs : s ∈ [1, 3, 5, 7, 9, 11]) (h1 : 1 ≤ m) (h6 : m ≤ 6) : IsLetters (drawnSigns a s m) where
  pos := by unfold drawnSigns; rw [List.length_map, List.length_range]; omega
  six := by unfold drawnSigns; rw [List.length_map, List.length_range]; omega
  nodup := drawn_nodup a ha s hs m (by omega)
  abc := fun c hc => by
    unfold drawnSigns at hc
    obtain ⟨k, _, rfl⟩ := List.mem_map.mp hc
    have := Nat.mod_lt (a + s * k) (show 26 > 0 by decide)
    omega
theorem abc_at : ∀ j < 26, ("abcdefghijklmnopqrstuvwxyz" : Str).cps.toList[j]? = some (97 + j) := by decide +kernel
theorem ok_law_letters {f : Addr} {fd : FuncData} (F : Fun K "_law_letters" "_law_letters" s_law_letters f fd) (T : Bt K mg) (D_law_pick : DefG P w K mg base CX0 1 "_law_pick" ["pool", "many"] (spPick)) : FnG P w K mg base CX0 2 f fd ["pool", "most"] (spLetters) := by
  refine FnG.calm F sc_law_letters (fun vs H Q E h => by first | (obtain ⟨_, rfl, _⟩ := h; rfl) | (obtain ⟨_, _, rfl, _⟩ := h; rfl) | (obtain ⟨_, _, _, rfl, _⟩ := h; rfl) | (obtain ⟨_, _, _, _, rfl, _⟩ := h; rfl) | (obtain ⟨_, _, _, _, _, rfl, _⟩ := h; rfl) | (obtain ⟨_, _, _, _, _, _, rfl, _⟩ := h; rfl) | (obtain ⟨_, _, _, _, _, _, _, rfl, _⟩ := h; rfl) | (obtain ⟨_, _, _, _, _, _, _, _, rfl, _⟩ := h; rfl) | (obtain ⟨_, _, _, _, _, _, _, _, _, rfl, _⟩ := h; rfl) | (obtain ⟨_, _, _, _, _, _, _, _, _, _, rfl, _⟩ := h; rfl) | (obtain ⟨_, _, _, _, _, _, _, _, _, _, _, rfl, _⟩ := h; rfl) | (obtain ⟨_, _, _, _, _, _, _, _, _, _, _, _, rfl, _⟩ := h; rfl)) (fun cd A out z H vs Q E hg hr h => ?_)
  have nd := sc_law_letters.nd
  obtain ⟨pa, n, rfl, po, n1, n6, q⟩ := h
  refine ⟨_, (pss_cons (ps_set (i := 2) nd rfl (by first | exact Or.inl rfl | exact Or.inr rfl) (pe_op op_add pe_int (pe_fn D_law_pick hg (hr.mono (by first | decide | omega)) (pa_cons (pv 0) (pa_cons (pv 1) pa_nil)))))
    (pss_cons (ps_set (i := 3) nd rfl (by first | exact Or.inl rfl | exact Or.inr rfl) pe_str)
    (pss_cons (ps_asg (pe_tup (pa_cons (pe_fn D_law_pick hg (hr.mono (by first | decide | omega)) (pa_cons (pv 0) (pa_cons pe_int pa_nil))) (pa_cons (pe_ix (ixL K) (pe_lst (pa_cons pe_int (pa_cons pe_int (pa_cons pe_int (pa_cons pe_int (pa_cons pe_int (pa_cons pe_int pa_nil))))))) (pe_fn D_law_pick hg (hr.mono (by first | decide | omega)) (pa_cons (pv 0) (pa_cons pe_int pa_nil))) (fun _ _ => rfl)) pa_nil))) (gT K (n := 2) rfl (pgs_cons (pg_name (i := 4) nd rfl (by first | exact Or.inl rfl | exact Or.inr rfl)) (pgs_cons (pg_name (i := 5) nd rfl (by first | exact Or.inl rfl | exact Or.inr rfl)) pgs_nil))))
    (pss_one (ps_ret (joinQ K pe_str (pe_lc (own := [("k", 6)]) (tt := tYes) (g := gName 6) rfl nd (pi_range1 (by rfl) T.m_range (pa_cons (pv 2) pa_nil)) (blkOk_by (by kernel_rfl)) (fun _ _ _ _ _ => (pg_name (i := 6) nd rfl (by first | exact Or.inl rfl | exact Or.inr rfl))) (fun _ _ _ _ _ => pts_nil) (fun _ _ _ _ _ => (pe_ix ix_str (pv 3) (pe_op op_mod (pe_callTy call_int1 (by rfl) T.m_int (by decide +kernel) (pa_cons (pe_op op_add (pv 4) (pe_op op_mul (pv 5) (pv 6))) pa_nil)) pe_int) (fun _ _ => rfl)))))))))), ?_⟩
  refine ⟨.ref pa, rfl, .int n, rfl, pa, n, rfl, po, n1, by omega, fun k1 H1 a1 b1 _ s1 po1 => ⟨_, _, rfl, rfl, ?_⟩⟩
  refine ⟨.ref pa, rfl, pa, 26, rfl, po1.ok, by decide, by decide, fun k2 H2 a2 b2 _ s2 po2 => ?_⟩
  refine ⟨by show 6 ≤ sizeLine; decide, fun p np => ?_⟩
  have hpp : p ≠ pa := fun e => po2.ok.some (e ▸ np)
  refine ⟨.ref pa, rfl, pa, 6, rfl, po2.ok.new np, by decide, by decide, fun k3 H3 a3 b3 _ s3 po3 => ?_⟩
  obtain ⟨st, hst, hat⟩ := pick6 a3 b3
  refine ⟨p, _, _, _, rfl, rfl, SqL.of (s3.keep _ _ hpp upd_same), hat, by show 2 ≤ sizeLine; decide, fun t nt => ?_⟩
  refine ⟨t, _, rfl, SqT.of upd_same, rfl, _, _, rfl, _, _, rfl, rfl, ?_⟩
  have po4 := Pools.new (o := .tup [.int k2, .int (st : Nat)]) po3 nt
  have s4 : Step (At pa) H (upd H3 t (.tup [.int k2, .int (st : Nat)])) := ((s1.trans s2).trans (Step.new np)).trans (s3.trans (Step.new nt))
  generalize upd H3 t (.tup [.int k2, .int (st : Nat)]) = H4 at po4 s4
  obtain ⟨ka, rfl⟩ := Int.eq_ofNat_of_zero_le a2
  obtain ⟨m, hm⟩ : ∃ m : Nat, 1 + k1 = (m : Int) := Int.eq_ofNat_of_zero_le (by omega)
  have hm6 : m ≤ 6 := by omega
  have hka : ka < 26 := by omega
  have LL := drawn_letters hka hst (show 1 ≤ m by omega) hm6
  refine ⟨⟨_, rfl⟩, _, rfl, _, rfl, (by show -(2 ^ 62) ≤ 1 + k1; omega), (by show 1 + k1 < 2 ^ 62; omega), fun D nD => ?_⟩
  have hn : (1 + k1).toNat = m := by omega
  refine lc_range (lo := 0) (n := (1 + k1).toNat) (fun i H' => H' = upd H4 D (.lst (((drawnSigns ka st m).take i).map fun c => V.str (strOf [c])))) (by rw [List.take_zero]; rfl) (fun i H' hi e => ?_) (fun H' e => ?_)
  · subst e
    have hi' : i < m := by omega
    have hlt := Nat.mod_lt (ka + st * i) (show 26 > 0 by decide)
    refine ⟨rfl, ?_⟩
    refine ⟨_, rfl, _, rfl, _, rfl, _, rfl, _, _, rfl, rfl, .inr ⟨by omega, by omega⟩, _, _, rfl, rfl, .inl ⟨_, rfl, _, _, rfl, rfl, by omega, _, _, 97 + (ka + st * i) % 26, rfl, rfl, by decide +kernel, ?_, ?_⟩⟩
    · have e : ((ka : Int) + (st : Int) * (0 + (i : Int))) % 26 = (((ka + st * i) % 26 : Nat) : Int) := by
        rw [Int.zero_add]; push_cast; rfl
      show atI _ (((ka : Int) + (st : Int) * (0 + (i : Int))) % 26) = _
      rw [e]
      exact atI_nat (abc_at _ hlt)
    · refine ⟨_, upd_same, szl (by rw [List.length_map, List.length_take]; omega), ?_⟩
      rw [upd_upd, List.take_add_one, show (drawnSigns ka st m)[i]? = some (97 + (ka + st * i) % 26) by
        unfold drawnSigns; rw [List.getElem?_map, List.getElem?_range hi']; rfl, List.map_append]
      rfl
  · subst e
    have hl : (drawnSigns ka st m).length = m := by unfold drawnSigns; rw [List.length_map, List.length_range]
    rw [hn, List.take_of_length_le (by omega)]
    refine ⟨_, D, (drawnSigns ka st m).map fun c => strOf [c], rfl, rfl, .inl (SqL.of (by rw [upd_same, List.map_map]; rfl)), ?_, ?_⟩
    · rw [sum_ones, List.length_map, hl]
      show m + m * 0 ≤ _
      omega
    · rw [txt_join]
      exact q _ _ LL (by rw [hl]; omega) (s4.trans (Step.new nD)) (po4.new nD)
theorem sc_law_signs : FnScope ["pool", "letters", "held", "sign"] ["pool", "letters"] (defScope s_law_signs) := ⟨rfl, rfl, rfl, by decide +kernel, rfl, by decide +kernel, by decide +kernel⟩
theorem ok_law_signs {f : Addr} {fd : FuncData} (F : Fun K "_law_signs" "_law_signs" s_law_signs f fd) (T : Bt K mg) (D_law_pick : DefG P w K mg base CX0 1 "_law_pick" ["pool", "many"] (spPick)) : FnG P w K mg base CX0 2 f fd ["pool", "letters"] (spLawSigns) := by
  refine FnG.calm F sc_law_signs (fun vs H Q E h => by first | (obtain ⟨_, rfl, _⟩ := h; rfl) | (obtain ⟨_, _, rfl, _⟩ := h; rfl) | (obtain ⟨_, _, _, rfl, _⟩ := h; rfl) | (obtain ⟨_, _, _, _, rfl, _⟩ := h; rfl) | (obtain ⟨_, _, _, _, _, rfl, _⟩ := h; rfl) | (obtain ⟨_, _, _, _, _, _, rfl, _⟩ := h; rfl) | (obtain ⟨_, _, _, _, _, _, _, rfl, _⟩ := h; rfl) | (obtain ⟨_, _, _, _, _, _, _, _, rfl, _⟩ := h; rfl) | (obtain ⟨_, _, _, _, _, _, _, _, _, rfl, _⟩ := h; rfl) | (obtain ⟨_, _, _, _, _, _, _, _, _, _, rfl, _⟩ := h; rfl) | (obtain ⟨_, _, _, _, _, _, _, _, _, _, _, rfl, _⟩ := h; rfl) | (obtain ⟨_, _, _, _, _, _, _, _, _, _, _, _, rfl, _⟩ := h; rfl)) (fun cd A out z H vs Q E hg hr h => ?_)
  have nd := sc_law_signs.nd
  obtain ⟨pa, l, rfl, IL, po, q⟩ := h
  have l6 := IL.six
  have l1 := IL.pos
  refine ⟨_, (pss_cons (ps_setLc (i := 2) (own := [("sign", 3)]) (g := gName 3) rfl nd rfl rfl (sw_true rfl rfl rfl (by decide +kernel)) (pi_str (pv 1)) (blkOk_by (by kernel_rfl)) (fun _ _ _ _ _ => (pg_name (i := 3) nd rfl (by first | exact Or.inl rfl | exact Or.inr rfl))) (fun _ _ _ _ _ => pts_one (pt_cmpR op_eq (pe_fn D_law_pick hg (hr.mono (by first | decide | omega)) (pa_cons (pv 0) (pa_cons pe_int pa_nil))) pe_int (nomark _))) (fun _ _ _ _ _ => (pv 3)))
    (pss_cons (ps_if (pt_cmpR (op_eqD hr.units) (pv 2) (pe_lst pa_nil) (nomark _)) (pss_one (ps_set (i := 2) nd rfl (by first | exact Or.inl rfl | exact Or.inr rfl) (pe_lst (pa_cons (pe_ix ix_str (pv 1) (pe_fn D_law_pick hg (hr.mono (by first | decide | omega)) (pa_cons (pv 0) (pa_cons (pe_callB call_len_str (by rfl) T.m_len PySem.boot_len (pa_cons (pv 1) pa_nil)) pa_nil))) (fun _ _ => rfl)) pa_nil)))) pss_nil)
    (pss_one (ps_ret (joinQ K pe_str (pv 2)))))), ?_⟩
  have fin : ∀ (D : Addr) (w : List Nat) (H2 : Hp) (y3 : Option V), Step (At pa) H H2 → Pools (At pa) H2 → H2 D = some (.lst (w.map fun c => V.str (strOf [c]))) → w ≠ [] → w.length ≤ 6 → (∀ c ∈ w, c ∈ l) →
      tRet (tM1 (fun x xs H Q => ∃ a p, ∃ ys : List Str, x = .str a ∧ xs = [.ref p] ∧ (SqL K H p (ys.map V.str) ∨ SqT K H p (ys.map V.str)) ∧ (ys.map (·.length)).sum + ys.length * a.length ≤ 16777216 ∧ Q (.str (Txt.join a ys)) H) (tC (.str "")) (tVar 2)) { nx := fun x H' => Q V.non H', rt := Q } [some (.ref pa), some (.str (strOf l)), some (.ref D), y3] H2 := by
    intro D w H2 y3 s2 p2 hD w0 w6 wl
    refine ⟨⟨_, rfl⟩, .ref D, rfl, "", D, w.map fun c => strOf [c], rfl, rfl, .inl (SqL.of (by rw [hD, List.map_map]; rfl)), ?_, ?_⟩
    · rw [sum_ones, List.length_map]
      show w.length + w.length * 0 ≤ _
      omega
    · rw [txt_join]
      exact q w H2 w0 w6 wl s2 p2
  refine ⟨_, rfl, _, rfl, fun D nD => ?_⟩
  have hDp : D ≠ pa := fun e => po.ok.some (e ▸ nD)
  refine lc_it walkS (fun i Hc => Step (At pa) H Hc ∧ Pools (At pa) Hc ∧ ∃ w : List Nat, Hc D = some (.lst (w.map fun c => V.str (strOf [c]))) ∧ w.length ≤ i ∧ ∀ c ∈ w, c ∈ l) ⟨Step.new nD, po.new nD, [], upd_same, Nat.le_refl _, fun c h => nomatch h⟩ (fun _ _ _ _ => trivial) (fun i x Hc Hc' hi hP hy => ?_) (fun Hc hP => ?_)
  · obtain ⟨rfl, hx⟩ := hy
    obtain ⟨s2, p2, w, hD, lw, wl⟩ := hP
    obtain ⟨c, hc, rfl⟩ := sgnI_at hx
    refine ⟨rfl, ?_⟩
    refine ⟨.ref pa, rfl, pa, 2, rfl, p2.ok, by decide, by decide, fun k H4 a b _ s4 p4 => ⟨rfl, _, rfl, ?_⟩⟩
    have hD4 := s4.keep _ _ hDp hD
    refine ite2 (fun _ => ?_) (fun _ => ?_)
    · refine ⟨_, rfl, _, hD4, szl (by rw [List.length_map]; rw [lenS] at hi; omega), (s2.trans s4).own nD, p4.other hDp, w ++ [c], ?_, ?_, ?_⟩
      · rw [upd_same, List.map_append]; rfl
      · rw [List.length_append]; show w.length + 1 ≤ _; omega
      · exact all_snoc wl (List.mem_of_getElem? hc)
    · exact ⟨s2.trans s4, p4, w, hD4, by omega, wl⟩
  · obtain ⟨s2, p2, w, hD, lw, wl⟩ := hP
    rw [lenS] at lw
    refine ⟨.ref D, rfl, Nat.zero_le _, fun L nL => ?_⟩
    have hD2 := same_new (o := .lst []) (Same.refl _) nL _ _ hD
    have s3 := s2.trans (Step.new (o := .lst []) nL)
    have p3 := p2.new (o := .lst []) nL
    have hL : upd Hc L (.lst []) L = some (.lst []) := upd_same
    generalize upd Hc L (.lst []) = H3 at hD2 s3 p3 hL ⊢
    have okw : ∀ x ∈ w.map (fun c => strOf [c]), PyData.strOk x = true := fun x hx => by
      obtain ⟨c, hc, rfl⟩ := List.mem_map.mp hx
      exact strOk_of fun d hd => by rw [List.mem_singleton.mp hd]; have := IL.abc c (wl c hc); omega
    have hDS : H3 D = some (.lst ((w.map fun c => strOf [c]).map V.str)) := by rw [hD2, List.map_map]; rfl
    refine ⟨.list ((w.map fun c => strOf [c]).map .str), .list [], dp_of (Sdp hDS), dp_of (.lst hL .nil), shaped_at (at_strs _ okw), shaped_at (fun _ h => nomatch h), _, rfl, ?_⟩
    rw [eqv_nil]
    cases w with
    | nil =>
      have ls : (strOf l).length ≤ sizeLine := by rw [strOf_len]; exact sz (by omega)
      refine iteT ⟨.str (strOf l), rfl, .ref pa, rfl, .str (strOf l), rfl, strOf l, rfl, ls, pa, ((strOf l).length : Nat), rfl, p3.ok, by rw [strOf_len]; omega, by rw [strOf_len]; omega, fun k H4 a b _ s4 p4 => ?_⟩
      rw [strOf_len] at b
      obtain ⟨c, hc⟩ := exists_at (xs := l) a b
      refine ⟨strOf l, k, c, rfl, rfl, ls, by rw [strOf_cps]; exact atI_of a hc, by show 1 ≤ sizeLine; decide, fun D2 nD2 => ?_⟩
      exact fin D2 [c] _ _ ((s3.trans s4).trans (Step.new nD2)) (p4.new nD2) upd_same (fun z => nomatch z) (by show 1 ≤ 6; decide) (fun d hd => by rw [List.mem_singleton.mp hd]; exact List.mem_of_getElem? hc)
    | cons c w =>
      exact iteF (fin D (c :: w) _ _ s3 p3 hD2 (fun z => nomatch z) (by omega) wl)
theorem sc_law_rule : FnScope ["pool", "letters", "depth", "kind", "word", "many", "k", "low", "high"] ["pool", "letters", "depth"] (defScope s_law_rule) := ⟨rfl, rfl, rfl, by decide +kernel, rfl, by decide +kernel, by decide +kernel⟩
theorem ok_law_rule {f : Addr} {fd : FuncData} (F : Fun K "_law_rule" "_law_rule" s_law_rule f fd) (T : Bt K mg) {dd : Nat} (D_law_pick : DefG P w K mg base CX0 1 "_law_pick" ["pool", "many"] (spPick)) (D_law_signs : DefG P w K mg base CX0 2 "_law_signs" ["pool", "letters"] (spLawSigns)) (D_law_rule : DefG P w K mg base CX0 (3 + 1 * dd) "_law_rule" ["pool", "letters", "depth"] (spLawRule dd)) : FnG P w K mg base CX0 (3 + 1 * (dd + 1)) f fd ["pool", "letters", "depth"] (spLawRule (dd + 1)) := by
  refine FnG.calm F sc_law_rule (fun vs H Q E h => by first | (obtain ⟨_, rfl, _⟩ := h; rfl) | (obtain ⟨_, _, rfl, _⟩ := h; rfl) | (obtain ⟨_, _, _, rfl, _⟩ := h; rfl) | (obtain ⟨_, _, _, _, rfl, _⟩ := h; rfl) | (obtain ⟨_, _, _, _, _, rfl, _⟩ := h; rfl) | (obtain ⟨_, _, _, _, _, _, rfl, _⟩ := h; rfl) | (obtain ⟨_, _, _, _, _, _, _, rfl, _⟩ := h; rfl) | (obtain ⟨_, _, _, _, _, _, _, _, rfl, _⟩ := h; rfl) | (obtain ⟨_, _, _, _, _, _, _, _, _, rfl, _⟩ := h; rfl) | (obtain ⟨_, _, _, _, _, _, _, _, _, _, rfl, _⟩ := h; rfl) | (obtain ⟨_, _, _, _, _, _, _, _, _, _, _, rfl, _⟩ := h; rfl) | (obtain ⟨_, _, _, _, _, _, _, _, _, _, _, _, rfl, _⟩ := h; rfl)) (fun cd A out z H vs Q E hg hr h => ?_)
  have nd := sc_law_rule.nd
  replace hr : Room (3 + 1 * dd + 0) _ := hr
  obtain ⟨d, hd, pa, l, G, rfl, IL, ok, q⟩ := h
  refine ⟨_, (pss_cons (ps_set (i := 3) nd rfl (by first | exact Or.inl rfl | exact Or.inr rfl) (pe_fn D_law_pick hg (hr.mono (by first | decide | omega)) (pa_cons (pv 0) (pa_cons pe_int pa_nil))))
    (pss_cons (ps_if (PW.pt (pw_or (pt_cmpR op_eq (pv 2) pe_int (nomark _)) (pw_or1 (pt_cmpR op_lt (pv 3) pe_int (nomark _))))) (pss_cons (ps_set (i := 4) nd rfl (by first | exact Or.inl rfl | exact Or.inr rfl) (pe_fn D_law_pick hg (hr.mono (by first | decide | omega)) (pa_cons (pv 0) (pa_cons pe_int pa_nil))))
      (pss_cons (ps_if (pt_cmpR op_eq (pv 4) pe_int (nomark _)) (pss_one (ps_ret (pe_tup (pa_cons pe_str pa_nil)))) pss_nil)
      (pss_cons (ps_if (pt_cmpR op_eq (pv 4) pe_int (nomark _)) (pss_one (ps_ret (pe_tup (pa_cons pe_str pa_nil)))) pss_nil)
      (pss_one (ps_ret (pe_tup (pa_cons pe_str (pa_cons (pe_fn D_law_signs hg (hr.mono (by first | decide | omega)) (pa_cons (pv 0) (pa_cons (pv 1) pa_nil))) pa_nil)))))))) pss_nil)
    (pss_cons (ps_if (pt_cmpR op_lt (pv 3) pe_int (nomark _)) (pss_cons (ps_set (i := 5) nd rfl (by first | exact Or.inl rfl | exact Or.inr rfl) (pe_op op_add pe_int (pe_ix (ixL K) (pe_lst (pa_cons pe_int (pa_cons pe_int (pa_cons pe_int (pa_cons pe_int (pa_cons pe_int (pa_cons pe_int pa_nil))))))) (pe_fn D_law_pick hg (hr.mono (by first | decide | omega)) (pa_cons (pv 0) (pa_cons pe_int pa_nil))) (fun _ _ => rfl))))
      (pss_one (ps_ret (pe_tup (pa_cons (pe_ix (ixL K) (pe_lst (pa_cons pe_str (pa_cons pe_str (pa_cons pe_str (pa_cons pe_str (pa_cons pe_str (pa_cons pe_str pa_nil))))))) (pe_op op_sub (pv 3) pe_int) (fun _ _ => rfl)) (pa_cons (pe_lc (own := [("k", 6)]) (tt := tYes) (g := gName 6) rfl nd (pi_range1 (by rfl) T.m_range (pa_cons (pv 5) pa_nil)) (blkOk_by (by kernel_rfl)) (fun _ _ _ _ _ => (pg_name (i := 6) nd rfl (by first | exact Or.inl rfl | exact Or.inr rfl))) (fun _ _ _ _ _ => pts_nil) (fun _ _ _ _ _ => (pe_fn D_law_rule hg (hr.mono (by first | decide | omega)) (pa_cons (pv 0) (pa_cons (pv 1) (pa_cons (pe_op op_sub (pv 2) pe_int) pa_nil)))))) pa_nil)))))) pss_nil)
    (pss_cons (ps_if (pt_cmpR op_eq (pv 3) pe_int (nomark _)) (pss_one (ps_ret (pe_tup (pa_cons pe_str (pa_cons (pe_fn D_law_rule hg (hr.mono (by first | decide | omega)) (pa_cons (pv 0) (pa_cons (pv 1) (pa_cons (pe_op op_sub (pv 2) pe_int) pa_nil)))) pa_nil))))) pss_nil)
    (pss_cons (ps_set (i := 7) nd rfl (by first | exact Or.inl rfl | exact Or.inr rfl) (pe_ix (ixL K) (pe_lst (pa_cons pe_int (pa_cons pe_int (pa_cons pe_int (pa_cons pe_int (pa_cons pe_int pa_nil)))))) (pe_fn D_law_pick hg (hr.mono (by first | decide | omega)) (pa_cons (pv 0) (pa_cons pe_int pa_nil))) (fun _ _ => rfl)))
    (pss_cons (ps_set (i := 8) nd rfl (by first | exact Or.inl rfl | exact Or.inr rfl) (pe_ix (ixL K) (pe_lst (pa_cons pe_non (pa_cons pe_non (pa_cons (pv 7) (pa_cons (pe_op op_add (pv 7) pe_int) (pa_cons (pe_op op_add (pv 7) pe_int) pa_nil)))))) (pe_fn D_law_pick hg (hr.mono (by first | decide | omega)) (pa_cons (pv 0) (pa_cons pe_int pa_nil))) (fun _ _ => rfl)))
    (pss_one (ps_ret (pe_tup (pa_cons pe_str (pa_cons (pe_fn D_law_rule hg (hr.mono (by first | decide | omega)) (pa_cons (pv 0) (pa_cons (pv 1) (pa_cons (pe_op op_sub (pv 2) pe_int) pa_nil)))) (pa_cons (pv 7) (pa_cons (pv 8) pa_nil))))))))))))), ?_⟩
  refine ⟨.ref pa, rfl, pa, 12, rfl, ok.pool, by decide, by decide, fun k H1 a1 b1 _ s1 p1 => ?_⟩
  have z1 := ok.fz.stepS s1 p1
  by_cases hl : d = 0 ∨ k < 3
  · refine (fun hA => ⟨_, rfl, rfl, _, rfl, ite2 (fun _ => iteT hA) (fun h0 => ⟨_, rfl, _, _, rfl, rfl, _, rfl, ite2 (fun _ => hA) (fun h3 => hl.elim (fun e => absurd (decide_eq_true (by rw [e]; rfl)) h0) (fun e => absurd (decide_eq_true e) h3))⟩)⟩) ?_
    refine ⟨.ref pa, rfl, pa, 9, rfl, z1.pool, by decide, by decide, fun w H2 a2 b2 _ s2 p2 => ?_⟩
    have z2 := z1.stepS s2 p2
    refine ⟨_, rfl, rfl, _, rfl, ite2 (fun _ => ?_) (fun _ => ?_)⟩
    · refine ⟨by decide, fun t nt => q _ _ _ .none (z2.new nt) (by rw [dR]; exact .tup upd_same (.cons (.str _) .nil)) (by rw [Rl.Ok]; trivial) (pure_mk (fun _ z => nomatch z) fun _ h => nomatch h) (by rw [Rl.dep]; exact Nat.zero_le _)⟩
    · refine ⟨_, rfl, rfl, _, rfl, ite2 (fun _ => ?_) (fun _ => ?_)⟩
      · refine ⟨by decide, fun t nt => q _ _ _ .empty (z2.new nt) (by rw [dR]; exact .tup upd_same (.cons (.str _) .nil)) (by rw [Rl.Ok]; trivial) (pure_mk (fun _ z => nomatch z) fun _ h => nomatch h) (by rw [Rl.dep]; exact Nat.zero_le _)⟩
      · refine ⟨.ref pa, rfl, .str (strOf l), rfl, pa, l, rfl, IL, z2.ok.pools, fun u H3 u0 u6 ul s3 p3 => ⟨by show 2 ≤ sizeLine; decide, fun t nt => ?_⟩⟩
        have z3 := z2.stepS s3 p3
        exact q _ _ _ (.one u) (z3.new nt) (by rw [dR]; exact .tup upd_same (.cons (.str _) (.cons (.str _) .nil))) (by rw [Rl.Ok]; exact ⟨u0, u6, ul⟩) (pure_mk (fun _ z => nomatch z) fun _ h => nomatch h) (by rw [Rl.dep]; exact Nat.zero_le _)
  · obtain ⟨e, rfl⟩ : ∃ e, d = e + 1 := ⟨d - 1, by omega⟩
    have k3 : 3 ≤ k := by omega
    have sub1 : ∀ {H2 G2 : Hp} {Q2 : VK}, Ok (At pa) H2 G2 → (∀ (v : V) (H' G' : Hp) (r : Rl), Fz (At pa) H2 G2 H' G' → Dq G' v (dR r) → r.Ok l → r.Pure → r.dep ≤ e → Q2 v H') → spLawRule dd [.ref pa, .str (strOf l), V.int (((e + 1 : Nat) : Int) - 1)] H2 Q2 E0 := fun ok2 q2 =>
      ⟨e, by omega, pa, l, _, by rw [show (((e + 1 : Nat) : Int) - 1) = (e : Nat) by omega], IL, ok2, q2⟩
    refine ⟨_, rfl, rfl, _, rfl, ite2 (fun h => absurd (of_decide_eq_true h) (fun z => by have := V.int.inj z; omega)) (fun _ => ⟨_, rfl, _, _, rfl, rfl, _, rfl, ite2 (fun h => absurd (of_decide_eq_true h) (by omega)) (fun _ => ?_)⟩)⟩
    refine ⟨_, rfl, _, _, rfl, rfl, _, rfl, ite2 (fun h9 => ?_) (fun h9 => ?_)⟩
    · have k9 : k < 9 := of_decide_eq_true h9
      refine ⟨by show 6 ≤ sizeLine; decide, fun p np => ?_⟩
      have z2 := z1.loc (o := .lst [.int 1, .int 1, .int 1, .int 2, .int 2, .int 0]) np
      have ep : upd H1 p (.lst [.int 1, .int 1, .int 1, .int 2, .int 2, .int 0]) p = some (.lst [.int 1, .int 1, .int 1, .int 2, .int 2, .int 0]) := upd_same
      have hpp : p ≠ pa := fun e => z1.pool.some (e ▸ np)
      refine ⟨.ref pa, rfl, pa, 6, rfl, z2.pool, by decide, by decide, fun j H3 a3 b3 _ s3 p3 => ?_⟩
      have z3 := z2.stepS s3 p3
      obtain ⟨m, ⟨m0, m2⟩, hm⟩ := pickN (xs := [1, 1, 1, 2, 2, 0]) (P := fun x => 0 ≤ x ∧ x ≤ 2) a3 b3 (by decide)
      obtain ⟨mn, rfl⟩ := Int.eq_ofNat_of_zero_le m0
      refine ⟨p, _, j, .int (mn : Nat), rfl, rfl, SqL.of (s3.keep _ _ hpp ep), hm, _, _, rfl, rfl, ?_⟩
      obtain ⟨kd, hk⟩ := pick_kind k3 k9
      refine ⟨by show 6 ≤ sizeLine; decide, fun p4 np4 => ?_⟩
      have z4 := z3.loc (o := .lst [.str "row", .str "row", .str "row", .str "either", .str "either", .str "both"]) np4
      refine ⟨.int k, rfl, _, _, rfl, rfl, p4, _, _, .str (kindOf kd), rfl, rfl, SqL.of upd_same, hk, ?_⟩
      generalize upd H3 p4 (.lst [.str "row", .str "row", .str "row", .str "either", .str "either", .str "both"]) = H4 at z4 ⊢
      refine ⟨_, rfl, _, rfl, (by show -(2 ^ 62) ≤ 1 + (mn : Int); omega), (by show 1 + (mn : Int) < 2 ^ 62; omega), fun D nD => ?_⟩
      rw [show (1 + (mn : Int)).toNat = mn + 1 by omega]
      refine lc_draw (R := fun _ x => ∃ r, x = dR r ∧ (r.Ok l ∧ r.Pure ∧ r.dep ≤ e)) walkR (by rw [lenR]; omega) z4.ok nD (fun _ _ => trivial) (fun i x H5 G5 N hx hi z5 fin => ?_) (fun H5 G5 ds z5 dp5 _ hl hR => ?_)
      · refine ⟨rfl, .ref pa, rfl, _, rfl, _, rfl, _, _, rfl, rfl, ?_⟩
        exact sub1 z5.ok fun v H' G' r z dq ro pr de => fin v H' G' (dR r) z dq ⟨r, rfl, ro, pr, de⟩
      · obtain ⟨rs, rfl, lr, hr'⟩ := data_of hR
        rw [lenR] at hl
        rw [hl] at lr
        refine ⟨by show 2 ≤ sizeLine; decide, fun t nt => ?_⟩
        have z6 := z5.ok.fz.new (o := .tup [.str (kindOf kd), .ref D]) nt
        have sG := same_sub (o := .tup [.str (kindOf kd), .ref D]) (free_of z5.same nt)
        refine q _ _ _ (.lst kd rs) ((z4.trans z5).trans z6) ?_ ?_ ?_ ?_
        · rw [dR, dRs_map]
          exact .tup upd_same (.cons (.str _) (.cons (dp_up dp5 sG) .nil))
        · rw [Rl.Ok]
          exact ⟨(fun z => by rw [z] at lr; exact absurd lr (by show 0 ≠ mn + 1; omega)), (by omega), oks_of fun r h => (hr' r h).1⟩
        · exact pure_mk (fun _ z => nomatch z) fun s h => (hr' s h).2.1
        · rw [Rl.dep]
          exact Nat.succ_le_succ (deps_le fun r h => (hr' r h).2.2)
    · refine ⟨_, rfl, rfl, _, rfl, ite2 (fun _ => ?_) (fun _ => ?_)⟩
      · refine ⟨.ref pa, rfl, _, rfl, _, rfl, _, _, rfl, rfl, ?_⟩
        refine sub1 z1.ok fun v H2 G2 r z2 dv ro pr de => ⟨by show 2 ≤ sizeLine; decide, fun t nt => ?_⟩
        have z3 := z2.ok.fz.new (o := .tup [.str "not", v]) nt
        have sG := same_sub (o := .tup [.str "not", v]) (free_of z2.same nt)
        refine q _ _ _ (.nt r) ((z1.trans z2).trans z3) ?_ ?_ ?_ ?_
        · rw [dR]
          exact .tup upd_same (.cons (.str _) (.cons (dp_up dv sG) .nil))
        · rw [Rl.Ok]; exact ro
        · exact pure_mk (fun _ z => nomatch z) fun s h => by cases List.mem_singleton.mp h; exact pr
        · rw [Rl.dep]; exact Nat.succ_le_succ de
      · refine ⟨by show 5 ≤ sizeLine; decide, fun p np => ?_⟩
        have z2 := z1.loc (o := .lst [.int 0, .int 0, .int 1, .int 2, .int 3]) np
        have ep : upd H1 p (.lst [.int 0, .int 0, .int 1, .int 2, .int 3]) p = some (.lst [.int 0, .int 0, .int 1, .int 2, .int 3]) := upd_same
        have hpp : p ≠ pa := fun e => z1.pool.some (e ▸ np)
        refine ⟨.ref pa, rfl, pa, 5, rfl, z2.pool, by decide, by decide, fun j H3 a3 b3 _ s3 p3 => ?_⟩
        have z3 := z2.stepS s3 p3
        obtain ⟨m, ⟨m0, m2⟩, hm⟩ := pickN (xs := [0, 0, 1, 2, 3]) (P := fun x => 0 ≤ x ∧ x ≤ 3) a3 b3 (by decide)
        obtain ⟨lo, rfl⟩ := Int.eq_ofNat_of_zero_le m0
        refine ⟨p, _, j, .int (lo : Nat), rfl, rfl, SqL.of (s3.keep _ _ hpp ep), hm, ?_⟩
        refine ⟨.int (lo : Nat), rfl, .int (lo : Nat), rfl, _, _, rfl, rfl, .int (lo : Nat), rfl, _, _, rfl, rfl, by show 5 ≤ sizeLine; decide, fun p4 np4 => ?_⟩
        have z4 := z3.loc (o := .lst [.non, .non, .int (lo : Nat), .int ((lo : Nat) + 1), .int ((lo : Nat) + 2)]) np4
        have ep4 : upd H3 p4 (.lst [.non, .non, .int (lo : Nat), .int ((lo : Nat) + 1), .int ((lo : Nat) + 2)]) p4 = some (.lst [.non, .non, .int (lo : Nat), .int ((lo : Nat) + 1), .int ((lo : Nat) + 2)]) := upd_same
        have hpp4 : p4 ≠ pa := fun e => z3.pool.some (e ▸ np4)
        refine ⟨.ref pa, rfl, pa, 5, rfl, z4.pool, by decide, by decide, fun u H5 a5 b5 _ s5 p5 => ?_⟩
        have z5 := z4.stepS s5 p5
        obtain ⟨hi, hh, hm2⟩ := pick_hi (lo := lo) a5 b5
        refine ⟨p4, _, u, hiV hi, rfl, rfl, SqL.of (s5.keep _ _ hpp4 ep4), hm2, ?_⟩
        refine ⟨.ref pa, rfl, _, rfl, _, rfl, _, _, rfl, rfl, ?_⟩
        refine sub1 z5.ok fun v H6 G6 r z6 dv ro pr de => ⟨.int (lo : Nat), rfl, hiV hi, rfl, by show 4 ≤ sizeLine; decide, fun t nt => ?_⟩
        have z7 := z6.ok.fz.new (o := .tup [.str "times", v, .int (lo : Nat), hiV hi]) nt
        have sG := same_sub (o := .tup [.str "times", v, .int (lo : Nat), hiV hi]) (free_of z6.same nt)
        refine q _ _ _ (.times r lo hi) ((z5.trans z6).trans z7) ?_ ?_ ?_ ?_
        · rw [dR]
          exact .tup upd_same (.cons (.str _) (.cons (dp_up dv sG) (.cons (.int _) (.cons (hiV_d hi) .nil))))
        · rw [Rl.Ok]
          exact ⟨ro, (by omega), fun h e => ⟨(hh h e).1, by have := (hh h e).2; omega⟩⟩
        · exact pure_mk (fun _ z => nomatch z) fun s h => by cases List.mem_singleton.mp h; exact pr
        · rw [Rl.dep]; exact Nat.succ_le_succ de
theorem sc_law_turns : FnScope ["rule", "word", "places", "inside", "low", "high", "step", "more", "place"] ["rule", "word", "places"] (defScope s_law_turns) := ⟨rfl, rfl, rfl, by decide +kernel, rfl, by decide +kernel, by decide +kernel⟩
theorem ok_law_turns {f : Addr} {fd : FuncData} (F : Fun K "_law_turns" "_law_turns" s_law_turns f fd) (T : Bt K mg) {dd : Nat}  (D_law_behind : DefG P w K mg base CX0 (1 + 2 * dd) "_law_behind" ["rule", "word", "places"] (spBehind dd)) : FnG P w K mg base CX0 (1 + 2 * dd + 1) f fd ["rule", "word", "places"] (spTurns dd) := by
  refine FnG.calm F sc_law_turns (fun vs H Q E h => by first | (obtain ⟨_, rfl, _⟩ := h; rfl) | (obtain ⟨_, _, rfl, _⟩ := h; rfl) | (obtain ⟨_, _, _, rfl, _⟩ := h; rfl) | (obtain ⟨_, _, _, _, rfl, _⟩ := h; rfl) | (obtain ⟨_, _, _, _, _, rfl, _⟩ := h; rfl) | (obtain ⟨_, _, _, _, _, _, rfl, _⟩ := h; rfl) | (obtain ⟨_, _, _, _, _, _, _, rfl, _⟩ := h; rfl) | (obtain ⟨_, _, _, _, _, _, _, _, rfl, _⟩ := h; rfl) | (obtain ⟨_, _, _, _, _, _, _, _, _, rfl, _⟩ := h; rfl) | (obtain ⟨_, _, _, _, _, _, _, _, _, _, rfl, _⟩ := h; rfl) | (obtain ⟨_, _, _, _, _, _, _, _, _, _, _, rfl, _⟩ := h; rfl) | (obtain ⟨_, _, _, _, _, _, _, _, _, _, _, _, rfl, _⟩ := h; rfl)) (fun cd A out z H vs Q E hg hr h => ?_)
  have nd := sc_law_turns.nd
  replace hr : Room (1 + 2 * dd) _ := hr
  obtain ⟨r, hd, v, G, l, p, b, lo, hi, rfl, ro, pr, sm, dv, hp, q⟩ := h
  rw [Rl.Ok] at ro
  obtain ⟨ro, lo3, hh⟩ := ro
  refine ⟨_, (pss_cons (ps_par3 (i := 3) (j := 4) (l := 5) (by rfl) nd rfl rfl rfl (by decide) (by decide) (by decide) rfl rfl rfl (pa_cons (pe_ix (ixT K) (pv 0) pe_int (fun _ _ => rfl)) (pa_cons (pe_ix (ixT K) (pv 0) pe_int (fun _ _ => rfl)) (pa_cons (pe_ix (ixT K) (pv 0) pe_int (fun _ _ => rfl)) pa_nil))) (by rfl))
    (pss_cons (ps_for PassesOwn.never rfl (pi_range1 (by rfl) T.m_range (pa_cons (pv 4) pa_nil)) (pg_name (i := 6) nd rfl (by first | exact Or.inl rfl | exact Or.inr rfl))
    (pss_one (ps_set (i := 2) nd rfl (by first | exact Or.inl rfl | exact Or.inr rfl) (pe_fn D_law_behind hg (hr.mono (by first | decide | omega)) (pa_cons (pv 3) (pa_cons (pv 1) (pa_cons (pv 2) pa_nil)))))))
    (pss_cons (ps_for PassesOwn.never rfl (pi_range1 (by rfl) T.m_range (pa_cons (pe_ifExp (pt_cmpR op_isN (pv 5) pe_non (nomark _)) (pe_op op_add (pe_callB call_len_str (by rfl) T.m_len PySem.boot_len (pa_cons (pv 1) pa_nil)) pe_int) (pe_op op_sub (pv 5) (pv 4))) pa_nil)) (pg_name (i := 6) nd rfl (by first | exact Or.inl rfl | exact Or.inr rfl))
    (pss_cons (ps_set (i := 7) nd rfl (by first | exact Or.inl rfl | exact Or.inr rfl) (pe_op op_cat (pv 2) (pe_fn D_law_behind hg (hr.mono (by first | decide | omega)) (pa_cons (pv 3) (pa_cons (pv 1) (pa_cons (pv 2) pa_nil))))))
      (pss_cons (ps_set (i := 7) nd rfl (by first | exact Or.inl rfl | exact Or.inr rfl) (pe_lc (own := [("place", 8)]) (g := gName 8) rfl nd (pi_range1 (by rfl) T.m_range (pa_cons (pe_op op_add (pe_callB call_len_str (by rfl) T.m_len PySem.boot_len (pa_cons (pv 1) pa_nil)) pe_int) pa_nil)) (blkOk_by (by kernel_rfl)) (fun _ _ _ _ _ => (pg_name (i := 8) nd rfl (by first | exact Or.inl rfl | exact Or.inr rfl))) (fun _ _ _ _ _ => pts_one (pt_cmpR (inQ K) (pv 8) (pv 7) rfl)) (fun _ _ _ _ _ => (pv 8))))
      (pss_cons (ps_if (pt_cmpR (op_eqD hr.units) (pv 7) (pv 2) (nomark _)) (pss_one ps_break) pss_nil)
      (pss_one (ps_set (i := 2) nd rfl (by first | exact Or.inl rfl | exact Or.inr rfl) (pv 7)))))))
    (pss_one (ps_ret (pv 2)))))), ?_⟩
  obtain ⟨a, ws, rfl, ea, dws⟩ := dR_at dv
  obtain ⟨x, y, z, rfl, dx, dy, dz⟩ := dps_three dws
  cases dp_int dy
  cases hi_dq dz
  have eaH := sm _ _ ea
  refine ⟨.ref a, rfl, a, _, 1, x, rfl, rfl, SqT.of eaH, atI_nat (j := 1) rfl, .ref a, rfl, a, _, 2, .int (lo : Nat), rfl, rfl, SqT.of eaH, atI_nat (j := 2) rfl, .ref a, rfl, a, _, 3, hiV hi, rfl, rfl, SqT.of eaH, atI_nat (j := 3) rfl, _, _, _, rfl, ?_⟩
  refine ⟨_, rfl, _, rfl, (by omega), (by omega), ?_⟩
  refine for_range (lo := 0) (n := ((lo : Nat) : Int).toNat) (fun i σ H1 => ∃ (p1 : Addr) (y6 : Option V), σ = [some (.ref a), some (.str ""), some (.ref p1), some x, some (.int (lo : Nat)), some (hiV hi), y6, none, none] ∧ Step NoS H H1 ∧ (p1 = p ∨ H p1 = none) ∧ H1 p1 = some (.lst (plB (b && (decide (i = 0) || r.mbe)))))
    ⟨p, none, rfl, Step.refl _ _, .inl rfl, by rw [hp]; simp⟩ (fun i σ H1 hi hP => ?_) (fun σ H1 hP => ?_)
  · obtain ⟨p1, y6, rfl, s1, o1, hp1⟩ := hP
    refine ⟨x, rfl, .str "", rfl, .ref p1, rfl, r, hd, x, G, l, p1, _, rfl, ro, pr, sm.trans s1.same, dx, hp1, fun p2 H2 s2 o2 hp2 => ?_⟩
    refine ⟨p2, _, rfl, s1.trans s2, o2.elim (fun e => e ▸ o1) (fun n => .inr (s1.free n)), ?_⟩
    rw [hp2]
    congr 3
    cases b <;> cases r.mbe <;> simp
  · obtain ⟨p1, y6, rfl, s1, o1, hp1⟩ := hP
    rw [show ((lo : Nat) : Int).toNat = lo from rfl] at hp1
    generalize hc : (b && (decide (lo = 0) || r.mbe)) = c at hp1 q
    have cm : c = (c || (c && r.mbe)) := by cases c <;> rfl
    rcases hi with _ | h0
    · refine ⟨_, rfl, rfl, _, rfl, iteT ?_⟩
      refine ⟨.str "", rfl, "", rfl, (by decide), _, _, rfl, rfl, _, rfl, (by decide), (by decide), ?_⟩
      refine for_range (lo := 0) (fun i σ H2 => ∃ (y6 y7 y8 : Option V), σ = [some (.ref a), some (.str ""), some (.ref p1), some x, some (.int (lo : Nat)), some (hiV none), y6, y7, y8] ∧ Step NoS H H2 ∧ H2 p1 = some (.lst (plB c))) ⟨_, _, _, rfl, s1, hp1⟩ (fun i σ H2 hi hP => ?_) (fun σ H2 hP => ?_)
      · obtain ⟨y6, y7, y8, rfl, s2, hp2⟩ := hP
        have lc := plB_len c
        have lm := plB_len (c && r.mbe)
        refine ⟨.ref p1, rfl, x, rfl, .str "", rfl, .ref p1, rfl, r, hd, x, G, l, p1, c, rfl, ro, pr, sm.trans s2.same, dx, hp2, fun p3 H3 s3 _ hp3 => ⟨p1, p3, _, _, rfl, rfl, s3.same _ _ hp2, hp3, sz (by omega), fun p4 np4 => ?_⟩⟩
        have s4 := (s2.trans s3).trans (Step.new (o := .lst (plB c ++ plB (c && r.mbe))) np4)
        have hp14 := same_new (o := .lst (plB c ++ plB (c && r.mbe))) (Same.refl _) np4 _ _ (s3.same _ _ hp2)
        have hp4 : upd H3 p4 (.lst (plB c ++ plB (c && r.mbe))) p4 = some (.lst (plB c ++ plB (c && r.mbe))) := upd_same
        generalize upd H3 p4 (.lst (plB c ++ plB (c && r.mbe))) = H4 at s4 hp14 hp4 ⊢
        refine ⟨.str "", rfl, "", rfl, (by decide), _, _, rfl, rfl, _, rfl, (by decide), (by decide), fun D nD => ?_⟩
        refine lc_pick (items := rngI 0 1) walkR (by decide) nD (fun i => V.int (0 + (i : Nat))) (fun _ => c) (fun _ _ => trivial) (fun i y H5 N hi hl s5 yes no => ?_) (fun H5 s5 hD => ?_)
        · obtain ⟨h1, rfl⟩ := rngI_at hi
          obtain rfl : i = 0 := by omega
          refine ⟨rfl, .int 0, rfl, .ref p4, rfl, p4, _, rfl, .inl (SqL.of (s5.same _ _ hp4)), rfl, plB_flat _ _, _, rfl, ?_⟩
          rw [if_neg (by decide), plB_cat, ← cm]
          cases hcc : c with
          | true => exact iteT ⟨.int 0, rfl, yes hcc H5 (Step.refl _ _)⟩
          | false => exact iteF (no hcc H5 (Step.refl _ _))
        · rw [plB_pick] at hD
          refine ⟨.ref D, rfl, .ref p1, rfl, _, _, dp_of (plB_dq hD), dp_of (plB_dq (s5.same _ _ hp14)), shaped_at (at_ints _), shaped_at (at_ints _), _, rfl, ?_⟩
          rw [eqv_at (at_ints _)]
          exact iteT ⟨.ref p1, rfl, q p1 H5 (s4.trans s5) o1 (s5.same _ _ hp14)⟩
      · obtain ⟨y6, y7, y8, rfl, s2, hp2⟩ := hP
        exact ⟨.ref p1, rfl, q p1 H2 s2 o1 hp2⟩
    · refine ⟨_, rfl, rfl, _, rfl, iteF ?_⟩
      have h5 := hh h0 rfl
      refine ⟨_, rfl, _, rfl, _, _, rfl, rfl, _, rfl, (by omega), (by omega), ?_⟩
      refine for_range (lo := 0) (fun i σ H2 => ∃ (y6 y7 y8 : Option V), σ = [some (.ref a), some (.str ""), some (.ref p1), some x, some (.int (lo : Nat)), some (hiV (some h0)), y6, y7, y8] ∧ Step NoS H H2 ∧ H2 p1 = some (.lst (plB c))) ⟨_, _, _, rfl, s1, hp1⟩ (fun i σ H2 hi hP => ?_) (fun σ H2 hP => ?_)
      · obtain ⟨y6, y7, y8, rfl, s2, hp2⟩ := hP
        have lc := plB_len c
        have lm := plB_len (c && r.mbe)
        refine ⟨.ref p1, rfl, x, rfl, .str "", rfl, .ref p1, rfl, r, hd, x, G, l, p1, c, rfl, ro, pr, sm.trans s2.same, dx, hp2, fun p3 H3 s3 _ hp3 => ⟨p1, p3, _, _, rfl, rfl, s3.same _ _ hp2, hp3, sz (by omega), fun p4 np4 => ?_⟩⟩
        have s4 := (s2.trans s3).trans (Step.new (o := .lst (plB c ++ plB (c && r.mbe))) np4)
        have hp14 := same_new (o := .lst (plB c ++ plB (c && r.mbe))) (Same.refl _) np4 _ _ (s3.same _ _ hp2)
        have hp4 : upd H3 p4 (.lst (plB c ++ plB (c && r.mbe))) p4 = some (.lst (plB c ++ plB (c && r.mbe))) := upd_same
        generalize upd H3 p4 (.lst (plB c ++ plB (c && r.mbe))) = H4 at s4 hp14 hp4 ⊢
        refine ⟨.str "", rfl, "", rfl, (by decide), _, _, rfl, rfl, _, rfl, (by decide), (by decide), fun D nD => ?_⟩
        refine lc_pick (items := rngI 0 1) walkR (by decide) nD (fun i => V.int (0 + (i : Nat))) (fun _ => c) (fun _ _ => trivial) (fun i y H5 N hi hl s5 yes no => ?_) (fun H5 s5 hD => ?_)
        · obtain ⟨h1, rfl⟩ := rngI_at hi
          obtain rfl : i = 0 := by omega
          refine ⟨rfl, .int 0, rfl, .ref p4, rfl, p4, _, rfl, .inl (SqL.of (s5.same _ _ hp4)), rfl, plB_flat _ _, _, rfl, ?_⟩
          rw [if_neg (by decide), plB_cat, ← cm]
          cases hcc : c with
          | true => exact iteT ⟨.int 0, rfl, yes hcc H5 (Step.refl _ _)⟩
          | false => exact iteF (no hcc H5 (Step.refl _ _))
        · rw [plB_pick] at hD
          refine ⟨.ref D, rfl, .ref p1, rfl, _, _, dp_of (plB_dq hD), dp_of (plB_dq (s5.same _ _ hp14)), shaped_at (at_ints _), shaped_at (at_ints _), _, rfl, ?_⟩
          rw [eqv_at (at_ints _)]
          exact iteT ⟨.ref p1, rfl, q p1 H5 (s4.trans s5) o1 (s5.same _ _ hp14)⟩
      · obtain ⟨y6, y7, y8, rfl, s2, hp2⟩ := hP
        exact ⟨.ref p1, rfl, q p1 H2 s2 o1 hp2⟩
theorem sc_law_behind : FnScope ["rule", "word", "places", "kind", "place", "one", "found", "begin", "rows", "inside", "row"] ["rule", "word", "places"] (defScope s_law_behind) := ⟨rfl, rfl, rfl, by decide +kernel, rfl, by decide +kernel, by decide +kernel⟩
theorem ok_law_behind {f : Addr} {fd : FuncData} (F : Fun K "_law_behind" "_law_behind" s_law_behind f fd) (T : Bt K mg) {dd : Nat}  (D_law_behind : DefG P w K mg base CX0 (1 + 2 * dd) "_law_behind" ["rule", "word", "places"] (spBehind dd)) (D_law_turns : DefG P w K mg base CX0 (1 + 2 * dd + 1) "_law_turns" ["rule", "word", "places"] (spTurns dd)) : FnG P w K mg base CX0 (1 + 2 * (dd + 1)) f fd ["rule", "word", "places"] (spBehind (dd + 1)) := by
  refine FnG.calm F sc_law_behind (fun vs H Q E h => by first | (obtain ⟨_, rfl, _⟩ := h; rfl) | (obtain ⟨_, _, rfl, _⟩ := h; rfl) | (obtain ⟨_, _, _, rfl, _⟩ := h; rfl) | (obtain ⟨_, _, _, _, rfl, _⟩ := h; rfl) | (obtain ⟨_, _, _, _, _, rfl, _⟩ := h; rfl) | (obtain ⟨_, _, _, _, _, _, rfl, _⟩ := h; rfl) | (obtain ⟨_, _, _, _, _, _, _, rfl, _⟩ := h; rfl) | (obtain ⟨_, _, _, _, _, _, _, _, rfl, _⟩ := h; rfl) | (obtain ⟨_, _, _, _, _, _, _, _, _, rfl, _⟩ := h; rfl) | (obtain ⟨_, _, _, _, _, _, _, _, _, _, rfl, _⟩ := h; rfl) | (obtain ⟨_, _, _, _, _, _, _, _, _, _, _, rfl, _⟩ := h; rfl) | (obtain ⟨_, _, _, _, _, _, _, _, _, _, _, _, rfl, _⟩ := h; rfl)) (fun cd A out z H vs Q E hg hr h => ?_)
  have nd := sc_law_behind.nd
  replace hr : Room (1 + 2 * dd + 1) _ := hr
  obtain ⟨r, hd, v, G, l, p, b, rfl, ro, pr, sm, dv, hp, q⟩ := h
  refine ⟨_, (pss_cons (ps_set (i := 3) nd rfl (by first | exact Or.inl rfl | exact Or.inr rfl) (pe_ix (ixT K) (pv 0) pe_int (fun _ _ => rfl)))
    (pss_cons (ps_if (pt_cmpR op_eq (pv 3) pe_str (nomark _)) (pss_one (ps_ret (pe_lst pa_nil))) pss_nil)
    (pss_cons (ps_if (pt_cmpR op_eq (pv 3) pe_str (nomark _)) (pss_one (ps_ret (pv 2))) pss_nil)
    (pss_cons (ps_if (pt_cmpR op_eq (pv 3) pe_str (nomark _)) (pss_one (ps_ret (pe_lc (own := [("place", 4)]) (g := gName 4) rfl nd (piL K (pv 2)) (blkOk_by (by kernel_rfl)) (fun _ _ _ _ _ => (pg_name (i := 4) nd rfl (by first | exact Or.inl rfl | exact Or.inr rfl))) (fun _ _ _ _ _ => pts_one (PW.pt (pw_and (pt_cmpR op_lt (pv 4) (pe_callB call_len_str (by rfl) T.m_len PySem.boot_len (pa_cons (pv 1) pa_nil)) (nomark _)) (pw_and1 (pt_cmpR op_in_sign (pe_ix ix_str (pv 1) (pv 4) (fun _ _ => rfl)) (pe_ix (ixT K) (pv 0) pe_int (fun _ _ => rfl)) rfl))))) (fun _ _ _ _ _ => (pe_op op_add (pv 4) pe_int))))) pss_nil)
    (pss_cons (ps_if (pt_cmpR op_eq (pv 3) pe_str (nomark _)) (pss_cons (ps_for PassesOwn.never rfl (piL K (pe_ix (ixT K) (pv 0) pe_int (fun _ _ => rfl))) (pg_name (i := 5) nd rfl (by first | exact Or.inl rfl | exact Or.inr rfl))
      (pss_one (ps_set (i := 2) nd rfl (by first | exact Or.inl rfl | exact Or.inr rfl) (pe_fn D_law_behind hg (hr.mono (by first | decide | omega)) (pa_cons (pv 5) (pa_cons (pv 1) (pa_cons (pv 2) pa_nil)))))))
      (pss_one (ps_ret (pv 2)))) pss_nil)
    (pss_cons (ps_if (pt_cmpR op_eq (pv 3) pe_str (nomark _)) (pss_cons (ps_set (i := 6) nd rfl (by first | exact Or.inl rfl | exact Or.inr rfl) (pe_lst pa_nil))
      (pss_cons (ps_for PassesOwn.never rfl (piL K (pe_ix (ixT K) (pv 0) pe_int (fun _ _ => rfl))) (pg_name (i := 5) nd rfl (by first | exact Or.inl rfl | exact Or.inr rfl))
      (pss_one (ps_set (i := 6) nd rfl (by first | exact Or.inl rfl | exact Or.inr rfl) (pe_op op_cat (pv 6) (pe_fn D_law_behind hg (hr.mono (by first | decide | omega)) (pa_cons (pv 5) (pa_cons (pv 1) (pa_cons (pv 2) pa_nil))))))))
      (pss_one (ps_ret (pe_lc (own := [("place", 4)]) (g := gName 4) rfl nd (pi_range1 (by rfl) T.m_range (pa_cons (pe_op op_add (pe_callB call_len_str (by rfl) T.m_len PySem.boot_len (pa_cons (pv 1) pa_nil)) pe_int) pa_nil)) (blkOk_by (by kernel_rfl)) (fun _ _ _ _ _ => (pg_name (i := 4) nd rfl (by first | exact Or.inl rfl | exact Or.inr rfl))) (fun _ _ _ _ _ => pts_one (pt_cmpR (inQ K) (pv 4) (pv 6) rfl)) (fun _ _ _ _ _ => (pv 4))))))) pss_nil)
    (pss_cons (ps_if (pt_cmpR op_eq (pv 3) pe_str (nomark _)) (pss_one (ps_ret (pe_fn D_law_turns hg (hr.mono (by first | decide | omega)) (pa_cons (pv 0) (pa_cons (pv 1) (pa_cons (pv 2) pa_nil)))))) pss_nil)
    (pss_cons (ps_set (i := 6) nd rfl (by first | exact Or.inl rfl | exact Or.inr rfl) (pe_lst pa_nil))
    (pss_cons (ps_for PassesOwn.never rfl (piL K (pv 2)) (pg_name (i := 7) nd rfl (by first | exact Or.inl rfl | exact Or.inr rfl))
    (pss_cons (ps_setLc (i := 8) (own := [("one", 5)]) (tt := tYes) (g := gName 5) rfl nd rfl rfl (sw_true rfl rfl rfl (by decide +kernel)) (piL K (pe_ifExp (pt_cmpR op_eq (pv 3) pe_str (nomark _)) (pe_lst (pa_cons (pe_ix (ixT K) (pv 0) pe_int (fun _ _ => rfl)) pa_nil)) (pe_ix (ixT K) (pv 0) pe_int (fun _ _ => rfl)))) (blkOk_by (by kernel_rfl)) (fun _ _ _ _ _ => (pg_name (i := 5) nd rfl (by first | exact Or.inl rfl | exact Or.inr rfl))) (fun _ _ _ _ _ => pts_nil) (fun _ _ _ _ _ => (pe_fn D_law_behind hg (hr.mono (by first | decide | omega)) (pa_cons (pv 5) (pa_cons (pv 1) (pa_cons (pe_lst (pa_cons (pv 7) pa_nil)) pa_nil))))))
      (pss_one (ps_for PassesOwn.never rfl (pi_range2 (by rfl) T.m_range (pa_cons (pv 7) (pa_cons (pe_op op_add (pe_callB call_len_str (by rfl) T.m_len PySem.boot_len (pa_cons (pv 1) pa_nil)) pe_int) pa_nil))) (pg_name (i := 4) nd rfl (by first | exact Or.inl rfl | exact Or.inr rfl))
      (pss_cons (ps_setLc (i := 9) (own := [("row", 10)]) (tt := tYes) (g := gName 10) rfl nd rfl rfl (sw_true rfl rfl rfl (by decide +kernel)) (piL K (pv 8)) (blkOk_by (by kernel_rfl)) (fun _ _ _ _ _ => (pg_name (i := 10) nd rfl (by first | exact Or.inl rfl | exact Or.inr rfl))) (fun _ _ _ _ _ => pts_nil) (fun _ _ _ _ _ => (pe_cmpR (inQ K) (pv 4) (pv 10) rfl)))
        (pss_one (ps_if (pt_cmpR op_ne (pe_callB (allQ K rfl) (by rfl) T.m_all (by decide +kernel) (pa_cons (pv 9) pa_nil)) (pe_cmpR op_eq (pv 3) pe_str (nomark _)) (nomark _)) (pss_one (ps_expr (pe_bm PySem.F.plainAttrs_list PySem.F.slot_list_append PySem.F.type_list_append mt_append (pv 6) (pa_cons (pv 4) pa_nil)))) pss_nil)))))))
    (pss_one (ps_ret (pe_lc (own := [("place", 4)]) (g := gName 4) rfl nd (pi_range1 (by rfl) T.m_range (pa_cons (pe_op op_add (pe_callB call_len_str (by rfl) T.m_len PySem.boot_len (pa_cons (pv 1) pa_nil)) pe_int) pa_nil)) (blkOk_by (by kernel_rfl)) (fun _ _ _ _ _ => (pg_name (i := 4) nd rfl (by first | exact Or.inl rfl | exact Or.inr rfl))) (fun _ _ _ _ _ => pts_one (pt_cmpR (inQ K) (pv 4) (pv 6) rfl)) (fun _ _ _ _ _ => (pv 4)))))))))))))), ?_⟩
  obtain ⟨a, ws, rfl, ea, dws⟩ := dR_at dv
  have eaH := sm _ _ ea
  refine ⟨.ref a, rfl, a, _, 0, .str r.tag, rfl, rfl, SqT.of eaH, atI_nat (j := 0) rfl, ?_⟩
  cases r with
  | name x => exact (pure_ne pr).elim
  | none =>
    refine ⟨_, rfl, rfl, _, rfl, ite2 (fun _ => ?_) (fun h => absurd (decide_eq_true rfl) h)⟩
    exact ⟨Nat.zero_le _, fun p' np => q p' _ (Step.new np) (.inr np) (by rw [Rl.mbe, Bool.and_false]; exact upd_same)⟩
  | empty =>
    refine ⟨_, rfl, rfl, _, rfl, ite2 (fun h => absurd h (show ¬ decide (V.str "empty" = V.str "none") = true by decide +kernel)) (fun _ => ?_)⟩
    refine ⟨_, rfl, rfl, _, rfl, ite2 (fun _ => ?_) (fun h => absurd (decide_eq_true rfl) h)⟩
    exact ⟨.ref p, rfl, q p H (Step.refl _ _) (.inl rfl) (by rw [Rl.mbe, Bool.and_true]; exact hp)⟩
  | one w =>
    refine ⟨_, rfl, rfl, _, rfl, ite2 (fun h => absurd h (show ¬ decide (V.str "one" = V.str "none") = true by decide +kernel)) (fun _ => ?_)⟩
    refine ⟨_, rfl, rfl, _, rfl, ite2 (fun h => absurd h (show ¬ decide (V.str "one" = V.str "empty") = true by decide +kernel)) (fun _ => ?_)⟩
    refine ⟨_, rfl, rfl, _, rfl, ite2 (fun _ => ?_) (fun h => absurd (decide_eq_true rfl) h)⟩
    refine ⟨.ref p, rfl, p, rfl, ⟨_, SqL.of hp⟩, fun D nD => ?_⟩
    refine lc_pick (walk_list (xs := plB b)) (by have := plB_len b; omega) nD (fun _ => V.non) (fun _ => false) (fun H s => SqL.of (s.same _ _ hp)) (fun i x H2 N hi hl s2 yes no => ?_) (fun H2 s2 hD => ?_)
    · obtain ⟨rfl, rfl, rfl⟩ := plB_at hi
      refine ⟨rfl, .int 0, rfl, .str "", rfl, "", rfl, (by decide), _, _, rfl, rfl, _, rfl, ite2 (fun h => absurd h (by decide)) (fun _ => iteF (no rfl H2 (Step.refl _ _)))⟩
    · refine q D H2 s2 (.inr nD) ?_
      rw [hD, Rl.mbe, Bool.and_false, List.filter_eq_nil_iff.mpr (fun _ _ => Bool.false_ne_true)]
      rfl
  | times s lo hi =>
    refine ⟨_, rfl, rfl, _, rfl, ite2 (fun h => absurd h (show ¬ decide (V.str "times" = V.str "none") = true by decide +kernel)) (fun _ => ?_)⟩
    refine ⟨_, rfl, rfl, _, rfl, ite2 (fun h => absurd h (show ¬ decide (V.str "times" = V.str "empty") = true by decide +kernel)) (fun _ => ?_)⟩
    refine ⟨_, rfl, rfl, _, rfl, ite2 (fun h => absurd h (show ¬ decide (V.str "times" = V.str "one") = true by decide +kernel)) (fun _ => ?_)⟩
    refine ⟨_, rfl, rfl, _, rfl, ite2 (fun h => absurd h (show ¬ decide (V.str "times" = V.str "row") = true by decide +kernel)) (fun _ => ?_)⟩
    refine ⟨_, rfl, rfl, _, rfl, ite2 (fun h => absurd h (show ¬ decide (V.str "times" = V.str "either") = true by decide +kernel)) (fun _ => ?_)⟩
    refine ⟨_, rfl, rfl, _, rfl, ite2 (fun _ => ?_) (fun h => absurd (decide_eq_true rfl) h)⟩
    have lt : s.dep < dd := by rw [Rl.dep] at hd; omega
    exact ⟨.ref a, rfl, .str "", rfl, .ref p, rfl, s, lt, .ref a, G, l, p, b, lo, hi, rfl, ro, pure_sub pr (List.mem_singleton.mpr rfl), sm, dv, hp, fun p' H' s' o' h' => q p' H' s' o' (by rw [Rl.mbe]; exact h')⟩
  | nt s =>
    refine ⟨_, rfl, rfl, _, rfl, ite2 (fun h => absurd h (show ¬ decide (V.str "not" = V.str "none") = true by decide +kernel)) (fun _ => ?_)⟩
    refine ⟨_, rfl, rfl, _, rfl, ite2 (fun h => absurd h (show ¬ decide (V.str "not" = V.str "empty") = true by decide +kernel)) (fun _ => ?_)⟩
    refine ⟨_, rfl, rfl, _, rfl, ite2 (fun h => absurd h (show ¬ decide (V.str "not" = V.str "one") = true by decide +kernel)) (fun _ => ?_)⟩
    refine ⟨_, rfl, rfl, _, rfl, ite2 (fun h => absurd h (show ¬ decide (V.str "not" = V.str "row") = true by decide +kernel)) (fun _ => ?_)⟩
    refine ⟨_, rfl, rfl, _, rfl, ite2 (fun h => absurd h (show ¬ decide (V.str "not" = V.str "either") = true by decide +kernel)) (fun _ => ?_)⟩
    refine ⟨_, rfl, rfl, _, rfl, ite2 (fun h => absurd h (show ¬ decide (V.str "not" = V.str "times") = true by decide +kernel)) (fun _ => ?_)⟩
    obtain ⟨x, rfl, dx⟩ := dps_one dws
    obtain ⟨cnd, hc⟩ : ∃ c, c = !s.mbe := ⟨_, rfl⟩
    have hcnd : (!decide (V.bl ((([s] : List Rl).map Rl.mbe).all id) = V.bl (decide (V.str "not" = V.str "not")))) = cnd := by
      rw [hc, decide_eq_true (rfl : V.str "not" = V.str "not")]
      show (!decide (V.bl (s.mbe && true) = V.bl true)) = !s.mbe
      cases s.mbe <;> rfl
    have q : ∀ (p' : Addr) (H' : Hp), Step NoS H H' → (p' = p ∨ H p' = none) → H' p' = some (.lst (plB (b && cnd))) → Q (.ref p') H' := fun p' H' s' o' h' => q p' H' s' o' (by rw [Rl.mbe, ← hc]; exact h')
    have dys : DqAll G [x] (dRs [s]) := by rw [dRs_map]; exact .cons dx .nil
    have lys : ([x] : List V).length = ([s] : List Rl).length := rfl
    have l3 : ([s] : List Rl).length ≤ 3 := (by decide : 1 ≤ 3)
    have ltd : ∀ u ∈ [s], u.dep < dd := fun u hu => by have := subs_dep (r := .nt s) hu; omega
    have oks : ∀ u ∈ [s], u.Ok l := fun u hu => subs_ok (r := .nt s) ro hu
    have prs : ∀ u ∈ [s], u.Pure := fun u hu => pure_sub (r := .nt s) pr hu
    refine ⟨Nat.zero_le _, fun p6 np6 => ?_⟩
    have e6 : upd H p6 (.lst []) p6 = some (.lst []) := upd_same
    have s6 : Step NoS H (upd H p6 (.lst [])) := Step.new np6
    generalize upd H p6 (.lst []) = H0 at e6 s6 ⊢
    refine ⟨.ref p, rfl, p, rfl, ⟨_, SqL.of (s6.same _ _ hp)⟩, ?_⟩
    refine for_it (walk_list (xs := plB b)) (fun i σ H1 => ∃ (y4 y5 y7 y8 y9 y10 : Option V), σ = [some (.ref a), some (.str ""), some (.ref p), some (.str "not"), y4, y5, some (.ref p6), y7, y8, y9, y10] ∧ Step NoS H H1 ∧ H1 p6 = some (.lst (plB (decide (0 < i) && cnd)))) ⟨none, none, none, none, none, none, rfl, s6, by rw [e6]; rfl⟩ (fun i σ H1 _ hP => ?_) (fun i x1 σ H1 H1' hi hP hy => ?_) (fun σ H1 hP => ?_)
    · obtain ⟨y4, y5, y7, y8, y9, y10, rfl, s1, h6⟩ := hP
      exact SqL.of (s1.same _ _ hp)
    · obtain ⟨rfl, hx⟩ := hy
      obtain ⟨y4, y5, y7, y8, y9, y10, rfl, s1, h6⟩ := hP
      obtain ⟨hb, rfl, rfl⟩ := plB_at hx
      refine ⟨_, rfl, rfl, _, rfl, iteT ⟨.ref a, rfl, a, _, 1, x, rfl, rfl, SqT.of (s1.same _ _ eaH), atI_nat (j := 1) rfl, (by show 1 ≤ sizeLine; decide), fun bb nbb => ⟨bb, rfl, ⟨_, SqL.of upd_same⟩, fun D nD => ?_⟩⟩⟩
      have s2 : Step NoS H (upd H1' bb (.lst [x])) := s1.trans (Step.new nbb)
      have hib : upd H1' bb (.lst [x]) bb = some (.lst [x]) := upd_same
      have h62 := same_new (o := .lst [x]) (Same.refl _) nbb _ _ h6
      generalize upd H1' bb (.lst [x]) = H2 at s2 hib h62 nD ⊢
      refine lc_it (walk_list (xs := [x])) (fun j Hc => Step NoS H2 Hc ∧ ∃ rf : List Addr, Hc D = some (.lst (rf.map V.ref)) ∧ rf.length = j ∧ ∀ (t : Nat) (x : Addr) (uu : Rl), rf[t]? = some x → ([s])[t]? = some uu → x ≠ D ∧ Hc x = some (.lst (plB uu.mbe))) ⟨(Step.refl _ _).own nD, [], upd_same, rfl, fun t x s h => by simp at h⟩ (fun j Hc _ e => SqL.of (e.1.same _ _ hib)) (fun j y Hc Hc' hj e hy => ?_) (fun Hc e => ?_)
      · obtain ⟨rfl, hx2⟩ := hy
        obtain ⟨sc, rf, hD, lrf, hrf⟩ := e
        obtain ⟨s, hs, ms, ds⟩ := dps_at dys hx2
        refine ⟨rfl, y, rfl, .str "", rfl, .int 0, rfl, (by show 1 ≤ sizeLine; decide), fun p8 np8 => ?_⟩
        have s8 : Step NoS Hc' (upd Hc' p8 (.lst [.int 0])) := Step.new np8
        refine ⟨s, ltd s ms, y, G, l, p8, true, rfl, oks s ms, prs s ms, sm.trans (s2.same.trans (sc.same.trans s8.same)), ds, upd_same, fun p9 H9 s9 o9 h9 => ?_⟩
        have hD9 := s9.same _ _ (s8.same _ _ hD)
        have n9 : p9 ≠ D := fun e => by
          rcases o9 with o9 | o9
          · rw [← o9, e, hD] at np8; cases np8
          · rw [e, s8.same _ _ hD] at o9; cases o9
        refine ⟨_, hD9, szl (by rw [List.length_map, lrf]; omega), (sc.trans (s8.trans s9)).own nD, rf ++ [p9], ?_, ?_, fun t x u ht hu => ?_⟩
        · rw [upd_same, List.map_append]; rfl
        · rw [List.length_append, lrf]; rfl
        · by_cases htl : t < rf.length
          · rw [List.getElem?_append_left htl] at ht
            obtain ⟨nx, hx3⟩ := hrf t x u ht hu
            exact ⟨nx, by rw [upd_ne nx]; exact s9.same _ _ (s8.same _ _ hx3)⟩
          · rw [List.getElem?_append_right (by omega)] at ht
            have h0 : t - rf.length = 0 := by
              cases h : t - rf.length with
              | zero => rfl
              | succ m => rw [h] at ht; simp at ht
            rw [h0] at ht
            cases ht
            have htj : t = j := by omega
            subst htj
            rw [hs] at hu
            cases hu
            exact ⟨n9, by rw [upd_ne n9]; exact h9⟩
      · obtain ⟨sc, rf, hD, lrf, hrf⟩ := e
        have lrs : rf.length = ([s]).length := lrf.trans lys
        refine ⟨.int 0, rfl, .str "", rfl, "", rfl, (by decide), _, _, rfl, rfl, 0, _, rfl, ⟨by decide, by decide, by decide, by decide⟩, ?_⟩
        refine for_range (lo := 0) (n := 1) (fun j σ H3 => ∃ (y4 y5 y9 y10 : Option V), σ = [some (.ref a), some (.str ""), some (.ref p), some (.str "not"), y4, y5, some (.ref p6), some (.int 0), some (.ref D), y9, y10] ∧ Step NoS H H3 ∧ (j = 0 → Same Hc H3) ∧ H3 p6 = some (.lst (plB (decide (0 < j) && cnd)))) ⟨_, _, _, _, rfl, s2.trans sc, fun _ => Same.refl _, sc.same _ _ h62⟩ (fun j σ H3 hj hP => ?_) (fun σ H3 hP => ?_)
        · obtain ⟨y4, y5, y9, y10, rfl, s3, sm3, h63⟩ := hP
          obtain rfl : j = 0 := by omega
          have sm3 := sm3 rfl
          refine ⟨.ref D, rfl, D, rfl, ⟨_, SqL.of (sm3 _ _ hD)⟩, fun D4 nD4 => ?_⟩
          refine lc_pick (walk_list (xs := rf.map V.ref)) (by rw [List.length_map]; omega) nD4 (fun t => V.bl ((([s]).map Rl.mbe).getD t false)) (fun _ => true) (fun H s => SqL.of (s.same _ _ (sm3 _ _ hD))) (fun t y H5 N ht hl s5 yes no => ?_) (fun H5 s5 hD4 => ?_)
          · rw [List.getElem?_map] at ht
            cases e : rf[t]? with
            | none => rw [e] at ht; cases ht
            | some z =>
              rw [e] at ht
              cases ht
              have htl : t < rf.length := by
                rw [List.length_map] at hl; exact hl
              obtain ⟨u, hu⟩ : ∃ u, ([s])[t]? = some u := ⟨_, List.getElem?_eq_getElem (by omega)⟩
              obtain ⟨_, hz⟩ := hrf t z u e hu
              have ef : (if false = true then !inV (.int 0) (plB u.mbe) else inV (.int 0) (plB u.mbe)) = (([s]).map Rl.mbe).getD t false := by
                rw [if_neg (by decide), plB_in, List.getD_eq_getElem?_getD, List.getElem?_map, hu]; rfl
              have yy := yes rfl H5 (Step.refl _ _)
              rw [← ef] at yy
              exact ⟨rfl, .int 0, rfl, .ref z, rfl, z, _, rfl, .inl (SqL.of (s5.same _ _ (sm3 _ _ hz))), rfl, plB_flat1 _, yy⟩
          · have hD5 : H5 D4 = some (.lst ((([s]).map Rl.mbe).map V.bl)) := by
              rw [hD4, filter_all, List.length_map, lrs, ← List.length_map (f := Rl.mbe) (as := [s])]
              have h := range_getD (([s]).map Rl.mbe) false
              conv => rhs; rw [← h, List.map_map]
              rfl
            have h65 := s5.same _ _ h63
            refine ⟨.ref D4, rfl, D4, _, rfl, SqL.of hD5, .str "not", rfl, rfl, rfl, _, rfl, ?_⟩
            rw [hcnd]
            cases hcc : cnd with
            | true =>
              rw [hcc] at h65
              exact iteT ⟨.ref p6, rfl, .inl ⟨rfl, _, SqL.of h65⟩, .int 0, rfl, p6, _, _, rfl, rfl, h65, (by show 0 < sizeLine; decide), _, _, _, _, rfl, (s3.trans s5).own np6, (fun z => nomatch z), by rw [upd_same]; rfl⟩
            | false =>
              rw [hcc] at h65
              exact iteF ⟨_, _, _, _, rfl, s3.trans s5, (fun z => nomatch z), h65⟩
        · obtain ⟨y4, y5, y9, y10, rfl, s3, _, h63⟩ := hP
          exact ⟨_, _, _, _, _, _, rfl, s3, h63⟩
    · obtain ⟨y4, y5, y7, y8, y9, y10, rfl, s1, h6⟩ := hP
      rw [plB_pos] at h6
      refine ⟨.str "", rfl, "", rfl, (by decide), _, _, rfl, rfl, _, rfl, (by decide), (by decide), fun D nD => ?_⟩
      refine lc_pick (items := rngI 0 1) walkR (by decide) nD (fun i => V.int (0 + (i : Nat))) (fun _ => (b && cnd)) (fun _ _ => trivial) (fun i y H5 N hi hl s5 yes no => ?_) (fun H5 s5 hD => ?_)
      · obtain ⟨h1, rfl⟩ := rngI_at hi
        obtain rfl : i = 0 := by omega
        refine ⟨rfl, .int 0, rfl, .ref p6, rfl, p6, _, rfl, .inl (SqL.of (s5.same _ _ h6)), rfl, plB_flat1 _, _, rfl, ?_⟩
        rw [if_neg (by decide), plB_in]
        cases hcc : (b && cnd) with
        | true => exact iteT ⟨.int 0, rfl, yes hcc H5 (Step.refl _ _)⟩
        | false => exact iteF (no hcc H5 (Step.refl _ _))
      · rw [plB_pick] at hD
        exact q D H5 (s1.trans s5) (.inr (s1.free nD)) hD
  | lst k rs =>
    obtain ⟨x, rfl, dx⟩ := dps_one dws
    obtain ⟨bb, ys, rfl, ebb, dys⟩ := dp_list dx
    have lys := dps_len' dys
    have l3 : rs.length ≤ 3 := subs_len ro
    have q : ∀ (p' : Addr) (H' : Hp), Step NoS H H' → (p' = p ∨ H p' = none) → H' p' = some (.lst (plB (b && (if k = 1 then (Rl.mbes rs).any id else (Rl.mbes rs).all id)))) → Q (.ref p') H' := fun p' H' s' o' h' => q p' H' s' o' (by rw [Rl.mbe]; exact h')
    have ltd : ∀ s ∈ rs, s.dep < dd := fun s hs => by have := subs_dep (r := .lst k rs) hs; omega
    have oks : ∀ s ∈ rs, s.Ok l := fun s hs => subs_ok (r := .lst k rs) ro hs
    have prs : ∀ s ∈ rs, s.Pure := fun s hs => pure_sub (r := .lst k rs) pr hs
    match k, eaH, q with
    | 0, eaH, q =>
      refine ⟨_, rfl, rfl, _, rfl, ite2 (fun h => absurd h (show ¬ decide (V.str "row" = V.str "none") = true by decide +kernel)) (fun _ => ?_)⟩
      refine ⟨_, rfl, rfl, _, rfl, ite2 (fun h => absurd h (show ¬ decide (V.str "row" = V.str "empty") = true by decide +kernel)) (fun _ => ?_)⟩
      refine ⟨_, rfl, rfl, _, rfl, ite2 (fun h => absurd h (show ¬ decide (V.str "row" = V.str "one") = true by decide +kernel)) (fun _ => ?_)⟩
      refine ⟨_, rfl, rfl, _, rfl, ite2 (fun _ => ?_) (fun h => absurd (decide_eq_true rfl) h)⟩
      refine ⟨.ref a, rfl, a, _, 1, .ref bb, rfl, rfl, SqT.of eaH, atI_nat (j := 1) rfl, bb, rfl, ⟨_, SqL.of (sm _ _ ebb)⟩, ?_⟩
      refine for_it (walk_list (xs := ys)) (fun i σ H1 => ∃ (p1 : Addr) (y5 : Option V), σ = [some (.ref a), some (.str ""), some (.ref p1), some (.str "row"), none, y5, none, none, none, none, none] ∧ Step NoS H H1 ∧ (p1 = p ∨ H p1 = none) ∧ H1 p1 = some (.lst (plB (b && (Rl.mbes (rs.take i)).all id))))
        ⟨p, none, rfl, Step.refl _ _, .inl rfl, by rw [hp, List.take_zero, Rl.mbes, List.all_nil, Bool.and_true]⟩ (fun i σ H1 _ hP => ?_) (fun i x σ H1 H1' hi hP hy => ?_) (fun σ H1 hP => ?_)
      · obtain ⟨p1, y5, rfl, s1, _⟩ := hP
        exact SqL.of (s1.same _ _ (sm _ _ ebb))
      · obtain ⟨rfl, hx⟩ := hy
        obtain ⟨p1, y5, rfl, s1, o1, hp1⟩ := hP
        obtain ⟨s, hs, ms, ds⟩ := dps_at dys hx
        refine ⟨x, rfl, .str "", rfl, .ref p1, rfl, s, ltd s ms, x, G, l, p1, _, rfl, oks s ms, prs s ms, sm.trans s1.same, ds, hp1, fun p2 H2 s2 o2 hp2 => ?_⟩
        refine ⟨p2, _, rfl, s1.trans s2, o2.elim (fun e => e ▸ o1) (fun n => .inr (s1.free n)), ?_⟩
        rw [hp2, mbes_take hs, List.all_append, Bool.and_assoc]
        simp
      · obtain ⟨p1, y5, rfl, s1, o1, hp1⟩ := hP
        rw [lys, List.take_length] at hp1
        exact ⟨.ref p1, rfl, q p1 H1 s1 o1 hp1⟩
    | 1, eaH, q =>
      refine ⟨_, rfl, rfl, _, rfl, ite2 (fun h => absurd h (show ¬ decide (V.str "either" = V.str "none") = true by decide +kernel)) (fun _ => ?_)⟩
      refine ⟨_, rfl, rfl, _, rfl, ite2 (fun h => absurd h (show ¬ decide (V.str "either" = V.str "empty") = true by decide +kernel)) (fun _ => ?_)⟩
      refine ⟨_, rfl, rfl, _, rfl, ite2 (fun h => absurd h (show ¬ decide (V.str "either" = V.str "one") = true by decide +kernel)) (fun _ => ?_)⟩
      refine ⟨_, rfl, rfl, _, rfl, ite2 (fun h => absurd h (show ¬ decide (V.str "either" = V.str "row") = true by decide +kernel)) (fun _ => ?_)⟩
      refine ⟨_, rfl, rfl, _, rfl, ite2 (fun _ => ?_) (fun h => absurd (decide_eq_true rfl) h)⟩
      refine ⟨Nat.zero_le _, fun p6 np6 => ?_⟩
      have e6 : upd H p6 (.lst []) p6 = some (.lst []) := upd_same
      have s6 : Step NoS H (upd H p6 (.lst [])) := Step.new np6
      generalize upd H p6 (.lst []) = H0 at e6 s6 ⊢
      refine ⟨.ref a, rfl, a, _, 1, .ref bb, rfl, rfl, SqT.of (s6.same _ _ eaH), atI_nat (j := 1) rfl, bb, rfl, ⟨_, SqL.of (s6.same _ _ (sm _ _ ebb))⟩, ?_⟩
      refine for_it (walk_list (xs := ys)) (fun i σ H1 => ∃ (p1 : Addr) (us : List V) (y5 : Option V), σ = [some (.ref a), some (.str ""), some (.ref p), some (.str "either"), none, y5, some (.ref p1), none, none, none, none] ∧ Step NoS H H1 ∧ H1 p1 = some (.lst us) ∧ us.length ≤ i ∧ us.all flatV = true ∧ inV (.int 0) us = (b && (Rl.mbes (rs.take i)).any id))
        ⟨p6, [], none, rfl, s6, e6, Nat.le_refl _, rfl, by rw [List.take_zero, Rl.mbes, List.any_nil, Bool.and_false]; rfl⟩ (fun i σ H1 _ hP => ?_) (fun i x σ H1 H1' hi hP hy => ?_) (fun σ H1 hP => ?_)
      · obtain ⟨p1, us, y5, rfl, s1, _⟩ := hP
        exact SqL.of (s1.same _ _ (sm _ _ ebb))
      · obtain ⟨rfl, hx⟩ := hy
        obtain ⟨p1, us, y5, rfl, s1, hp1, lu, fu, iu⟩ := hP
        obtain ⟨s, hs, ms, ds⟩ := dps_at dys hx
        have lm := plB_len (b && s.mbe)
        refine ⟨.ref p1, rfl, x, rfl, .str "", rfl, .ref p, rfl, s, ltd s ms, x, G, l, p, b, rfl, oks s ms, prs s ms, sm.trans s1.same, ds, s1.same _ _ hp, fun p2 H2 s2 o2 hp2 => ⟨p1, p2, _, _, rfl, rfl, s2.same _ _ hp1, hp2, sz (by omega), fun p3 np3 => ?_⟩⟩
        refine ⟨p3, us ++ plB (b && s.mbe), _, rfl, (s1.trans s2).trans (Step.new np3), upd_same, ?_, ?_, ?_⟩
        · rw [List.length_append]; omega
        · rw [List.all_append, fu, plB_flat1]; rfl
        · rw [inV_app, iu, plB_in, mbes_take hs, List.any_append]
          cases b <;> simp
      · obtain ⟨p1, us, y5, rfl, s1, hp1, lu, fu, iu⟩ := hP
        rw [lys, List.take_length] at iu
        refine ⟨.str "", rfl, "", rfl, (by decide), _, _, rfl, rfl, _, rfl, (by decide), (by decide), fun D nD => ?_⟩
        refine lc_pick (items := rngI 0 1) walkR (by decide) nD (fun i => V.int (0 + (i : Nat))) (fun _ => (b && (Rl.mbes rs).any id)) (fun _ _ => trivial) (fun i y H5 N hi hl s5 yes no => ?_) (fun H5 s5 hD => ?_)
        · obtain ⟨h1, rfl⟩ := rngI_at hi
          obtain rfl : i = 0 := by omega
          refine ⟨rfl, .int 0, rfl, .ref p1, rfl, p1, _, rfl, .inl (SqL.of (s5.same _ _ hp1)), rfl, fu, _, rfl, ?_⟩
          rw [if_neg (by decide), iu]
          cases hcc : (b && (Rl.mbes rs).any id) with
          | true => exact iteT ⟨.int 0, rfl, yes hcc H5 (Step.refl _ _)⟩
          | false => exact iteF (no hcc H5 (Step.refl _ _))
        · rw [plB_pick] at hD
          exact q D H5 (s1.trans s5) (.inr (s1.free nD)) hD
    | 2, eaH, q =>
      refine ⟨_, rfl, rfl, _, rfl, ite2 (fun h => absurd h (show ¬ decide (V.str "both" = V.str "none") = true by decide +kernel)) (fun _ => ?_)⟩
      refine ⟨_, rfl, rfl, _, rfl, ite2 (fun h => absurd h (show ¬ decide (V.str "both" = V.str "empty") = true by decide +kernel)) (fun _ => ?_)⟩
      refine ⟨_, rfl, rfl, _, rfl, ite2 (fun h => absurd h (show ¬ decide (V.str "both" = V.str "one") = true by decide +kernel)) (fun _ => ?_)⟩
      refine ⟨_, rfl, rfl, _, rfl, ite2 (fun h => absurd h (show ¬ decide (V.str "both" = V.str "row") = true by decide +kernel)) (fun _ => ?_)⟩
      refine ⟨_, rfl, rfl, _, rfl, ite2 (fun h => absurd h (show ¬ decide (V.str "both" = V.str "either") = true by decide +kernel)) (fun _ => ?_)⟩
      refine ⟨_, rfl, rfl, _, rfl, ite2 (fun h => absurd h (show ¬ decide (V.str "both" = V.str "times") = true by decide +kernel)) (fun _ => ?_)⟩
      obtain ⟨cnd, hc⟩ : ∃ c, c = (Rl.mbes rs).all id := ⟨_, rfl⟩
      have hcnd : (!decide (V.bl ((rs.map Rl.mbe).all id) = V.bl (decide (V.str "both" = V.str "not")))) = cnd := by
        rw [hc, mbes_map, show decide (V.str "both" = V.str "not") = false by decide +kernel]
        cases (rs.map Rl.mbe).all id <;> rfl
      have q : ∀ (p' : Addr) (H' : Hp), Step NoS H H' → (p' = p ∨ H p' = none) → H' p' = some (.lst (plB (b && cnd))) → Q (.ref p') H' := fun p' H' s' o' h' => q p' H' s' o' (by rw [hc] at h'; exact h')
      refine ⟨Nat.zero_le _, fun p6 np6 => ?_⟩
      have e6 : upd H p6 (.lst []) p6 = some (.lst []) := upd_same
      have s6 : Step NoS H (upd H p6 (.lst [])) := Step.new np6
      generalize upd H p6 (.lst []) = H0 at e6 s6 ⊢
      refine ⟨.ref p, rfl, p, rfl, ⟨_, SqL.of (s6.same _ _ hp)⟩, ?_⟩
      refine for_it (walk_list (xs := plB b)) (fun i σ H1 => ∃ (y4 y5 y7 y8 y9 y10 : Option V), σ = [some (.ref a), some (.str ""), some (.ref p), some (.str "both"), y4, y5, some (.ref p6), y7, y8, y9, y10] ∧ Step NoS H H1 ∧ H1 p6 = some (.lst (plB (decide (0 < i) && cnd)))) ⟨none, none, none, none, none, none, rfl, s6, by rw [e6]; rfl⟩ (fun i σ H1 _ hP => ?_) (fun i x1 σ H1 H1' hi hP hy => ?_) (fun σ H1 hP => ?_)
      · obtain ⟨y4, y5, y7, y8, y9, y10, rfl, s1, h6⟩ := hP
        exact SqL.of (s1.same _ _ hp)
      · obtain ⟨rfl, hx⟩ := hy
        obtain ⟨y4, y5, y7, y8, y9, y10, rfl, s1, h6⟩ := hP
        obtain ⟨hb, rfl, rfl⟩ := plB_at hx
        refine ⟨_, rfl, rfl, _, rfl, iteF ⟨.ref a, rfl, a, _, 1, .ref bb, rfl, rfl, SqT.of (s1.same _ _ eaH), atI_nat (j := 1) rfl, bb, rfl, ⟨_, SqL.of (s1.same _ _ (sm _ _ ebb))⟩, fun D nD => ?_⟩⟩
        have s2 := s1
        have hib := s1.same _ _ (sm _ _ ebb)
        have h62 := h6
        generalize H1' = H2 at s2 hib h62 nD ⊢
        refine lc_it (walk_list (xs := ys)) (fun j Hc => Step NoS H2 Hc ∧ ∃ rf : List Addr, Hc D = some (.lst (rf.map V.ref)) ∧ rf.length = j ∧ ∀ (t : Nat) (x : Addr) (s : Rl), rf[t]? = some x → (rs)[t]? = some s → x ≠ D ∧ Hc x = some (.lst (plB s.mbe))) ⟨(Step.refl _ _).own nD, [], upd_same, rfl, fun t x s h => by simp at h⟩ (fun j Hc _ e => SqL.of (e.1.same _ _ hib)) (fun j y Hc Hc' hj e hy => ?_) (fun Hc e => ?_)
        · obtain ⟨rfl, hx2⟩ := hy
          obtain ⟨sc, rf, hD, lrf, hrf⟩ := e
          obtain ⟨s, hs, ms, ds⟩ := dps_at dys hx2
          refine ⟨rfl, y, rfl, .str "", rfl, .int 0, rfl, (by show 1 ≤ sizeLine; decide), fun p8 np8 => ?_⟩
          have s8 : Step NoS Hc' (upd Hc' p8 (.lst [.int 0])) := Step.new np8
          refine ⟨s, ltd s ms, y, G, l, p8, true, rfl, oks s ms, prs s ms, sm.trans (s2.same.trans (sc.same.trans s8.same)), ds, upd_same, fun p9 H9 s9 o9 h9 => ?_⟩
          have hD9 := s9.same _ _ (s8.same _ _ hD)
          have n9 : p9 ≠ D := fun e => by
            rcases o9 with o9 | o9
            · rw [← o9, e, hD] at np8; cases np8
            · rw [e, s8.same _ _ hD] at o9; cases o9
          refine ⟨_, hD9, szl (by rw [List.length_map, lrf]; omega), (sc.trans (s8.trans s9)).own nD, rf ++ [p9], ?_, ?_, fun t x u ht hu => ?_⟩
          · rw [upd_same, List.map_append]; rfl
          · rw [List.length_append, lrf]; rfl
          · by_cases htl : t < rf.length
            · rw [List.getElem?_append_left htl] at ht
              obtain ⟨nx, hx3⟩ := hrf t x u ht hu
              exact ⟨nx, by rw [upd_ne nx]; exact s9.same _ _ (s8.same _ _ hx3)⟩
            · rw [List.getElem?_append_right (by omega)] at ht
              have h0 : t - rf.length = 0 := by
                cases h : t - rf.length with
                | zero => rfl
                | succ m => rw [h] at ht; simp at ht
              rw [h0] at ht
              cases ht
              have htj : t = j := by omega
              subst htj
              rw [hs] at hu
              cases hu
              exact ⟨n9, by rw [upd_ne n9]; exact h9⟩
        · obtain ⟨sc, rf, hD, lrf, hrf⟩ := e
          have lrs : rf.length = (rs).length := lrf.trans lys
          refine ⟨.int 0, rfl, .str "", rfl, "", rfl, (by decide), _, _, rfl, rfl, 0, _, rfl, ⟨by decide, by decide, by decide, by decide⟩, ?_⟩
          refine for_range (lo := 0) (n := 1) (fun j σ H3 => ∃ (y4 y5 y9 y10 : Option V), σ = [some (.ref a), some (.str ""), some (.ref p), some (.str "both"), y4, y5, some (.ref p6), some (.int 0), some (.ref D), y9, y10] ∧ Step NoS H H3 ∧ (j = 0 → Same Hc H3) ∧ H3 p6 = some (.lst (plB (decide (0 < j) && cnd)))) ⟨_, _, _, _, rfl, s2.trans sc, fun _ => Same.refl _, sc.same _ _ h62⟩ (fun j σ H3 hj hP => ?_) (fun σ H3 hP => ?_)
          · obtain ⟨y4, y5, y9, y10, rfl, s3, sm3, h63⟩ := hP
            obtain rfl : j = 0 := by omega
            have sm3 := sm3 rfl
            refine ⟨.ref D, rfl, D, rfl, ⟨_, SqL.of (sm3 _ _ hD)⟩, fun D4 nD4 => ?_⟩
            refine lc_pick (walk_list (xs := rf.map V.ref)) (by rw [List.length_map]; omega) nD4 (fun t => V.bl (((rs).map Rl.mbe).getD t false)) (fun _ => true) (fun H s => SqL.of (s.same _ _ (sm3 _ _ hD))) (fun t y H5 N ht hl s5 yes no => ?_) (fun H5 s5 hD4 => ?_)
            · rw [List.getElem?_map] at ht
              cases e : rf[t]? with
              | none => rw [e] at ht; cases ht
              | some z =>
                rw [e] at ht
                cases ht
                have htl : t < rf.length := by
                  rw [List.length_map] at hl; exact hl
                obtain ⟨u, hu⟩ : ∃ u, (rs)[t]? = some u := ⟨_, List.getElem?_eq_getElem (by omega)⟩
                obtain ⟨_, hz⟩ := hrf t z u e hu
                have ef : (if false = true then !inV (.int 0) (plB u.mbe) else inV (.int 0) (plB u.mbe)) = ((rs).map Rl.mbe).getD t false := by
                  rw [if_neg (by decide), plB_in, List.getD_eq_getElem?_getD, List.getElem?_map, hu]; rfl
                have yy := yes rfl H5 (Step.refl _ _)
                rw [← ef] at yy
                exact ⟨rfl, .int 0, rfl, .ref z, rfl, z, _, rfl, .inl (SqL.of (s5.same _ _ (sm3 _ _ hz))), rfl, plB_flat1 _, yy⟩
            · have hD5 : H5 D4 = some (.lst (((rs).map Rl.mbe).map V.bl)) := by
                rw [hD4, filter_all, List.length_map, lrs, ← List.length_map (f := Rl.mbe) (as := rs)]
                have h := range_getD ((rs).map Rl.mbe) false
                conv => rhs; rw [← h, List.map_map]
                rfl
              have h65 := s5.same _ _ h63
              refine ⟨.ref D4, rfl, D4, _, rfl, SqL.of hD5, .str "both", rfl, rfl, rfl, _, rfl, ?_⟩
              rw [hcnd]
              cases hcc : cnd with
              | true =>
                rw [hcc] at h65
                exact iteT ⟨.ref p6, rfl, .inl ⟨rfl, _, SqL.of h65⟩, .int 0, rfl, p6, _, _, rfl, rfl, h65, (by show 0 < sizeLine; decide), _, _, _, _, rfl, (s3.trans s5).own np6, (fun z => nomatch z), by rw [upd_same]; rfl⟩
              | false =>
                rw [hcc] at h65
                exact iteF ⟨_, _, _, _, rfl, s3.trans s5, (fun z => nomatch z), h65⟩
          · obtain ⟨y4, y5, y9, y10, rfl, s3, _, h63⟩ := hP
            exact ⟨_, _, _, _, _, _, rfl, s3, h63⟩
      · obtain ⟨y4, y5, y7, y8, y9, y10, rfl, s1, h6⟩ := hP
        rw [plB_pos] at h6
        refine ⟨.str "", rfl, "", rfl, (by decide), _, _, rfl, rfl, _, rfl, (by decide), (by decide), fun D nD => ?_⟩
        refine lc_pick (items := rngI 0 1) walkR (by decide) nD (fun i => V.int (0 + (i : Nat))) (fun _ => (b && cnd)) (fun _ _ => trivial) (fun i y H5 N hi hl s5 yes no => ?_) (fun H5 s5 hD => ?_)
        · obtain ⟨h1, rfl⟩ := rngI_at hi
          obtain rfl : i = 0 := by omega
          refine ⟨rfl, .int 0, rfl, .ref p6, rfl, p6, _, rfl, .inl (SqL.of (s5.same _ _ h6)), rfl, plB_flat1 _, _, rfl, ?_⟩
          rw [if_neg (by decide), plB_in]
          cases hcc : (b && cnd) with
          | true => exact iteT ⟨.int 0, rfl, yes hcc H5 (Step.refl _ _)⟩
          | false => exact iteF (no hcc H5 (Step.refl _ _))
        · rw [plB_pick] at hD
          exact q D H5 (s1.trans s5) (.inr (s1.free nD)) hD
theorem sc_law_has : FnScope ["rule", "word"] ["rule", "word"] (defScope s_law_has) := ⟨rfl, rfl, rfl, by decide +kernel, rfl, by decide +kernel, by decide +kernel⟩
theorem ok_law_has {f : Addr} {fd : FuncData} (F : Fun K "_law_has" "_law_has" s_law_has f fd) (T : Bt K mg) (D_law_behind : DefG P w K mg base CX0 (1 + 2 * 8) "_law_behind" ["rule", "word", "places"] (spBehind 8)) : FnG P w K mg base CX0 18 f fd ["rule", "word"] (spHas) := by
  refine FnG.calm F sc_law_has (fun vs H Q E h => by first | (obtain ⟨_, rfl, _⟩ := h; rfl) | (obtain ⟨_, _, rfl, _⟩ := h; rfl) | (obtain ⟨_, _, _, rfl, _⟩ := h; rfl) | (obtain ⟨_, _, _, _, rfl, _⟩ := h; rfl) | (obtain ⟨_, _, _, _, _, rfl, _⟩ := h; rfl) | (obtain ⟨_, _, _, _, _, _, rfl, _⟩ := h; rfl) | (obtain ⟨_, _, _, _, _, _, _, rfl, _⟩ := h; rfl) | (obtain ⟨_, _, _, _, _, _, _, _, rfl, _⟩ := h; rfl) | (obtain ⟨_, _, _, _, _, _, _, _, _, rfl, _⟩ := h; rfl) | (obtain ⟨_, _, _, _, _, _, _, _, _, _, rfl, _⟩ := h; rfl) | (obtain ⟨_, _, _, _, _, _, _, _, _, _, _, rfl, _⟩ := h; rfl) | (obtain ⟨_, _, _, _, _, _, _, _, _, _, _, _, rfl, _⟩ := h; rfl)) (fun cd A out z H vs Q E hg hr h => ?_)
  have nd := sc_law_has.nd
  obtain ⟨r, v, G, l, rfl, h8, ro, pr, sm, dv, q⟩ := h
  refine ⟨_, (pss_one (ps_ret (pe_cmpR (inQ K) (pe_callB call_len_str (by rfl) T.m_len PySem.boot_len (pa_cons (pv 1) pa_nil)) (pe_fn D_law_behind hg (hr.mono (by first | decide | omega)) (pa_cons (pv 0) (pa_cons (pv 1) (pa_cons (pe_lst (pa_cons pe_int pa_nil)) pa_nil)))) rfl))), ?_⟩
  refine ⟨.str "", rfl, "", rfl, (by decide), v, rfl, .str "", rfl, (by show 1 ≤ sizeLine; decide), fun p np => ?_⟩
  have s1 : Step NoS H (upd H p (.lst [.int 0])) := Step.new np
  refine ⟨r, h8, v, G, l, p, true, rfl, ro, pr, sm.trans s1.same, dv, upd_same, fun p' H' s' _ h' => ?_⟩
  refine ⟨p', _, rfl, .inl (SqL.of h'), rfl, plB_flat1 _, ?_⟩
  rw [if_neg (by decide)]
  have e := q H' (s1.trans s')
  rw [← plB_in r.mbe] at e
  exact e
theorem sc_law_is_so : FnScope ["value", "due"] ["value", "due"] (defScope s_law_is_so) := ⟨rfl, rfl, rfl, by decide +kernel, rfl, by decide +kernel, by decide +kernel⟩
theorem ok_law_is_so {f : Addr} {fd : FuncData} (F : Fun K "_law_is_so" "_law_is_so" s_law_is_so f fd) (T : Bt K mg)  : FnG P w K mg base CX0 1 f fd ["value", "due"] (spSo) := by
  refine FnG.calm F sc_law_is_so (fun vs H Q E h => by first | (obtain ⟨_, rfl, _⟩ := h; rfl) | (obtain ⟨_, _, rfl, _⟩ := h; rfl) | (obtain ⟨_, _, _, rfl, _⟩ := h; rfl) | (obtain ⟨_, _, _, _, rfl, _⟩ := h; rfl) | (obtain ⟨_, _, _, _, _, rfl, _⟩ := h; rfl) | (obtain ⟨_, _, _, _, _, _, rfl, _⟩ := h; rfl) | (obtain ⟨_, _, _, _, _, _, _, rfl, _⟩ := h; rfl) | (obtain ⟨_, _, _, _, _, _, _, _, rfl, _⟩ := h; rfl) | (obtain ⟨_, _, _, _, _, _, _, _, _, rfl, _⟩ := h; rfl) | (obtain ⟨_, _, _, _, _, _, _, _, _, _, rfl, _⟩ := h; rfl) | (obtain ⟨_, _, _, _, _, _, _, _, _, _, _, rfl, _⟩ := h; rfl) | (obtain ⟨_, _, _, _, _, _, _, _, _, _, _, _, rfl, _⟩ := h; rfl)) (fun cd A out z H vs Q E hg hr h => ?_)
  have nd := sc_law_is_so.nd
  obtain ⟨a, b, rfl, q⟩ := h
  refine ⟨_, (pss_one (ps_ret (pe_and (pe_callB (isiQ K) (by rfl) T.m_isinstance (by decide +kernel) (pa_cons (pv 0) (pa_cons (pe_bltn (v := .ty "bool") (by rfl) T.m_bool (by decide +kernel) rfl) pa_nil))) (pe_one (pe_cmpR op_eq (pv 0) (pv 1) (nomark _)))))), ?_⟩
  refine ⟨_, rfl, _, _, .type "bool", .type "bool", true, rfl, .ty "bool", .base (.bl a), kit_ty (by decide +kernel), true, rfl, ?_⟩
  refine ⟨_, rfl, _, rfl, rfl, ?_⟩
  rw [show decide (V.bl a = V.bl b) = decide (a = b) by
    by_cases h : a = b
    · rw [h, decide_eq_true rfl, decide_eq_true rfl]
    · rw [decide_eq_false h, decide_eq_false fun z => h (V.bl.inj z)]]
  exact q
theorem sc_law_parts : FnScope ["rule", "depth", "inside", "found", "one"] ["rule", "depth"] (defScope s_law_parts) := ⟨rfl, rfl, rfl, by decide +kernel, rfl, by decide +kernel, by decide +kernel⟩
theorem ok_law_parts {f : Addr} {fd : FuncData} (F : Fun K "_law_parts" "_law_parts" s_law_parts f fd) (T : Bt K mg) {dd : Nat}  (D_law_parts : DefG P w K mg base CX0 (1 + 1 * dd) "_law_parts" ["rule", "depth"] (spLawParts dd)) : FnG P w K mg base CX0 (1 + 1 * (dd + 1)) f fd ["rule", "depth"] (spLawParts (dd + 1)) := by
  refine FnG.calm F sc_law_parts (fun vs H Q E h => by first | (obtain ⟨_, rfl, _⟩ := h; rfl) | (obtain ⟨_, _, rfl, _⟩ := h; rfl) | (obtain ⟨_, _, _, rfl, _⟩ := h; rfl) | (obtain ⟨_, _, _, _, rfl, _⟩ := h; rfl) | (obtain ⟨_, _, _, _, _, rfl, _⟩ := h; rfl) | (obtain ⟨_, _, _, _, _, _, rfl, _⟩ := h; rfl) | (obtain ⟨_, _, _, _, _, _, _, rfl, _⟩ := h; rfl) | (obtain ⟨_, _, _, _, _, _, _, _, rfl, _⟩ := h; rfl) | (obtain ⟨_, _, _, _, _, _, _, _, _, rfl, _⟩ := h; rfl) | (obtain ⟨_, _, _, _, _, _, _, _, _, _, rfl, _⟩ := h; rfl) | (obtain ⟨_, _, _, _, _, _, _, _, _, _, _, rfl, _⟩ := h; rfl) | (obtain ⟨_, _, _, _, _, _, _, _, _, _, _, _, rfl, _⟩ := h; rfl)) (fun cd A out z H vs Q E hg hr h => ?_)
  have nd := sc_law_parts.nd
  replace hr : Room (1 + 1 * dd + 0) _ := hr
  obtain ⟨r, hd, h8, v, G, l, d, rfl, ro, ok, dv, q⟩ := h
  refine ⟨_, (pss_cons (ps_set (i := 2) nd rfl (by first | exact Or.inl rfl | exact Or.inr rfl) (pe_lst pa_nil))
    (pss_cons (ps_if (pt_cmpR (inQ K) (pe_ix (ixT K) (pv 0) pe_int (fun _ _ => rfl)) (pe_lst (pa_cons pe_str (pa_cons pe_str (pa_cons pe_str pa_nil)))) rfl) (pss_one (ps_set (i := 2) nd rfl (by first | exact Or.inl rfl | exact Or.inr rfl) (pe_ix (ixT K) (pv 0) pe_int (fun _ _ => rfl)))) pss_nil)
    (pss_cons (ps_if (pt_cmpR (inQ K) (pe_ix (ixT K) (pv 0) pe_int (fun _ _ => rfl)) (pe_lst (pa_cons pe_str (pa_cons pe_str pa_nil))) rfl) (pss_one (ps_set (i := 2) nd rfl (by first | exact Or.inl rfl | exact Or.inr rfl) (pe_lst (pa_cons (pe_ix (ixT K) (pv 0) pe_int (fun _ _ => rfl)) pa_nil)))) pss_nil)
    (pss_cons (ps_set (i := 3) nd rfl (by first | exact Or.inl rfl | exact Or.inr rfl) (pe_lst (pa_cons (pe_tup (pa_cons (pv 0) (pa_cons (pv 1) pa_nil))) pa_nil)))
    (pss_cons (ps_for PassesOwn.never rfl (piL K (pv 2)) (pg_name (i := 4) nd rfl (by first | exact Or.inl rfl | exact Or.inr rfl))
    (pss_one (ps_set (i := 3) nd rfl (by first | exact Or.inl rfl | exact Or.inr rfl) (pe_op op_cat (pv 3) (pe_fn D_law_parts hg (hr.mono (by first | decide | omega)) (pa_cons (pv 4) (pa_cons (pe_op op_add (pv 1) pe_int) pa_nil)))))))
    (pss_one (ps_ret (pv 3)))))))), ?_⟩
  obtain ⟨a, ws, rfl, ea, dws⟩ := dR_at dv
  have l3 := subs_len ro
  have lp : ∀ s ∈ r.subs, s.parts.length ≤ 4 ^ 7 := fun s ms => parts_len 7 s (by have := subs_dep ms; omega) (subs_ok ro ms)
  refine ⟨Nat.zero_le _, fun p0 np0 => ?_⟩
  have z1 := ok.fz.new (o := .lst []) np0
  have gp0 := free_of ok.same np0
  have s1 := same_sub (o := .lst []) gp0
  have ep0 : upd G p0 (.lst []) p0 = some (.lst []) := upd_same
  have ea1 := s1 _ _ ea
  have dws1 := dps_up dws s1
  generalize upd G p0 (.lst []) = G1 at z1 s1 ep0 ea1 dws1
  generalize upd H p0 (.lst []) = H1 at z1 ⊢
  refine ⟨.ref a, rfl, a, _, 0, .str r.tag, rfl, rfl, SqT.of (z1.same _ _ ea1), atI_nat (j := 0) rfl, (by show 3 ≤ sizeLine; decide), fun L1 nL1 => ?_⟩
  have z2 := z1.loc (o := .lst [.str "row", .str "either", .str "both"]) nL1
  refine ⟨L1, _, rfl, .inl (SqL.of upd_same), rfl, rfl, _, rfl, ?_⟩
  generalize upd H1 L1 (.lst [.str "row", .str "either", .str "both"]) = H2 at z2 ⊢
  rw [in_L]
  have second : ∀ {A B : Prop} {b : Bool}, (b = true → A) → (b = false → B) → if b = true then A else B := fun {A B b} hA hB => by
    cases b
    · exact iteF (hB rfl)
    · exact iteT (hA rfl)
  refine second (fun hL => ?_) (fun hL => ?_)
  · obtain ⟨x, hws, bb, xs, hx, ebb, dxs, hI⟩ : ∃ x, ws = [x] ∧ ∃ (bb : Addr) (xs : List V), x = .ref bb ∧ G1 bb = some (.lst xs) ∧ DqAll G1 xs (dRs r.subs) ∧ r.isI = false := by
      cases r with
      | lst k rs =>
        obtain ⟨x, hx, dx⟩ := dps_one dws1
        obtain ⟨bb, xs, e, ebb, dxs⟩ := dp_list dx
        exact ⟨x, hx, bb, xs, e, ebb, dxs, rfl⟩
      | _ => cases hL
    subst hws
    subst hx
    refine ⟨.ref a, rfl, a, _, 1, .ref bb, rfl, rfl, SqT.of (z2.same _ _ ea1), atI_nat (j := 1) rfl, ?_⟩
    refine ⟨.ref a, rfl, a, _, 0, .str r.tag, rfl, rfl, SqT.of (z2.same _ _ ea1), atI_nat (j := 0) rfl, (by show 2 ≤ sizeLine; decide), fun L2 nL2 => ?_⟩
    have z3 := z2.loc (o := .lst [.str "not", .str "times"]) nL2
    refine ⟨L2, _, rfl, .inl (SqL.of upd_same), rfl, rfl, _, rfl, ?_⟩
    generalize upd H2 L2 (.lst [.str "not", .str "times"]) = H3 at z3 ⊢
    rw [in_I, hI]
    refine iteF ?_
    refine ⟨.ref a, rfl, .int (d : Nat), rfl, (by show 2 ≤ sizeLine; decide), fun t nt => ⟨(by show 1 ≤ sizeLine; decide), fun p np => ?_⟩⟩
    have y1 := z3.new (o := .tup [.ref a, .int (d : Nat)]) nt
    have gt := free_of z3.same nt
    have y2 := y1.new (o := .lst [.ref t]) np
    have gp := free_of y1.same np
    have c1 := same_sub (o := .tup [.ref a, .int (d : Nat)]) gt
    have c2 := same_sub (o := .lst [.ref t]) gp
    have eia := (c1.trans c2) _ _ ebb
    have dxs := dps_up dxs (c1.trans c2)
    have d0 : Dq (upd (upd G1 t (.tup [.ref a, .int (d : Nat)])) p (.lst [.ref t])) (.ref p) (.list (((r, d) :: Rl.partssD (r.subs.take 0) (d + 1)).map dPD)) := by
      rw [List.take_zero, Rl.partssD]
      exact .lst upd_same (.cons (.tup (c2 _ _ upd_same) (.cons (dp_up dv (z3.up.trans (c1.trans c2))) (.cons (.int _) .nil))) .nil)
    generalize upd (upd G1 t (.tup [.ref a, .int (d : Nat)])) p (.lst [.ref t]) = Gb at y2 eia dxs d0
    generalize upd (upd H3 t (.tup [.ref a, .int (d : Nat)])) p (.lst [.ref t]) = Hb at y2 ⊢
    clear c1 c2 y1
    refine ⟨.ref bb, rfl, bb, rfl, ⟨_, SqL.of (y2.same _ _ eia)⟩, ?_⟩
    refine for_it (walk_list (xs := xs)) (fun i σ H5 => ∃ (G5 : Hp) (p5 : Addr) (y4 : Option V), σ = [some (.ref a), some (.int (d : Nat)), some (.ref bb), some (.ref p5), y4] ∧ Fz NoS H G H5 G5 ∧ Same Gb G5 ∧ Dq G5 (.ref p5) (.list (((r, d) :: Rl.partssD (r.subs.take i) (d + 1)).map dPD))) ⟨Gb, p, none, rfl, y2, Same.refl _, d0⟩ (fun i σ H5 _ hP => ?_) (fun i x σ H5 H5' hi hP hy => ?_) (fun σ H5 hP => ?_)
    · obtain ⟨G5, p5, y4, rfl, z5, s5, d5⟩ := hP
      exact SqL.of (z5.same _ _ (s5 _ _ eia))
    · obtain ⟨rfl, hx⟩ := hy
      obtain ⟨G5, p5, y4, rfl, z5, s5, d5⟩ := hP
      obtain ⟨s, hs, ms, ds⟩ := dps_at dxs hx
      have lt := subs_dep ms
      refine ⟨.ref p5, rfl, x, rfl, .int (d : Nat), rfl, _, _, rfl, rfl, s, by omega, by omega, x, G5, l, d + 1, rfl, subs_ok ro ms, z5.ok, dp_up ds s5, fun p6 H6 G6 z6 d6 => ?_⟩
      obtain ⟨q5, us, e5', e5, dus⟩ := dp_list (dp_up d5 z6.up)
      cases e5'
      obtain ⟨q6, us6, e6', e6, dus6⟩ := dp_list d6
      cases e6'
      have l5 := dps_len dus
      have l6 := dps_len dus6
      rw [List.length_map] at l5 l6
      have b6 : (s.partsD (d + 1)).length ≤ 4 ^ 7 := by
        rw [← List.length_map (f := fun p : Rl × Nat => p.1), partsD_fst]; exact lp s ms
      have b5 : (Rl.partssD (r.subs.take i) (d + 1)).length ≤ 3 * 4 ^ 7 := by
        rw [← List.length_map (f := fun p : Rl × Nat => p.1), partssD_fst]
        exact Nat.le_trans (partss_len (l := l) (B := 4 ^ 7) fun u hu => lp u (List.mem_of_mem_take hu)) (Nat.mul_le_mul_right _ (by rw [List.length_take]; omega))
      rw [List.length_cons] at l5
      have etk : r.subs.take (i + 1) = r.subs.take i ++ [s] := by rw [List.take_add_one, hs]; rfl
      refine ⟨_, _, us, us6, rfl, rfl, z6.same _ _ e5, z6.same _ _ e6, sz (by omega), fun p7 np7 => ?_⟩
      have sG := same_sub (o := .lst (us ++ us6)) (free_of z6.same np7)
      refine ⟨_, p7, _, rfl, (z5.trans z6).new np7, s5.trans (z6.up.trans sG), .lst upd_same ?_⟩
      rw [etk, partssD_app, partssD_one, ← List.cons_append, List.map_append]
      exact dps_app (dps_up dus sG) (dps_up dus6 sG)
    · obtain ⟨G5, p5, y4, rfl, z5, s5, d5⟩ := hP
      rw [dps_len' dxs, List.take_length, ← partsD_eq] at d5
      exact ⟨.ref p5, rfl, q p5 H5 G5 z5 d5⟩
  · refine ⟨.ref a, rfl, a, _, 0, .str r.tag, rfl, rfl, SqT.of (z2.same _ _ ea1), atI_nat (j := 0) rfl, (by show 2 ≤ sizeLine; decide), fun L2 nL2 => ?_⟩
    have z3 := z2.loc (o := .lst [.str "not", .str "times"]) nL2
    refine ⟨L2, _, rfl, .inl (SqL.of upd_same), rfl, rfl, _, rfl, ?_⟩
    generalize upd H2 L2 (.lst [.str "not", .str "times"]) = H3 at z3 ⊢
    rw [in_I]
    refine second (fun hI => ?_) (fun hI => ?_)
    · obtain ⟨x, ys, hws, dxs⟩ : ∃ x ys, ws = x :: ys ∧ DqAll G1 [x] (dRs r.subs) := by
        cases r with
        | nt s =>
          obtain ⟨x, hx, dx⟩ := dps_one dws1
          exact ⟨x, [], hx, by rw [dRs_map]; exact .cons dx .nil⟩
        | times s lo hi =>
          obtain ⟨x, y, z, hx, dx, _, _⟩ := dps_three dws1
          exact ⟨x, [y, z], hx, by rw [dRs_map]; exact .cons dx .nil⟩
        | _ => cases hI
      subst hws
      refine ⟨.ref a, rfl, a, _, 1, x, rfl, rfl, SqT.of (z3.same _ _ ea1), atI_nat (j := 1) rfl, (by show 1 ≤ sizeLine; decide), fun ia nia => ?_⟩
      have z4 := z3.new (o := .lst [x]) nia
      have cia := same_sub (o := .lst [x]) (free_of z3.same nia)
      have eia0 : upd G1 ia (.lst [x]) ia = some (.lst [x]) := upd_same
      have dxs4 := dps_up dxs cia
      generalize upd G1 ia (.lst [x]) = G4 at z4 cia eia0 dxs4
      generalize upd H3 ia (.lst [x]) = H4 at z4 ⊢
      refine ⟨.ref a, rfl, .int (d : Nat), rfl, (by show 2 ≤ sizeLine; decide), fun t nt => ⟨(by show 1 ≤ sizeLine; decide), fun p np => ?_⟩⟩
      have y1 := z4.new (o := .tup [.ref a, .int (d : Nat)]) nt
      have gt := free_of z4.same nt
      have y2 := y1.new (o := .lst [.ref t]) np
      have gp := free_of y1.same np
      have c1 := same_sub (o := .tup [.ref a, .int (d : Nat)]) gt
      have c2 := same_sub (o := .lst [.ref t]) gp
      have eia := (c1.trans c2) _ _ eia0
      have dxs := dps_up dxs4 (c1.trans c2)
      have d0 : Dq (upd (upd G4 t (.tup [.ref a, .int (d : Nat)])) p (.lst [.ref t])) (.ref p) (.list (((r, d) :: Rl.partssD (r.subs.take 0) (d + 1)).map dPD)) := by
        rw [List.take_zero, Rl.partssD]
        exact .lst upd_same (.cons (.tup (c2 _ _ upd_same) (.cons (dp_up dv (z4.up.trans (c1.trans c2))) (.cons (.int _) .nil))) .nil)
      generalize upd (upd G4 t (.tup [.ref a, .int (d : Nat)])) p (.lst [.ref t]) = Gb at y2 eia dxs d0
      generalize upd (upd H4 t (.tup [.ref a, .int (d : Nat)])) p (.lst [.ref t]) = Hb at y2 ⊢
      clear c1 c2 y1
      refine ⟨.ref ia, rfl, ia, rfl, ⟨_, SqL.of (y2.same _ _ eia)⟩, ?_⟩
      refine for_it (walk_list (xs := [x])) (fun i σ H5 => ∃ (G5 : Hp) (p5 : Addr) (y4 : Option V), σ = [some (.ref a), some (.int (d : Nat)), some (.ref ia), some (.ref p5), y4] ∧ Fz NoS H G H5 G5 ∧ Same Gb G5 ∧ Dq G5 (.ref p5) (.list (((r, d) :: Rl.partssD (r.subs.take i) (d + 1)).map dPD))) ⟨Gb, p, none, rfl, y2, Same.refl _, d0⟩ (fun i σ H5 _ hP => ?_) (fun i x σ H5 H5' hi hP hy => ?_) (fun σ H5 hP => ?_)
      · obtain ⟨G5, p5, y4, rfl, z5, s5, d5⟩ := hP
        exact SqL.of (z5.same _ _ (s5 _ _ eia))
      · obtain ⟨rfl, hx⟩ := hy
        obtain ⟨G5, p5, y4, rfl, z5, s5, d5⟩ := hP
        obtain ⟨s, hs, ms, ds⟩ := dps_at dxs hx
        have lt := subs_dep ms
        refine ⟨.ref p5, rfl, x, rfl, .int (d : Nat), rfl, _, _, rfl, rfl, s, by omega, by omega, x, G5, l, d + 1, rfl, subs_ok ro ms, z5.ok, dp_up ds s5, fun p6 H6 G6 z6 d6 => ?_⟩
        obtain ⟨q5, us, e5', e5, dus⟩ := dp_list (dp_up d5 z6.up)
        cases e5'
        obtain ⟨q6, us6, e6', e6, dus6⟩ := dp_list d6
        cases e6'
        have l5 := dps_len dus
        have l6 := dps_len dus6
        rw [List.length_map] at l5 l6
        have b6 : (s.partsD (d + 1)).length ≤ 4 ^ 7 := by
          rw [← List.length_map (f := fun p : Rl × Nat => p.1), partsD_fst]; exact lp s ms
        have b5 : (Rl.partssD (r.subs.take i) (d + 1)).length ≤ 3 * 4 ^ 7 := by
          rw [← List.length_map (f := fun p : Rl × Nat => p.1), partssD_fst]
          exact Nat.le_trans (partss_len (l := l) (B := 4 ^ 7) fun u hu => lp u (List.mem_of_mem_take hu)) (Nat.mul_le_mul_right _ (by rw [List.length_take]; omega))
        rw [List.length_cons] at l5
        have etk : r.subs.take (i + 1) = r.subs.take i ++ [s] := by rw [List.take_add_one, hs]; rfl
        refine ⟨_, _, us, us6, rfl, rfl, z6.same _ _ e5, z6.same _ _ e6, sz (by omega), fun p7 np7 => ?_⟩
        have sG := same_sub (o := .lst (us ++ us6)) (free_of z6.same np7)
        refine ⟨_, p7, _, rfl, (z5.trans z6).new np7, s5.trans (z6.up.trans sG), .lst upd_same ?_⟩
        rw [etk, partssD_app, partssD_one, ← List.cons_append, List.map_append]
        exact dps_app (dps_up dus sG) (dps_up dus6 sG)
      · obtain ⟨G5, p5, y4, rfl, z5, s5, d5⟩ := hP
        rw [dps_len' dxs, List.take_length, ← partsD_eq] at d5
        exact ⟨.ref p5, rfl, q p5 H5 G5 z5 d5⟩
    · have dxs0 : DqAll G1 [] (dRs r.subs) := by
        cases r with
        | lst k rs => cases hL
        | nt s => cases hI
        | times s lo hi => cases hI
        | _ => rw [dRs_map]; exact .nil
      refine ⟨.ref a, rfl, .int (d : Nat), rfl, (by show 2 ≤ sizeLine; decide), fun t nt => ⟨(by show 1 ≤ sizeLine; decide), fun p np => ?_⟩⟩
      have y1 := z3.new (o := .tup [.ref a, .int (d : Nat)]) nt
      have gt := free_of z3.same nt
      have y2 := y1.new (o := .lst [.ref t]) np
      have gp := free_of y1.same np
      have c1 := same_sub (o := .tup [.ref a, .int (d : Nat)]) gt
      have c2 := same_sub (o := .lst [.ref t]) gp
      have eia := (c1.trans c2) _ _ ep0
      have dxs := dps_up dxs0 (c1.trans c2)
      have d0 : Dq (upd (upd G1 t (.tup [.ref a, .int (d : Nat)])) p (.lst [.ref t])) (.ref p) (.list (((r, d) :: Rl.partssD (r.subs.take 0) (d + 1)).map dPD)) := by
        rw [List.take_zero, Rl.partssD]
        exact .lst upd_same (.cons (.tup (c2 _ _ upd_same) (.cons (dp_up dv (z3.up.trans (c1.trans c2))) (.cons (.int _) .nil))) .nil)
      generalize upd (upd G1 t (.tup [.ref a, .int (d : Nat)])) p (.lst [.ref t]) = Gb at y2 eia dxs d0
      generalize upd (upd H3 t (.tup [.ref a, .int (d : Nat)])) p (.lst [.ref t]) = Hb at y2 ⊢
      clear c1 c2 y1
      refine ⟨.ref p0, rfl, p0, rfl, ⟨_, SqL.of (y2.same _ _ eia)⟩, ?_⟩
      refine for_it (walk_list (xs := ([] : List V))) (fun i σ H5 => ∃ (G5 : Hp) (p5 : Addr) (y4 : Option V), σ = [some (.ref a), some (.int (d : Nat)), some (.ref p0), some (.ref p5), y4] ∧ Fz NoS H G H5 G5 ∧ Same Gb G5 ∧ Dq G5 (.ref p5) (.list (((r, d) :: Rl.partssD (r.subs.take i) (d + 1)).map dPD))) ⟨Gb, p, none, rfl, y2, Same.refl _, d0⟩ (fun i σ H5 _ hP => ?_) (fun i x σ H5 H5' hi hP hy => ?_) (fun σ H5 hP => ?_)
      · obtain ⟨G5, p5, y4, rfl, z5, s5, d5⟩ := hP
        exact SqL.of (z5.same _ _ (s5 _ _ eia))
      · obtain ⟨rfl, hx⟩ := hy
        obtain ⟨G5, p5, y4, rfl, z5, s5, d5⟩ := hP
        obtain ⟨s, hs, ms, ds⟩ := dps_at dxs hx
        have lt := subs_dep ms
        refine ⟨.ref p5, rfl, x, rfl, .int (d : Nat), rfl, _, _, rfl, rfl, s, by omega, by omega, x, G5, l, d + 1, rfl, subs_ok ro ms, z5.ok, dp_up ds s5, fun p6 H6 G6 z6 d6 => ?_⟩
        obtain ⟨q5, us, e5', e5, dus⟩ := dp_list (dp_up d5 z6.up)
        cases e5'
        obtain ⟨q6, us6, e6', e6, dus6⟩ := dp_list d6
        cases e6'
        have l5 := dps_len dus
        have l6 := dps_len dus6
        rw [List.length_map] at l5 l6
        have b6 : (s.partsD (d + 1)).length ≤ 4 ^ 7 := by
          rw [← List.length_map (f := fun p : Rl × Nat => p.1), partsD_fst]; exact lp s ms
        have b5 : (Rl.partssD (r.subs.take i) (d + 1)).length ≤ 3 * 4 ^ 7 := by
          rw [← List.length_map (f := fun p : Rl × Nat => p.1), partssD_fst]
          exact Nat.le_trans (partss_len (l := l) (B := 4 ^ 7) fun u hu => lp u (List.mem_of_mem_take hu)) (Nat.mul_le_mul_right _ (by rw [List.length_take]; omega))
        rw [List.length_cons] at l5
        have etk : r.subs.take (i + 1) = r.subs.take i ++ [s] := by rw [List.take_add_one, hs]; rfl
        refine ⟨_, _, us, us6, rfl, rfl, z6.same _ _ e5, z6.same _ _ e6, sz (by omega), fun p7 np7 => ?_⟩
        have sG := same_sub (o := .lst (us ++ us6)) (free_of z6.same np7)
        refine ⟨_, p7, _, rfl, (z5.trans z6).new np7, s5.trans (z6.up.trans sG), .lst upd_same ?_⟩
        rw [etk, partssD_app, partssD_one, ← List.cons_append, List.map_append]
        exact dps_app (dps_up dus sG) (dps_up dus6 sG)
      · obtain ⟨G5, p5, y4, rfl, z5, s5, d5⟩ := hP
        rw [dps_len' dxs, List.take_length, ← partsD_eq] at d5
        exact ⟨.ref p5, rfl, q p5 H5 G5 z5 d5⟩
theorem sc_law_named : FnScope ["pool", "rule", "name"] ["pool", "rule"] (defScope s_law_named) := ⟨rfl, rfl, rfl, by decide +kernel, rfl, by decide +kernel, by decide +kernel⟩
-- pre
theorem pick_names {k : Int} (h0 : 0 ≤ k) (h1 : k < 4) : ∃ x : Str, x ∈ (["x", "not", "row7", "abcdefghijkl"] : List Str) ∧ atI [V.str "x", V.str "not", V.str "row7", V.str "abcdefghijkl"] k = some (.str x) := by
  have h : k = 0 ∨ k = 1 ∨ k = 2 ∨ k = 3 := by omega
  rcases h with rfl | rfl | rfl | rfl
  · exact ⟨"x", List.mem_cons_self, rfl⟩
  · exact ⟨"not", List.mem_cons_of_mem _ List.mem_cons_self, rfl⟩
  · exact ⟨"row7", List.mem_cons_of_mem _ (List.mem_cons_of_mem _ List.mem_cons_self), rfl⟩
  · exact ⟨"abcdefghijkl", List.mem_cons_of_mem _ (List.mem_cons_of_mem _ (List.mem_cons_of_mem _ List.mem_cons_self)), rfl⟩
theorem pick_kinds {k : Int} (h0 : 0 ≤ k) (h1 : k < 3) : ∃ f : _root_.Fin 3, atI [V.str "row", V.str "both", V.str "either"] k = some (.str (kindOf f)) := by
  have h : k = 0 ∨ k = 1 ∨ k = 2 := by omega
  rcases h with rfl | rfl | rfl
  · exact ⟨0, rfl⟩
  · exact ⟨2, rfl⟩
  · exact ⟨1, rfl⟩
theorem ok_law_named {f : Addr} {fd : FuncData} (F : Fun K "_law_named" "_law_named" s_law_named f fd) (T : Bt K mg) (D_law_pick : DefG P w K mg base CX0 1 "_law_pick" ["pool", "many"] (spPick)) : FnG P w K mg base CX0 2 f fd ["pool", "rule"] (spNamed) := by
  refine FnG.calm F sc_law_named (fun vs H Q E h => by first | (obtain ⟨_, rfl, _⟩ := h; rfl) | (obtain ⟨_, _, rfl, _⟩ := h; rfl) | (obtain ⟨_, _, _, rfl, _⟩ := h; rfl) | (obtain ⟨_, _, _, _, rfl, _⟩ := h; rfl) | (obtain ⟨_, _, _, _, _, rfl, _⟩ := h; rfl) | (obtain ⟨_, _, _, _, _, _, rfl, _⟩ := h; rfl) | (obtain ⟨_, _, _, _, _, _, _, rfl, _⟩ := h; rfl) | (obtain ⟨_, _, _, _, _, _, _, _, rfl, _⟩ := h; rfl) | (obtain ⟨_, _, _, _, _, _, _, _, _, rfl, _⟩ := h; rfl) | (obtain ⟨_, _, _, _, _, _, _, _, _, _, rfl, _⟩ := h; rfl) | (obtain ⟨_, _, _, _, _, _, _, _, _, _, _, rfl, _⟩ := h; rfl) | (obtain ⟨_, _, _, _, _, _, _, _, _, _, _, _, rfl, _⟩ := h; rfl)) (fun cd A out z H vs Q E hg hr h => ?_)
  have nd := sc_law_named.nd
  obtain ⟨r, pa, v, G, l, rfl, ro, ok, dv, q⟩ := h
  refine ⟨_, (pss_cons (ps_set (i := 2) nd rfl (by first | exact Or.inl rfl | exact Or.inr rfl) (pe_ix (ixL K) (pe_lst (pa_cons pe_str (pa_cons pe_str (pa_cons pe_str (pa_cons pe_str pa_nil))))) (pe_fn D_law_pick hg (hr.mono (by first | decide | omega)) (pa_cons (pv 0) (pa_cons pe_int pa_nil))) (fun _ _ => rfl)))
    (pss_one (ps_ret (pe_tup (pa_cons (pe_ix (ixL K) (pe_lst (pa_cons pe_str (pa_cons pe_str (pa_cons pe_str pa_nil)))) (pe_fn D_law_pick hg (hr.mono (by first | decide | omega)) (pa_cons (pv 0) (pa_cons pe_int pa_nil))) (fun _ _ => rfl)) (pa_cons (pe_lst (pa_cons (pe_tup (pa_cons pe_str (pa_cons (pv 2) pa_nil))) (pa_cons (pv 1) (pa_cons (pe_tup (pa_cons pe_str (pa_cons (pe_tup (pa_cons pe_str (pa_cons (pv 2) pa_nil))) (pa_cons pe_int (pa_cons pe_non pa_nil))))) pa_nil)))) pa_nil)))))), ?_⟩
  refine ⟨by show 4 ≤ sizeLine; decide, fun p np => ?_⟩
  have z1 := ok.fz.loc (o := .lst [.str "x", .str "not", .str "row7", .str "abcdefghijkl"]) np
  have ep : upd H p (.lst [.str "x", .str "not", .str "row7", .str "abcdefghijkl"]) p = some (.lst [.str "x", .str "not", .str "row7", .str "abcdefghijkl"]) := upd_same
  have hpp : p ≠ pa := fun e => ok.pool.some (e ▸ np)
  refine ⟨.ref pa, rfl, pa, 4, rfl, z1.pool, by decide, by decide, fun j H2 a2 b2 _ s2 p2 => ?_⟩
  have z2 := z1.stepS s2 p2
  obtain ⟨x, hx, hat⟩ := pick_names a2 b2
  refine ⟨p, _, j, .str x, rfl, rfl, SqL.of (s2.keep _ _ hpp ep), hat, ?_⟩
  refine ⟨by show 3 ≤ sizeLine; decide, fun p3 np3 => ?_⟩
  have z3 := z2.loc (o := .lst [.str "row", .str "both", .str "either"]) np3
  have ep3 : upd H2 p3 (.lst [.str "row", .str "both", .str "either"]) p3 = some (.lst [.str "row", .str "both", .str "either"]) := upd_same
  have hpp3 : p3 ≠ pa := fun e => z2.pool.some (e ▸ np3)
  refine ⟨.ref pa, rfl, pa, 3, rfl, z3.pool, by decide, by decide, fun u H4 a4 b4 _ s4 p4 => ?_⟩
  have z4 := z3.stepS s4 p4
  obtain ⟨k, hk⟩ := pick_kinds a4 b4
  refine ⟨p3, _, u, .str (kindOf k), rfl, rfl, SqL.of (s4.keep _ _ hpp3 ep3), hk, ?_⟩
  refine ⟨.str x, rfl, (by show 2 ≤ sizeLine; decide), fun t1 n1 => ?_⟩
  have z5 := z4.new (o := .tup [.str "name", .str x]) n1
  have g1 := free_of z4.same n1
  refine ⟨v, rfl, .str x, rfl, (by show 2 ≤ sizeLine; decide), fun t2 n2 => ?_⟩
  have z6 := z5.new (o := .tup [.str "name", .str x]) n2
  have g2 := free_of z5.same n2
  refine ⟨(by show 4 ≤ sizeLine; decide), fun t3 n3 => ?_⟩
  have z7 := z6.new (o := .tup [.str "times", .ref t2, .int 0, .non]) n3
  have g3 := free_of z6.same n3
  refine ⟨(by show 3 ≤ sizeLine; decide), fun t4 n4 => ?_⟩
  have z8 := z7.new (o := .lst [.ref t1, v, .ref t3]) n4
  have g4 := free_of z7.same n4
  refine ⟨(by show 2 ≤ sizeLine; decide), fun t5 n5 => ?_⟩
  have z9 := z8.new (o := .tup [.str (kindOf k), .ref t4]) n5
  have g5 := free_of z8.same n5
  have c1 := same_sub (o := .tup [.str "name", .str x]) g1
  have c2 := same_sub (o := .tup [.str "name", .str x]) g2
  have c3 := same_sub (o := .tup [.str "times", .ref t2, .int 0, .non]) g3
  have c4 := same_sub (o := .lst [.ref t1, v, .ref t3]) g4
  have c5 := same_sub (o := .tup [.str (kindOf k), .ref t4]) g5
  refine q _ _ _ k x z9 ?_ ?_
  · rw [dR, dRs_map]
    refine .tup upd_same (.cons (.str _) (.cons (.lst (c5 _ _ upd_same) (.cons ?_ (.cons (dp_up dv (c1.trans (c2.trans (c3.trans (c4.trans c5))))) (.cons ?_ .nil)))) .nil))
    · rw [dR]
      exact .tup ((c2.trans (c3.trans (c4.trans c5))) _ _ upd_same) (.cons (.str _) (.cons (.str _) .nil))
    · rw [dR, dR]
      exact .tup ((c4.trans c5) _ _ upd_same) (.cons (.str _) (.cons (.tup ((c3.trans (c4.trans c5)) _ _ upd_same) (.cons (.str _) (.cons (.str _) .nil))) (.cons (.int _) (.cons .non .nil))))
  · rw [Rl.Ok]
    refine ⟨(fun z => nomatch z), (by show 3 ≤ 3; decide), oks_of fun s hs => ?_⟩
    simp only [List.mem_cons, List.not_mem_nil, or_false] at hs
    rcases hs with rfl | rfl | rfl
    · rw [Rl.Ok]; exact hx
    · exact ro
    · rw [Rl.Ok, Rl.Ok]; exact ⟨hx, Nat.zero_le _, fun h e => nomatch e⟩
theorem sc_law_is_whole : FnScope ["value", "due"] ["value", "due"] (defScope s_law_is_whole) := ⟨rfl, rfl, rfl, by decide +kernel, rfl, by decide +kernel, by decide +kernel⟩
theorem ok_law_is_whole {f : Addr} {fd : FuncData} (F : Fun K "_law_is_whole" "_law_is_whole" s_law_is_whole f fd) (T : Bt K mg)  : FnG P w K mg base CX0 1 f fd ["value", "due"] (spWhole) := by
  refine FnG.calm F sc_law_is_whole (fun vs H Q E h => by first | (obtain ⟨_, rfl, _⟩ := h; rfl) | (obtain ⟨_, _, rfl, _⟩ := h; rfl) | (obtain ⟨_, _, _, rfl, _⟩ := h; rfl) | (obtain ⟨_, _, _, _, rfl, _⟩ := h; rfl) | (obtain ⟨_, _, _, _, _, rfl, _⟩ := h; rfl) | (obtain ⟨_, _, _, _, _, _, rfl, _⟩ := h; rfl) | (obtain ⟨_, _, _, _, _, _, _, rfl, _⟩ := h; rfl) | (obtain ⟨_, _, _, _, _, _, _, _, rfl, _⟩ := h; rfl) | (obtain ⟨_, _, _, _, _, _, _, _, _, rfl, _⟩ := h; rfl) | (obtain ⟨_, _, _, _, _, _, _, _, _, _, rfl, _⟩ := h; rfl) | (obtain ⟨_, _, _, _, _, _, _, _, _, _, _, rfl, _⟩ := h; rfl) | (obtain ⟨_, _, _, _, _, _, _, _, _, _, _, _, rfl, _⟩ := h; rfl)) (fun cd A out z H vs Q E hg hr h => ?_)
  have nd := sc_law_is_whole.nd
  obtain ⟨a, b, rfl, q⟩ := h
  refine ⟨_, (pss_one (ps_ret (pe_and (pe_callB (isiQ K) (by rfl) T.m_isinstance (by decide +kernel) (pa_cons (pv 0) (pa_cons (pe_bltn (v := .ty "int") (by rfl) T.m_int (by decide +kernel) rfl) pa_nil))) (pe_and (pe_not (pe_callB (isiQ K) (by rfl) T.m_isinstance (by decide +kernel) (pa_cons (pv 0) (pa_cons (pe_bltn (v := .ty "bool") (by rfl) T.m_bool (by decide +kernel) rfl) pa_nil)))) (pe_one (pe_cmpR op_eq (pv 0) (pv 1) (nomark _))))))), ?_⟩
  refine ⟨_, rfl, _, _, .type "int", .type "int", true, rfl, .ty "int", .base (.int a), kit_ty (by decide +kernel), true, rfl, ?_⟩
  refine ⟨_, rfl, _, _, .type "int", .type "bool", false, rfl, .ty "bool", .base (.int a), kit_ty (by decide +kernel), false, rfl, true, rfl, ?_⟩
  refine ⟨_, rfl, _, rfl, rfl, ?_⟩
  rw [show decide (V.int a = V.int b) = decide (a = b) by
    by_cases h : a = b
    · rw [h, decide_eq_true rfl, decide_eq_true rfl]
    · rw [decide_eq_false h, decide_eq_false fun z => h (V.int.inj z)]]
  exact q
theorem sc_law : FnScope ["script", "pool", "letters", "rule", "kept", "parts", "turn", "told", "one", "depth", "part", "signs", "due", "sign", "row"] ["script"] (defScope s_law) := ⟨rfl, rfl, rfl, by decide +kernel, rfl, by decide +kernel, by decide +kernel⟩
theorem ok_law {f : Addr} {fd : FuncData} (F : Fun K "law" "law" s_law f fd) (T : Bt K mg) (D_law_has : DefG P w K mg base CX0 18 "_law_has" ["rule", "word"] (spHas)) (D_law_is_so : DefG P w K mg base CX0 1 "_law_is_so" ["value", "due"] (spSo)) (D_law_is_whole : DefG P w K mg base CX0 1 "_law_is_whole" ["value", "due"] (spWhole)) (D_law_letters : DefG P w K mg base CX0 2 "_law_letters" ["pool", "most"] (spLetters)) (D_law_named : DefG P w K mg base CX0 2 "_law_named" ["pool", "rule"] (spNamed)) (D_law_parts : DefG P w K mg base CX0 (1 + 1 * 8) "_law_parts" ["rule", "depth"] (spLawParts 8)) (D_law_pick : DefG P w K mg base CX0 1 "_law_pick" ["pool", "many"] (spPick)) (D_law_rule : DefG P w K mg base CX0 (3 + 1 * 8) "_law_rule" ["pool", "letters", "depth"] (spLawRule 8)) (D_law_stream : DefG P w K mg base CX0 2 "_law_stream" ["script"] (spStream K)) (Ddepth_of : DefG P w K mg base CX0 (3 + 1 * 8) "depth_of" ["rule"] (spDepth 8)) (Dmay_be_empty : DefG P w K mg base CX0 (3 + 1 * 8) "may_be_empty" ["rule"] (spMbe 8)) (Dparts_of : DefG P w K mg base CX0 (10 + 1 * 8) "parts_of" ["rule"] (spParts 8)) (Dsigns_of : DefG P w K mg base CX0 19 "signs_of" ["letters", "rule"] (spSigns)) (Dsize_of : DefG P w K mg base CX0 (3 + 1 * 8) "size_of" ["rule"] (spSize 8)) : FnG P w K mg base CX0 20 f fd ["script"] (spLaw K) := by
  refine FnG.calm F sc_law (fun vs H Q E h => by first | (obtain ⟨_, rfl, _⟩ := h; rfl) | (obtain ⟨_, _, rfl, _⟩ := h; rfl) | (obtain ⟨_, _, _, rfl, _⟩ := h; rfl) | (obtain ⟨_, _, _, _, rfl, _⟩ := h; rfl) | (obtain ⟨_, _, _, _, _, rfl, _⟩ := h; rfl) | (obtain ⟨_, _, _, _, _, _, rfl, _⟩ := h; rfl) | (obtain ⟨_, _, _, _, _, _, _, rfl, _⟩ := h; rfl) | (obtain ⟨_, _, _, _, _, _, _, _, rfl, _⟩ := h; rfl) | (obtain ⟨_, _, _, _, _, _, _, _, _, rfl, _⟩ := h; rfl) | (obtain ⟨_, _, _, _, _, _, _, _, _, _, rfl, _⟩ := h; rfl) | (obtain ⟨_, _, _, _, _, _, _, _, _, _, _, rfl, _⟩ := h; rfl) | (obtain ⟨_, _, _, _, _, _, _, _, _, _, _, _, rfl, _⟩ := h; rfl)) (fun cd A out z H vs Q E hg hr h => ?_)
  have nd := sc_law.nd
  obtain ⟨a, ns, rfl, hS, hl, q⟩ := h
  refine ⟨_, (pss_cons (ps_set (i := 1) nd rfl (by first | exact Or.inl rfl | exact Or.inr rfl) (pe_fn D_law_stream hg (hr.mono (by first | decide | omega)) (pa_cons (pv 0) pa_nil)))
    (pss_cons (ps_set (i := 2) nd rfl (by first | exact Or.inl rfl | exact Or.inr rfl) (pe_fn D_law_letters hg (hr.mono (by first | decide | omega)) (pa_cons (pv 1) (pa_cons pe_int pa_nil))))
    (pss_cons (ps_set (i := 3) nd rfl (by first | exact Or.inl rfl | exact Or.inr rfl) (pe_fn D_law_rule hg (hr.mono (by first | decide | omega)) (pa_cons (pv 1) (pa_cons (pv 2) (pa_cons (pe_ix (ixL K) (pe_lst (pa_cons pe_int (pa_cons pe_int (pa_cons pe_int (pa_cons pe_int (pa_cons pe_int pa_nil)))))) (pe_fn D_law_pick hg (hr.mono (by first | decide | omega)) (pa_cons (pv 1) (pa_cons pe_int pa_nil))) (fun _ _ => rfl)) pa_nil)))))
    (pss_cons (ps_if (pt_not (pt_val (pe_fn D_law_is_so hg (hr.mono (by first | decide | omega)) (pa_cons (pe_fn Dmay_be_empty hg (hr.mono (by first | decide | omega)) (pa_cons (pv 3) pa_nil)) (pa_cons (pe_fn D_law_has hg (hr.mono (by first | decide | omega)) (pa_cons (pv 3) (pa_cons pe_str pa_nil))) pa_nil))))) (pss_one (ps_ret pe_bl)) pss_nil)
    (pss_cons (ps_if (pt_cmpR op_eq (pe_fn D_law_pick hg (hr.mono (by first | decide | omega)) (pa_cons (pv 1) (pa_cons pe_int pa_nil))) pe_int (nomark _)) (pss_one (ps_set (i := 3) nd rfl (by first | exact Or.inl rfl | exact Or.inr rfl) (pe_fn D_law_named hg (hr.mono (by first | decide | omega)) (pa_cons (pv 1) (pa_cons (pv 3) pa_nil))))) pss_nil)
    (pss_cons (ps_set (i := 4) nd rfl (by first | exact Or.inl rfl | exact Or.inr rfl) (pe_callB (call_reprD hg (hu_rep hr)) (by rfl) T.m_repr (by decide +kernel) (pa_cons (pv 3) pa_nil)))
    (pss_cons (ps_set (i := 5) nd rfl (by first | exact Or.inl rfl | exact Or.inr rfl) (pe_fn D_law_parts hg (hr.mono (by first | decide | omega)) (pa_cons (pv 3) (pa_cons pe_int pa_nil))))
    (pss_cons (ps_for PassesOwn.never rfl (pi_range1 (by rfl) T.m_range (pa_cons pe_int pa_nil)) (pg_name (i := 6) nd rfl (by first | exact Or.inl rfl | exact Or.inr rfl))
    (pss_cons (ps_set (i := 7) nd rfl (by first | exact Or.inl rfl | exact Or.inr rfl) (pe_fn Dparts_of hg (hr.mono (by first | decide | omega)) (pa_cons (pv 3) pa_nil)))
      (pss_cons (ps_if (PW.pt (pw_or (pt_not (pt_val (pe_callB (isiQ K) (by rfl) T.m_isinstance (by decide +kernel) (pa_cons (pv 7) (pa_cons (pe_bltn (v := .ty "list") (by rfl) T.m_list (by decide +kernel) rfl) pa_nil))))) (pw_or1 (pt_cmpR op_ne (pe_callB (call_reprD hg (hu_rep hr)) (by rfl) T.m_repr (by decide +kernel) (pa_cons (pv 7) pa_nil)) (pe_callB (call_reprD hg (hu_rep hr)) (by rfl) T.m_repr (by decide +kernel) (pa_cons (pe_lc (own := [("one", 8), ("depth", 9)]) (tt := tYes) (g := (gTup K 2 (gCons (gName 8) (gCons (gName 9) gNil)))) rfl nd (piL K (pv 5)) (blkOk_by (by kernel_rfl)) (fun _ _ _ _ _ => (gT K (n := 2) rfl (pgs_cons (pg_name (i := 8) nd rfl (by first | exact Or.inl rfl | exact Or.inr rfl)) (pgs_cons (pg_name (i := 9) nd rfl (by first | exact Or.inl rfl | exact Or.inr rfl)) pgs_nil)))) (fun _ _ _ _ _ => pts_nil) (fun _ _ _ _ _ => (pv 8))) pa_nil)) (nomark _))))) (pss_one (ps_ret pe_bl)) pss_nil)
      (pss_cons (ps_for PassesOwn.never rfl (piL K (pv 7)) (pg_name (i := 10) nd rfl (by first | exact Or.inl rfl | exact Or.inr rfl))
      (pss_one (ps_if (pt_cmpR (inQ K) (pe_ix (ixT K) (pv 10) pe_int (fun _ _ => rfl)) (pe_lst (pa_cons pe_str (pa_cons pe_str (pa_cons pe_str pa_nil)))) rfl) (pss_one (ps_expr (pe_bm PySem.F.plainAttrs_list PySem.F.slot_list_append PySem.F.type_list_append mt_append (pe_ix (ixT K) (pv 10) pe_int (fun _ _ => rfl)) (pa_cons (pe_tup (pa_cons pe_str pa_nil)) pa_nil)))) pss_nil)))
      (pss_cons (ps_expr (pe_bm0 PySem.F.plainAttrs_list PySem.F.slot_list_clear PySem.F.type_list_clear mt_clear (pv 7)))
      (pss_one (ps_if (pt_cmpR op_ne (pe_callB (call_reprD hg (hu_rep hr)) (by rfl) T.m_repr (by decide +kernel) (pa_cons (pv 3) pa_nil)) (pv 4) (nomark _)) (pss_one (ps_ret pe_bl)) pss_nil)))))))
    (pss_cons (ps_if (PW.pt (pw_or (pt_not (pt_val (pe_fn D_law_is_whole hg (hr.mono (by first | decide | omega)) (pa_cons (pe_fn Dsize_of hg (hr.mono (by first | decide | omega)) (pa_cons (pv 3) pa_nil)) (pa_cons (pe_callB (lenQ K) (by rfl) T.m_len PySem.boot_len (pa_cons (pv 5) pa_nil)) pa_nil))))) (pw_or1 (pt_not (pt_val (pe_fn D_law_is_whole hg (hr.mono (by first | decide | omega)) (pa_cons (pe_fn Ddepth_of hg (hr.mono (by first | decide | omega)) (pa_cons (pv 3) pa_nil)) (pa_cons (pe_callB (maxQ K rfl) (by rfl) T.m_max (by decide +kernel) (pa_cons (pe_lc (own := [("one", 8), ("depth", 9)]) (tt := tYes) (g := (gTup K 2 (gCons (gName 8) (gCons (gName 9) gNil)))) rfl nd (piL K (pv 5)) (blkOk_by (by kernel_rfl)) (fun _ _ _ _ _ => (gT K (n := 2) rfl (pgs_cons (pg_name (i := 8) nd rfl (by first | exact Or.inl rfl | exact Or.inr rfl)) (pgs_cons (pg_name (i := 9) nd rfl (by first | exact Or.inl rfl | exact Or.inr rfl)) pgs_nil)))) (fun _ _ _ _ _ => pts_nil) (fun _ _ _ _ _ => (pv 9))) pa_nil)) pa_nil)))))))) (pss_one (ps_ret pe_bl)) pss_nil)
    (pss_cons (ps_set (i := 11) nd rfl (by first | exact Or.inl rfl | exact Or.inr rfl) (pe_lc (own := [("one", 8), ("depth", 9)]) (g := (gTup K 2 (gCons (gName 8) (gCons (gName 9) gNil)))) rfl nd (piL K (pv 5)) (blkOk_by (by kernel_rfl)) (fun _ _ _ _ _ => (gT K (n := 2) rfl (pgs_cons (pg_name (i := 8) nd rfl (by first | exact Or.inl rfl | exact Or.inr rfl)) (pgs_cons (pg_name (i := 9) nd rfl (by first | exact Or.inl rfl | exact Or.inr rfl)) pgs_nil)))) (fun _ _ _ _ _ => pts_one (pt_cmpR op_eq (pe_ix (ixT K) (pv 8) pe_int (fun _ _ => rfl)) pe_str (nomark _))) (fun _ _ _ _ _ => (pe_ix (ixT K) (pv 8) pe_int (fun _ _ => rfl)))))
    (pss_cons (ps_set (i := 12) nd rfl (by first | exact Or.inl rfl | exact Or.inr rfl) (joinQ K pe_str (pe_lc (own := [("sign", 13)]) (g := gName 13) rfl nd (pi_str (pv 2)) (blkOk_by (by kernel_rfl)) (fun _ _ _ _ _ => (pg_name (i := 13) nd rfl (by first | exact Or.inl rfl | exact Or.inr rfl))) (fun _ _ _ _ _ => pts_one (pt_val (pe_callB (anyQ K rfl) (by rfl) T.m_any (by decide +kernel) (pa_cons (pe_lc (own := [("row", 14)]) (tt := tYes) (g := gName 14) rfl nd (piL K (pv 11)) (blkOk_by (by kernel_rfl)) (fun _ _ _ _ _ => (pg_name (i := 14) nd rfl (by first | exact Or.inl rfl | exact Or.inr rfl))) (fun _ _ _ _ _ => pts_nil) (fun _ _ _ _ _ => (pe_cmpR op_in_sign (pv 13) (pv 14) rfl))) pa_nil)))) (fun _ _ _ _ _ => (pv 13)))))
    (pss_cons (ps_set (i := 7) nd rfl (by first | exact Or.inl rfl | exact Or.inr rfl) (pe_fn Dsigns_of hg (hr.mono (by first | decide | omega)) (pa_cons (pv 2) (pa_cons (pv 3) pa_nil))))
    (pss_one (ps_ret (pe_and (pe_callB (isiQ K) (by rfl) T.m_isinstance (by decide +kernel) (pa_cons (pv 7) (pa_cons (pe_bltn (v := .ty "str") (by rfl) T.m_str (by decide +kernel) rfl) pa_nil))) (pe_and (pe_cmpR (op_eqD hr.units) (pv 7) (pv 12) (nomark _)) (pe_one (pe_cmpR op_eq (pe_callB (call_reprD hg (hu_rep hr)) (by rfl) T.m_repr (by decide +kernel) (pa_cons (pv 3) pa_nil)) (pv 4) (nomark _))))))))))))))))))), ?_⟩
  refine ⟨.ref a, rfl, a, ns, rfl, hS, hl, fun H1 pa st1 npa po1 => ?_⟩
  have ok1 : Ok (At pa) H1 H := ⟨st1.same, Pools.at po1, fun b e => by rw [show b = pa from e]; exact npa⟩
  refine ⟨.ref pa, rfl, pa, 6, rfl, po1, by decide, by decide, fun l H2 IL _ s2 p2 => ?_⟩
  have z2 := ok1.fz.stepS s2 p2
  have l6 := IL.six
  refine ⟨.ref pa, rfl, .str (strOf l), rfl, (by show 5 ≤ sizeLine; decide), fun p np => ?_⟩
  have z3 := z2.loc (o := .lst [.int 0, .int 1, .int 2, .int 3, .int 3]) np
  have ep : upd H2 p (.lst [.int 0, .int 1, .int 2, .int 3, .int 3]) p = some (.lst [.int 0, .int 1, .int 2, .int 3, .int 3]) := upd_same
  have hpp : p ≠ pa := fun e => z2.pool.some (e ▸ np)
  refine ⟨.ref pa, rfl, pa, 5, rfl, z3.pool, by decide, by decide, fun j H4 a4 b4 _ s4 p4 => ?_⟩
  have z4 := z3.stepS s4 p4
  obtain ⟨m, ⟨m0, m3⟩, hm⟩ := pickN (xs := [0, 1, 2, 3, 3]) (P := fun x => 0 ≤ x ∧ x ≤ 3) a4 b4 (by decide)
  obtain ⟨dn, rfl⟩ := Int.eq_ofNat_of_zero_le m0
  refine ⟨p, _, j, .int (dn : Nat), rfl, rfl, SqL.of (s4.keep _ _ hpp ep), hm, dn, (by omega), pa, l, H, rfl, IL, z4.ok, fun v H5 G5 r z5 dv ro pr de => ?_⟩
  have z6 := z4.trans z5
  refine ⟨v, rfl, r, (by omega), v, G5, l, rfl, ro, z5.same, dv, fun H6 s6 => ?_⟩
  refine ⟨v, rfl, r, v, G5, l, rfl, (by omega), ro, pr, z5.same.trans s6.same, dv, fun H7 s7 => ?_⟩
  refine ⟨r.mbe, r.mbe, rfl, ?_⟩
  rw [decide_eq_true (rfl : r.mbe = r.mbe)]
  refine ⟨true, rfl, iteNT ?_⟩
  have z7 := z6.step0 (s6.trans s7)
  refine ⟨.ref pa, rfl, pa, 3, rfl, z7.pool, by decide, by decide, fun u H8 a8 b8 _ s8 p8 => ?_⟩
  have z8 := z7.stepS s8 p8
  refine (fun (rest : ∀ (v : V) (r : Rl) (H9 G9 : Hp), Fz (At pa) H1 H H9 G9 → Dq G9 v (dR r) → r.Ok l → r.dep ≤ 4 → (_ : List (Option V) → Hp → Prop) [some (.ref a), some (.ref pa), some (.str (strOf l)), some v, none, none, none, none, none, none, none, none, none, none, none] H9) =>
    ⟨rfl, _, rfl, ite2 (fun _ => ⟨.ref pa, rfl, v, rfl, r, pa, v, G5, l, rfl, ro, z8.ok, dv, fun v' H9 G9 k x z9 d9 o9 => rest v' _ H9 G9 (z8.trans z9) d9 o9 (by simp only [Rl.dep, Rl.deps]; omega)⟩) (fun _ => rest v r H8 G5 z8 dv ro (by omega))⟩) ?_
  clear z8 z7 z6 z5 z4 z3 z2 s8 s7 s6 s4 s2 dv ro pr de
  intro v r H9 G9 z9 dv ro de
  have hl16 : ∀ c ∈ l, c < 16 ^ 8 := fun c hc => by have := IL.abc c hc; omega
  have shr := sh_rule hl16 4 r (by omega) ro
  have shp := shs_list (sh_parts hl16 4 r (by omega) ro)
  have lenp := parts_len (l := l) 5 r (by omega) ro
  obtain ⟨av, ws, rfl, eav, dws⟩ := dR_at dv
  obtain ⟨r1, r2, r3, r4⟩ := repr_ok shr (by decide) (by decide)
  refine ⟨.ref av, rfl, av, _, rfl, dp_of (dp_up dv z9.same), r1, r2, r3, r4, ?_⟩
  refine ⟨.ref av, rfl, r, (by omega), (by omega), .ref av, G9, l, 0, rfl, ro, z9.ok.narrow, dv, fun pp H10 G10 z10 dpp => ?_⟩
  have z11 := z9.call z10
  have dv10 := dp_up dv z10.up
  obtain ⟨pp', us, epp, eus, dus⟩ := dp_list dpp
  cases epp
  generalize hkt : (dR r).shown = kt
  refine ⟨2, rfl, by decide, by decide, ?_⟩
  refine for_range (lo := 0) (n := 2) (fun i σ Hc => ∃ (y6 y7 y8 y9 y10 : Option V), σ = [some (.ref a), some (.ref pa), some (.str (strOf l)), some (.ref av), some (.str kt), some (.ref pp), y6, y7, y8, y9, y10, none, none, none, none] ∧ Fz (At pa) H1 H Hc G10) ⟨none, none, none, none, none, rfl, z11⟩ (fun i σ Hc hi hP => ?_) (fun σ Hc hP => ?_)
  · obtain ⟨y6, y7, y8, y9, y10, rfl, zc⟩ := hP
    refine ⟨.ref av, rfl, r, (by omega), (by omega), .ref av, G10, l, rfl, ro, zc.ok.narrow, dv10, fun pt Hd Gd xs zd npt gpt ept dxs nl => ?_⟩
    have z12 : Fz (At pa) H1 H Hd G10 := zc.step0 zd.step
    have lus := dps_len dus
    rw [List.length_map, ← List.length_map (f := fun p : Rl × Nat => p.1), partsD_fst] at lus
    refine ⟨.ref pt, rfl, _, _, .type "list", .type "list", true, rfl, .ty "list", .base (.lst ept), kit_ty (by decide +kernel), true, rfl, iteNT ?_⟩
    obtain ⟨u1, u2, u3, u4⟩ := repr_ok shp (by decide) (by have := pz4; rw [dRs_map, List.length_map]; omega)
    refine ⟨.ref pt, rfl, pt, _, rfl, dp_of (.lst ept (dps_up dxs zd.same)), u1, u2, u3, u4, ?_⟩
    refine ⟨.ref pp, rfl, pp, rfl, ⟨_, SqL.of (zd.same _ _ (zd.up _ _ eus))⟩, fun D nD => ?_⟩
    refine lc_draw (R := fun i x => ∃ s, r.parts[i]? = some s ∧ x = dR s) (walk_list (xs := us)) (by omega) zd.ok nD (fun H s => SqL.of (s _ _ (zd.up _ _ eus))) (fun i y H2 G2 N hi hl z2 fin => ?_) (fun H2 G2 ds z2 dp2 _ hl hR => ?_)
    · obtain ⟨s, e, t, x, hs, _, rfl, et, dx⟩ := partAt dus hi
      have et2 := z2.same _ _ (z2.up _ _ (zd.up _ _ et))
      refine ⟨t, _, rfl, SqT.of et2, rfl, _, _, rfl, _, _, rfl, rfl, rfl, x, rfl, fin x H2 G2 (dR s) z2.ok.fz (dp_up dx (zd.up.trans z2.up)) ⟨s, hs, rfl⟩⟩
    · have e := dRs_of (by omega) hR
      subst e
      refine ⟨D, _, rfl, dp_of (dp_up dp2 z2.same), u1, u2, u3, u4, rfl, _, rfl, ?_⟩
      rw [decide_eq_true (rfl : V.str (PyData.list (dRs r.parts)).shown = V.str (PyData.list (dRs r.parts)).shown)]
      refine iteNT ?_
      have z13 := z12.step0 z2.step
      have ept2 := z2.step.same _ _ ept
      refine ⟨.ref pt, rfl, pt, rfl, ⟨_, SqL.of ept2⟩, ?_⟩
      have second : ∀ {A B : Prop} {b : Bool}, (b = true → A) → (b = false → B) → if b = true then A else B := fun {A B b} hA hB => by
        cases b
        · exact iteF (hB rfl)
        · exact iteT (hA rfl)
      have gne : ∀ q ys, Gd q = some (.lst ys) → q ≠ pt := fun q ys e z => by rw [z, gpt] at e; cases e
      refine for_it (walk_list (xs := xs)) (fun k σ H3 => ∃ (y10 : Option V), σ = [some (.ref a), some (.ref pa), some (.str (strOf l)), some (.ref av), some (.str kt), some (.ref pp), some (.int (0 + (i : Int))), some (.ref pt), y8, y9, y10, none, none, none, none] ∧ Fz (At pa) H1 H H3 G10 ∧ H3 pt = some (.lst xs) ∧ (∀ b o, Gd b = some (.tup o) → H3 b = some (.tup o)) ∧ (∀ b ys, Gd b = some (.lst ys) → ys.length ≤ 3 → ∃ zs, H3 b = some (.lst zs) ∧ zs.length ≤ 3 + k))
        ⟨y10, rfl, z13, ept2, fun b o e => z2.step.same _ _ (zd.same _ _ e), fun b ys e le => ⟨ys, z2.step.same _ _ (zd.same _ _ e), le⟩⟩ (fun k σ H3 _ hP => ?_) (fun k x σ H3 H3' hk hP hy => ?_) (fun σ H3 hP => ?_)
      · obtain ⟨y10, rfl, z14, h3, _⟩ := hP
        exact SqL.of h3
      · obtain ⟨rfl, hx⟩ := hy
        obtain ⟨y10, rfl, z14, h3, hT, hLs⟩ := hP
        obtain ⟨s, hs, ms, ds⟩ := dps_at dxs hx
        obtain ⟨t, ys, rfl, et, dys⟩ := dR_at ds
        refine ⟨.ref t, rfl, t, _, 0, .str s.tag, rfl, rfl, SqT.of (hT _ _ et), atI_nat (j := 0) rfl, (by show 3 ≤ sizeLine; decide), fun L nL => ⟨L, _, rfl, .inl (SqL.of upd_same), rfl, rfl, _, rfl, ?_⟩⟩
        rw [in_L]
        have cL := same_new (o := .lst [.str "row", .str "either", .str "both"]) (Same.refl _) nL
        have z15 := z14.loc (o := .lst [.str "row", .str "either", .str "both"]) nL
        have h4 := cL _ _ h3
        have hT4 : ∀ b o, Gd b = some (.tup o) → upd H3' L (.lst [.str "row", .str "either", .str "both"]) b = some (.tup o) := fun b o e => cL _ _ (hT b o e)
        have hL4 : ∀ b ys, Gd b = some (.lst ys) → ys.length ≤ 3 → ∃ zs, upd H3' L (.lst [.str "row", .str "either", .str "both"]) b = some (.lst zs) ∧ zs.length ≤ 3 + k := fun b ys e le => by
          obtain ⟨zs, e1, e2⟩ := hLs b ys e le
          exact ⟨zs, cL _ _ e1, e2⟩
        generalize upd H3' L (.lst [.str "row", .str "either", .str "both"]) = H4 at z15 h4 hT4 hL4 ⊢
        have lxs := dps_len' dxs
        refine second (fun hL => ?_) (fun _ => ⟨_, rfl, z15, h4, hT4, fun b ys e le => by obtain ⟨zs, e1, e2⟩ := hL4 b ys e le; exact ⟨zs, e1, by omega⟩⟩)
        obtain ⟨t', q', qs, et', e2, e3, e4, e5⟩ := nl k _ s hx hs hL
        cases et'
        obtain ⟨zs, hq, lz⟩ := hL4 q' qs e3 e4
        refine ⟨.ref t, rfl, t, _, 1, .ref q', rfl, rfl, SqT.of (hT4 _ _ e2), atI_nat (j := 1) rfl, .inl ⟨rfl, _, SqL.of hq⟩, (by decide), fun w nw => ?_⟩
        have cw := same_new (o := .tup [.str "none"]) (Same.refl _) nw
        refine ⟨q', zs, .ref w, rfl, rfl, cw _ _ hq, szl (by omega), _, rfl, (z15.loc nw).put (zc.step.free e5) (free_of zc.same e5) (fun e => by rw [show q' = pa from e] at e5; exact zc.pool.some e5), ?_, fun b o e => ?_, fun b ys e le => ?_⟩
        · rw [upd_ne (Ne.symm (gne q' qs e3))]; exact cw _ _ h4
        · rw [upd_ne (fun z => by rw [z, e3] at e; cases e)]; exact cw _ _ (hT4 b o e)
        · by_cases hbq : b = q'
          · subst hbq
            exact ⟨_, upd_same, by rw [List.length_append]; show zs.length + 1 ≤ _; omega⟩
          · obtain ⟨zs2, f1, f2⟩ := hL4 b ys e le
            exact ⟨zs2, by rw [upd_ne hbq]; exact cw _ _ f1, by omega⟩
      · obtain ⟨y10, rfl, z14, h3, _⟩ := hP
        refine ⟨.ref pt, rfl, .inl ⟨rfl, _, SqL.of h3⟩, pt, xs, rfl, rfl, h3, ?_⟩
        have z15 := z14.put (p := pt) (o := .lst []) (zc.step.free npt) (free_of zc.same npt) (fun e => by rw [show pt = pa from e] at npt; exact zc.pool.some npt)
        refine ⟨.ref av, rfl, av, _, rfl, dp_of (dp_up dv10 z15.same), r1, r2, r3, r4, .str kt, rfl, rfl, _, rfl, ?_⟩
        rw [hkt, decide_eq_true (rfl : V.str kt = V.str kt)]
        exact iteNT ⟨_, _, _, _, _, rfl, z15⟩
  · obtain ⟨y6, y7, y8, y9, y10, rfl, zc⟩ := hP
    have lus := dps_len dus
    rw [List.length_map, ← List.length_map (f := fun p : Rl × Nat => p.1), partsD_fst] at lus
    refine ⟨.ref av, rfl, r, (by omega), .ref av, G10, l, rfl, ro, zc.same, dv10, fun Hd sd => ?_⟩
    refine ⟨.ref pp, rfl, pp, us, rfl, .inl (SqL.of (sd.same _ _ (zc.same _ _ eus))), _, _, rfl, ?_⟩
    rw [decide_eq_true (show ((r.parts.length : Nat) : Int) = (us.length : Int) by rw [lus])]
    refine ⟨true, rfl, iteNT ?_⟩
    refine ⟨.ref av, rfl, r, (by omega), .ref av, G10, l, rfl, ro, zc.same.trans sd.same, dv10, fun He se => ?_⟩
    have ze := zc.step0 (sd.trans se)
    refine ⟨.ref pp, rfl, pp, rfl, ⟨_, SqL.of (ze.same _ _ eus)⟩, fun D nD => ?_⟩
    refine lc_draw (R := fun i x => ∃ s e, (r.partsD 0)[i]? = some (s, e) ∧ x = .int (e : Nat)) (walk_list (xs := us)) (by omega) ze.ok.narrow nD (fun H s => SqL.of (s _ _ eus)) (fun i y H2 G2 N hi hl z2 fin => ?_) (fun H2 G2 ds z2 dp2 _ hl hR => ?_)
    · obtain ⟨s, e, t, x, _, hs, rfl, et, dx⟩ := partAt dus hi
      have et2 := z2.same _ _ (z2.up _ _ et)
      refine ⟨t, _, rfl, SqT.of et2, rfl, _, _, rfl, _, _, rfl, rfl, rfl, .int (e : Nat), rfl, fin _ H2 G2 (.int (e : Nat)) z2.ok.fz (.int _) ⟨s, e, hs, rfl⟩⟩
    · have lpd : us.length = (r.partsD 0).length := by have := dps_len dus; rwa [List.length_map] at this
      have e : ds = ((r.partsD 0).map fun p => ((p.2 : Nat) : Int)).map .int := by
        refine List.ext_getElem? fun i => ?_
        rw [List.getElem?_map, List.getElem?_map]
        cases e : ds[i]? with
        | none =>
          have := List.getElem?_eq_none_iff.mp e
          rw [List.getElem?_eq_none (by omega)]; rfl
        | some d =>
          obtain ⟨s, n, hs, rfl⟩ := hR i d e
          rw [hs]; rfl
      subst e
      obtain ⟨D', eD, hD⟩ := dI dp2
      cases eD
      refine ⟨D, _, rfl, SqL.of (z2.same _ _ hD), (by rw [List.length_map, partsD_eq, List.length_cons]; omega), fun m h1 h2 => ?_⟩
      obtain ⟨g1, p, hp, ep⟩ := depths_r r 0
      have hm : ((r.dpt : Nat) : Int) = m := by
        obtain ⟨p1, hp1, rfl⟩ := List.mem_map.mp h1
        have a1 := g1 p1 hp1
        have a2 := h2 _ (List.mem_map.mpr ⟨p, hp, rfl⟩)
        omega
      refine ⟨_, _, rfl, ?_⟩
      rw [decide_eq_true hm]
      refine ⟨true, rfl, iteNT ?_⟩
      have zf := ze.step0 z2.step
      refine ⟨.ref pp, rfl, pp, rfl, ⟨_, SqL.of (zf.same _ _ eus)⟩, fun D2 nD2 => ?_⟩
      refine lc_pick (walk_list (xs := us)) (by omega) nD2 (oneF r.parts) (oneP r.parts) (fun H s => SqL.of (s.same _ _ (zf.same _ _ eus))) (fun i x H2 N hi hl s2 yes no => ?_) (fun H5 s5 hD5 => ?_)
      · obtain ⟨s, e, t, y, hs, _, rfl, et, dy⟩ := partAt dus hi
        obtain ⟨a', ws', rfl, ea', dws⟩ := dR_at dy
        have et2 := s2.same _ _ (zf.same _ _ et)
        have ea2 := s2.same _ _ (zf.same _ _ ea')
        refine ⟨t, _, rfl, SqT.of et2, rfl, _, _, rfl, _, _, rfl, rfl, rfl, .ref a', rfl, a', _, 0, .str s.tag, rfl, rfl, SqT.of ea2, atI_nat (j := 0) rfl, rfl, _, rfl, ?_⟩
        have two : (∃ w, s = .one w) ∨ (decide (V.str s.tag = V.str "one") = false ∧ oneP r.parts i = false) := by
          have e : ∀ u, s = u → oneP [u] 0 = oneP r.parts i := fun u e => by
            show _ = (match r.parts[i]? with | some (.one _) => true | _ => false)
            rw [hs, e]; rfl
          cases s with
          | one w => exact .inl ⟨w, rfl⟩
          | none => exact .inr ⟨(show decide (V.str "none" = V.str "one") = false by decide +kernel), (e _ rfl).symm⟩
          | empty => exact .inr ⟨(show decide (V.str "empty" = V.str "one") = false by decide +kernel), (e _ rfl).symm⟩
          | name x => exact .inr ⟨(show decide (V.str "name" = V.str "one") = false by decide +kernel), (e _ rfl).symm⟩
          | nt x => exact .inr ⟨(show decide (V.str "not" = V.str "one") = false by decide +kernel), (e _ rfl).symm⟩
          | times x lo hi => exact .inr ⟨(show decide (V.str "times" = V.str "one") = false by decide +kernel), (e _ rfl).symm⟩
          | lst k ss =>
            refine .inr ⟨?_, (e _ rfl).symm⟩
            match k with
            | 0 => exact (show decide (V.str "row" = V.str "one") = false by decide +kernel)
            | 1 => exact (show decide (V.str "either" = V.str "one") = false by decide +kernel)
            | 2 => exact (show decide (V.str "both" = V.str "one") = false by decide +kernel)
        rcases two with ⟨w, rfl⟩ | ⟨e1, e2⟩
        · obtain ⟨x, rfl, dx⟩ := dps_one dws
          cases dp_str dx
          have hp : oneP r.parts i = true := by
            show (match r.parts[i]? with | some (.one _) => true | _ => false) = true
            rw [hs]
          have hF : oneF r.parts i = .str (strOf w) := by
            show (match r.parts[i]? with | some (.one w) => V.str (strOf w) | _ => V.non) = _
            rw [hs]
          have y := yes hp H2 (Step.refl _ _)
          rw [hF] at y
          rw [decide_eq_true rfl]
          exact iteT ⟨.ref a', rfl, a', _, 1, .str (strOf w), rfl, rfl, SqT.of ea2, atI_nat (j := 1) rfl, y⟩
        · rw [e1]
          exact iteF (no e2 H2 (Step.refl _ _))
      · rw [lus, ones_is] at hD5
        have zg := zf.step0 s5
        have lw := ones_len r.parts
        have okS : PyData.strOk (strOf (sgnIn l (onesOf r.parts))) = true := strOk_of fun c hc => by have := IL.abc c (List.mem_filter.mp hc).1; omega
        generalize hws : onesOf r.parts = ws at hD5 lw okS
        refine ⟨⟨_, rfl⟩, _, rfl, _, rfl, fun D3 nD3 => ?_⟩
        refine lc_pick walkS (by rw [lenS]; omega) nD3 (fun i => V.str (strOf [l.getD i 0])) (fun i => ws.any fun w => decide (l.getD i 0 ∈ w)) (fun _ _ => trivial) (fun i x H6 N hi hl s6 yes no => ?_) (fun H6 s6 hD6 => ?_)
        · have ex := sgnAt hi
          subst ex
          generalize l.getD i 0 = c at yes no ⊢
          refine ⟨rfl, .ref D2, rfl, D2, rfl, ⟨_, SqL.of (s6.same _ _ hD5)⟩, fun D4 nD4 => ?_⟩
          refine lc_map (walk_list (xs := (ws.map strOf).map V.str)) (inF c) (fun _ => true) (by rw [List.length_map, List.length_map]; omega) (fun acc => SqL.of (same_new (Same.refl _) nD4 _ _ (s6.same _ _ hD5))) (fun j y acc N3 hj fin _ => ?_) ?_
          · obtain ⟨w, hw, rfl⟩ := strAt hj
            exact ⟨rfl, _, rfl, .str (strOf w), rfl, c, strOf w, rfl, rfl, fin rfl⟩
          · rw [in_rows]
            have s7 : Step NoS H6 (upd H6 D4 (.lst ((ws.map fun w => decide (c ∈ w)).map V.bl))) := Step.new nD4
            refine ⟨D4, _, rfl, SqL.of upd_same, _, rfl, ?_⟩
            rw [List.any_map]
            show if (ws.any fun w => decide (c ∈ w)) = true then _ else _
            cases hb : ws.any fun w => decide (c ∈ w) with
            | true => exact iteT ⟨_, rfl, yes hb _ s7⟩
            | false => exact iteF (no hb _ s7)
        · rw [pick_sgn] at hD6
          have ls : (sgnIn l ws).length ≤ l.length := List.length_filter_le _ _
          refine ⟨"", D3, (sgnIn l ws).map fun c => strOf [c], rfl, rfl, .inl (SqL.of hD6), ?_, ?_⟩
          · rw [sum_ones, List.length_map]
            show (sgnIn l ws).length + (sgnIn l ws).length * 0 ≤ _
            omega
          · rw [txt_join]
            have zh := zg.step0 s6
            refine ⟨_, rfl, .ref av, rfl, l, r, .ref av, G10, rfl, l6, (by omega), ro, zh.ok.narrow, dv10, fun H7 s7 => ?_⟩
            rw [hws]
            have zi := zh.step0 s7
            refine ⟨_, rfl, _, _, .type "str", .type "str", true, rfl, .ty "str", .base (.str _), kit_ty (by decide +kernel), true, rfl, ?_⟩
            have lay : PyData.canLay0 (PyData.str (strOf (sgnIn l ws))) = true := by rw [PyData.canLay0]; exact okS
            have sh : SeqAt.shaped (PyData.str (strOf (sgnIn l ws))) = true := by
              unfold SeqAt.shaped
              rw [Bool.and_eq_true_iff]
              exact ⟨lay, decide_eq_true (by rw [PyData.depth]; omega)⟩
            refine iteT ⟨_, rfl, _, rfl, .str _, .str _, .str _, .str _, sh, sh, ?_⟩
            rw [SeqAt.eqv_refl _ lay]
            refine ⟨true, rfl, iteT ⟨.ref av, rfl, av, _, rfl, dp_of (dp_up dv10 zi.same), r1, r2, r3, r4, .str kt, rfl, rfl, ?_⟩⟩
            rw [hkt, decide_eq_true (rfl : V.str kt = V.str kt)]
            exact q _
end
/-- a def stands at its name -/
def AtTop (K : PySem.W.Frag) (x : Str) (st : Stmt) : Prop := ∃ (f : Addr) (fd : FuncData), Fun K x x st f fd ∧ PySem.W.nsIn K mainGlobals x = some (some (.ref f))
theorem atTop {K : PySem.W.Frag} {x : Str} {st : Stmt} {f : Addr} {oc kV dc pm cd ct : Value} {od an : Option Addr} {sl : Array (Option Value)} (a : PySem.W.nsIn K mainGlobals x = some (some (.ref f)))
    (l : K.lookup f = some ⟨oc, od, .func (PySem.W.fnOf x x (defArgs st) (defBody st) (defScope st) .none kV dc pm an cd ct), sl⟩) (c : PySem.W.codeIn K cd x = true) (k : PySem.W.keepIn K (.ref f) = true) : AtTop K x st := ⟨f, _, fun_mk l c k, a⟩
theorem tupAt {K : PySem.W.Frag} {a : Addr} {od : Option Addr} {its : Array Value} {n : Nat} {sl : Array (Option Value)} {ws : List V} (l : K.lookup a = some ⟨.type "tuple", od, .seq its n, sl⟩) (z : its.size ≤ sizeLine) (v : Vals ws its.toList) :
    ∃ (b : Addr) (o : Obj) (its : Array Value) (n : Nat), Value.ref a = .ref b ∧ K.lookup b = some o ∧ o.cls = .type "tuple" ∧ o.data = .seq its n ∧ its.size ≤ sizeLine ∧ Vals ws its.toList := ⟨a, _, its, n, rfl, l, rfl, rfl, z, v⟩
theorem all_mk {l : PySem.W.OpenLaw} {w : World} {K : PySem.W.Frag} {h : Heap} {mg : Str → Option Value} {fa : Addr} {uLISTS : Value} (X : K.In h) (G : h.Ns mainGlobals mg) (hfa : mg "law" = some (.ref fa))
    (A_rules_in : AtTop K "rules_in" s_rules_in)
    (A_copied_rule : AtTop K "copied_rule" s_copied_rule)
    (A_parts_of : AtTop K "parts_of" s_parts_of)
    (A_size_of : AtTop K "size_of" s_size_of)
    (A_depth_of : AtTop K "depth_of" s_depth_of)
    (A_signs_of : AtTop K "signs_of" s_signs_of)
    (A_may_be_empty : AtTop K "may_be_empty" s_may_be_empty)
    (A_law_pool : AtTop K "_law_pool" s_law_pool)
    (A_law_stream : AtTop K "_law_stream" s_law_stream)
    (A_law_pick : AtTop K "_law_pick" s_law_pick)
    (A_law_letters : AtTop K "_law_letters" s_law_letters)
    (A_law_signs : AtTop K "_law_signs" s_law_signs)
    (A_law_rule : AtTop K "_law_rule" s_law_rule)
    (A_law_turns : AtTop K "_law_turns" s_law_turns)
    (A_law_behind : AtTop K "_law_behind" s_law_behind)
    (A_law_has : AtTop K "_law_has" s_law_has)
    (A_law_is_so : AtTop K "_law_is_so" s_law_is_so)
    (A_law_parts : AtTop K "_law_parts" s_law_parts)
    (A_law_named : AtTop K "_law_named" s_law_named)
    (A_law_is_whole : AtTop K "_law_is_whole" s_law_is_whole)
    (A_law : AtTop K "law" s_law)
    (z_all : PySem.W.nsIn K mainGlobals "all" = some none)
    (z_any : PySem.W.nsIn K mainGlobals "any" = some none)
    (z_bool : PySem.W.nsIn K mainGlobals "bool" = some none)
    (z_int : PySem.W.nsIn K mainGlobals "int" = some none)
    (z_isinstance : PySem.W.nsIn K mainGlobals "isinstance" = some none)
    (z_len : PySem.W.nsIn K mainGlobals "len" = some none)
    (z_list : PySem.W.nsIn K mainGlobals "list" = some none)
    (z_max : PySem.W.nsIn K mainGlobals "max" = some none)
    (z_min : PySem.W.nsIn K mainGlobals "min" = some none)
    (z_range : PySem.W.nsIn K mainGlobals "range" = some none)
    (z_repr : PySem.W.nsIn K mainGlobals "repr" = some none)
    (z_str : PySem.W.nsIn K mainGlobals "str" = some none)
    (z_sum : PySem.W.nsIn K mainGlobals "sum" = some none)
    (y_LISTS : PySem.W.nsIn K mainGlobals "LISTS" = some (some uLISTS))
    (x_LISTS : ∃ (a : Addr) (o : Obj) (its : Array Value) (n : Nat), uLISTS = .ref a ∧ K.lookup a = some o ∧ o.cls = .type "tuple" ∧ o.data = .seq its n ∧ its.size ≤ sizeLine ∧ Vals [.str "row", .str "either", .str "both"] its.toList) :
    ∃ fd : FuncData, (∀ (s : Shared) (v : Value), BindsTo s fd ⟨[v], []⟩ [("script", v)]) ∧ ∀ base : Heap, K.In base → base.Ns mainGlobals mg → FnG l.prog w K mg base CX0 20 fa fd ["script"] (spLaw K) := by
  have T : Bt K mg := ⟨PySem.W.mg_none_of X G z_all, PySem.W.mg_none_of X G z_any, PySem.W.mg_none_of X G z_bool, PySem.W.mg_none_of X G z_int, PySem.W.mg_none_of X G z_isinstance, PySem.W.mg_none_of X G z_len, PySem.W.mg_none_of X G z_list, PySem.W.mg_none_of X G z_max, PySem.W.mg_none_of X G z_min, PySem.W.mg_none_of X G z_range, PySem.W.mg_none_of X G z_repr, PySem.W.mg_none_of X G z_str, PySem.W.mg_none_of X G z_sum, (let ⟨a, o, its, n, e, k1, k2, k3, k4, k5⟩ := x_LISTS; ⟨a, e ▸ PySem.W.mg_of X G y_LISTS, fun _ => .inr ⟨o, its, n, k1, k2, k3, k4, k5⟩⟩)⟩
  have Drules_in : ∀ base : Heap, DefG l.prog w K mg base CX0 1 "rules_in" ["rule"] (spRulesIn) := by
    obtain ⟨f, fd, F, a⟩ := A_rules_in
    exact fun base => ⟨f, fd, ok_rules_in F T , PySem.W.mg_of X G a, F.kp, F.binds (ps := ["rule"]) fun _ _ _ _ _ _ us hl => match us, hl with | [_], _ => rfl⟩
  have Dcopied_rule : ∀ base : Heap, DefG l.prog w K mg base CX0 (1 + 1 * 8) "copied_rule" ["rule"] (spCopied 8) := by
    obtain ⟨f, fd, F, a⟩ := A_copied_rule
    intro base
    have S : ∀ dd, DefG l.prog w K mg base CX0 (1 + 1 * dd) "copied_rule" ["rule"] (spCopied dd) := fun dd => by
      induction dd with
      | zero => exact ⟨f, fd, FnG.vac (fun _ _ _ _ ⟨_, h, _⟩ => Nat.not_lt_zero _ h), PySem.W.mg_of X G a, F.kp, F.binds (ps := ["rule"]) fun _ _ _ _ _ _ us hl => match us, hl with | [_], _ => rfl⟩
      | succ dd ih => exact ⟨f, fd, ok_copied_rule F T ih, PySem.W.mg_of X G a, F.kp, F.binds (ps := ["rule"]) fun _ _ _ _ _ _ us hl => match us, hl with | [_], _ => rfl⟩
    exact S 8
  have Dparts_of : ∀ base : Heap, DefG l.prog w K mg base CX0 (10 + 1 * 8) "parts_of" ["rule"] (spParts 8) := by
    obtain ⟨f, fd, F, a⟩ := A_parts_of
    intro base
    have S : ∀ dd, DefG l.prog w K mg base CX0 (10 + 1 * dd) "parts_of" ["rule"] (spParts dd) := fun dd => by
      induction dd with
      | zero => exact ⟨f, fd, FnG.vac (fun _ _ _ _ ⟨_, h, _⟩ => Nat.not_lt_zero _ h), PySem.W.mg_of X G a, F.kp, F.binds (ps := ["rule"]) fun _ _ _ _ _ _ us hl => match us, hl with | [_], _ => rfl⟩
      | succ dd ih => exact ⟨f, fd, ok_parts_of F T (Dcopied_rule base) (Drules_in base) ih, PySem.W.mg_of X G a, F.kp, F.binds (ps := ["rule"]) fun _ _ _ _ _ _ us hl => match us, hl with | [_], _ => rfl⟩
    exact S 8
  have Dsize_of : ∀ base : Heap, DefG l.prog w K mg base CX0 (3 + 1 * 8) "size_of" ["rule"] (spSize 8) := by
    obtain ⟨f, fd, F, a⟩ := A_size_of
    intro base
    have S : ∀ dd, DefG l.prog w K mg base CX0 (3 + 1 * dd) "size_of" ["rule"] (spSize dd) := fun dd => by
      induction dd with
      | zero => exact ⟨f, fd, FnG.vac (fun _ _ _ _ ⟨_, h, _⟩ => Nat.not_lt_zero _ h), PySem.W.mg_of X G a, F.kp, F.binds (ps := ["rule"]) fun _ _ _ _ _ _ us hl => match us, hl with | [_], _ => rfl⟩
      | succ dd ih => exact ⟨f, fd, ok_size_of F T (Drules_in base) ih, PySem.W.mg_of X G a, F.kp, F.binds (ps := ["rule"]) fun _ _ _ _ _ _ us hl => match us, hl with | [_], _ => rfl⟩
    exact S 8
  have Ddepth_of : ∀ base : Heap, DefG l.prog w K mg base CX0 (3 + 1 * 8) "depth_of" ["rule"] (spDepth 8) := by
    obtain ⟨f, fd, F, a⟩ := A_depth_of
    intro base
    have S : ∀ dd, DefG l.prog w K mg base CX0 (3 + 1 * dd) "depth_of" ["rule"] (spDepth dd) := fun dd => by
      induction dd with
      | zero => exact ⟨f, fd, FnG.vac (fun _ _ _ _ ⟨_, h, _⟩ => Nat.not_lt_zero _ h), PySem.W.mg_of X G a, F.kp, F.binds (ps := ["rule"]) fun _ _ _ _ _ _ us hl => match us, hl with | [_], _ => rfl⟩
      | succ dd ih => exact ⟨f, fd, ok_depth_of F T (Drules_in base) ih, PySem.W.mg_of X G a, F.kp, F.binds (ps := ["rule"]) fun _ _ _ _ _ _ us hl => match us, hl with | [_], _ => rfl⟩
    exact S 8
  have Dsigns_of : ∀ base : Heap, DefG l.prog w K mg base CX0 19 "signs_of" ["letters", "rule"] (spSigns) := by
    obtain ⟨f, fd, F, a⟩ := A_signs_of
    exact fun base => ⟨f, fd, ok_signs_of F T (Dparts_of base), PySem.W.mg_of X G a, F.kp, F.binds (ps := ["letters", "rule"]) fun _ _ _ _ _ _ us hl => match us, hl with | [_, _], _ => rfl⟩
  have Dmay_be_empty : ∀ base : Heap, DefG l.prog w K mg base CX0 (3 + 1 * 8) "may_be_empty" ["rule"] (spMbe 8) := by
    obtain ⟨f, fd, F, a⟩ := A_may_be_empty
    intro base
    have S : ∀ dd, DefG l.prog w K mg base CX0 (3 + 1 * dd) "may_be_empty" ["rule"] (spMbe dd) := fun dd => by
      induction dd with
      | zero => exact ⟨f, fd, FnG.vac (fun _ _ _ _ ⟨_, h, _⟩ => Nat.not_lt_zero _ h), PySem.W.mg_of X G a, F.kp, F.binds (ps := ["rule"]) fun _ _ _ _ _ _ us hl => match us, hl with | [_], _ => rfl⟩
      | succ dd ih => exact ⟨f, fd, ok_may_be_empty F T (Drules_in base) ih, PySem.W.mg_of X G a, F.kp, F.binds (ps := ["rule"]) fun _ _ _ _ _ _ us hl => match us, hl with | [_], _ => rfl⟩
    exact S 8
  have D_law_pool : ∀ base : Heap, DefG l.prog w K mg base CX0 1 "_law_pool" ["script"] (spPool K) := by
    obtain ⟨f, fd, F, a⟩ := A_law_pool
    exact fun base => ⟨f, fd, ok_law_pool F T , PySem.W.mg_of X G a, F.kp, F.binds (ps := ["script"]) fun _ _ _ _ _ _ us hl => match us, hl with | [_], _ => rfl⟩
  have D_law_stream : ∀ base : Heap, DefG l.prog w K mg base CX0 2 "_law_stream" ["script"] (spStream K) := by
    obtain ⟨f, fd, F, a⟩ := A_law_stream
    exact fun base => ⟨f, fd, ok_law_stream F T (D_law_pool base), PySem.W.mg_of X G a, F.kp, F.binds (ps := ["script"]) fun _ _ _ _ _ _ us hl => match us, hl with | [_], _ => rfl⟩
  have D_law_pick : ∀ base : Heap, DefG l.prog w K mg base CX0 1 "_law_pick" ["pool", "many"] (spPick) := by
    obtain ⟨f, fd, F, a⟩ := A_law_pick
    exact fun base => ⟨f, fd, ok_law_pick F T , PySem.W.mg_of X G a, F.kp, F.binds (ps := ["pool", "many"]) fun _ _ _ _ _ _ us hl => match us, hl with | [_, _], _ => rfl⟩
  have D_law_letters : ∀ base : Heap, DefG l.prog w K mg base CX0 2 "_law_letters" ["pool", "most"] (spLetters) := by
    obtain ⟨f, fd, F, a⟩ := A_law_letters
    exact fun base => ⟨f, fd, ok_law_letters F T (D_law_pick base), PySem.W.mg_of X G a, F.kp, F.binds (ps := ["pool", "most"]) fun _ _ _ _ _ _ us hl => match us, hl with | [_, _], _ => rfl⟩
  have D_law_signs : ∀ base : Heap, DefG l.prog w K mg base CX0 2 "_law_signs" ["pool", "letters"] (spLawSigns) := by
    obtain ⟨f, fd, F, a⟩ := A_law_signs
    exact fun base => ⟨f, fd, ok_law_signs F T (D_law_pick base), PySem.W.mg_of X G a, F.kp, F.binds (ps := ["pool", "letters"]) fun _ _ _ _ _ _ us hl => match us, hl with | [_, _], _ => rfl⟩
  have D_law_rule : ∀ base : Heap, DefG l.prog w K mg base CX0 (3 + 1 * 8) "_law_rule" ["pool", "letters", "depth"] (spLawRule 8) := by
    obtain ⟨f, fd, F, a⟩ := A_law_rule
    intro base
    have S : ∀ dd, DefG l.prog w K mg base CX0 (3 + 1 * dd) "_law_rule" ["pool", "letters", "depth"] (spLawRule dd) := fun dd => by
      induction dd with
      | zero => exact ⟨f, fd, FnG.vac (fun _ _ _ _ ⟨_, h, _⟩ => Nat.not_lt_zero _ h), PySem.W.mg_of X G a, F.kp, F.binds (ps := ["pool", "letters", "depth"]) fun _ _ _ _ _ _ us hl => match us, hl with | [_, _, _], _ => rfl⟩
      | succ dd ih => exact ⟨f, fd, ok_law_rule F T (D_law_pick base) (D_law_signs base) ih, PySem.W.mg_of X G a, F.kp, F.binds (ps := ["pool", "letters", "depth"]) fun _ _ _ _ _ _ us hl => match us, hl with | [_, _, _], _ => rfl⟩
    exact S 8
  have D_law_behind : ∀ base : Heap, DefG l.prog w K mg base CX0 (1 + 2 * 8) "_law_behind" ["rule", "word", "places"] (spBehind 8) := by
    obtain ⟨f2, fd2, F2, a2⟩ := A_law_turns
    obtain ⟨f, fd, F, a⟩ := A_law_behind
    intro base
    have S : ∀ dd, DefG l.prog w K mg base CX0 (1 + 2 * dd) "_law_behind" ["rule", "word", "places"] (spBehind dd) := fun dd => by
      induction dd with
      | zero => exact ⟨f, fd, FnG.vac (fun _ _ _ _ ⟨_, h, _⟩ => Nat.not_lt_zero _ h), PySem.W.mg_of X G a, F.kp, F.binds (ps := ["rule", "word", "places"]) fun _ _ _ _ _ _ us hl => match us, hl with | [_, _, _], _ => rfl⟩
      | succ dd ih => exact ⟨f, fd, ok_law_behind F T ih ⟨f2, fd2, ok_law_turns F2 T ih, PySem.W.mg_of X G a2, F2.kp, F2.binds (ps := ["rule", "word", "places"]) fun _ _ _ _ _ _ us hl => match us, hl with | [_, _, _], _ => rfl⟩, PySem.W.mg_of X G a, F.kp, F.binds (ps := ["rule", "word", "places"]) fun _ _ _ _ _ _ us hl => match us, hl with | [_, _, _], _ => rfl⟩
    exact S 8
  have D_law_has : ∀ base : Heap, DefG l.prog w K mg base CX0 18 "_law_has" ["rule", "word"] (spHas) := by
    obtain ⟨f, fd, F, a⟩ := A_law_has
    exact fun base => ⟨f, fd, ok_law_has F T (D_law_behind base), PySem.W.mg_of X G a, F.kp, F.binds (ps := ["rule", "word"]) fun _ _ _ _ _ _ us hl => match us, hl with | [_, _], _ => rfl⟩
  have D_law_is_so : ∀ base : Heap, DefG l.prog w K mg base CX0 1 "_law_is_so" ["value", "due"] (spSo) := by
    obtain ⟨f, fd, F, a⟩ := A_law_is_so
    exact fun base => ⟨f, fd, ok_law_is_so F T , PySem.W.mg_of X G a, F.kp, F.binds (ps := ["value", "due"]) fun _ _ _ _ _ _ us hl => match us, hl with | [_, _], _ => rfl⟩
  have D_law_parts : ∀ base : Heap, DefG l.prog w K mg base CX0 (1 + 1 * 8) "_law_parts" ["rule", "depth"] (spLawParts 8) := by
    obtain ⟨f, fd, F, a⟩ := A_law_parts
    intro base
    have S : ∀ dd, DefG l.prog w K mg base CX0 (1 + 1 * dd) "_law_parts" ["rule", "depth"] (spLawParts dd) := fun dd => by
      induction dd with
      | zero => exact ⟨f, fd, FnG.vac (fun _ _ _ _ ⟨_, h, _⟩ => Nat.not_lt_zero _ h), PySem.W.mg_of X G a, F.kp, F.binds (ps := ["rule", "depth"]) fun _ _ _ _ _ _ us hl => match us, hl with | [_, _], _ => rfl⟩
      | succ dd ih => exact ⟨f, fd, ok_law_parts F T ih, PySem.W.mg_of X G a, F.kp, F.binds (ps := ["rule", "depth"]) fun _ _ _ _ _ _ us hl => match us, hl with | [_, _], _ => rfl⟩
    exact S 8
  have D_law_named : ∀ base : Heap, DefG l.prog w K mg base CX0 2 "_law_named" ["pool", "rule"] (spNamed) := by
    obtain ⟨f, fd, F, a⟩ := A_law_named
    exact fun base => ⟨f, fd, ok_law_named F T (D_law_pick base), PySem.W.mg_of X G a, F.kp, F.binds (ps := ["pool", "rule"]) fun _ _ _ _ _ _ us hl => match us, hl with | [_, _], _ => rfl⟩
  have D_law_is_whole : ∀ base : Heap, DefG l.prog w K mg base CX0 1 "_law_is_whole" ["value", "due"] (spWhole) := by
    obtain ⟨f, fd, F, a⟩ := A_law_is_whole
    exact fun base => ⟨f, fd, ok_law_is_whole F T , PySem.W.mg_of X G a, F.kp, F.binds (ps := ["value", "due"]) fun _ _ _ _ _ _ us hl => match us, hl with | [_, _], _ => rfl⟩
  obtain ⟨f, fd, F, a⟩ := A_law
  have e := hfa.symm.trans (PySem.W.mg_of X G a)
  cases e
  refine ⟨fd, fun s v => ?_, fun base _ _ => ok_law F T (D_law_has base) (D_law_is_so base) (D_law_is_whole base) (D_law_letters base) (D_law_named base) (D_law_parts base) (D_law_pick base) (D_law_rule base) (D_law_stream base) (Ddepth_of base) (Dmay_be_empty base) (Dparts_of base) (Dsigns_of base) (Dsize_of base)⟩
  obtain ⟨oc, od, kV, doc, pm, an, cdv, ct, osl, rfl, _, _⟩ := F.ex
  exact .of_eq rfl
end Hw
open PySem PySem.W PyProof.Rows
set_option maxHeartbeats 0 in
theorem PySem.Challenge.cw_hallofwords_k03_parts_of_rules_holds : PySem.Challenge.rw_hallofwords_k03_parts_of_rules.Holds := by
  w_on; o_law; k_head; (case hw => w_witness2)
  k_fill
  refine Hw.law_end (l := PySem.Challenge.rw_hallofwords_k03_parts_of_rules) (n := 63) (k := 20) (x := "script") (sp := fun K => Hw.spLaw K) rfl (by decide) rfl ⟨rfl, by decide, by decide⟩ (fun w h Y => PySem.W.kIn_of Y) ?F (fun K H a ns hl _ hS => Hw.law_pre hl hS)
  case F =>
    intro w mg fa h KX G hmg
    refine' Hw.all_mk KX G hmg ?a0 ?a1 ?a2 ?a3 ?a4 ?a5 ?a6 ?a7 ?a8 ?a9 ?a10 ?a11 ?a12 ?a13 ?a14 ?a15 ?a16 ?a17 ?a18 ?a19 ?a20 ?z0 ?z1 ?z2 ?z3 ?z4 ?z5 ?z6 ?z7 ?z8 ?z9 ?z10 ?z11 ?z12 ?y0 ?x0
    (case a0 => (refine' Hw.atTop ?a ?l ?c ?k; (case a => k_is); (case l => k_is); (case c => k_is); (case k => k_is)))
    (case a1 => (refine' Hw.atTop ?a ?l ?c ?k; (case a => k_is); (case l => k_is); (case c => k_is); (case k => k_is)))
    (case a2 => (refine' Hw.atTop ?a ?l ?c ?k; (case a => k_is); (case l => k_is); (case c => k_is); (case k => k_is)))
    (case a3 => (refine' Hw.atTop ?a ?l ?c ?k; (case a => k_is); (case l => k_is); (case c => k_is); (case k => k_is)))
    (case a4 => (refine' Hw.atTop ?a ?l ?c ?k; (case a => k_is); (case l => k_is); (case c => k_is); (case k => k_is)))
    (case a5 => (refine' Hw.atTop ?a ?l ?c ?k; (case a => k_is); (case l => k_is); (case c => k_is); (case k => k_is)))
    (case a6 => (refine' Hw.atTop ?a ?l ?c ?k; (case a => k_is); (case l => k_is); (case c => k_is); (case k => k_is)))
    (case a7 => (refine' Hw.atTop ?a ?l ?c ?k; (case a => k_is); (case l => k_is); (case c => k_is); (case k => k_is)))
    (case a8 => (refine' Hw.atTop ?a ?l ?c ?k; (case a => k_is); (case l => k_is); (case c => k_is); (case k => k_is)))
    (case a9 => (refine' Hw.atTop ?a ?l ?c ?k; (case a => k_is); (case l => k_is); (case c => k_is); (case k => k_is)))
    (case a10 => (refine' Hw.atTop ?a ?l ?c ?k; (case a => k_is); (case l => k_is); (case c => k_is); (case k => k_is)))
    (case a11 => (refine' Hw.atTop ?a ?l ?c ?k; (case a => k_is); (case l => k_is); (case c => k_is); (case k => k_is)))
    (case a12 => (refine' Hw.atTop ?a ?l ?c ?k; (case a => k_is); (case l => k_is); (case c => k_is); (case k => k_is)))
    (case a13 => (refine' Hw.atTop ?a ?l ?c ?k; (case a => k_is); (case l => k_is); (case c => k_is); (case k => k_is)))
    (case a14 => (refine' Hw.atTop ?a ?l ?c ?k; (case a => k_is); (case l => k_is); (case c => k_is); (case k => k_is)))
    (case a15 => (refine' Hw.atTop ?a ?l ?c ?k; (case a => k_is); (case l => k_is); (case c => k_is); (case k => k_is)))
    (case a16 => (refine' Hw.atTop ?a ?l ?c ?k; (case a => k_is); (case l => k_is); (case c => k_is); (case k => k_is)))
    (case a17 => (refine' Hw.atTop ?a ?l ?c ?k; (case a => k_is); (case l => k_is); (case c => k_is); (case k => k_is)))
    (case a18 => (refine' Hw.atTop ?a ?l ?c ?k; (case a => k_is); (case l => k_is); (case c => k_is); (case k => k_is)))
    (case a19 => (refine' Hw.atTop ?a ?l ?c ?k; (case a => k_is); (case l => k_is); (case c => k_is); (case k => k_is)))
    (case a20 => (refine' Hw.atTop ?a ?l ?c ?k; (case a => k_is); (case l => k_is); (case c => k_is); (case k => k_is)))
    (case z0 => k_is)
    (case z1 => k_is)
    (case z2 => k_is)
    (case z3 => k_is)
    (case z4 => k_is)
    (case z5 => k_is)
    (case z6 => k_is)
    (case z7 => k_is)
    (case z8 => k_is)
    (case z9 => k_is)
    (case z10 => k_is)
    (case z11 => k_is)
    (case z12 => k_is)
    (case y0 => k_is)
    (case x0 => (refine' Hw.tupAt ?tl ?tz ?tv; (case tl => k_is); (case tz => first | decide | kernel_rfl); (case tv => repeat (first | exact .nil | refine .cons rfl ?_ | refine .cons ⟨_, rfl⟩ ?_))))
