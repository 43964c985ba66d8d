import PyProof.Rows.All
import Wide.All
import OpenK.AllK
import Wide.FinOn
import HandS.Base
import HandS.Call
import HandS.List
import HandS.Comp
import HandS.Ends
import HandS.Iter
import HandS.Text
import HandS.Words
import HandS.WordsList
import HandS.Replace
import HandS.IsInst
import HandS.Flow
import PyProof.ReprRoads
import HandS.Walk
import PyProof.ReprLen
import PyProof.Rows.StrDigits
import HandS.Exc
import HandS.ExcOwn
import HandS.ExcIs
import HandS.HotCalls
import KE.GoesEnum
import PySem.Challenge.RW_hallofwords_k27_whole_words_by_their_num
set_option Elab.async false
set_option linter.all false
set_option maxRecDepth 100000
set_option maxHeartbeats 4000000
/-! a layer over the hand layer: defs that know that nothing is being shown (guards), deep data, frozen heaps -/
namespace Hw
open PySem PySem.Spec PyProof.Rows L2

/-- as the hand layer's FnOk, for callers around whom no repr runs -/
structure FnG (P : Program) (w : World) (K : PySem.W.Frag) (mg : Str → Option Value) (base : Heap) (CX : CXT) (k : Nat) (f : Addr) (fd : FuncData) (ps : List Str) (sp : Sp) : Prop where
  size : ∀ vs H Q E, sp vs H Q E → vs.length = ps.length
  go : ∀ (A : Around) (out : List Env) (z : Shared) (H : Hp) (ar : Args) (us : List Value) (vs : List V) (Q : VK) (E : XK), A.guards = some [] → Room k A →
    Env0 P w K mg base A out z H → BindsTo z fd ar (ps.zip us) → Vals vs us → sp vs H Q E → codeAny (model P w) A (.call (.ref f) ar) (CR CX out P w H z Q E) z
section
variable {P : Program} {w : World} {K : PySem.W.Frag} {mg : Str → Option Value} {base : Heap} {CX : CXT} {k j : Nat} {f : Addr} {fd : FuncData} {ps N : List Str} {sp sp' : Sp}
theorem FnG.ofOk (F : FnOk P w K mg base CX k f fd ps sp) : FnG P w K mg base CX k f fd ps sp :=
  ⟨F.len, fun A out z H ar us vs Q E _ => F.run A out z H ar us vs Q E⟩
theorem FnG.up (F : FnG P w K mg base CX j f fd ps sp) (h : j ≤ k) : FnG P w K mg base CX k f fd ps sp :=
  ⟨F.size, fun A out z H ar us vs Q E g r => F.go A out z H ar us vs Q E g (r.mono h)⟩
theorem FnG.weaker (F : FnG P w K mg base CX k f fd ps sp) (h : ∀ vs H Q E, sp' vs H Q E → sp vs H Q E) : FnG P w K mg base CX k f fd ps sp' :=
  ⟨fun vs H Q E q => F.size vs H Q E (h _ _ _ _ q), fun A out z H ar us vs Q E g r e b v q => F.go A out z H ar us vs Q E g r e b v (h _ _ _ _ q)⟩

/-- a def of the text keeps its promise, by its body -/
theorem FnG.body {x qual : Str} {st : Stmt} (F : Fun K x qual st f fd) (S : FnScope N ps (defScope st)) (sz : ∀ vs H Q E, sp vs H Q E → vs.length = ps.length)
    (bd : ∀ (cd : Value) (A : Around) (out : List Env) (z : Shared) (H : Hp) (vs : List V) (Q : VK) (E : XK), (A.deeper (envOfC qual (defScope st) z.heap.objs.size f cd)).guards = some [] →
      Room k (A.deeper (envOfC qual (defScope st) z.heap.objs.size f cd)) → sp vs H Q E →
      ∃ t, PSs (cxOf CX P w K mg base N qual (defScope st) f cd A out z H E) (defBody st) t ∧ t { nx := fun _ H' => Q .non H', rt := Q } (start N vs) H) : FnG P w K mg base CX (k + 1) f fd ps sp := by
  obtain ⟨oc, od, kV, dc, pm, an, cd, ct, sl, rfl, look, isC⟩ := F.ex
  refine ⟨sz, ?_⟩
  intro A out z H ar us vs Q E gd room en bi va pr
  have many := sz _ _ _ _ pr
  have stays : ∀ b o, base.get? b = some o → z.heap.get? b = some o := fun b o e => (en.bs b o e).1
  have inK : K.In z.heap := en.mod.kin.keeps stays
  have noL : z.heap.NoLimit := en.mod.nolimit.keeps stays
  have kinds : ∀ y ∈ ps.zip us, (defScope st).names.lookup y.1 = some .local ∨ ((defScope st).names.lookup y.1 = some .cell ∧ ((cellsFrom (z.heap.objs.size + 1) (defScope st).names []).lookup y.1).isSome = true) := by
    rintro ⟨n, v⟩ hy
    cases S.par n (List.of_mem_zip hy).1 with
    | inl q => exact .inl q
    | inr q => exact .inr ⟨q, PySem.W.cellsFrom_some _ _ _ (.inl q)⟩
  refine codeAny_call_function room.depth (inK _ _ look) rfl S.co S.gen rfl (PySem.W.codeRec_of inK isC) (bi _ _ _ _ ?_)
  refine wpAny_newFunctionEnv_cells S.kind kinds fun env e0 z1 c => ?_
  subst e0
  obtain ⟨t, ht, q⟩ := bd cd A out z H vs Q E gd (room.deeper _) pr
  have I := inv_start (CX := CX) (E := E) S room.hd en many va c
  refine ⟨noL.keeps c.toInCall.keep, codeAny_func (wpAny_mono (ht.run [] z1 _ H _ I q) (fun fl z2 r => ?_) fun _ _ r => r)⟩
  cases fl with
  | next =>
    obtain ⟨_, H2, J, q2⟩ := r
    exact ⟨.non, H2, J.os, J.bare, J.base, J.hok, rfl, q2⟩
  | ret u =>
    obtain ⟨v, _, H2, J, rv, q2⟩ := r
    exact ⟨v, H2, J.os, J.bare, J.base, J.hok, rv, q2⟩
  | brk => exact r.choose_spec.choose_spec.2.elim
  | cont => exact r.choose_spec.choose_spec.2.elim
/-- the same where no exception leaves -/
theorem FnG.calm {x qual : Str} {st : Stmt} (F : Fun K x qual st f fd) (S : FnScope N ps (defScope st)) (sz : ∀ vs H Q E, sp vs H Q E → vs.length = ps.length)
    (bd : ∀ (cd : Value) (A : Around) (out : List Env) (z : Shared) (H : Hp) (vs : List V) (Q : VK) (E : XK), (A.deeper (envOfC qual (defScope st) z.heap.objs.size f cd)).guards = some [] →
      Room k (A.deeper (envOfC qual (defScope st) z.heap.objs.size f cd)) → sp vs H Q E →
      ∃ t, PSs (cxOf CX0 P w K mg base N qual (defScope st) f cd A out z H E).nox (defBody st) t ∧ t { nx := fun _ H' => Q .non H', rt := Q } (start N vs) H) : FnG P w K mg base CX0 (k + 1) f fd ps sp :=
  FnG.body F S sz fun cd A out z H vs Q E g r q => let ⟨t, h, h2⟩ := bd cd A out z H vs Q E g r q; ⟨t, h.nox, h2⟩
end

/-- a def by its name: where it stands, what it promises, how it is bound -/
def DefG (P : Program) (w : World) (K : PySem.W.Frag) (mg : Str → Option Value) (base : Heap) (CX : CXT) (k : Nat) (x : Str) (ps : List Str) (sp : Sp) : Prop :=
  ∃ (f : Addr) (fd : FuncData), FnG P w K mg base CX k f fd ps sp ∧ mg x = some (.ref f) ∧ PySem.W.keepIn K (.ref f) = true ∧ Binds K fd ps []
theorem DefG.up {P : Program} {w : World} {K : PySem.W.Frag} {mg : Str → Option Value} {base : Heap} {CX : CXT} {k j : Nat} {x : Str} {ps : List Str} {sp : Sp} (D : DefG P w K mg base CX j x ps sp) (h : j ≤ k) : DefG P w K mg base CX k x ps sp :=
  let ⟨f, fd, F, r⟩ := D; ⟨f, fd, F.up h, r⟩
theorem DefG.weaker {P : Program} {w : World} {K : PySem.W.Frag} {mg : Str → Option Value} {base : Heap} {CX : CXT} {k : Nat} {x : Str} {ps : List Str} {sp sp' : Sp} (D : DefG P w K mg base CX k x ps sp) (h : ∀ vs H Q E, sp' vs H Q E → sp vs H Q E) : DefG P w K mg base CX k x ps sp' :=
  let ⟨f, fd, F, r⟩ := D; ⟨f, fd, F.weaker h, r⟩
section
variable {X : Cx} {CX : CXT} {k : Nat} {x : Str} {ps : List Str} {sp : Sp} {p pos : Pos} {e : Expr} {es : List Expr} {t : TA}
theorem go_call {f : Addr} {fd : FuncData} {pins : List (Addr × Obj)} {σ : L2.St} {H : Hp} {s : Shared} {Q : VK} {E : XK} {us : List Value} {vs : List V} (F : FnG X.prog X.w X.K X.mg X.base CX k f fd ps sp) (bi : Binds X.K fd ps []) (gd : X.A.guards = some []) (hr : Room k X.A)
    (out : ∀ e s', CX X.stack H s E e s' → X.xe e s') (I : Inv X pins σ H s) (va : Vals vs us) (q : sp vs H Q E) : wpAny (model X.prog X.w) X.A (call (.ref f) us) (EP X pins σ Q) X.xe s := by
  have len : us.length = ps.length := va.length ▸ F.size _ _ _ _ q
  have b := bi s us I.kIn (by rw [List.append_nil]; exact len)
  rw [List.append_nil] at b
  refine wpAny_call (codeAny_mono (F.go X.A X.stack s H _ us vs Q E gd hr I.env0 b va q) fun r s2 h => ?_)
  match r, h with
  | .error e, h => exact out e s2 h
  | .ok (.ret u), h => exact I.after h
  | .ok .next, h => exact h.elim
  | .ok .brk, h => exact h.elim
  | .ok .cont, h => exact h.elim
/-- f(e, ..) of a def that lets nothing out -/
theorem pe_fn (D : DefG X.prog X.w X.K X.mg X.base CX0 k x ps sp) (gd : X.A.guards = some []) (hr : Room k X.A) (ha : PA X (e :: es) t) (hg : Gl X x := by rfl) (hdb : (x == ("__debug__" : Str)) = false := by decide)
    (he : starEach (e :: es) X.env = (false, eval e X.env) :: starEach es X.env := by rfl) (hpl : (backTo pos (starEach es X.env)).any (·.1) = false := by rfl) : PE X (.Call (.Name x p) (e :: es) [] pos) (tCall sp [] E0 t) := by
  obtain ⟨f, fd, F, hm, kp, bi⟩ := D
  refine ⟨fun pins s σ H Q I q => wpAny_Call_Name_kw (ld_glob I hg hm ?_ hdb)⟩
  refine PySem.W.callWith_K (h₀ := X.base) I.ok.mod.kin kp (thn (ha.run pos pins s σ H _ I q) fun us s1 r => ?_) he hpl
  obtain ⟨vs, H1, J, va, q1⟩ := r
  rw [List.append_nil] at q1
  exact ⟨J.kIn, go_call F bi gd hr (fun _ _ z => z.elim) J va q1⟩
theorem pe_fn0 (D : DefG X.prog X.w X.K X.mg X.base CX0 k x ps sp) (gd : X.A.guards = some []) (hr : Room k X.A) (hg : Gl X x := by rfl) (hdb : (x == ("__debug__" : Str)) = false := by decide) : PE X (.Call (.Name x p) [] [] pos) (tCall sp [] E0 tNil) := by
  obtain ⟨f, fd, F, hm, kp, bi⟩ := D
  refine ⟨fun pins s σ H Q I q => wpAny_Call_Name_kw (ld_glob I hg hm ?_ hdb)⟩
  exact PySem.W.callWith_K0 I.kIn kp (go_call F bi gd hr (fun _ _ z => z.elim) I .nil q)
end

/-! ### repr of data -/
/-- what is read of a value of data: a leaf, or an object -/
theorem call_reprD {X : Cx} (gd : X.A.guards = some []) (hu : X.A.units + 200 < cLine) :
    CallR X (.builtin "repr") (fun xs H Q => ∃ a d, xs = [V.ref a] ∧ Dp X.K H (.ref a) d ∧ d.showable = true ∧ d.hasDict = false ∧ d.depth ≤ 100 ∧ d.shown.length ≤ sizeLine ∧ Q (.str d.shown) H) := by
  intro pins s σ H vs us Q I rv h
  obtain ⟨a, d, rfl, hd, h1, h2, h3, h4, q⟩ := h
  cases rv with
  | cons r rr =>
    cases rr
    have r' : _ = Value.ref a := r
    subst r'
    obtain ⟨as, rd⟩ := Dp.reads I d _ _ hd rfl
    refine repr_of_reads' rd h1 (fun z => by rw [h2] at z; cases z) gd (by omega) (fun _ _ e => e) (fun h' u tk kp => ?_) h4
    exact ⟨.str d.shown, H, I.kept (t' := tk) kp, ⟨u, rfl⟩, q⟩
theorem hu_rep {A : Around} {k : Nat} (hr : Room k A) : A.units + 200 < cLine := by have := hr.un; omega

/-! ### the rules that speak of the written part, it being named: a block's reading must not speak of the block -/
section
variable {X : Cx} (K : PySem.W.Frag)
theorem ixL (h : X.K = K := by rfl) : IxR X (rIxL K) := by subst h; exact ix_list
theorem ixT (h : X.K = K := by rfl) : IxR X (rIxT K) := by subst h; exact ix_tup
theorem slL (h : X.K = K := by rfl) : SlR X (rSlL K) := by subst h; exact sl_list
theorem slT (h : X.K = K := by rfl) : SlR X (rSlT K) := by subst h; exact sl_tup
theorem inQ (h : X.K = K := by rfl) : OpR X (compareOp .In) (rIn K false) := by subst h; exact op_in_seq
theorem notInQ (h : X.K = K := by rfl) : OpR X (compareOp .NotIn) (rIn K true) := by subst h; exact op_notIn_seq
theorem lenQ (h : X.K = K := by rfl) : CallR X (.builtin "len") (fun xs H Q => ∃ p ys, xs = [.ref p] ∧ (SqL K H p ys ∨ SqT K H p ys) ∧ Q (.int ys.length) H) := by subst h; exact call_len_seq
theorem listQ (h : X.K = K := by rfl) : CallR X (.type "list") (fun xs H Q => ∃ p ys, xs = [.ref p] ∧ (SqL K H p ys ∨ SqT K H p ys) ∧ ∀ l, H l = none → Q (.ref l) (upd H l (.lst ys))) := by subst h; exact call_list_of
theorem tupQ (h : X.K = K := by rfl) : CallR X (.type "tuple") (fun xs H Q => ∃ p ys, xs = [.ref p] ∧ ((SqL K H p ys ∧ ∀ l, H l = none → Q (.ref l) (upd H l (.tup ys))) ∨ (SqT K H p ys ∧ Q (.ref p) H))) := by subst h; exact call_tuple_of
theorem sumQ (hc : X.calm = true) (h : X.K = K := by rfl) : CallR X (.builtin "sum") (rSum K) := by subst h; exact cr_sum hc
theorem maxQ (hc : X.calm = true) (h : X.K = K := by rfl) : CallR X (.builtin "max") (rMax K) := by subst h; exact cr_max hc
theorem minQ (hc : X.calm = true) (h : X.K = K := by rfl) : CallR X (.builtin "min") (rMin K) := by subst h; exact cr_min hc
theorem anyQ (hc : X.calm = true) (h : X.K = K := by rfl) : CallR X (.builtin "any") (rAny K) := by subst h; exact cr_any hc
theorem allQ (hc : X.calm = true) (h : X.K = K := by rfl) : CallR X (.builtin "all") (rAll K) := by subst h; exact cr_all hc
theorem sortedQ (h : X.K = K := by rfl) : CallR X (.builtin "sorted") (rSorted K) := by subst h; exact cr_sorted
theorem isiQ (h : X.K = K := by rfl) : CallR X (.builtin "isinstance") (rIsi K) := by subst h; exact call_isi
variable {tg l e e2 : Expr} {tl : TE} {ta : TA} {p pos tpos apos : Pos} {elts es : List Expr} {kk k n : Nat} {t : TGs}
theorem piL (hl : PE X l tl) (h : X.K = K := by rfl) : PI X tg l (iList K tl) := by subst h; exact pi_list hl
theorem piT (hl : PE X l tl) (h : X.K = K := by rfl) : PI X tg l (iTup K tl) := by subst h; exact pi_tup hl
theorem piEnum (hg : Gl X "enumerate") (hm : X.mg "enumerate" = none) (ha : PA X [e] ta) (hs : starEach [e] X.env = [(false, eval e X.env)] := by rfl) (h : X.K = K := by rfl) :
    PI X (.Tuple elts kk tpos) (.Call (.Name "enumerate" p) [e] [] pos) (iEnum K ta) := by subst h; exact pi_enum hg hm ha hs
theorem piZip (hg : Gl X "zip") (hm : X.mg "zip" = none) (ha : PA X [e, e2] ta) (hs : starEach [e, e2] X.env = (false, eval e X.env) :: starEach [e2] X.env := by rfl)
    (hpl : (backTo pos (starEach [e2] X.env)).any (·.1) = false := by rfl) (h : X.K = K := by rfl) : PI X (.Tuple elts kk tpos) (.Call (.Name "zip" p) [e, e2] [] pos) (iZip K ta) := by subst h; exact pi_zip hg hm ha hs hpl
theorem piRev (hg : Gl X "reversed") (hm : X.mg "reversed" = none) (ha : PA X [e] ta) (hs : starEach [e] X.env = [(false, eval e X.env)] := by rfl) (h : X.K = K := by rfl) :
    PI X tg (.Call (.Name "reversed" p) [e] [] pos) (iRev K ta) := by subst h; exact pi_reversed hg hm ha hs
theorem gT (hc : X.calm = true) (hp : PGs X es t) (hn : (assignEach es X.env).length = n := by rfl) (hst : (assignEach es X.env).findIdx? (·.1) = none := by rfl) (h : X.K = K := by rfl) : PG X (.Tuple es k pos) (gTup K n t) := by
  subst h; exact pg_tup hc hp hn hst
theorem joinQ {o : Expr} {to te : TE} (ho : PE X o to) (he : PE X e te) (hs : starEach [e] X.env = [(false, eval e X.env)] := by rfl) (hb : attributeBase o "join" X.env (eval o X.env) = eval o X.env := by rfl) (hl : (apos.endLine == pos.line) = true := by rfl) (h : X.K = K := by rfl) :
    PE X (.Call (.Attribute o "join" apos) [e] [] pos) (tM1 (fun x xs H Q => ∃ a p, ∃ ys : List Str, x = .str a ∧ xs = [.ref p] ∧ (SqL K H p (ys.map V.str) ∨ SqT K H p (ys.map V.str)) ∧
      (ys.map (·.length)).sum + ys.length * a.length ≤ 16777216 ∧ Q (.str (Txt.join a ys)) H) to te) := by subst h; exact pe_join ho he hs hb hl
end
/-- text.index(sign), found -/
theorem pe_sindex {X : Cx} {o e : Expr} {to te : TE} {apos pos : Pos} (ho : PE X o to) (he : PE X e te) (hs : starEach [e] X.env = [(false, eval e X.env)] := by rfl) (hb : attributeBase o "index" X.env (eval o X.env) = eval o X.env := by rfl) (hl : (apos.endLine == pos.line) = true := by rfl) :
    PE X (.Call (.Attribute o "index" apos) [e] [] pos) (tM1 (fun x xs H Q => ∃ a b i rest, x = .str a ∧ xs = [.str b] ∧ Builtin.Str.occurrences a b 0 a.length 1 = i :: rest ∧ Q (.int (i : Nat)) H) to te) :=
  pe_m1 F.slot_str_index F.type_str_index mt_sindex ho he hs hb hl
end Hw

/-! heaps: what is frozen (G) beside what changes; deep data and their encodings -/
namespace Hw
open PySem PySem.Spec PyProof.Rows L2

/-! ### frozen parts -/
theorem same_new {G H : Hp} {p : Addr} {o : HO} (s : Same G H) (n : H p = none) : Same G (upd H p o) := fun b u e => by
  rw [upd_ne (ne_of_none (s b u e) n)]; exact s b u e
theorem same_mut {G H : Hp} {p : Addr} {o : HO} (s : Same G H) (n : G p = none) : Same G (upd H p o) := fun b u e => by
  rw [upd_ne (ne_of_none e n)]; exact s b u e
/-- what stands at p is frozen too -/
theorem same_add {G H : Hp} {p : Addr} {o : HO} (s : Same G H) (e : H p = some o) : Same (upd G p o) H := fun b u h => by
  by_cases hb : b = p
  · subst hb; rw [upd_same] at h; rw [e]; exact h
  · rw [upd_ne hb] at h; exact s b u h
theorem same_sub {G : Hp} {p : Addr} {o : HO} (n : G p = none) : Same G (upd G p o) := same_new (Same.refl G) n
theorem free_of {G H : Hp} {p : Addr} (s : Same G H) (n : H p = none) : G p = none := s.free n
/-- the heap without one object -/
def off (H : Hp) (a : Addr) : Hp := fun b => if b = a then none else H b
theorem off_same {H : Hp} {a : Addr} : Same (off H a) H := fun b u e => by
  unfold off at e
  by_cases h : b = a
  · rw [if_pos h] at e; cases e
  · rw [if_neg h] at e; exact e
theorem off_at {H : Hp} {a : Addr} : off H a a = none := by unfold off; exact if_pos rfl
theorem off_ne {H : Hp} {a b : Addr} (h : b ≠ a) : off H a b = H b := by unfold off; exact if_neg h
/-- all but the one object stands as it stood -/
def Keep (a : Addr) (H H' : Hp) : Prop := ∀ b o, b ≠ a → H b = some o → H' b = some o
theorem Keep.refl (a : Addr) (H : Hp) : Keep a H H := fun _ _ _ h => h
theorem Keep.trans {a : Addr} {H H1 H2 : Hp} (x : Keep a H H1) (y : Keep a H1 H2) : Keep a H H2 := fun b o n h => y b o n (x b o n h)
theorem Keep.same {a : Addr} {G H H' : Hp} (x : Keep a H H') (s : Same G H) (n : G a = none) : Same G H' := fun b o h => x b o (ne_of_none h n) (s b o h)
theorem Keep.of {a : Addr} {H H' : Hp} (s : Same (off H a) H') : Keep a H H' := fun b o n h => s b o (by rw [off_ne n]; exact h)
theorem Keep.upd {a : Addr} {H : Hp} {o : HO} : Keep a H (upd H a o) := fun b u n h => by rw [upd_ne n]; exact h
theorem same_off {a : Addr} {G H : Hp} (s : Same G H) (n : G a = none) : Same G (off H a) := fun b o h => by
  rw [off_ne (ne_of_none h n)]; exact s b o h
theorem keep_same {a : Addr} {H H' : Hp} (s : Same H H') : Keep a H H' := fun b o _ h => s b o h

/-! ### deep data: lists and tuples that are tracked, of leaves -/
mutual
inductive Dq (H : Hp) : V → PyData → Prop
  | non : Dq H .non .none
  | bl (b : Bool) : Dq H (.bl b) (.bool b)
  | int (i : Int) : Dq H (.int i) (.int i)
  | str (x : Str) : Dq H (.str x) (.str x)
  | lst {a : Addr} {xs : List V} {ds : List PyData} : H a = some (.lst xs) → DqAll H xs ds → Dq H (.ref a) (.list ds)
  | tup {a : Addr} {xs : List V} {ds : List PyData} : H a = some (.tup xs) → DqAll H xs ds → Dq H (.ref a) (.tuple ds)
inductive DqAll (H : Hp) : List V → List PyData → Prop
  | nil : DqAll H [] []
  | cons {v : V} {vs : List V} {d : PyData} {ds : List PyData} : Dq H v d → DqAll H vs ds → DqAll H (v :: vs) (d :: ds)
end
mutual
theorem Dq_mono {G H : Hp} (e : Same G H) : ∀ (d : PyData) (v : V), Dq G v d → Dq H v d
  | .none, _, h => by cases h; exact .non
  | .bool _, _, h => by cases h; exact .bl _
  | .int _, _, h => by cases h; exact .int _
  | .str _, _, h => by cases h; exact .str _
  | .list ds, _, h => by
    cases h with
    | lst hs ha => exact .lst (e _ _ hs) (DqAll_mono e ds _ ha)
  | .tuple ds, _, h => by
    cases h with
    | tup hs ha => exact .tup (e _ _ hs) (DqAll_mono e ds _ ha)
  | .dict _, _, h => by cases h
theorem DqAll_mono {G H : Hp} (e : Same G H) : ∀ (ds : List PyData) (vs : List V), DqAll G vs ds → DqAll H vs ds
  | [], _, h => by cases h; exact .nil
  | d :: ds, _, h => by
    cases h with
    | cons h1 h2 => exact .cons (Dq_mono e d _ h1) (DqAll_mono e ds _ h2)
end
mutual
theorem Dq_Dp {K : PySem.W.Frag} {H : Hp} : ∀ (d : PyData) (v : V), Dq H v d → Dp K H v d
  | .none, _, h => by cases h; exact .non
  | .bool _, _, h => by cases h; exact .bl _
  | .int _, _, h => by cases h; exact .int _
  | .str _, _, h => by cases h; exact .str _
  | .list ds, _, h => by
    cases h with
    | lst hs ha => exact .lst (SqL.of hs) (DqAll_Dp ds _ ha)
  | .tuple ds, _, h => by
    cases h with
    | tup hs ha => exact .tup (SqT.of hs) (DqAll_Dp ds _ ha)
  | .dict _, _, h => by cases h
theorem DqAll_Dp {K : PySem.W.Frag} {H : Hp} : ∀ (ds : List PyData) (vs : List V), DqAll H vs ds → DpAll K H vs ds
  | [], _, h => by cases h; exact .nil
  | d :: ds, _, h => by
    cases h with
    | cons h1 h2 => exact .cons (Dq_Dp d _ h1) (DqAll_Dp ds _ h2)
end
section
variable {G H : Hp} {v : V} {vs : List V} {d : PyData} {ds es : List PyData}
theorem dp_up (h : Dq G v d) (e : Same G H) : Dq H v d := Dq_mono e d v h
theorem dps_up (h : DqAll G vs ds) (e : Same G H) : DqAll H vs ds := DqAll_mono e ds vs h
theorem dp_of {K : PySem.W.Frag} (h : Dq G v d) : Dp K G v d := Dq_Dp d v h
theorem dp_list (h : Dq G v (.list ds)) : ∃ a xs, v = .ref a ∧ G a = some (.lst xs) ∧ DqAll G xs ds := by
  cases h with
  | lst hs ha => exact ⟨_, _, rfl, hs, ha⟩
theorem dp_tuple (h : Dq G v (.tuple ds)) : ∃ a xs, v = .ref a ∧ G a = some (.tup xs) ∧ DqAll G xs ds := by
  cases h with
  | tup hs ha => exact ⟨_, _, rfl, hs, ha⟩
theorem dp_int {i : Int} (h : Dq G v (.int i)) : v = .int i := by cases h; rfl
theorem dp_bool {b : Bool} (h : Dq G v (.bool b)) : v = .bl b := by cases h; rfl
theorem dp_str {x : Str} (h : Dq G v (.str x)) : v = .str x := by cases h; rfl
theorem dp_none (h : Dq G v .none) : v = .non := by cases h; rfl
theorem dps_len : ∀ {vs : List V} {ds : List PyData}, DqAll G vs ds → vs.length = ds.length
  | _, _, .nil => rfl
  | _, _, .cons _ h => by rw [List.length_cons, List.length_cons, dps_len h]
theorem dps_get : ∀ {vs : List V} {ds : List PyData} {i : Nat} {d : PyData}, DqAll G vs ds → ds[i]? = some d → ∃ v, vs[i]? = some v ∧ Dq G v d
  | _, _, _, _, .nil, e => by simp at e
  | _, _, 0, _, .cons h _, e => by simp at e; subst e; exact ⟨_, rfl, h⟩
  | _, _, i + 1, d, .cons _ h, e => by
    obtain ⟨v, h1, h2⟩ := dps_get (i := i) (d := d) h (by simpa using e)
    exact ⟨v, by simpa using h1, h2⟩
theorem dps_get' : ∀ {vs : List V} {ds : List PyData} {i : Nat} {v : V}, DqAll G vs ds → vs[i]? = some v → ∃ d, ds[i]? = some d ∧ Dq G v d
  | _, _, _, _, .nil, e => by simp at e
  | _, _, 0, _, .cons h _, e => by simp at e; subst e; exact ⟨_, rfl, h⟩
  | _, _, i + 1, v, .cons _ h, e => by
    obtain ⟨d, h1, h2⟩ := dps_get' (i := i) (v := v) h (by simpa using e)
    exact ⟨d, by simpa using h1, h2⟩
theorem dps_app : ∀ {vs ws : List V} {ds es : List PyData}, DqAll G vs ds → DqAll G ws es → DqAll G (vs ++ ws) (ds ++ es)
  | _, _, _, _, .nil, h => h
  | _, _, _, _, .cons a b, h => .cons a (dps_app b h)
theorem dps_snoc (h : DqAll G vs ds) (h1 : Dq G v d) : DqAll G (vs ++ [v]) (ds ++ [d]) := dps_app h (.cons h1 .nil)
theorem dps_ints : ∀ {vs : List V} {ns : List Int}, DqAll G vs (ns.map PyData.int) → vs = ns.map V.int
  | _, [], h => by cases h; rfl
  | _, n :: ns, h => by
    cases h with
    | cons h1 h2 => rw [dp_int h1, dps_ints h2]; rfl
theorem dps_bools : ∀ {vs : List V} {ns : List Bool}, DqAll G vs (ns.map PyData.bool) → vs = ns.map V.bl
  | _, [], h => by cases h; rfl
  | _, n :: ns, h => by
    cases h with
    | cons h1 h2 => rw [dp_bool h1, dps_bools h2]; rfl
theorem dps_strs : ∀ {vs : List V} {ns : List Str}, DqAll G vs (ns.map PyData.str) → vs = ns.map V.str
  | _, [], h => by cases h; rfl
  | _, n :: ns, h => by
    cases h with
    | cons h1 h2 => rw [dp_str h1, dps_strs h2]; rfl
theorem ints_dps : ∀ {ns : List Int}, DqAll G (ns.map V.int) (ns.map PyData.int)
  | [] => .nil
  | n :: _ => .cons (.int n) ints_dps
theorem bools_dps : ∀ {ns : List Bool}, DqAll G (ns.map V.bl) (ns.map PyData.bool)
  | [] => .nil
  | n :: _ => .cons (.bl n) bools_dps
theorem strs_dps : ∀ {ns : List Str}, DqAll G (ns.map V.str) (ns.map PyData.str)
  | [] => .nil
  | n :: _ => .cons (.str n) strs_dps
end
/-! encodings -/
abbrev DI (ns : List Int) : PyData := .list (ns.map .int)
abbrev DB (bs : List Bool) : PyData := .list (bs.map .bool)
abbrev DS (xs : List Str) : PyData := .list (xs.map .str)
abbrev DT (t : List (List Int)) : PyData := .list (t.map DI)
/-- a machine -/
structure Mach where
  tab : List (List Int)
  ends : List Bool
abbrev DM (m : Mach) : PyData := .tuple [DT m.tab, DB m.ends]
section
variable {G H : Hp} {v : V} {a : Addr}
theorem dI {ns : List Int} (h : Dq G v (DI ns)) : ∃ a, v = .ref a ∧ G a = some (.lst (ns.map V.int)) := by
  obtain ⟨a, xs, e, hs, ha⟩ := dp_list h
  exact ⟨a, e, dps_ints ha ▸ hs⟩
theorem dB {ns : List Bool} (h : Dq G v (DB ns)) : ∃ a, v = .ref a ∧ G a = some (.lst (ns.map V.bl)) := by
  obtain ⟨a, xs, e, hs, ha⟩ := dp_list h
  exact ⟨a, e, dps_bools ha ▸ hs⟩
theorem dS {ns : List Str} (h : Dq G v (DS ns)) : ∃ a, v = .ref a ∧ G a = some (.lst (ns.map V.str)) := by
  obtain ⟨a, xs, e, hs, ha⟩ := dp_list h
  exact ⟨a, e, dps_strs ha ▸ hs⟩
theorem Idp {ns : List Int} (h : G a = some (.lst (ns.map V.int))) : Dq G (.ref a) (DI ns) := .lst h ints_dps
theorem Bdp {ns : List Bool} (h : G a = some (.lst (ns.map V.bl))) : Dq G (.ref a) (DB ns) := .lst h bools_dps
theorem Sdp {ns : List Str} (h : G a = some (.lst (ns.map V.str))) : Dq G (.ref a) (DS ns) := .lst h strs_dps
/-- a pair's parts -/
theorem dP {d e : PyData} (h : Dq G v (.tuple [d, e])) : ∃ a x y, v = .ref a ∧ G a = some (.tup [x, y]) ∧ Dq G x d ∧ Dq G y e := by
  obtain ⟨a, xs, e, hs, ha⟩ := dp_tuple h
  cases ha with
  | cons h1 h2 =>
    cases h2 with
    | cons h3 h4 =>
      cases h4
      exact ⟨a, _, _, e, hs, h1, h3⟩
/-- a machine's two lists -/
theorem dM {m : Mach} (h : Dq G v (DM m)) : ∃ a x y, v = .ref a ∧ G a = some (.tup [x, y]) ∧ Dq G x (DT m.tab) ∧ Dq G y (DB m.ends) := dP h
theorem Mdp {m : Mach} {x y : V} (h : G a = some (.tup [x, y])) (h1 : Dq G x (DT m.tab)) (h2 : Dq G y (DB m.ends)) : Dq G (.ref a) (DM m) := .tup h (.cons h1 (.cons h2 .nil))
/-- a table's row -/
theorem dT_row {t : List (List Int)} {xs : List V} {i : Nat} {r : List Int} (ha : DqAll G xs (t.map DI)) (e : t[i]? = some r) : ∃ b, xs[i]? = some (.ref b) ∧ G b = some (.lst (r.map V.int)) := by
  obtain ⟨v, h1, h2⟩ := dps_get (i := i) (d := DI r) ha (by rw [List.getElem?_map, e]; rfl)
  obtain ⟨b, rfl, h3⟩ := dI h2
  exact ⟨b, h1, h3⟩
end
theorem getI {ns : List Int} {i : Nat} {n : Int} (h : ns[i]? = some n) : (ns.map V.int)[i]? = some (.int n) := by rw [List.getElem?_map, h]; rfl
theorem getB {ns : List Bool} {i : Nat} {n : Bool} (h : ns[i]? = some n) : (ns.map V.bl)[i]? = some (.bl n) := by rw [List.getElem?_map, h]; rfl
theorem getS {ns : List Str} {i : Nat} {n : Str} (h : ns[i]? = some n) : (ns.map V.str)[i]? = some (.str n) := by rw [List.getElem?_map, h]; rfl
/-- at an int that is a place -/
theorem atI_of {α : Type} {xs : List α} {k : Int} {v : α} (h0 : 0 ≤ k) (h : xs[k.toNat]? = some v) : atI xs k = some v := by
  have e : ((k.toNat : Nat) : Int) = k := Int.toNat_of_nonneg h0
  rw [← e]; exact atI_nat h
theorem ixN_of {n : Nat} {k : Int} (h0 : 0 ≤ k) (h : k < n) : ixN n k = some k.toNat := by
  unfold ixN; rw [if_pos h0, if_pos h]
theorem exists_at {α : Type} {xs : List α} {k : Int} (h0 : 0 ≤ k) (h : k < xs.length) : ∃ v, xs[k.toNat]? = some v := by
  have : k.toNat < xs.length := by omega
  exact ⟨xs[k.toNat], List.getElem?_eq_getElem this⟩

/-! ### the drawn numbers: a place, then numbers below 60 -/
def PoolOk (H : Hp) (pa : Addr) : Prop := ∃ (p0 : Int) (ps : List Int), H pa = some (.lst ((p0 :: ps).map V.int)) ∧ 300 ≤ ps.length ∧ ps.length ≤ 5000 ∧ 0 ≤ p0 ∧ ∀ x ∈ ps, 0 ≤ x ∧ x < 60
theorem PoolOk.keep {H H' : Hp} {pa : Addr} (h : PoolOk H pa) (e : H' pa = H pa) : PoolOk H' pa := by
  obtain ⟨p0, ps, h1, h2⟩ := h
  exact ⟨p0, ps, by rw [e]; exact h1, h2⟩
theorem PoolOk.new {H : Hp} {pa p : Addr} {o : HO} (h : PoolOk H pa) (n : H p = none) : PoolOk (upd H p o) pa := by
  refine h.keep (upd_ne ?_)
  obtain ⟨p0, ps, h1, h2⟩ := h
  exact ne_of_none h1 n
theorem PoolOk.other {H : Hp} {pa p : Addr} {o : HO} (h : PoolOk H pa) (n : p ≠ pa) : PoolOk (upd H p o) pa := h.keep (upd_ne n.symm)

/-! ### what may happen between two moments -/
/-- S: the objects that may change (the drawn numbers); the others stay, none goes -/
structure Step (S : Addr → Prop) (H H' : Hp) : Prop where
  keep : ∀ b o, ¬ S b → H b = some o → H' b = some o
  dom : ∀ b, H' b = none → H b = none
abbrev NoS : Addr → Prop := fun _ => False
abbrev At (pa : Addr) : Addr → Prop := fun b => b = pa
section
variable {S S' : Addr → Prop} {H H1 H2 G G1 G2 H0 G0 : Hp} {p : Addr} {o : HO}
theorem Step.refl (S : Addr → Prop) (H : Hp) : Step S H H := ⟨fun _ _ _ h => h, fun _ h => h⟩
theorem Step.trans (a : Step S H H1) (b : Step S H1 H2) : Step S H H2 := ⟨fun c o n h => b.keep c o n (a.keep c o n h), fun c h => a.dom c (b.dom c h)⟩
theorem Step.wide (a : Step NoS H H1) : Step S H H1 := ⟨fun c o _ h => a.keep c o (fun z => z) h, a.dom⟩
theorem Step.same (a : Step NoS H H1) : Same H H1 := fun c o h => a.keep c o (fun z => z) h
theorem Step.new (n : H p = none) : Step S H (upd H p o) := ⟨fun b u _ h => by rw [upd_ne (ne_of_none h n)]; exact h, fun b h => by
  by_cases e : b = p
  · subst e; exact n
  · rw [upd_ne e] at h; exact h⟩
theorem Step.mut (s : S p) (n : H p ≠ none) : Step S H (upd H p o) := ⟨fun b u nb h => by rw [upd_ne (by rintro rfl; exact nb s)]; exact h, fun b h => by
  by_cases e : b = p
  · subst e; rw [upd_same] at h; cases h
  · rw [upd_ne e] at h; exact h⟩
/-- an object of one's own changes -/
theorem Step.own (a : Step S H0 H) (n : H0 p = none) : Step S H0 (upd H p o) := ⟨fun b u nb h => by rw [upd_ne (ne_of_none h n)]; exact a.keep b u nb h, fun b h => by
  by_cases e : b = p
  · subst e; exact n
  · rw [upd_ne e] at h; exact a.dom b h⟩
theorem Step.free (a : Step S H H1) (n : H1 p = none) : H p = none := a.dom p n
theorem Step.there (a : Step S H H1) (n : H p ≠ none) : H1 p ≠ none := fun z => n (a.dom p z)

/-- the drawn numbers are in order -/
def Pools (S : Addr → Prop) (H : Hp) : Prop := ∀ b, S b → PoolOk H b
theorem Pools.none : Pools NoS H := fun _ z => z.elim
theorem Pools.at {pa : Addr} (h : PoolOk H pa) : Pools (At pa) H := fun b e => by rw [show b = pa from e]; exact h
theorem Pools.ok {pa : Addr} (h : Pools (At pa) H) : PoolOk H pa := h pa rfl
theorem PoolOk.some {pa : Addr} (h : PoolOk H pa) : H pa ≠ Option.none := by
  obtain ⟨_, _, e, _⟩ := h
  rw [e]; exact fun z => nomatch z
theorem Pools.new (h : Pools S H) (n : H p = Option.none) : Pools S (upd H p o) := fun b s => (h b s).new n
theorem Pools.other (h : Pools S H) (n : ¬ S p) : Pools S (upd H p o) := fun b s => (h b s).other (by rintro rfl; exact n s)
theorem Pools.step (h : Pools S H) (a : Step NoS H H1) : Pools S H1 := fun b s => by
  obtain ⟨p0, ps, e, r⟩ := h b s
  exact ⟨p0, ps, a.same _ _ e, r⟩

/-- G is frozen in H, away from the drawn numbers -/
structure Ok (S : Addr → Prop) (H G : Hp) : Prop where
  same : Same G H
  pools : Pools S H
  out : ∀ b, S b → G b = none
/-- the frozen part has grown by new objects alone -/
structure Grow (G H G' : Hp) : Prop where
  same : Same G G'
  free : ∀ b, G b = none → H b ≠ none → G' b = none
/-- from H0 with its frozen part G0 to H with its frozen part G -/
structure Fz (S : Addr → Prop) (H0 G0 H G : Hp) : Prop where
  step : Step S H0 H
  grow : Grow G0 H0 G
  ok : Ok S H G
theorem Ok.fz (h : Ok S H G) : Fz S H G H G := ⟨Step.refl _ _, ⟨Same.refl _, fun _ h _ => h⟩, h⟩
theorem Ok.narrow (h : Ok S H G) : Ok NoS H G := ⟨h.same, Pools.none, fun _ z => z.elim⟩
theorem Fz.same (h : Fz S H0 G0 H G) : Same G H := h.ok.same
theorem Fz.up (h : Fz S H0 G0 H G) : Same G0 G := h.grow.same
theorem Fz.trans (a : Fz S H0 G0 H1 G1) (b : Fz S H1 G1 H2 G2) : Fz S H0 G0 H2 G2 :=
  ⟨a.step.trans b.step, ⟨a.grow.same.trans b.grow.same, fun c h n => b.grow.free c (a.grow.free c h n) (a.step.there n)⟩, b.ok⟩
/-- behind a call of a def that draws nothing -/
theorem Fz.call (a : Fz S H0 G0 H1 G1) (b : Fz NoS H1 G1 H2 G2) : Fz S H0 G0 H2 G2 :=
  ⟨a.step.trans b.step.wide, ⟨a.grow.same.trans b.grow.same, fun c h n => b.grow.free c (a.grow.free c h n) (a.step.there n)⟩,
    ⟨b.ok.same, a.ok.pools.step b.step, fun c s => b.grow.free c (a.ok.out c s) (a.ok.pools c s).some⟩⟩
/-- behind a call that hands back no object -/
theorem Fz.stepS (a : Fz S H0 G0 H1 G1) (b : Step S H1 H2) (po : Pools S H2) : Fz S H0 G0 H2 G1 :=
  ⟨a.step.trans b, a.grow, ⟨fun c o h => b.keep c o (fun s => by rw [a.ok.out c s] at h; cases h) (a.ok.same c o h), po, a.ok.out⟩⟩
theorem Fz.step0 (a : Fz S H0 G0 H1 G1) (b : Step NoS H1 H2) : Fz S H0 G0 H2 G1 := a.stepS b.wide (a.ok.pools.step b)
/-- a new object, frozen at once -/
theorem Fz.new (a : Fz S H0 G0 H G) (n : H p = none) : Fz S H0 G0 (upd H p o) (upd G p o) :=
  ⟨a.step.trans (Step.new n), ⟨a.grow.same.trans (same_sub (free_of a.ok.same n)), fun c h m => by
    rw [upd_ne (by rintro rfl; exact m (a.step.dom c n))]; exact a.grow.free c h m⟩,
    ⟨same_add (same_new a.ok.same n) upd_same, a.ok.pools.new n, fun b s => by
      rw [upd_ne (by rintro rfl; exact (a.ok.pools b s).some n)]; exact a.ok.out b s⟩⟩
/-- a new object that will change -/
theorem Fz.loc (a : Fz S H0 G0 H G) (n : H p = none) : Fz S H0 G0 (upd H p o) G :=
  ⟨a.step.trans (Step.new n), a.grow, ⟨same_new a.ok.same n, a.ok.pools.new n, a.ok.out⟩⟩
/-- it changes -/
theorem Fz.put (a : Fz S H0 G0 H G) (n : H0 p = none) (g : G p = none) (s : ¬ S p) : Fz S H0 G0 (upd H p o) G :=
  ⟨a.step.own n, a.grow, ⟨same_mut a.ok.same g, a.ok.pools.other s, a.ok.out⟩⟩
/-- it changes no more -/
theorem Fz.fix (a : Fz S H0 G0 H G) (n : H0 p = none) (e : H p = some o) (s : ¬ S p) : Fz S H0 G0 H (upd G p o) := by
  refine ⟨a.step, ⟨fun b u h => ?_, fun c h m => ?_⟩, ⟨same_add a.ok.same e, a.ok.pools, fun b t => ?_⟩⟩
  · by_cases hb : b = p
    · subst hb
      have := a.ok.same _ _ (a.grow.same _ _ h)
      rw [e] at this
      rw [upd_same]; exact this
    · rw [upd_ne hb]; exact a.grow.same _ _ h
  · rw [upd_ne (by rintro rfl; exact m n)]; exact a.grow.free c h m
  · rw [upd_ne (by rintro rfl; exact s t)]; exact a.ok.out b t
/-- many own objects change no more -/
theorem Fz.fixAll (a : Fz S H0 G0 H G) (as : List Addr) (n : ∀ p ∈ as, H0 p = none) (s : ∀ p ∈ as, ¬ S p) : Fz S H0 G0 H (fun b => if b ∈ as then H b else G b) := by
  refine ⟨a.step, ⟨fun b u h => ?_, fun c h m => ?_⟩, ⟨fun b u h => ?_, a.ok.pools, fun b t => ?_⟩⟩
  · show (if b ∈ as then H b else G b) = some u
    by_cases hb : b ∈ as
    · rw [if_pos hb]; exact a.ok.same _ _ (a.grow.same b u h)
    · rw [if_neg hb]; exact a.grow.same b u h
  · show (if c ∈ as then H c else G c) = none
    rw [if_neg fun z => m (n c z)]; exact a.grow.free c h m
  · by_cases hb : b ∈ as
    · have h' : (if b ∈ as then H b else G b) = some u := h
      rw [if_pos hb] at h'; exact h'
    · have h' : (if b ∈ as then H b else G b) = some u := h
      rw [if_neg hb] at h'; exact a.ok.same b u h'
  · show (if b ∈ as then H b else G b) = none
    rw [if_neg fun z => s b z t]; exact a.ok.out b t
theorem Fz.pool {pa : Addr} (a : Fz (At pa) H0 G0 H G) : PoolOk H pa := a.ok.pools pa rfl
theorem Ok.pool {pa : Addr} (a : Ok (At pa) H G) : PoolOk H pa := a.pools pa rfl
/-- an own object is none of the drawn numbers -/
theorem Ok.ne (h : Ok S H G) (n : H p = none) : ¬ S p := fun s => (h.pools p s).some n
/-- an own object stays behind a step -/
theorem Step.own_stays {u : HO} (a : Step S H H1) (s : ¬ S p) (e : H p = some u) : H1 p = some u := a.keep _ _ s e
theorem Grow.out {u : HO} (a : Grow G H G1) (g : G p = none) (e : H p = some u) : G1 p = none := a.free _ g (by rw [e]; exact fun z => nomatch z)
end

/-! ### comprehensions -/
section
variable {J : It} {items : List V} {Gd : Hp → Prop} {g : TG} {tt : TT} {te : TE} {vs : List Nat} {σ : L2.St} {H1 : Hp} {D : Addr} {Qd : Hp → Prop}
/-- elements that change nothing -/
theorem lc_map (w : Walk J items.length Gd (YAt items)) (F : V → V) (p : V → Bool) (hz : items.length ≤ 100000) (hG : ∀ acc, Gd (upd H1 D (.lst acc)))
    (hs : ∀ (i : Nat) (x : V) (acc : List V) (N : Hp → Prop), items[i]? = some x → (p x = true → ∃ acc', upd H1 D (.lst acc) D = some (.lst acc') ∧ acc'.length < sizeLine ∧ N (upd (upd H1 D (.lst acc)) D (.lst (acc' ++ [F x])))) → (p x = false → N (upd H1 D (.lst acc))) →
      g x (wipe σ vs) (upd H1 D (.lst acc)) fun σ2 H2 => wipe σ2 vs = wipe σ vs ∧ tt σ2 H2 fun b H3 => if b = true then te σ2 H3 fun y H4 => ∃ acc, H4 D = some (.lst acc) ∧ acc.length < sizeLine ∧ N (upd H4 D (.lst (acc ++ [y]))) else N H3)
    (hd : Qd (upd H1 D (.lst ((items.filter p).map F)))) :
    ∃ W : Nat → Nat → Hp → Prop, (∃ m, W 0 m (upd H1 D (.lst []))) ∧ ∀ i m H, W i m H →
      (J.stop i H ∧ Qd H) ∨ (J.go i H ∧ ∃ Nx : Hp → Prop, (∀ H', Nx H' → ∃ m', m' < m ∧ W (i + 1) m' H') ∧ ∀ x H', J.yld i H x H' → g x (wipe σ vs) H' fun σ2 H2 => wipe σ2 vs = wipe σ vs ∧ tt σ2 H2 fun b H3 =>
        if b = true then te σ2 H3 fun y H4 => ∃ acc, H4 D = some (.lst acc) ∧ acc.length < sizeLine ∧ Nx (upd H4 D (.lst (acc ++ [y]))) else Nx H3) := by
  have len : ∀ i, (((items.take i).filter p).map F).length ≤ items.length := fun i => by
    rw [List.length_map]
    exact Nat.le_trans (List.length_filter_le _ _) (by rw [List.length_take]; omega)
  refine lc_it w (fun i H => H = upd H1 D (.lst (((items.take i).filter p).map F))) rfl (fun i H _ e => by rw [e]; exact hG _) (fun i x H H' hi e y => ?_) (fun H e => ?_)
  · obtain ⟨rfl, hx⟩ := y
    subst e
    have hsn : (items.take (i + 1)).filter p = (items.take i).filter p ++ (if p x = true then [x] else []) := by
      rw [List.take_add_one, hx, List.filter_append]
      show _ ++ List.filter p [x] = _
      unfold List.filter
      cases p x <;> rfl
    refine hs i x _ _ hx (fun hp => ⟨_, upd_same, Nat.lt_of_le_of_lt (Nat.le_trans (len i) hz) (by decide), ?_⟩) (fun hp => ?_)
    · show _ = upd H1 D _
      rw [upd_upd, hsn, if_pos hp, List.map_append]
      rfl
    · show _ = upd H1 D _
      rw [hsn, if_neg (by rw [hp]; exact Bool.false_ne_true), List.append_nil]
  · rw [e, List.take_of_length_le (Nat.le_refl _)]
    exact hd
/-- elements that may draw and make new data; R tells of the item at each place; the list may change later -/
theorem lc_drawU {S : Addr → Prop} {G1 : Hp} {R : Nat → PyData → Prop} (w : Walk J items.length Gd (YAt items)) (hz : items.length ≤ 100000) (ok : Ok S H1 G1) (nD : H1 D = none) (hG : ∀ H, Same G1 H → Gd H)
    (hs : ∀ (i : Nat) (x : V) (H G : Hp) (N : Hp → Prop), items[i]? = some x → i < items.length → Fz S H1 G1 H G → (∀ y H4 G4 d, Fz S H G H4 G4 → Dq G4 y d → R i d → ∃ acc, H4 D = some (.lst acc) ∧ acc.length < sizeLine ∧ N (upd H4 D (.lst (acc ++ [y])))) →
      g x (wipe σ vs) H fun σ2 H2 => wipe σ2 vs = wipe σ vs ∧ tt σ2 H2 fun b H3 => if b = true then te σ2 H3 fun y H4 => ∃ acc, H4 D = some (.lst acc) ∧ acc.length < sizeLine ∧ N (upd H4 D (.lst (acc ++ [y]))) else N H3)
    (hd : ∀ H G acc ds, Fz S H1 G1 H G → G D = none → H D = some (.lst acc) → DqAll G acc ds → ds.length = items.length → (∀ (i : Nat) d, ds[i]? = some d → R i d) → Qd H) :
    ∃ W : Nat → Nat → Hp → Prop, (∃ m, W 0 m (upd H1 D (.lst []))) ∧ ∀ i m H, W i m H →
      (J.stop i H ∧ Qd H) ∨ (J.go i H ∧ ∃ Nx : Hp → Prop, (∀ H', Nx H' → ∃ m', m' < m ∧ W (i + 1) m' H') ∧ ∀ x H', J.yld i H x H' → g x (wipe σ vs) H' fun σ2 H2 => wipe σ2 vs = wipe σ vs ∧ tt σ2 H2 fun b H3 =>
        if b = true then te σ2 H3 fun y H4 => ∃ acc, H4 D = some (.lst acc) ∧ acc.length < sizeLine ∧ Nx (upd H4 D (.lst (acc ++ [y]))) else Nx H3) := by
  have sD : ¬ S D := ok.ne nD
  refine lc_it w (fun i H => ∃ G acc ds, Fz S H1 G1 H G ∧ G D = none ∧ H D = some (.lst acc) ∧ DqAll G acc ds ∧ ds.length = i ∧ ∀ (j : Nat) d, ds[j]? = some d → R j d)
    ⟨G1, [], [], ok.fz.loc nD, free_of ok.same nD, upd_same, .nil, rfl, fun j d e => by simp at e⟩ (fun i H _ e => ?_) (fun i x H H' hi e y => ?_) (fun H e => ?_)
  · obtain ⟨G, _, _, z, _⟩ := e
    exact hG H (z.up.trans z.same)
  · obtain ⟨rfl, hx⟩ := y
    obtain ⟨G, acc, ds, z, gD, hD, dp, dl, hR⟩ := e
    refine hs i x H' G _ hx hi z fun y H4 G4 d z4 d4 r4 => ?_
    have hD4 : H4 D = some (.lst acc) := z4.step.own_stays sD hD
    have gD4 : G4 D = none := z4.grow.out gD hD
    have la := dps_len dp
    refine ⟨acc, hD4, Nat.lt_of_le_of_lt (show acc.length ≤ 100000 by omega) (by decide), G4, acc ++ [y], ds ++ [d], (z.trans z4).put nD gD4 sD, gD4, upd_same, dps_snoc (dps_up dp z4.up) d4, by rw [List.length_append, dl]; rfl, fun j e he => ?_⟩
    by_cases hj : j < ds.length
    · rw [List.getElem?_append_left hj] at he
      exact hR j e he
    · rw [List.getElem?_append_right (by omega)] at he
      have : j - ds.length = 0 := by
        cases h : j - ds.length with
        | zero => rfl
        | succ m => rw [h] at he; simp at he
      have hji : j = i := by omega
      subst hji
      rw [this] at he
      simp at he
      subst he
      exact r4
  · obtain ⟨G, acc, ds, z, gD, hD, dp, dl, hR⟩ := e
    exact hd H G acc ds z gD hD dp dl hR
/-- the same, the list frozen -/
theorem lc_draw {S : Addr → Prop} {G1 : Hp} {R : Nat → PyData → Prop} (w : Walk J items.length Gd (YAt items)) (hz : items.length ≤ 100000) (ok : Ok S H1 G1) (nD : H1 D = none) (hG : ∀ H, Same G1 H → Gd H)
    (hs : ∀ (i : Nat) (x : V) (H G : Hp) (N : Hp → Prop), items[i]? = some x → i < items.length → Fz S H1 G1 H G → (∀ y H4 G4 d, Fz S H G H4 G4 → Dq G4 y d → R i d → ∃ acc, H4 D = some (.lst acc) ∧ acc.length < sizeLine ∧ N (upd H4 D (.lst (acc ++ [y])))) →
      g x (wipe σ vs) H fun σ2 H2 => wipe σ2 vs = wipe σ vs ∧ tt σ2 H2 fun b H3 => if b = true then te σ2 H3 fun y H4 => ∃ acc, H4 D = some (.lst acc) ∧ acc.length < sizeLine ∧ N (upd H4 D (.lst (acc ++ [y]))) else N H3)
    (hd : ∀ H G ds, Fz S H1 G1 H G → Dq G (.ref D) (.list ds) → H D ≠ none → ds.length = items.length → (∀ (i : Nat) d, ds[i]? = some d → R i d) → Qd H) :
    ∃ W : Nat → Nat → Hp → Prop, (∃ m, W 0 m (upd H1 D (.lst []))) ∧ ∀ i m H, W i m H →
      (J.stop i H ∧ Qd H) ∨ (J.go i H ∧ ∃ Nx : Hp → Prop, (∀ H', Nx H' → ∃ m', m' < m ∧ W (i + 1) m' H') ∧ ∀ x H', J.yld i H x H' → g x (wipe σ vs) H' fun σ2 H2 => wipe σ2 vs = wipe σ vs ∧ tt σ2 H2 fun b H3 =>
        if b = true then te σ2 H3 fun y H4 => ∃ acc, H4 D = some (.lst acc) ∧ acc.length < sizeLine ∧ Nx (upd H4 D (.lst (acc ++ [y]))) else Nx H3) :=
  lc_drawU w hz ok nD hG hs fun H G acc ds z gD hD dp dl hR =>
    hd H _ ds (z.fix nD hD (ok.ne nD)) (.lst upd_same (dps_up dp (same_sub gD))) (by rw [hD]; exact fun z => nomatch z) dl hR
end
end Hw

/-! the end of a law row for a def that knows that nothing is being shown -/
namespace Hw
open PySem PySem.Spec PyProof.Rows L2

theorem enter_law {P : Program} {w : World} {K : PySem.W.Frag} {mg mb : Str → Option Value} {k : Nat} {fa a : Addr} {fd : FuncData} {x : Str} {sp : Sp} {z : Shared} {vs : List Value} {ns : List Int}
    (inK : K.In z.heap) (gl : z.heap.Ns mainGlobals mg) (bu : z.heap.Ns builtinsNs mb) (bb : ∀ x : Str, x ≠ "__name__" → mb x = bootBuiltins x) (nl : z.heap.NoLimit) (ge : z.gens = #[])
    (ob : z.heap.get? a = some { cls := .type "list", data := .seq vs.toArray }) (ia : IntsAre vs ns) (sl : ns.length ≤ sizeLine) (room : Room k callerA)
    (F : ∀ base : Heap, K.In base → base.Ns mainGlobals mg → FnG P w K mg base CX0 k fa fd [x] sp) (bi : ∀ (s : Shared) (u : Value), BindsTo s fd ⟨[u], []⟩ [(x, u)])
    (pr : ∀ H : Hp, Only H → SqL K H a (ns.map V.int) → sp [.ref a] H (fun v _ => v = .bl true) fun _ _ _ => False) :
    codeAny (model P w) callerA (.call (.ref fa) ⟨[.ref a], []⟩) (fun r y => r = .ok (.ret (.bool true)) ∧ OldK z.heap y.heap ∧ y.os = z.os ∧ AllBare y.gens) z := by
  have lv := ia.length
  -- the script's object, where it is none of the top's own
  let O : Obj := { cls := .type "list", data := .seq vs.toArray }
  have main : ∀ H : Hp, (∀ b, H b = none ∨ (b = a ∧ H b = some (.frz O (.lst (ns.map V.int))) ∧ K.lookup a = none)) → SqL K H a (ns.map V.int) → HOk P w H z.heap →
      codeAny (model P w) callerA (.call (.ref fa) ⟨[.ref a], []⟩) (fun r y => r = .ok (.ret (.bool true)) ∧ OldK z.heap y.heap ∧ y.os = z.os ∧ AllBare y.gens) z := by
    intro H only seq ok
    have onlyH : Only H := fun b => (only b).imp id fun q => ⟨O, ns.map V.int, q.2.1⟩
    have dict0 : ∀ {b : Addr} {o : Obj} {es : Array DictEntry} {n : Nat}, z.heap.get? b = some o → o.data = .dict es n → H b = none := by
      intro b o es n e d
      rcases only b with q | ⟨rfl, _, _⟩
      · exact q
      · rw [ob] at e
        cases e
        exact nomatch (d : Data.seq _ _ = Data.dict es n)
    have ns' : ∀ {b : Addr} {m : Str → Option Value}, z.heap.Ns b m → (hidT z.heap H).Ns b m := by
      rintro b m ⟨o, es, n, e, d, r⟩
      exact ⟨o, es, n, hidT_get e (dict0 e d), d, r⟩
    have inB : K.In (hidT z.heap H) := by
      intro b o e
      rcases only b with q | ⟨rfl, _, q⟩
      · exact hidT_get (inK b o e) q
      · rw [q] at e; cases e
    have md : Mod K mg (hidT z.heap H) := by
      obtain ⟨mc, c1, c2⟩ := nl
      exact ⟨inB, ns' gl, ⟨mb, ns' bu, bb⟩, ⟨mc, ns' c1, c2⟩⟩
    have en : Env0 P w K mg (hidT z.heap H) callerA [] z H :=
      { frames := rfl, mod := md, bs := fun b o e => of_hidT e, bsz := Nat.le_of_eq (hidT_size _ _), funs := trivial, frf := fun b hb => (List.not_mem_nil hb).elim, hok := ok, bare := .of_eq ge }
    have run := (F _ inB (ns' gl)).go callerA [] z H ⟨[.ref a], []⟩ [.ref a] [.ref a] _ _ rfl room en (bi z (.ref a)) (.cons rfl .nil) (pr H onlyH seq)
    refine codeAny_mono run fun r y h => ?_
    match r, h with
    | .error _, h => exact h.elim
    | .ok .next, h => exact h.elim
    | .ok .brk, h => exact h.elim
    | .ok .cont, h => exact h.elim
    | .ok (.ret u), ⟨v, H2, os, bare, un, ok2, rv, q⟩ =>
      have q1 : v = V.bl true := q
      rw [q1] at rv
      have q2 : u = Value.bool true := rv
      refine ⟨by rw [q2], OldK.of_keep fun b o e => ?_, os, bare⟩
      rcases only b with n | ⟨rfl, n, _⟩
      · exact un.keep b o e n (List.not_mem_nil) (List.not_mem_nil)
      · obtain ⟨g1, _⟩ := ok _ _ n
        obtain ⟨g2, _⟩ := ok2 _ _ (un.frzs _ _ _ n)
        rw [g1] at e
        rw [g2]; exact e
  rcases hk : K.lookup a with _ | o
  · refine main (fun b => if b = a then some (.frz O (.lst (ns.map V.int))) else none) (fun b => ?_) (.inl (.inr ⟨O, if_pos rfl⟩)) fun b u e => ?_
    · by_cases c : b = a
      · exact .inr ⟨c, if_pos c, hk⟩
      · exact .inl (if_neg c)
    · by_cases c : b = a
      · subst c
        have e' : some (HO.frz O (.lst (ns.map V.int))) = some u := (if_pos rfl).symm.trans e
        cases e'
        exact ⟨ob, by rw [List.length_map]; exact sl, vs, _, vals_ints ia, ob⟩
      · have e' := (if_neg c).symm.trans e
        cases e'
  · have oo := inK a o hk
    rw [ob] at oo
    cases oo
    exact main (fun _ => none) (fun _ => .inl rfl) (.inr ⟨_, vs.toArray, _, hk, rfl, rfl, rfl, by rw [List.size_toArray, lv]; exact sl, vals_ints ia⟩) fun _ _ e => nomatch (e : (none : Option HO) = _)

/-- what k_head leaves, from the law's promise -/
theorem law_end {l : PySem.W.OpenLaw} {n k : Nat} {q : Program} {loose : List Str} {XP : (Str → Option Value) → Heap → Prop} {YP : World → Heap → Prop} {d : DefRec} {K : Params → PySem.W.Frag} {sp : PySem.W.Frag → Sp} {x : Str}
    (most : l.most = some n) (small : n ≤ sizeLine) (nodef : d.params.defaults = []) (room : Room k callerA) (inK : ∀ (w : World) (h : Heap), YP w h → (K w.params).In h)
    (F : ∀ (w : World) (mg : Str → Option Value) (fa : Addr) (h : Heap), (K w.params).In h → h.Ns mainGlobals mg → mg d.name = some (.ref fa) →
      ∃ fd : FuncData, (∀ (s : Shared) (u : Value), BindsTo s fd ⟨[u], []⟩ [(x, u)]) ∧ ∀ base : Heap, (K w.params).In base → base.Ns mainGlobals mg → FnG l.prog w (K w.params) mg base CX0 k fa fd [x] (sp (K w.params)))
    (pr : ∀ (K : PySem.W.Frag) (H : Hp) (a : Addr) (ns : List Int), ns.length ≤ n → Only H → SqL K H a (ns.map V.int) → sp K [.ref a] H (fun v _ => v = .bl true) fun _ _ _ => False) :
    PySem.W.WalkO q loose XP YP l.row.toRowW d [] (fun f vs => PySem.call f vs) := by
  refine Att.attach_call most nodef fun w z0 z1 mg mb fa o pm cd dc a vs ns G Y h1 h2 h3 h4 h5 h6 h7 h8 => ?_
  obtain ⟨fd, bi, go⟩ := F w mg fa _ (inK w _ Y) G.T.g h4
  exact enter_law (inK w _ Y) G.T.g G.T.b G.T.builtins G.T.nolimit h8 h5 h6 (Nat.le_trans h7 small) room go bi (fun H c e => pr _ H a ns h7 c e)
end Hw

/-! the laws' own drawing: what the shared defs promise -/
namespace Hw
open PySem PySem.Spec PyProof.Rows L2
theorem small60 {x : Int} : 0 ≤ x % 60 ∧ x % 60 < 60 := ⟨Int.emod_nonneg _ (by decide), Int.emod_lt_of_pos _ (by decide)⟩
theorem all_snoc {α : Type} {p : α → Prop} {xs : List α} {x : α} (h : ∀ y ∈ xs, p y) (h1 : p x) : ∀ y ∈ xs ++ [x], p y := fun y hy => by
  rcases List.mem_append.mp hy with h2 | h2
  · exact h y h2
  · rw [List.mem_singleton.mp h2]; exact h1
theorem snoc2 {α : Type} {p : α → Prop} {xs : List α} {x y : α} (h : ∀ y ∈ xs, p y) (h1 : p x) (h2 : p y) : ∀ z ∈ xs ++ [x, y], p z := fun z hz => by
  rcases List.mem_append.mp hz with q | q
  · exact h z q
  · rcases List.mem_cons.mp q with q | q
    · rw [q]; exact h1
    · rw [List.mem_singleton.mp q]; exact h2
theorem sz {n : Nat} (h : n ≤ 100000) : n ≤ sizeLine := Nat.le_trans h (by decide)
theorem szl {n : Nat} (h : n ≤ 100000) : n < sizeLine := Nat.lt_of_le_of_lt h (by decide)
theorem one_more {H : Hp} {c : Addr} {ps : List Int} {x : Int} : upd H c (.lst (ps.map V.int ++ [.int x])) c = some (.lst ((ps ++ [x]).map V.int)) := by rw [upd_same, List.map_append]; rfl
theorem two_more {H : Hp} {c : Addr} {ps : List Int} {x y : Int} : upd H c (.lst (ps.map V.int ++ [.int x, .int y])) c = some (.lst ((ps ++ [x, y]).map V.int)) := by rw [upd_same, List.map_append]; rfl
/-- _law_pick: some number below many -/
def spPick : Sp := fun vs H Q _ => ∃ (pa : Addr) (n : Int), vs = [.ref pa, .int n] ∧ PoolOk H pa ∧ 1 ≤ n ∧ n < 2 ^ 30 ∧
  ∀ (k : Int) (H' : Hp), 0 ≤ k → k < n → k < 60 → Step (At pa) H H' → Pools (At pa) H' → Q (.int k) H'
/-- _law_pool: a new list of at least 300 numbers below 60 -/
def spPool (K : PySem.W.Frag) : Sp := fun vs H Q _ => ∃ (a : Addr) (ns : List Int), vs = [.ref a] ∧ SqL K H a (ns.map V.int) ∧ ns.length ≤ 63 ∧
  ∀ (H' : Hp) (p : Addr) (ps : List Int), Step NoS H H' → H p = none → H' p = some (.lst (ps.map V.int)) → 300 ≤ ps.length → ps.length ≤ 4500 → (∀ x ∈ ps, 0 ≤ x ∧ x < 60) → Q (.ref p) H'
/-- _law_stream: the same, a place ahead -/
def spStream (K : PySem.W.Frag) : Sp := fun vs H Q _ => ∃ (a : Addr) (ns : List Int), vs = [.ref a] ∧ SqL K H a (ns.map V.int) ∧ ns.length ≤ 63 ∧
  ∀ (H' : Hp) (p : Addr), Step NoS H H' → H p = none → PoolOk H' p → Q (.ref p) H'
/-- the letters of the alphabet, by their codes -/
def abc : List Nat := (List.range 26).map (97 + ·)
/-- a text of letters: its codes -/
def strOf (l : List Nat) : Str := ⟨l.toArray⟩
/-- letters: one to six different ones -/
structure IsLetters (l : List Nat) : Prop where
  pos : 0 < l.length
  six : l.length ≤ 6
  nodup : l.Nodup
  abc : ∀ c ∈ l, 97 ≤ c ∧ c < 123
/-- _law_letters -/
def spLetters : Sp := fun vs H Q _ => ∃ (pa : Addr) (n : Int), vs = [.ref pa, .int n] ∧ PoolOk H pa ∧ 1 ≤ n ∧ n ≤ 6 ∧
  ∀ (l : List Nat) (H' : Hp), IsLetters l → (l.length : Int) ≤ n → Step (At pa) H H' → Pools (At pa) H' → Q (.str (strOf l)) H'
/-! texts by their codes -/
theorem strOf_cps (l : List Nat) : (strOf l).cps.toList = l := by show l.toArray.toList = l; simp
theorem strOf_len (l : List Nat) : (strOf l).length = l.length := by show l.toArray.size = l.length; simp
theorem strOf_self (x : Str) : strOf x.cps.toList = x := by
  obtain ⟨c⟩ := x
  show (⟨c.toList.toArray⟩ : Str) = ⟨c⟩
  simp
theorem strOf_inj {a b : List Nat} (h : strOf a = strOf b) : a = b := by rw [← strOf_cps a, h, strOf_cps]
theorem one_sign (c : Nat) : (⟨#[c]⟩ : Str) = strOf [c] := rfl
theorem empty_str : ("" : Str) = strOf [] := by decide +kernel
theorem txt_join (l : List Nat) : Txt.join "" (l.map fun k => strOf [k]) = strOf l := by
  have h := PyProof.Rows.join_closes (sep := "") (sep' := ⟨#[]⟩) (ys := l.map fun k => strOf [k]) (by decide +kernel)
  rw [eq_of_beq h]
  exact PyProof.Rows.join_ones l
theorem sum_ones (l : List Nat) : ((l.map fun k => strOf [k]).map (·.length)).sum = l.length := by
  induction l with
  | nil => rfl
  | cons x r ih => rw [List.map_cons, List.map_cons, List.sum_cons, ih, List.length_cons]; show 1 + r.length = _; omega

/-! what is walked, by its items -/
abbrev rngI (lo : Int) (n : Nat) : List V := (List.range n).map fun i => V.int (lo + (i : Nat))
abbrev sgnI (l : List Nat) : List V := l.map fun c => V.str (strOf [c])
theorem rngI_at {lo : Int} {n i : Nat} {x : V} (h : (rngI lo n)[i]? = some x) : i < n ∧ x = .int (lo + i) := by
  rw [List.getElem?_map] at h
  by_cases hi : i < n
  · rw [List.getElem?_range hi] at h
    exact ⟨hi, (Option.some.inj h).symm⟩
  · rw [List.getElem?_eq_none (by rw [List.length_range]; omega)] at h
    cases h
theorem sgnI_at {l : List Nat} {i : Nat} {x : V} (h : (sgnI l)[i]? = some x) : ∃ c, l[i]? = some c ∧ x = .str (strOf [c]) := by
  rw [List.getElem?_map] at h
  cases e : l[i]? with
  | none => rw [e] at h; cases h
  | some c => rw [e] at h; exact ⟨c, rfl, (Option.some.inj h).symm⟩
theorem walkR {lo : Int} {n : Nat} : Walk (Itr lo n) (rngI lo n).length (fun _ => True) (YAt (rngI lo n)) := by
  have l : (rngI lo n).length = n := by rw [List.length_map, List.length_range]
  rw [l]
  refine walk_range.mono (fun _ h => h) fun i H x H' hi _ y => ?_
  obtain ⟨rfl, rfl⟩ := y
  refine ⟨rfl, ?_⟩
  rw [List.getElem?_map, List.getElem?_range hi]
  rfl
theorem walkS {l : List Nat} : Walk (Its (strOf l)) (sgnI l).length (fun _ => True) (YAt (sgnI l)) := by
  have e : (sgnI l).length = (strOf l).cps.size := by rw [List.length_map]; exact (strOf_len l).symm
  rw [e]
  refine walk_str.mono (fun _ h => h) fun i H x H' hi _ y => ?_
  obtain ⟨rfl, c, h1, rfl⟩ := y
  refine ⟨rfl, ?_⟩
  have h2 : l[i]? = some c := by rw [← h1]; show _ = l.toArray[i]?; simp
  rw [List.getElem?_map, h2]
  rfl
theorem lenR {lo : Int} {n : Nat} : (rngI lo n).length = n := by rw [List.length_map, List.length_range]
theorem lenS {l : List Nat} : (sgnI l).length = l.length := List.length_map ..

/-! drawn machines -/
theorem data_of {α : Type} {f : α → PyData} {P : α → Prop} : ∀ {ds : List PyData}, (∀ (i : Nat) d, ds[i]? = some d → ∃ a, d = f a ∧ P a) → ∃ as : List α, ds = as.map f ∧ as.length = ds.length ∧ ∀ a ∈ as, P a
  | [], _ => ⟨[], rfl, rfl, fun _ z => nomatch z⟩
  | d :: ds, h => by
    obtain ⟨a, e, pa⟩ := h 0 d rfl
    obtain ⟨as, e2, l2, h2⟩ := data_of (ds := ds) fun i x hx => h (i + 1) x hx
    refine ⟨a :: as, by rw [e, e2]; rfl, by rw [List.length_cons, List.length_cons, l2], fun b hb => ?_⟩
    rcases List.mem_cons.mp hb with rfl | hb
    · exact pa
    · exact h2 b hb
/-- a machine over so many letters: states below their number -/
structure MachOk (k : Nat) (m : Mach) : Prop where
  ends : m.ends.length = m.tab.length
  pos : 1 ≤ m.tab.length
  most : m.tab.length ≤ 60
  row : ∀ r ∈ m.tab, r.length = k
  tgt : ∀ r ∈ m.tab, ∀ t ∈ r, 0 ≤ t ∧ t < m.tab.length
/-- a drawn machine of at most n states -/
def DrawM (K : PySem.W.Frag) (Q : VK) (pa : Addr) (H G : Hp) (l : List Nat) (n : Nat) : Prop :=
  ∀ (H' G' : Hp) (r : V) (m : Mach), Fz (At pa) H G H' G' → Dq G' r (DM m) → MachOk l.length m → m.tab.length ≤ n → Q r H'
def spMachine (K : PySem.W.Frag) : Sp := fun vs H Q _ => ∃ (pa : Addr) (l : List Nat) (n : Nat) (G : Hp), vs = [.ref pa, .str (strOf l), .int (n : Nat)] ∧ IsLetters l ∧ 1 ≤ n ∧ n ≤ 60 ∧ Ok (At pa) H G ∧ DrawM K Q pa H G l n
def spBlocks (K : PySem.W.Frag) : Sp := fun vs H Q _ => ∃ (pa : Addr) (l : List Nat) (nb nw : Int) (G : Hp), vs = [.ref pa, .str (strOf l), .int nb, .int nw] ∧ IsLetters l ∧ 1 ≤ nb ∧ nb ≤ 60 ∧ 1 ≤ nw ∧ nw ≤ 59 ∧ Ok (At pa) H G ∧ DrawM K Q pa H G l 60
theorem sum_pos_take : ∀ {ss : List Int} {i : Nat} {x : Int}, (∀ y ∈ ss, 1 ≤ y) → ss[i]? = some x → (ss.take i).sum + x ≤ ss.sum ∧ 0 ≤ (ss.take i).sum
  | [], _, _, _, h => by simp at h
  | y :: r, 0, x, hp, h => by
    have e : y = x := Option.some.inj h
    subst e
    have h2 : 0 ≤ r.sum := by
      clear h
      induction r with
      | nil => exact Int.le_refl 0
      | cons z q ih =>
        rw [List.sum_cons]
        have h1 := ih fun w hw => hp w (by rcases List.mem_cons.mp hw with rfl | hw; exact List.mem_cons_self; exact List.mem_cons_of_mem _ (List.mem_cons_of_mem _ hw))
        have := hp z (List.mem_cons_of_mem _ List.mem_cons_self)
        omega
    rw [List.take_zero, List.sum_cons]
    show (0 : Int) + y ≤ _ ∧ _
    exact ⟨by omega, Int.le_refl 0⟩
  | y :: r, i + 1, x, hp, h => by
    have ih := sum_pos_take (ss := r) (i := i) (x := x) (fun w hw => hp w (List.mem_cons_of_mem _ hw)) (by simpa using h)
    have := hp y List.mem_cons_self
    rw [List.take_succ_cons, List.sum_cons, List.sum_cons]
    omega
theorem sum_take_succ {ss : List Int} {i : Nat} {x : Int} (h : ss[i]? = some x) : (ss.take (i + 1)).sum = (ss.take i).sum + x := by
  rw [List.take_add_one, h, List.sum_append]
  show _ + (x + 0) = _
  omega
theorem map_set_int {ns : List Int} {j : Nat} {x : Int} : (ns.map V.int).set j (.int x) = (ns.set j x).map V.int := by rw [List.map_set]
/-- some machine over k letters comes back -/
def ToM (S : Addr → Prop) (Q : VK) (H G : Hp) (k : Nat) : Prop := ∀ (H' G' : Hp) (r : V) (m : Mach), Fz S H G H' G' → Dq G' r (DM m) → MachOk k m → Q r H'
def spRenamed : Sp := fun vs H Q _ => ∃ (v : V) (m : Mach) (k : Nat) (G : Hp), vs = [v] ∧ Ok NoS H G ∧ Dq G v (DM m) ∧ MachOk k m ∧ k ≤ 6 ∧ ToM NoS Q H G k
/-- _law_moved, _law_doubled -/
def spMoved : Sp := fun vs H Q _ => ∃ (pa : Addr) (v : V) (m : Mach) (k : Nat) (G : Hp), vs = [.ref pa, v] ∧ Ok (At pa) H G ∧ Dq G v (DM m) ∧ MachOk k m ∧ 1 ≤ k ∧ k ≤ 6 ∧ ToM (At pa) Q H G k
def spDoubled : Sp := fun vs H Q _ => ∃ (pa : Addr) (v : V) (m : Mach) (k : Nat) (G : Hp), vs = [.ref pa, v] ∧ Ok (At pa) H G ∧ Dq G v (DM m) ∧ MachOk k m ∧ k ≤ 6 ∧ m.tab.length ≤ 30 ∧ ToM (At pa) Q H G k
def spShaped : Sp := fun vs H Q _ => ∃ (pa : Addr) (l : List Nat) (G : Hp), vs = [.ref pa, .str (strOf l)] ∧ IsLetters l ∧ Ok (At pa) H G ∧ ToM (At pa) Q H G l.length
theorem MachOk.at_row {k : Nat} {m : Mach} (mo : MachOk k m) {s : Int} (h0 : 0 ≤ s) (h : s < m.tab.length) : ∃ r, m.tab[s.toNat]? = some r ∧ r.length = k ∧ ∀ t ∈ r, 0 ≤ t ∧ t < m.tab.length := by
  obtain ⟨r, e⟩ := exists_at h0 h
  have hr := List.mem_of_getElem? e
  exact ⟨r, e, mo.row r hr, mo.tgt r hr⟩
theorem MachOk.at_end {k : Nat} {m : Mach} (mo : MachOk k m) {s : Int} (h0 : 0 ≤ s) (h : s < m.tab.length) : ∃ b, m.ends[s.toNat]? = some b := exists_at h0 (by rw [mo.ends]; exact h)
theorem intsAt {ns : List Int} {i : Nat} {x : V} (h : (ns.map V.int)[i]? = some x) : ∃ n, ns[i]? = some n ∧ x = .int n := by
  rw [List.getElem?_map] at h
  cases e : ns[i]? with
  | none => rw [e] at h; cases h
  | some n => rw [e] at h; exact ⟨n, rfl, (Option.some.inj h).symm⟩
theorem filter_all {α : Type} {xs : List α} : xs.filter (fun _ => true) = xs := List.filter_eq_self.mpr fun _ _ => rfl
/-- rows at told places -/
theorem dqs_refs {G : Hp} : ∀ {as : List Addr} {t : List (List Int)}, as.length = t.length → (∀ (j : Nat) a, as[j]? = some a → ∃ r, t[j]? = some r ∧ G a = some (.lst (r.map V.int))) → DqAll G (as.map V.ref) (t.map DI)
  | [], [], _, _ => .nil
  | [], _ :: _, h, _ => by simp at h
  | _ :: _, [], h, _ => by simp at h
  | a :: as, r :: t, h, hh => by
    obtain ⟨r', e, ha⟩ := hh 0 a rfl
    have : r = r' := Option.some.inj e
    subst this
    exact .cons (Idp ha) (dqs_refs (by simpa using h) fun j b hb => hh (j + 1) b hb)
theorem nodup_at {α : Type} : ∀ {l : List α} (_ : l.Nodup) {i j : Nat} {x : α} (_ : l[i]? = some x) (_ : l[j]? = some x), i = j
  | [], _, _, _, _, h, _ => by simp at h
  | a :: l, nd, 0, 0, _, _, _ => rfl
  | a :: l, nd, 0, j + 1, x, h1, h2 => by
    have e : a = x := Option.some.inj h1
    rw [e] at nd
    exact absurd (List.mem_of_getElem? (show l[j]? = some x from h2)) (List.nodup_cons.mp nd).1
  | a :: l, nd, i + 1, 0, x, h1, h2 => by
    have e : a = x := Option.some.inj h2
    rw [e] at nd
    exact absurd (List.mem_of_getElem? (show l[i]? = some x from h1)) (List.nodup_cons.mp nd).1
  | a :: l, nd, i + 1, j + 1, x, h1, h2 => by
    have := nodup_at (l := l) (List.nodup_cons.mp nd).2 (i := i) (j := j) (x := x) h1 h2
    omega

/-! where a sign stands -/
theorem idx_of {c : Nat} : ∀ {l : List Nat} {i : Nat}, l[i]? = some c → (∀ k, k < i → l[k]? ≠ some c) → l.idxOf c = i
  | [], _, h, _ => by simp at h
  | a :: l, 0, h, _ => by
    have e : a = c := Option.some.inj h
    rw [e, List.idxOf_cons_self]
  | a :: l, i + 1, h, hn => by
    have ne : a ≠ c := fun e => hn 0 (Nat.succ_pos _) (by rw [e]; rfl)
    rw [List.idxOf_cons, beq_false_of_ne ne, cond_false, idx_of (l := l) (i := i) h fun k hk => hn (k + 1) (by omega)]
theorem sign_at {l : List Nat} {c : Nat} (h : c ∈ l) : ∃ rest, Builtin.Str.occurrences (strOf l) (strOf [c]) 0 (strOf l).length 1 = l.idxOf c :: rest := by
  have hs : ∀ i, (i + (strOf [c]).length ≤ (strOf l).length ∧ Builtin.Str.subAt (strOf l) (strOf [c]) i = true) ↔ l[i]? = some c := fun i => by
    have := StrLaws.subAt_one (strOf l) c i
    rw [strOf_cps] at this
    exact this
  rcases StrLaws.occ_head (strOf l) (strOf [c]) 1 (Nat.le_refl 1) with ⟨_, hn⟩ | ⟨i, r, e, ha, hn⟩
  · obtain ⟨i, hi⟩ := List.getElem?_of_mem h
    exact absurd ((hs i).mpr hi) (hn i)
  · refine ⟨r, ?_⟩
    rw [e, idx_of ((hs i).mp ha) fun k hk z => hn k hk ((hs k).mpr z)]

/-! the law -/
def spLaw (K : PySem.W.Frag) : Sp := fun vs H Q _ => ∃ (a : Addr) (ns : List Int), vs = [.ref a] ∧ SqL K H a (ns.map V.int) ∧ ns.length ≤ 63 ∧ ∀ H', Q (.bl true) H'
theorem law_pre {K : PySem.W.Frag} {H : Hp} {a : Addr} {ns : List Int} (hl : ns.length ≤ 63) (hS : SqL K H a (ns.map V.int)) : spLaw K [.ref a] H (fun v _ => v = .bl true) fun _ _ _ => False :=
  ⟨a, ns, rfl, hS, hl, fun _ => rfl⟩
theorem cut_to {xs : List V} {k : Nat} : cutV xs none (some (k : Int)) = xs.take k := by
  unfold cutV
  rw [HT.sIx_none, show HT.sIx xs.length xs.length (some (k : Int)) = min k xs.length from HT.sIx_nat xs.length xs.length k, List.drop_zero, Nat.sub_zero]
  by_cases h : k ≤ xs.length
  · rw [Nat.min_eq_left h]
  · rw [Nat.min_eq_right (by omega), List.take_length, List.take_of_length_le (by omega)]
theorem exists_max : ∀ {ns : List Int}, 0 < ns.length → ∃ m, m ∈ ns ∧ ∀ y ∈ ns, y ≤ m
  | [x], _ => ⟨x, List.mem_cons_self, fun y hy => by rw [List.mem_singleton.mp hy]; exact Int.le_refl _⟩
  | x :: y :: r, _ => by
    obtain ⟨m, hm, h⟩ := exists_max (ns := y :: r) (by simp)
    by_cases c : x ≤ m
    · exact ⟨m, List.mem_cons_of_mem _ hm, fun z hz => (List.mem_cons.mp hz).elim (fun e => e ▸ c) (h z)⟩
    · exact ⟨x, List.mem_cons_self, fun z hz => (List.mem_cons.mp hz).elim (fun e => e ▸ Int.le_refl _) fun q => by have := h z q; omega⟩
theorem iteNS' {c A B : Prop} [Decidable c] (hc : c) (h : B) : if (!decide c) = true then A else B := iteNS hc h
end Hw

/-! data that may be shown: their depth and the length of their text -/
namespace Hw
open PySem PySem.Spec PyProof.Rows L2
structure Sh (d : PyData) (k n : Nat) : Prop where
  show_ : d.showable = true
  nod : d.hasDict = false
  deep : d.depth ≤ k
  size : d.shown.length ≤ n
theorem Sh.mono {d : PyData} {k n k' n' : Nat} (h : Sh d k n) (hk : k ≤ k') (hn : n ≤ n') : Sh d k' n' := ⟨h.show_, h.nod, Nat.le_trans h.deep hk, Nat.le_trans h.size hn⟩
theorem sh_int {i : Int} {b : Nat} (h : i.natAbs ≤ b) (hb : b < 2 ^ 250) : Sh (.int i) 0 (b + 2) where
  show_ := by
    rw [PyData.showable]
    refine decide_eq_true ?_
    by_cases h0 : i.natAbs = 0
    · rw [h0]; decide
    · have := (Nat.log2_lt h0).mpr (Nat.lt_of_le_of_lt h hb)
      omega
  nod := by rw [PyData.hasDict]
  deep := by rw [PyData.depth]; exact Nat.le_refl 0
  size := by
    rw [PyData.shown]
    have := PyProof.Rows.len_str_of_int i
    omega
theorem sh_bool {b : Bool} : Sh (.bool b) 0 5 where
  show_ := by rw [PyData.showable]
  nod := by rw [PyData.hasDict]
  deep := by rw [PyData.depth]; exact Nat.le_refl 0
  size := by rw [PyData.shown]; cases b <;> decide +kernel
theorem sh_none : Sh .none 0 5 where
  show_ := by rw [PyData.showable]
  nod := by rw [PyData.hasDict]
  deep := by rw [PyData.depth]; exact Nat.le_refl 0
  size := by rw [PyData.shown]; decide +kernel
theorem sh_str {l : List Nat} (h : ∀ c ∈ l, c < 16 ^ 8) : Sh (.str (strOf l)) 0 (10 * l.length + 2) where
  show_ := by rw [PyData.showable]
  nod := by rw [PyData.hasDict]
  deep := by rw [PyData.depth]; exact Nat.le_refl 0
  size := by
    rw [PyData.shown]
    have := StrLaws.reprText_len (strOf l) (by rw [strOf_cps]; exact h)
    rw [strOf_len] at this
    exact this
theorem sh_all {k n : Nat} : ∀ {ds : List PyData}, (∀ d ∈ ds, Sh d k n) → PyData.showableAll ds = true ∧ PyData.hasDictAll ds = false ∧ PyData.depthAll ds ≤ k ∧ ((PyData.shownAll ds).map (·.length)).sum ≤ ds.length * n ∧ (PyData.shownAll ds).length = ds.length
  | [], _ => by
    refine ⟨by rw [PyData.showableAll], by rw [PyData.hasDictAll], by rw [PyData.depthAll]; omega, ?_, ?_⟩
    · rw [PyData.shownAll]; exact Nat.zero_le _
    · rw [PyData.shownAll]; rfl
  | d :: ds, h => by
    obtain ⟨h1, h2, h3, h4, h5⟩ := sh_all (ds := ds) fun e he => h e (List.mem_cons_of_mem _ he)
    have hd := h d List.mem_cons_self
    refine ⟨by rw [PyData.showableAll, hd.show_, h1]; rfl, by rw [PyData.hasDictAll, hd.nod, h2]; rfl, by rw [PyData.depthAll]; exact Nat.max_le.mpr ⟨hd.deep, h3⟩, ?_, ?_⟩
    · rw [PyData.shownAll, List.map_cons, List.sum_cons, List.length_cons, Nat.add_mul, Nat.one_mul]
      have := hd.size
      omega
    · rw [PyData.shownAll, List.length_cons, List.length_cons, h5]
theorem sh_list {k n : Nat} {ds : List PyData} (h : ∀ d ∈ ds, Sh d k n) : Sh (.list ds) (k + 1) (ds.length * (n + 2) + 3) := by
  obtain ⟨h1, h2, h3, h4, h5⟩ := sh_all h
  refine ⟨by rw [PyData.showable]; exact h1, by rw [PyData.hasDict]; exact h2, by rw [PyData.depth]; omega, ?_⟩
  rw [PyData.shown]
  have := listText_len_le (PyData.shownAll ds)
  rw [h5] at this
  rw [Nat.mul_add]
  omega
theorem sh_tuple {k n : Nat} {ds : List PyData} (h : ∀ d ∈ ds, Sh d k n) : Sh (.tuple ds) (k + 1) (ds.length * (n + 2) + 3) := by
  obtain ⟨h1, h2, h3, h4, h5⟩ := sh_all h
  refine ⟨by rw [PyData.showable]; exact h1, by rw [PyData.hasDict]; exact h2, by rw [PyData.depth]; omega, ?_⟩
  rw [PyData.shown]
  have := tupleText_len_le (PyData.shownAll ds)
  rw [h5] at this
  rw [Nat.mul_add]
  omega
/-- a machine -/
theorem sh_mach {k : Nat} {m : Mach} (mo : MachOk k m) (h6 : k ≤ 6) : Sh (DM m) 3 60000 := by
  have rows : ∀ d ∈ m.tab.map DI, Sh d 1 400 := fun d hd => by
    obtain ⟨r, hr, rfl⟩ := List.mem_map.mp hd
    have := sh_list (ds := r.map PyData.int) (k := 0) (n := 62) fun e he => by
      obtain ⟨t, ht, rfl⟩ := List.mem_map.mp he
      have := mo.tgt r hr t ht
      have := mo.most
      exact (sh_int (b := 60) (by omega) (by decide)).mono (Nat.le_refl _) (Nat.le_refl _)
    refine this.mono (Nat.le_refl _) ?_
    rw [List.length_map, mo.row r hr]
    omega
  have tab := sh_list rows
  have ends := sh_list (ds := m.ends.map PyData.bool) (k := 0) (n := 5) fun e he => by
    obtain ⟨t, _, rfl⟩ := List.mem_map.mp he
    exact sh_bool
  rw [List.length_map] at tab ends
  have h1 := mo.most
  have h2 := mo.ends
  have all : ∀ d ∈ [DT m.tab, DB m.ends], Sh d 2 25000 := fun d hd => by
    rcases List.mem_cons.mp hd with rfl | hd
    · exact tab.mono (Nat.le_refl _) (by omega)
    · rw [List.mem_singleton.mp hd]
      exact ends.mono (by decide) (by omega)
  refine (sh_tuple all).mono (Nat.le_refl _) ?_
  show 2 * (25000 + 2) + 3 ≤ 60000
  decide
/-- what repr asks of a value of data -/
theorem repr_ok {d : PyData} {k n : Nat} (h : Sh d k n) (hk : k ≤ 100) (hn : n ≤ 16000000) : d.showable = true ∧ d.hasDict = false ∧ d.depth ≤ 100 ∧ d.shown.length ≤ sizeLine :=
  ⟨h.show_, h.nod, Nat.le_trans h.deep hk, Nat.le_trans (Nat.le_trans h.size hn) (by decide)⟩
end Hw

/-! the numbers of words of a machine -/
namespace Hw
open PySem PySem.Spec PyProof.Rows L2
/-- the number of words of n signs from s to ends -/
def cnt (m : Mach) : Nat → Nat → Int
  | 0, s => if m.ends.getD s false = true then 1 else 0
  | n + 1, s => ((m.tab.getD s []).map fun t => cnt m n t.toNat).sum
theorem cnt_succ {m : Mach} {n s : Nat} : cnt m (n + 1) s = ((m.tab.getD s []).map fun t => cnt m n t.toNat).sum := rfl
theorem cnt_zero {m : Mach} {s : Nat} : cnt m 0 s = if m.ends.getD s false = true then 1 else 0 := rfl
def rowOf (m : Mach) (n : Nat) : List Int := (List.range m.tab.length).map (cnt m n)
def rowsOf (m : Mach) (n : Nat) : List (List Int) := (List.range (n + 1)).map (rowOf m)
def uptoOf (m : Mach) (n : Nat) : Int := ((List.range (n + 1)).map fun i => cnt m i 0).sum
theorem rowOf_len {m : Mach} {n : Nat} : (rowOf m n).length = m.tab.length := by unfold rowOf; rw [List.length_map, List.length_range]
theorem rowOf_at {m : Mach} {n s : Nat} (h : s < m.tab.length) : (rowOf m n)[s]? = some (cnt m n s) := by
  unfold rowOf; rw [List.getElem?_map, List.getElem?_range h]; rfl
theorem rowsOf_len {m : Mach} {n : Nat} : (rowsOf m n).length = n + 1 := by unfold rowsOf; rw [List.length_map, List.length_range]
theorem rowsOf_at {m : Mach} {n i : Nat} (h : i ≤ n) : (rowsOf m n)[i]? = some (rowOf m i) := by
  unfold rowsOf; rw [List.getElem?_map, List.getElem?_range (by omega)]; rfl
theorem rowsOf_succ {m : Mach} {n : Nat} : rowsOf m (n + 1) = rowsOf m n ++ [rowOf m (n + 1)] := by
  unfold rowsOf; rw [List.range_succ, List.map_append]; rfl
/-- the next row, item by item -/
theorem row_is {m : Mach} {n : Nat} {ds : List PyData} (hl : ds.length = m.tab.length) (h : ∀ (i : Nat) d, ds[i]? = some d → d = .int (cnt m n i)) : ds = (rowOf m n).map .int := by
  refine List.ext_getElem? fun i => ?_
  by_cases hi : i < m.tab.length
  · have e1 : ds[i]? = some ds[i] := List.getElem?_eq_getElem (by omega)
    rw [List.getElem?_map, rowOf_at hi, e1, h i _ e1]; rfl
  · rw [List.getElem?_eq_none (by omega), List.getElem?_eq_none (by rw [List.length_map, rowOf_len]; omega)]
def spCountRows : Sp := fun vs H Q _ => ∃ (v : V) (n : Nat) (m : Mach) (k : Nat) (G : Hp), vs = [v, .int (n : Nat)] ∧ Ok NoS H G ∧ Dq G v (DM m) ∧ MachOk k m ∧ k ≤ 6 ∧ n ≤ 300 ∧
  ∀ (H' G' : Hp) (r : V), Fz NoS H G H' G' → Dq G' r (DT (rowsOf m n)) → Q r H'
/-- count(letters, machine, length), upto -/
def spNum (f : Mach → Nat → Int) : Sp := fun vs H Q _ => ∃ (l v : V) (n : Nat) (m : Mach) (k : Nat) (G : Hp), vs = [l, v, .int (n : Nat)] ∧ Ok NoS H G ∧ Dq G v (DM m) ∧ MachOk k m ∧ k ≤ 6 ∧ n ≤ 300 ∧
  ∀ (H' : Hp), Step NoS H H' → Q (.int (f m n)) H'
def spIsNum : Sp := fun vs H Q _ => ∃ (a b : Int), vs = [.int a, .int b] ∧ Q (.bl (decide (a = b))) H

/-! the law's own words -/
/-- the words of j signs, in the order of the law -/
def layer (l : List Nat) : Nat → List (List Nat)
  | 0 => [[]]
  | j + 1 => (layer l j).flatMap fun w => l.map fun c => w ++ [c]
def wordsUpto (l : List Nat) (n : Nat) : List (List Nat) := (List.range (n + 1)).flatMap (layer l)
theorem layer_len {l : List Nat} : ∀ {j : Nat} {w : List Nat}, w ∈ layer l j → w.length = j
  | 0, w, h => by
    have : w = [] := List.mem_singleton.mp h
    rw [this]; rfl
  | j + 1, w, h => by
    obtain ⟨v, hv, hw⟩ := List.mem_flatMap.mp h
    obtain ⟨c, _, rfl⟩ := List.mem_map.mp hw
    rw [List.length_append, layer_len hv]; rfl
theorem layer_mem {l : List Nat} : ∀ {j : Nat} {w : List Nat}, w ∈ layer l j → ∀ c ∈ w, c ∈ l
  | 0, w, h => by
    have : w = [] := List.mem_singleton.mp h
    rw [this]; exact fun _ z => nomatch z
  | j + 1, w, h => by
    obtain ⟨v, hv, hw⟩ := List.mem_flatMap.mp h
    obtain ⟨c, hc, rfl⟩ := List.mem_map.mp hw
    intro d hd
    rcases List.mem_append.mp hd with h | h
    · exact layer_mem hv d h
    · rw [List.mem_singleton.mp h]; exact hc
theorem flatMap_len {α β : Type} {f : α → List β} {k : Nat} : ∀ {l : List α}, (∀ x ∈ l, (f x).length = k) → (l.flatMap f).length = l.length * k
  | [], _ => by simp
  | x :: r, h => by
    rw [List.flatMap_cons, List.length_append, h x List.mem_cons_self, flatMap_len fun y hy => h y (List.mem_cons_of_mem _ hy), List.length_cons, Nat.add_mul, Nat.one_mul, Nat.add_comm]
theorem layer_size {l : List Nat} : ∀ {j : Nat}, (layer l j).length = l.length ^ j
  | 0 => rfl
  | j + 1 => by
    show ((layer l j).flatMap fun w => l.map fun c => w ++ [c]).length = _
    rw [flatMap_len (k := l.length) (fun w _ => List.length_map ..), layer_size, Nat.pow_succ]
theorem words_succ {l : List Nat} {n : Nat} : wordsUpto l (n + 1) = wordsUpto l n ++ layer l (n + 1) := by
  unfold wordsUpto
  rw [List.range_succ, List.flatMap_append, List.flatMap_cons, List.flatMap_nil, List.append_nil]
/-- the numbers of words over so many letters that the law asks for -/
theorem sizes_small : ∀ k < 7, ∀ n < 9, (k ≤ 1 ∧ n ≤ 7) ∨ (k ≤ 2 ∧ n ≤ 4) ∨ (k ≤ 3 ∧ n ≤ 3) ∨ n ≤ 2 → ((List.range (n + 1)).map (k ^ ·)).sum ≤ 200 := by decide +kernel
theorem words_size {l : List Nat} {n : Nat} : (wordsUpto l n).length = ((List.range (n + 1)).map (l.length ^ ·)).sum := by
  induction n with
  | zero => rfl
  | succ n ih =>
    rw [words_succ, List.length_append, ih, layer_size, List.range_succ (n := n + 1), List.map_append, List.sum_append]
    rfl
/-- the state behind a word -/
def step1 (l : List Nat) (m : Mach) (s : Nat) (c : Nat) : Nat := (((m.tab.getD s []).getD (l.idxOf c) 0)).toNat
def runW (l : List Nat) (m : Mach) (s : Nat) (w : List Nat) : Nat := w.foldl (step1 l m) s
theorem runW_snoc {l : List Nat} {m : Mach} {s : Nat} {w : List Nat} {c : Nat} : runW l m s (w ++ [c]) = step1 l m (runW l m s w) c := by
  unfold runW; rw [List.foldl_append]; rfl
theorem idx_lt {l : List Nat} {c : Nat} (h : c ∈ l) : l.idxOf c < l.length := List.idxOf_lt_length_iff.mpr h
theorem step1_ok {l : List Nat} {m : Mach} (mo : MachOk l.length m) {s c : Nat} (hs : s < m.tab.length) (hc : c ∈ l) :
    ∃ r, m.tab[s]? = some r ∧ r[l.idxOf c]? = some ((step1 l m s c : Nat) : Int) ∧ step1 l m s c < m.tab.length := by
  obtain ⟨r, hr, rl, rt⟩ := mo.at_row (s := (s : Int)) (by omega) (by omega)
  have hr' : m.tab[s]? = some r := hr
  have hi := idx_lt hc
  have e : r[l.idxOf c]? = some r[l.idxOf c] := List.getElem?_eq_getElem (by omega)
  have := rt _ (List.mem_of_getElem? e)
  have es : step1 l m s c = (r[l.idxOf c]'(by omega)).toNat := by
    unfold step1
    simp only [List.getD_eq_getElem?_getD, hr', e, Option.getD_some]
  refine ⟨r, hr', ?_, ?_⟩
  · rw [es, e]; congr 1; omega
  · rw [es]; omega
theorem runW_lt {l : List Nat} {m : Mach} (mo : MachOk l.length m) : ∀ (w : List Nat) {s : Nat}, s < m.tab.length → (∀ c ∈ w, c ∈ l) → runW l m s w < m.tab.length
  | [], s, h, _ => h
  | c :: w, s, h, hw => by
    obtain ⟨_, _, _, h2⟩ := step1_ok mo h (hw c List.mem_cons_self)
    exact runW_lt mo w h2 fun d hd => hw d (List.mem_cons_of_mem _ hd)
/-- _law_words(letters, n) -/
def spWords : Sp := fun vs H Q _ => ∃ (l : List Nat) (n : Nat) (G : Hp), vs = [.str (strOf l), .int (n : Nat)] ∧ Ok NoS H G ∧ (wordsUpto l n).length ≤ 1000 ∧ l.length ≤ 6 ∧ n ≤ 100 ∧
  ∀ (H' G' : Hp) (r : V), Fz NoS H G H' G' → Dq G' r (DS ((wordsUpto l n).map strOf)) → Q r H'
/-- _law_run(letters, machine, word) -/
def spRun : Sp := fun vs H Q _ => ∃ (l : List Nat) (v : V) (w : List Nat) (m : Mach), vs = [.str (strOf l), v, .str (strOf w)] ∧ IsLetters l ∧ Dq H v (DM m) ∧ MachOk l.length m ∧ (∀ c ∈ w, c ∈ l) ∧
  Q (.int (runW l m 0 w : Nat)) H
theorem strOf_app (a b : List Nat) : strOf a ++ strOf b = strOf (a ++ b) := by
  apply congrArg Str.mk
  apply Array.toList_inj.mp
  show ((strOf a).cps ++ (strOf b).cps).toList = _
  rw [Array.toList_append, strOf_cps, strOf_cps]
abbrev SV (xs : List (List Nat)) : List V := (xs.map strOf).map V.str
theorem SV_app {a b : List (List Nat)} : SV a ++ SV b = SV (a ++ b) := by unfold SV; rw [List.map_append, List.map_append]
theorem SV_at {xs : List (List Nat)} {i : Nat} {x : V} (h : (SV xs)[i]? = some x) : ∃ w, xs[i]? = some w ∧ x = .str (strOf w) := by
  unfold SV at h
  rw [List.map_map, List.getElem?_map] at h
  cases e : xs[i]? with
  | none => rw [e] at h; cases h
  | some w => rw [e] at h; exact ⟨w, rfl, (Option.some.inj h).symm⟩
theorem SV_len {xs : List (List Nat)} : (SV xs).length = xs.length := by unfold SV; rw [List.length_map, List.length_map]
theorem layer_le {l : List Nat} {j n : Nat} (h : j ≤ n) : (layer l j).length ≤ (wordsUpto l n).length := by
  induction n with
  | zero =>
    have : j = 0 := by omega
    subst this
    exact Nat.le_refl _
  | succ n ih =>
    rw [words_succ, List.length_append]
    by_cases hj : j = n + 1
    · rw [hj]; omega
    · have := ih (by omega); omega
theorem words_le {l : List Nat} {j n : Nat} (h : j ≤ n) : (wordsUpto l j).length ≤ (wordsUpto l n).length := by
  induction n with
  | zero =>
    have : j = 0 := by omega
    subst this
    exact Nat.le_refl _
  | succ n ih =>
    by_cases hj : j = n + 1
    · rw [hj]; omega
    · have := ih (by omega)
      rw [words_succ, List.length_append]; omega
theorem part_le {l : List Nat} {j u : Nat} : (((layer l j).take u).flatMap fun w => l.map fun c => w ++ [c]).length ≤ (layer l (j + 1)).length := by
  rw [flatMap_len (k := l.length) (fun _ _ => List.length_map ..), List.length_take]
  show _ ≤ ((layer l j).flatMap fun w => l.map fun c => w ++ [c]).length
  rw [flatMap_len (k := l.length) (fun _ _ => List.length_map ..)]
  exact Nat.mul_le_mul_right _ (Nat.min_le_right _ _)
theorem flat_take {α β : Type} {f : α → List β} {l : List α} {u : Nat} {x : α} (h : l[u]? = some x) : (l.take (u + 1)).flatMap f = (l.take u).flatMap f ++ f x := by
  rw [List.take_add_one, h, List.flatMap_append]
  show _ ++ List.flatMap f [x] = _
  rw [List.flatMap_cons, List.flatMap_nil, List.append_nil]

/-! ### the mathematics: three ways to count -/
theorem sum_flat {α β : Type} {g : α → List β} {h : β → Int} : ∀ {L : List α}, ((L.flatMap g).map h).sum = (L.map fun w => ((g w).map h).sum).sum
  | [] => rfl
  | w :: L => by rw [List.flatMap_cons, List.map_append, List.sum_append, List.map_cons, List.sum_cons, sum_flat]
theorem sum_congr {α : Type} {f g : α → Int} : ∀ {L : List α}, (∀ x ∈ L, f x = g x) → (L.map f).sum = (L.map g).sum := fun {L} h => by rw [List.map_congr_left h]
theorem sum_zero {α : Type} {f : α → Int} {L : List α} (h : ∀ x ∈ L, f x = 0) : (L.map f).sum = 0 := by
  induction L with
  | nil => rfl
  | cons x r ih => rw [List.map_cons, List.sum_cons, h x List.mem_cons_self, ih fun y hy => h y (List.mem_cons_of_mem _ hy)]; rfl
/-- one step towards ends -/
def Tf (m : Mach) (f : Nat → Int) (s : Nat) : Int := ((m.tab.getD s []).map fun t => f t.toNat).sum
def pw (m : Mach) : Nat → (Nat → Int) → Nat → Int
  | 0, f => f
  | n + 1, f => pw m n (Tf m f)
theorem pw_cnt {m : Mach} : ∀ {n k : Nat}, pw m n (cnt m k) = cnt m (n + k)
  | 0, k => by rw [Nat.zero_add]; rfl
  | n + 1, k => by
    show pw m n (Tf m (cnt m k)) = _
    have : Tf m (cnt m k) = cnt m (k + 1) := by funext s; rw [cnt_succ]; rfl
    rw [this, pw_cnt, show n + (k + 1) = n + 1 + k by omega]
theorem row_signs {l : List Nat} {r : List Int} (nd : l.Nodup) (hl : r.length = l.length) : (l.map fun c => r.getD (l.idxOf c) 0) = r := by
  refine List.ext_getElem? fun i => ?_
  by_cases hi : i < l.length
  · have e : l[i]? = some l[i] := List.getElem?_eq_getElem hi
    have ix : l.idxOf l[i] = i := idx_of e fun k hk z => absurd (nodup_at nd z e) (by omega)
    rw [List.getElem?_map, e, Option.map_some, ix, List.getD_eq_getElem?_getD, List.getElem?_eq_getElem (by omega : i < r.length), Option.getD_some]
  · rw [List.getElem?_eq_none (by rw [List.length_map]; omega), List.getElem?_eq_none (by omega)]
theorem Tf_signs {l : List Nat} {m : Mach} (nd : l.Nodup) (mo : MachOk l.length m) {f : Nat → Int} {s : Nat} (hs : s < m.tab.length) : (l.map fun c => f (step1 l m s c)).sum = Tf m f s := by
  obtain ⟨r, hr, rl, _⟩ := mo.at_row (s := (s : Int)) (by omega) (by omega)
  have hr' : m.tab[s]? = some r := hr
  unfold Tf step1
  simp only [List.getD_eq_getElem?_getD, hr', Option.getD_some]
  have := row_signs nd rl
  simp only [List.getD_eq_getElem?_getD] at this
  conv => rhs; rw [← this]
  rw [List.map_map]
  rfl
theorem layer_sum {l : List Nat} {m : Mach} (nd : l.Nodup) (mo : MachOk l.length m) : ∀ {j : Nat} {f : Nat → Int}, ((layer l j).map fun w => f (runW l m 0 w)).sum = pw m j f 0
  | 0, f => by show f 0 + 0 = f 0; omega
  | j + 1, f => by
    show ((((layer l j).flatMap fun w => l.map fun c => w ++ [c])).map fun w => f (runW l m 0 w)).sum = pw m j (Tf m f) 0
    rw [sum_flat, ← layer_sum nd mo]
    refine sum_congr fun w hw => ?_
    rw [List.map_map]
    have := Tf_signs nd mo (f := f) (s := runW l m 0 w) (runW_lt mo w (by have := mo.pos; omega) (layer_mem hw))
    rw [← this]
    refine sum_congr fun c _ => ?_
    show f (runW l m 0 (w ++ [c])) = _
    rw [runW_snoc]
/-- whether the machine takes the word -/
def takes (l : List Nat) (m : Mach) (w : List Nat) : Bool := m.ends.getD (runW l m 0 w) false
def takenLens (l : List Nat) (m : Mach) (n : Nat) : List Int := ((wordsUpto l n).filter (takes l m)).map fun w => (w.length : Int)
theorem taken_succ {l : List Nat} {m : Mach} {n : Nat} : takenLens l m (n + 1) = takenLens l m n ++ ((layer l (n + 1)).filter (takes l m)).map fun w => (w.length : Int) := by
  unfold takenLens; rw [words_succ, List.filter_append, List.map_append]
theorem filter_len {α : Type} {p : α → Bool} : ∀ {L : List α}, ((L.filter p).length : Int) = (L.map fun w => if p w = true then (1 : Int) else 0).sum
  | [] => rfl
  | w :: L => by
    rw [List.map_cons, List.sum_cons, ← filter_len]
    cases h : p w with
    | true => rw [List.filter_cons_of_pos h, List.length_cons, if_pos rfl]; omega
    | false => rw [List.filter_cons_of_neg (by rw [h]; exact Bool.false_ne_true), if_neg Bool.false_ne_true]; omega
theorem filter_sum {α : Type} {p : α → Bool} {g : α → Int} : ∀ {L : List α}, ((L.filter p).map g).sum = (L.map fun w => g w * if p w = true then (1 : Int) else 0).sum
  | [] => rfl
  | w :: L => by
    rw [List.map_cons, List.sum_cons, ← filter_sum]
    cases h : p w with
    | true => rw [List.filter_cons_of_pos h, List.map_cons, List.sum_cons, if_pos rfl, Int.mul_one]
    | false => rw [List.filter_cons_of_neg (by rw [h]; exact Bool.false_ne_true), if_neg Bool.false_ne_true, Int.mul_zero, Int.zero_add]
theorem layer_taken {l : List Nat} {m : Mach} (nd : l.Nodup) (mo : MachOk l.length m) {j : Nat} : (((layer l j).filter (takes l m)).length : Int) = cnt m j 0 := by
  rw [filter_len]
  have := layer_sum nd mo (j := j) (f := cnt m 0)
  rw [pw_cnt, Nat.add_zero] at this
  rw [← this]
  refine sum_congr fun w _ => ?_
  rw [cnt_zero]
  rfl
theorem lens_layer {l : List Nat} {m : Mach} {j : Nat} {q : Int → Bool} : ((((layer l j).filter (takes l m)).map fun w => (w.length : Int)).filter q).length = if q j = true then ((layer l j).filter (takes l m)).length else 0 := by
  have h : ∀ x ∈ ((layer l j).filter (takes l m)).map fun w => (w.length : Int), x = (j : Int) := fun x hx => by
    obtain ⟨w, hw, rfl⟩ := List.mem_map.mp hx
    rw [layer_len (List.mem_filter.mp hw).1]
  generalize hL : ((layer l j).filter (takes l m)).map (fun w => (w.length : Int)) = L at h
  have hl : ((layer l j).filter (takes l m)).length = L.length := by rw [← hL, List.length_map]
  rw [hl]
  by_cases c : q j = true
  · rw [if_pos c, List.filter_eq_self.mpr fun x hx => by rw [h x hx]; exact c]
  · rw [if_neg c, List.filter_eq_nil_iff.mpr fun x hx => by rw [h x hx]; exact c]; rfl
theorem num_eq {l : List Nat} {m : Mach} (nd : l.Nodup) (mo : MachOk l.length m) {j : Nat} : ∀ {n : Nat}, (((takenLens l m n).filter fun x => decide (x = (j : Int))).length : Int) = if j ≤ n then cnt m j 0 else 0
  | 0 => by
    have h := lens_layer (l := l) (m := m) (j := 0) (q := fun x => decide (x = (j : Int)))
    have e : takenLens l m 0 = ((layer l 0).filter (takes l m)).map fun w => (w.length : Int) := by
      unfold takenLens
      rw [show wordsUpto l 0 = layer l 0 from by unfold wordsUpto; rfl]
    rw [e, h]
    by_cases c : j = 0
    · subst c
      rw [if_pos (by decide), if_pos (Nat.le_refl 0)]
      exact layer_taken nd mo
    · rw [if_neg (by simpa using fun z => c (by omega)), if_neg (by omega)]; rfl
  | n + 1 => by
    rw [taken_succ, List.filter_append, List.length_append, lens_layer]
    have ih := num_eq nd mo (j := j) (n := n)
    have lt := layer_taken nd mo (j := n + 1)
    by_cases c : j = n + 1
    · subst c
      rw [if_neg (by omega)] at ih
      rw [if_pos (decide_eq_true rfl), if_pos (Nat.le_refl _)]
      omega
    · rw [if_neg (show ¬ decide (((n + 1 : Nat) : Int) = (j : Int)) = true by simpa using fun z => c (by omega))]
      by_cases c2 : j ≤ n
      · rw [if_pos c2] at ih; rw [if_pos (by omega)]; omega
      · rw [if_neg c2] at ih; rw [if_neg (by omega)]; omega
theorem upto_succ {m : Mach} {n : Nat} : uptoOf m (n + 1) = uptoOf m n + cnt m (n + 1) 0 := by
  unfold uptoOf
  rw [List.range_succ (n := n + 1), List.map_append, List.sum_append]
  show _ + (cnt m (n + 1) 0 + 0) = _
  omega
theorem num_le {l : List Nat} {m : Mach} (nd : l.Nodup) (mo : MachOk l.length m) {j : Nat} : ∀ {n : Nat}, (((takenLens l m n).filter fun x => decide (x ≤ (j : Int))).length : Int) = uptoOf m (min j n)
  | 0 => by
    have h := lens_layer (l := l) (m := m) (j := 0) (q := fun x => decide (x ≤ (j : Int)))
    have e : takenLens l m 0 = ((layer l 0).filter (takes l m)).map fun w => (w.length : Int) := by
      unfold takenLens
      rw [show wordsUpto l 0 = layer l 0 from by unfold wordsUpto; rfl]
    rw [e, h, if_pos (by simp), Nat.min_zero, layer_taken nd mo]
    show _ = cnt m 0 0 + 0
    omega
  | n + 1 => by
    rw [taken_succ, List.filter_append, List.length_append, lens_layer]
    have ih := num_le nd mo (j := j) (n := n)
    have lt := layer_taken nd mo (j := n + 1)
    by_cases c : n + 1 ≤ j
    · rw [if_pos (decide_eq_true (by omega))]
      rw [show min j n = n by omega] at ih
      rw [show min j (n + 1) = n + 1 by omega, upto_succ]
      omega
    · rw [if_neg (show ¬ decide (((n + 1 : Nat) : Int) ≤ (j : Int)) = true by simpa using by omega)]
      rw [show min j (n + 1) = min j n by omega]
      omega
/-! forwards -/
def dot (n : Nat) (row : List Int) (f : Nat → Int) : Int := ((List.range n).map fun s => row.getD s 0 * f s).sum
theorem sum_range_one {g h : Nat → Int} {t : Nat} : ∀ {n : Nat}, t < n → (∀ s, s ≠ t → h s = g s) → ((List.range n).map h).sum = ((List.range n).map g).sum + (h t - g t)
  | 0, ht, _ => by omega
  | n + 1, ht, hh => by
    rw [List.range_succ, List.map_append, List.map_append, List.sum_append, List.sum_append]
    show _ + (h n + 0) = _ + (g n + 0) + _
    by_cases c : t = n
    · subst c
      have : ((List.range t).map h).sum = ((List.range t).map g).sum := sum_congr fun s hs => hh s (by have := List.mem_range.mp hs; omega)
      omega
    · have := sum_range_one (n := n) (by omega) hh
      rw [hh n (Ne.symm c)]
      omega
theorem getD_set {row : List Int} {t s : Nat} {v : Int} (ht : t < row.length) : (row.set t v).getD s 0 = if s = t then v else row.getD s 0 := by
  rw [List.getD_eq_getElem?_getD, List.getD_eq_getElem?_getD]
  by_cases c : s = t
  · subst c
    rw [List.getElem?_set_self ht, if_pos rfl]; rfl
  · rw [List.getElem?_set_ne (Ne.symm c), if_neg c]
theorem dot_set {n : Nat} {row : List Int} {t : Nat} {v : Int} {f : Nat → Int} (hl : row.length = n) (ht : t < n) : dot n (row.set t (row.getD t 0 + v)) f = dot n row f + v * f t := by
  unfold dot
  rw [sum_range_one (t := t) ht (g := fun s => row.getD s 0 * f s) fun s hs => by
    show (row.set t _).getD s 0 * f s = row.getD s 0 * f s
    rw [getD_set (by omega), if_neg hs]]
  show _ + ((row.set t _).getD t 0 * f t - row.getD t 0 * f t) = _
  rw [getD_set (by omega), if_pos rfl, Int.add_mul]
  omega
theorem dot_zero {n : Nat} {f : Nat → Int} {row : List Int} (h : ∀ x ∈ row, x = 0) : dot n row f = 0 := by
  refine sum_zero fun s _ => ?_
  rw [List.getD_eq_getElem?_getD]
  cases e : row[s]? with
  | none => exact Int.zero_mul _
  | some x => rw [h x (List.mem_of_getElem? e)]; exact Int.zero_mul _
/-- the row of the law: how many words lead to each state -/
structure FwdOk (m : Mach) (n : Nat) (row : List Int) : Prop where
  len : row.length = m.tab.length
  nn : ∀ x ∈ row, 0 ≤ x
  is : ∀ f, dot m.tab.length row f = pw m n f 0
/-- _law_counts(machine, n) -/
def countsOf (m : Mach) (n : Nat) : List Int := (List.range (n + 1)).map fun i => cnt m i 0
def spCounts : Sp := fun vs H Q _ => ∃ (v : V) (n : Nat) (m : Mach) (k : Nat) (G : Hp), vs = [v, .int (n : Nat)] ∧ Ok NoS H G ∧ Dq G v (DM m) ∧ MachOk k m ∧ k ≤ 6 ∧ n ≤ 300 ∧
  ∀ (H' G' : Hp) (r : V), Fz NoS H G H' G' → Dq G' r (DI (countsOf m n)) → Q r H'
end Hw

/-! calls of defs that may let an exception out -/
namespace Hw
open PySem PySem.Spec PyProof.Rows L2
section
variable {X : Cx} {CX : CXT} {k : Nat} {x : Str} {ps : List Str} {sp : Sp} {E : L2.St → XK} {p pos : Pos} {e : Expr} {es : List Expr} {t : TA}
/-- f(e, ..): what leaves it is as E tells, by the slots at the call -/
theorem pe_fnS (D : DefG X.prog X.w X.K X.mg X.base CX k x ps sp) (gd : X.A.guards = some []) (hr : Room k X.A) (hx : ∀ σ, PassesAt CX X σ (E σ)) (ha : PA X (e :: es) t) (hg : Gl X x := by rfl) (hdb : (x == ("__debug__" : Str)) = false := by decide)
    (he : starEach (e :: es) X.env = (false, eval e X.env) :: starEach es X.env := by rfl) (hpl : (backTo pos (starEach es X.env)).any (·.1) = false := by rfl) : PE X (.Call (.Name x p) (e :: es) [] pos) (tCallS sp E t) := by
  obtain ⟨f, fd, F, hm, kp, bi⟩ := D
  refine ⟨fun pins s σ H Q I q => wpAny_Call_Name_kw (ld_glob I hg hm ?_ hdb)⟩
  refine PySem.W.callWith_K (h₀ := X.base) I.ok.mod.kin kp (thn (ha.run pos pins s σ H _ I q) fun us s1 r => ?_) he hpl
  obtain ⟨vs, H1, J, va, q1⟩ := r
  refine ⟨J.kIn, ?_⟩
  have len : us.length = ps.length := va.length ▸ F.size _ _ _ _ q1
  have b := bi s1 us J.kIn (by rw [List.append_nil]; exact len)
  rw [List.append_nil] at b
  refine wpAny_call (codeAny_mono (F.go X.A X.stack s1 H1 _ us vs Q (E σ) gd hr J.env0 b va q1) fun r s2 h => ?_)
  match r, h with
  | .error e, h => exact hx σ pins H1 s1 e s2 J h
  | .ok (.ret u), h => exact J.after h
  | .ok .next, h => exact h.elim
  | .ok .brk, h => exact h.elim
  | .ok .cont, h => exact h.elim
/-- the same inside a try or a def that lets W out -/
theorem pe_fnW {W : WX} (D : DefG X.prog X.w X.K X.mg X.base (L2.CX X.prog X.w) k x ps sp) (gd : X.A.guards = some []) (hr : Room k X.A) (tk : Takes X W) (ha : PA X (e :: es) t) (hg : Gl X x := by rfl) (hdb : (x == ("__debug__" : Str)) = false := by decide)
    (he : starEach (e :: es) X.env = (false, eval e X.env) :: starEach es X.env := by rfl) (hpl : (backTo pos (starEach es X.env)).any (·.1) = false := by rfl) : PE X (.Call (.Name x p) (e :: es) [] pos) (tCallS sp (WE W) t) :=
  pe_fnS D gd hr (passAt tk) ha hg hdb he hpl
end
section
variable {X : Cx} {C : Addr} {bmB : List Value} {B newId initId : String}
/-- X(): an own class without own __init__, no arguments -/
theorem pmk_own0 {x : Str} {p pos : Pos} (F : ExcBaseFacts B newId initId bmB) (q : PySem.W.excIn X.K C bmB newId = true) (gC : X.mg x = some (.ref C)) (kC : PySem.W.keepIn X.K (.ref C) = true) (r : Raises X (.ref C)) (hg : Gl X x)
    (hdb : (x == ("__debug__" : Str)) = false := by decide) : PMk X (.Call (.Name x p) [] [] pos) (fun _ H Q => Q (.ref C) none H) := by
  intro pins s σ H Q I h
  refine wpAny_Call_Name_kw (ld_glob I hg gC ?_ hdb)
  refine PySem.W.callWith_K0 I.kIn kC ?_
  show wpAny _ _ (call (.ref C) []) _ _ _
  obtain ⟨bm, N, nm, qn, bs, hdct, sn, sub, ab, col, dd, k0, k1, k2, k3, k5, mN, hC, hN, hni, T⟩ := exc_obj I.kIn q
  refine wpAny_call_exc_subT F T hC hN hni (fun h' e hm => ?_) (Nat.zero_le _)
  exact mk_of I hm r h (I.hok.gone hm.new)
end
end Hw

/-! own exception classes: their facts, defs that are called with a caught error in an except suite -/
namespace Hw
open PySem PySem.Spec PyProof.Rows L2
/-- an own class stands at its name -/
structure OwnC (K : PySem.W.Frag) (mg : Str → Option Value) (x : Str) (C : Addr) : Prop where
  g : mg x = some (.ref C)
  kp : PySem.W.keepIn K (.ref C) = true
  b : PySem.W.subIn K (.ref C) (.type "BaseException") = some true
  t : PySem.W.typeIn K (.ref C) = some (.type "type")
  h : PySem.W.hasDictIn K C = true
/-- it is one that takes any arguments, and is raised -/
structure PlainC (K : PySem.W.Frag) (C : Addr) : Prop where
  e : PySem.W.excIn K C [.type "ValueError", .type "Exception", .type "BaseException", .type "object"] "ValueError.__new__" = true
  is : ExcC K C
  ve : PySem.W.kitOne K (.ref C) (.type "ValueError") = some true
theorem OwnC.catch {K : PySem.W.Frag} {mg : Str → Option Value} {x : Str} {C : Addr} {cls : Value} {b : Bool} (o : OwnC K mg x C) (s : PySem.W.subIn K cls (.ref C) = some b) : PySem.W.exmOne K cls (.ref C) = some b :=
  PySem.W.exm_ref o.b o.h o.t s
theorem takesNo {X : Cx} : Takes X (fun _ _ _ _ => False) := fun _ _ x => by
  obtain ⟨_, _, _, _, _, _, _, _, _, _, _, _, _, _, _, _, w⟩ := x
  exact w.elim
/-- isinstance(e, C) of a pinned error -/
theorem isEQ {X : Cx} (K : PySem.W.Frag) {a D : Addr} {oe : Obj} (hp : (a, oe) ∈ X.pn) (C : ExcC K D) (hz : Zc (.ref D) none oe) (hf : ∃ vs, oe.data = .fields vs) (hK : X.K = K := by rfl) : CallR X (.builtin "isinstance") (rIsE K D a) := by
  subst hK
  intro pins s σ H xs us Q I r h
  obtain ⟨c, cv, b, rfl, hcv, e, q⟩ := h
  match us, r with
  | [_, _], .cons rx (.cons rt .nil) =>
    cases rx
    cases hcv _ rt
    have hget := (I.pin (a, oe) (List.mem_append_left _ hp)).1
    obtain ⟨vs, hv⟩ := hf
    have J : PySem.W.InstAt s.heap a oe D none := by
      obtain ⟨oc, od, oda, osl⟩ := oe
      obtain ⟨h1, h2⟩ := hz
      cases h1
      cases h2
      cases hv
      exact ⟨hget, rfl, rfl, trivial⟩
    exact PySem.W.kia_one (PySem.W.handS_kitx_exc C.hg C.hk C.hs C.hd C.ha C.hn C.ht C.hm) I.kIn J e (fun z => nomatch z) fun tk => ⟨.bl b, H, I.kept (t' := tk) fun _ _ z => z, rfl, q⟩
/-- what a def promises that is called with a caught error: its place, its class, its dict -/
structure FnP (P : Program) (w : World) (K : PySem.W.Frag) (mg : Str → Option Value) (base : Heap) (k : Nat) (f : Addr) (fd : FuncData) (ps : List Str) (sp : Addr → Value → Option Addr → Sp) : Prop where
  size : ∀ a c d vs H Q E, sp a c d vs H Q E → vs.length = ps.length
  go : ∀ (A : Around) (out : List Env) (z : Shared) (H : Hp) (ar : Args) (us : List Value) (vs : List V) (Q : VK) (E : XK) (p : Addr × Obj) (c : Value) (d : Option Addr), L2H.RoomH k A → L2H.PinOk out H z p → Zc c d p.2 → (∃ ws, p.2.data = .fields ws) →
    Env0 P w K mg base A out z H → BindsTo z fd ar (ps.zip us) → Vals vs us → sp p.1 c d vs H Q E → codeAny (model P w) A (.call (.ref f) ar) (CR CX0 out P w H z Q E) z
theorem FnP.body {P : Program} {w : World} {K : PySem.W.Frag} {mg : Str → Option Value} {base : Heap} {k : Nat} {f : Addr} {fd : FuncData} {N ps : List Str} {sp : Addr → Value → Option Addr → Sp} {x qual : Str} {st : Stmt} (F : Fun K x qual st f fd) (S : FnScope N ps (defScope st))
    (sz : ∀ a c d vs H Q E, sp a c d vs H Q E → vs.length = ps.length)
    (bd : ∀ (cd : Value) (A : Around) (out : List Env) (z : Shared) (H : Hp) (vs : List V) (Q : VK) (E : XK) (p : Addr × Obj) (c : Value) (d : Option Addr), L2H.RoomH k (A.deeper (envOfC qual (defScope st) z.heap.objs.size f cd)) → Zc c d p.2 → (∃ ws, p.2.data = .fields ws) → sp p.1 c d vs H Q E →
      ∃ t, PSs (L2H.cxH CX0 P w K mg base N qual (defScope st) f cd A out z H E p).nox (defBody st) t ∧ t { nx := fun _ H' => Q .non H', rt := Q } (L2.start N vs) H) : FnP P w K mg base (k + 1) f fd ps sp := by
  obtain ⟨oc, od, kV, dc, pm, an, cd, ct, sl, rfl, look, isC⟩ := F.ex
  refine ⟨sz, ?_⟩
  intro A out z H ar us vs Q E p c d room pk hz hf en bi va pr
  have many := sz _ _ _ _ _ _ _ pr
  have stays : ∀ b o, base.get? b = some o → z.heap.get? b = some o := fun b o e => (en.bs b o e).1
  have inK : K.In z.heap := en.mod.kin.keeps stays
  have noL : z.heap.NoLimit := en.mod.nolimit.keeps stays
  have kinds : ∀ y ∈ ps.zip us, (defScope st).names.lookup y.1 = some .local ∨ ((defScope st).names.lookup y.1 = some .cell ∧ ((cellsFrom (z.heap.objs.size + 1) (defScope st).names []).lookup y.1).isSome = true) := by
    rintro ⟨n, v⟩ hy
    cases S.par n (List.of_mem_zip hy).1 with
    | inl q => exact .inl q
    | inr q => exact .inr ⟨q, PySem.W.cellsFrom_some _ _ _ (.inl q)⟩
  refine codeAny_call_function room.depth (inK _ _ look) rfl S.co S.gen rfl (PySem.W.codeRec_of inK isC) (bi _ _ _ _ ?_)
  refine wpAny_newFunctionEnv_cells S.kind kinds fun env e0 z1 w1 => ?_
  subst e0
  obtain ⟨t, ht, q⟩ := bd cd A out z H vs Q E p c d (room.deeper _) hz hf pr
  have I := L2H.inv_startH (CX := CX0) (E := E) S pk en many va w1
  refine ⟨noL.keeps w1.toInCall.keep, codeAny_func (wpAny_mono (ht.nox.run [] z1 _ H _ I q) (fun fl z2 r => ?_) fun _ _ r => r)⟩
  cases fl with
  | next =>
    obtain ⟨_, H2, J, q2⟩ := r
    exact ⟨.non, H2, J.os, J.bare, J.base, J.hok, rfl, q2⟩
  | ret u =>
    obtain ⟨v, _, H2, J, rv, q2⟩ := r
    exact ⟨v, H2, J.os, J.bare, J.base, J.hok, rv, q2⟩
  | brk => exact r.choose_spec.choose_spec.2.elim
  | cont => exact r.choose_spec.choose_spec.2.elim
def DefP (P : Program) (w : World) (K : PySem.W.Frag) (mg : Str → Option Value) (base : Heap) (k : Nat) (x : Str) (ps : List Str) (sp : Addr → Value → Option Addr → Sp) : Prop :=
  ∃ (f : Addr) (fd : FuncData), FnP P w K mg base k f fd ps sp ∧ mg x = some (.ref f) ∧ PySem.W.keepIn K (.ref f) = true ∧ Binds K fd ps []
/-- f(e, ..) in an except suite -/
theorem pe_fnP {X : Cx} {k : Nat} {x : Str} {ps : List Str} {sp : Addr → Value → Option Addr → Sp} {p pos : Pos} {e : Expr} {es : List Expr} {t : TA} {a : Addr} {oe : Obj} {c : Value} {d : Option Addr}
    (D : DefP X.prog X.w X.K X.mg X.base k x ps sp) (hr : L2H.RoomH k X.A) (hp : (a, oe) ∈ X.pn) (hz : Zc c d oe) (hf : ∃ ws, oe.data = .fields ws) (ha : PA X (e :: es) t) (hg : Gl X x := by rfl) (hdb : (x == ("__debug__" : Str)) = false := by decide)
    (he : starEach (e :: es) X.env = (false, eval e X.env) :: starEach es X.env := by rfl) (hpl : (backTo pos (starEach es X.env)).any (·.1) = false := by rfl) : PE X (.Call (.Name x p) (e :: es) [] pos) (tCall (sp a c d) [] E0 t) := by
  obtain ⟨f, fd, F, hm, kp, bi⟩ := D
  refine ⟨fun pins s σ H Q I q => wpAny_Call_Name_kw (ld_glob I hg hm ?_ hdb)⟩
  refine PySem.W.callWith_K (h₀ := X.base) I.ok.mod.kin kp (thn (ha.run pos pins s σ H _ I q) fun us s1 r => ?_) he hpl
  obtain ⟨vs, H1, J, va, q1⟩ := r
  rw [List.append_nil] at q1
  refine ⟨J.kIn, ?_⟩
  have len : us.length = ps.length := va.length ▸ F.size _ _ _ _ _ _ _ q1
  have b := bi s1 us J.kIn (by rw [List.append_nil]; exact len)
  rw [List.append_nil] at b
  have pn := J.pin (a, oe) (List.mem_append_left _ hp)
  have pk : L2H.PinOk X.stack H1 s1 (a, oe) := ⟨pn.1, pn.2.1, fun m => (List.mem_cons.mp (J.stkSub a m)).elim pn.2.2.1 pn.2.2.2.1, pn.2.2.2.2⟩
  refine wpAny_call (codeAny_mono (F.go X.A X.stack s1 H1 _ us vs Q E0 (a, oe) c d hr pk hz hf J.env0 b va q1) fun r s2 h => ?_)
  match r, h with
  | .error e, h => exact h.elim
  | .ok (.ret u), h => exact J.after h
  | .ok .next, h => exact h.elim
  | .ok .brk, h => exact h.elim
  | .ok .cont, h => exact h.elim
theorem roomS {k j : Nat} {A : Around} {h : Option Value} (r : Room k A) (l : j ≤ k) : L2H.RoomH j (A.mark h) := ⟨(r.mono l).dp, (r.mono l).un⟩
end Hw

/-! zip of a text and a list -/
namespace Hw
open PySem PySem.Spec PyProof.Rows L2
/-- the signs of x with the items of the list at b -/
def ItzS (K : PySem.W.Frag) (x : Str) (b : Addr) : It where
  go i H := ∃ (ys : List V) (c : Nat) (y : V), x.cps[i]? = some c ∧ SqL K H b ys ∧ ys[i]? = some y
  yld i H v H' := ∃ (T : Addr) (c : Nat) (y : V), v = .ref T ∧ H T = none ∧ H' = upd H T (.tup [.str ⟨#[c]⟩, y]) ∧ x.cps[i]? = some c ∧ ∀ ys, SqL K H b ys → ys[i]? = some y
  stop i H := ∃ ys : List V, SqL K H b ys ∧ i ≤ x.cps.size ∧ i ≤ ys.length ∧ (i = x.cps.size ∨ i = ys.length)
/-- the cells of such a walk -/
def ZsAt (x : Str) (t : Tok) (b z TI TO m n : Addr) (i : Nat) (h : Heap) : Prop :=
  IsZip h z TI TO .none ∧ IsTupOf2 h TI (.ref m) (.ref n) ∧ (∃ u v, IsTupOf2 h TO u v) ∧ h.IsStrIter m (strIterType x) x t i ∧ h.IsListIter n b i
theorem ZsAt.lay {x : Str} {t : Tok} {b z TI TO m n : Addr} {i : Nat} {h h' : Heap} (S : ZsAt x t b z TI TO m n i h) (k : ∀ c, c = z ∨ c = TI ∨ c = TO ∨ c = m ∨ c = n → ∀ o, h.get? c = some o → h'.get? c = some o) : ZsAt x t b z TI TO m n i h' := by
  obtain ⟨p, q, ⟨u, v, r⟩, ⟨o1, e1, f1⟩, e⟩ := S
  exact ⟨k _ (.inl rfl) _ p, k _ (.inr (.inl rfl)) _ q, ⟨u, v, k _ (.inr (.inr (.inl rfl))) _ r⟩, ⟨o1, k _ (.inr (.inr (.inr (.inl rfl)))) _ e1, f1⟩, e.at fun o => k _ (.inr (.inr (.inr (.inr rfl)))) o⟩
theorem mem5 {c z TI TO m n : Addr} (h : c ∈ [z, TI, TO, m, n]) : c = z ∨ c = TI ∨ c = TO ∨ c = m ∨ c = n := by simpa using h
theorem turn_zipS {P : Program} {w : World} {K : PySem.W.Frag} {elts : List Expr} {kk : Nat} {tpos : Pos} {x : Str} {t : Tok} {b z TI TO m n : Addr} (S : ZipSep2 z TI TO m n [m] [n, b]) :
    Turn P w K (.Tuple elts kk tpos) (ItzS K x b) [z, TI, TO, m, n] z (ZsAt x t b z TI TO m n) where
  mem := List.mem_cons_self
  obj i h st c hc := by
    obtain ⟨p, q, ⟨u, v, r⟩, ⟨o1, e1, _, d1⟩, ⟨o2, e2, _, d2⟩⟩ := st
    rcases mem5 hc with rfl | rfl | rfl | rfl | rfl
    · exact ⟨_, p, fun _ q => nomatch q⟩
    · exact ⟨_, q, fun _ q => nomatch q⟩
    · exact ⟨_, r, fun _ q => nomatch q⟩
    · exact ⟨o1, e1, fun _ q => by rw [d1] at q; cases q⟩
    · exact ⟨o2, e2, fun _ q => by rw [d2] at q; cases q⟩
  keep i h h' st k := st.lay fun c hc => k c (by simpa using hc)
  item := by
    intro X hP hw hK hc i pins s σ H E I hf st hg
    subst hP hw hK
    have st0 := st
    obtain ⟨p, q, ⟨u0, v0, r⟩, s1, s2⟩ := st
    obtain ⟨ys, c, y, hx, hqy, hy⟩ := hg
    obtain ⟨its, rv, pl, _⟩ := I.list hqy
    have hh : X.A.in1.handled = none := I.ok.hd hc
    have D1 := Draws.text (prog := X.prog) (w := X.w) hh m x t
    have nb : b ≠ n := fun z => by
      have l : n < s.heap.objs.size := by obtain ⟨_, e, _⟩ := s2; exact Heap.lt_size e
      obtain ⟨o2, e2, c2, d2⟩ := s2
      obtain ⟨ol, el, cl, nl, dl⟩ := pl.isList
      rw [z, e2] at el
      cases el
      rw [d2] at dl
      cases dl
    have D2 := Draws.list (prog := X.prog) (w := X.w) hh n b nb its.toArray
    have ix : i < x.cps.size := by
      rw [Array.getElem?_eq_some_iff] at hx
      exact hx.1
    have iy : i < its.toArray.size := by
      have := rv.length
      have := (List.getElem?_eq_some_iff.mp hy).1
      simp only [List.size_toArray]
      omega
    have zl : z < s.heap.objs.size := Heap.lt_size p
    refine wpAny_pyNext_zipD2_item S D1 D2 p q r s1 ⟨s2, pl.isList⟩ ix iy fun x1 x2 h' tk hp1 hp2 z' TO' t1 t2 hT hsz hk => ?_
    refine ⟨_, rfl, wpAny_letOwnedTupleGo_zip (s := { s with heap := h', toks := tk }) z' fun h2 z2 sb => ?_⟩
    obtain ⟨c', u, hc', rfl⟩ := hp1
    rw [hx] at hc'
    cases hc'
    obtain ⟨u2, hu2, ru2⟩ := rv.get hy
    have e2 : x2 = u2 := by
      have w : its.toArray[i]? = some x2 := hp2
      rw [show its.toArray[i]? = its[i]? by simp, hu2] at w
      exact (Option.some.inj w).symm
    subst e2
    have hT2 : h2.get? s.heap.objs.size = some { cls := .type "tuple", data := .seq #[.str ⟨#[c]⟩ u, x2] } := (sb.2 _ (Nat.ne_of_gt zl)).trans hT
    have new : ObjOk X.prog X.w (upd H s.heap.objs.size (.tup [.str ⟨#[c]⟩, y])) h2 s.heap.objs.size (.tup [.str ⟨#[c]⟩, y]) :=
      ⟨by show 2 ≤ sizeLine; decide, [_, _], .cons ⟨u, rfl⟩ (.cons ru2 .nil), ⟨_, hT2, rfl, _, rfl⟩⟩
    have up : ∀ d o, d ∉ [z, TI, TO, m, n] → s.heap.get? d = some o → h2.get? d = some o := fun d o hd e => by
      have w : d ≠ z ∧ d ≠ TI ∧ d ≠ TO ∧ d ≠ m ∧ d ≠ n := by simpa using hd
      exact (sb.2 d w.1).trans (hk d o w.1 w.2.2.1 w.2.2.2.1 w.2.2.2.2 e)
    have I1 : Inv X pins σ (upd H s.heap.objs.size (.tup [.str ⟨#[c]⟩, y])) { s with heap := h2, toks := tk } := I.turnedNew (t' := tk) up hf (Nat.le_refl _) new
    have lts : ∀ d ∈ [z, TI, TO, m, n], d < s.heap.objs.size := fun d hd => by
      obtain ⟨o1, e1, _⟩ := s1
      obtain ⟨o2, e2, _⟩ := s2
      rcases mem5 hd with e | e | e | e | e <;> rw [e]
      · exact zl
      · exact Heap.lt_size q
      · exact Heap.lt_size r
      · exact Heap.lt_size e1
      · exact Heap.lt_size e2
    refine ⟨.ref s.heap.objs.size, _, I1, rfl, ⟨_, c, y, rfl, I.hok.fresh (Nat.le_refl _), rfl, hx, fun l hl => by rw [I.list_inj hl hqy]; exact hy⟩, ?_, fun d hd => ?_⟩
    · have m1 : m ≠ z := fun e => S.zf1 (by rw [← e]; exact List.mem_cons_self)
      have n1 : n ≠ z := fun e => S.zf2 (by rw [← e]; exact List.mem_cons_self)
      exact ⟨z2, (sb.2 _ S.TIz).trans (hk _ _ S.TIz S.TITO S.TIi1 S.TIi2 q), ⟨_, _, (sb.2 _ S.TOz).trans TO'⟩,
        t1.extBut sb.extBut m1, t2.1.at fun o e => (sb.2 _ n1).trans e⟩
    · rw [upd_ne (Nat.ne_of_lt (lts d hd))]
      exact (hf d hd).1
  done := by
    intro X hP hw hK hc i pins s σ H E I hf st hg
    subst hP hw hK
    obtain ⟨p, q, ⟨u0, v0, r⟩, s1, s2⟩ := st
    obtain ⟨ys, hqy, lx, ly, hend⟩ := hg
    obtain ⟨its, rv, pl, _⟩ := I.list hqy
    have hh : X.A.in1.handled = none := I.ok.hd hc
    have nb : b ≠ n := fun z => by
      obtain ⟨o2, e2, c2, d2⟩ := s2
      obtain ⟨ol, el, cl, nl, dl⟩ := pl.isList
      rw [z, e2] at el
      cases el
      rw [d2] at dl
      cases dl
    have le : ys.length = its.toArray.size := by simpa using rv.length
    rw [le] at ly hend
    refine wpAny_pyNext_zipD2_end S (Draws.text hh m x t) (Draws.list hh n b nb its.toArray) p q r s1 ⟨s2, pl.isList⟩ lx ly hend fun h' tk hk => ⟨rfl, I.turnedL (t' := tk) (ch := [z, TI, TO, m, n]) (fun d o hd e => ?_) hf⟩
    have w : d ≠ z ∧ d ≠ TI ∧ d ≠ TO ∧ d ≠ m ∧ d ≠ n := by simpa using hd
    exact hk d o w.1 w.2.2.1 w.2.2.2.1 w.2.2.2.2 e
  self A i s Q E st h := wpAny_pyIter_zip st.1 h
def iZipS (K : PySem.W.Frag) (ta : TA) : TI := fun σ H R => ta σ H fun vs H1 => ∃ (x : Str) (b : Addr) (ys : List V), vs = [.str x, .ref b] ∧ SqL K H1 b ys ∧ R (ItzS K x b) H1
theorem pi_zipS {X : Cx} (K : PySem.W.Frag) {e e2 : Expr} {ta : TA} {p pos tpos : Pos} {elts : List Expr} {kk : Nat} (hg : Gl X "zip") (hm : X.mg "zip" = none) (ha : PA X [e, e2] ta)
    (he : starEach [e, e2] X.env = (false, eval e X.env) :: starEach [e2] X.env := by rfl) (hpl : (backTo pos (starEach [e2] X.env)).any (·.1) = false := by rfl) (hK : X.K = K := by rfl) :
    PI X (.Tuple elts kk tpos) (.Call (.Name "zip" p) [e, e2] [] pos) (iZipS K ta) := by
  subst hK
  refine ⟨fun pins s σ H R I h => ?_⟩
  refine Call_ (ld_blt I hg hm boot_zip (callWith_type1 (thn (ha.run pos pins s σ H _ I h) fun us s1 r => ?_) he hpl))
  obtain ⟨vs, H1, J, rvs, x, b, ys, rfl, hb, q⟩ := r
  match us, rvs with
  | [_, _], .cons rx (.cons rb .nil) =>
    obtain ⟨t, rfl⟩ := rx
    cases rb
    obtain ⟨its, rv, pl, _⟩ := J.list hb
    refine zip_begins2 (begins_text x t) (begins_list b its.toArray) trivial pl.isList fun h' z TI TO o1 o2 sz hk => wpAny_pyIter_zip z ?_
    have S : ZipSep2 (s1.heap.objs.size + 4) (s1.heap.objs.size + 2) (s1.heap.objs.size + 3) s1.heap.objs.size (s1.heap.objs.size + 1) [s1.heap.objs.size] [s1.heap.objs.size + 1, b] := zip_sep2 (fp1 := []) (fp2 := [b]) (fun _ w => nomatch w) (fun c w => by
      have e : c = b := by simpa using w
      rw [e]; exact pl.lt)
    have new : ∀ c ∈ [s1.heap.objs.size + 4, s1.heap.objs.size + 2, s1.heap.objs.size + 3, s1.heap.objs.size, s1.heap.objs.size + 1], FpOk X pins H1 c := fun c w => by
      have le : s1.heap.objs.size ≤ c := by
        rcases mem5 w with e | e | e | e | e <;> rw [e] <;> first | exact Nat.le_refl _ | exact Nat.le_add_right _ _
      exact J.fpOk le (J.hok.fresh le)
    exact ⟨_, _, _, _, H1, rfl, J.kept (t' := s1.toks) hk, turn_zipS S, ⟨z, TI, ⟨_, _, TO⟩, ⟨_, o1, rfl, rfl⟩, ⟨_, o2, rfl, rfl⟩⟩, new, q⟩
/-- the loop over such a walk: one turn for each sign -/
theorem walk_zipS {K : PySem.W.Frag} {x : Str} {b : Addr} {ys : List V} (he : x.cps.size = ys.length) :
    Walk (ItzS K x b) ys.length (fun H => SqL K H b ys) (YPair (fun i => x.cps[i]?.map fun c => .str ⟨#[c]⟩) (fun i => ys[i]?)) := by
  refine ⟨fun i _ hi q => ?_, fun _ q => ⟨ys, q, by omega, Nat.le_refl _, .inr rfl⟩, fun i H v H' _ q y => ?_⟩
  · have hx : i < x.cps.size := by omega
    exact ⟨ys, x.cps[i], ys[i], by simp [hx], q, by simp [hi]⟩
  · obtain ⟨T, c, u, e1, e2, e3, e4, e5⟩ := y
    exact ⟨T, _, u, e1, e2, e3, congrArg (Option.map _) e4, e5 ys q⟩
end Hw

/-! words of a machine by their places -/
namespace Hw
open PySem PySem.Spec PyProof.Rows L2
def plsOf (l w : List Nat) : List Int := w.map fun c => ((l.idxOf c : Nat) : Int)
def spPlacesOf : Sp := fun vs H Q _ => ∃ (l w : List Nat) (G : Hp), vs = [.str (strOf l), .str (strOf w)] ∧ IsLetters l ∧ (∀ c ∈ w, c ∈ l) ∧ w.length ≤ 5000 ∧ Ok NoS H G ∧
  ∀ (H' G' : Hp) (r : V), Fz NoS H G H' G' → Dq G' r (DI (plsOf l w)) → Q r H'
/-- run_from(letters, machine, state, word) -/
def spRunFrom : Sp := fun vs H Q _ => ∃ (l w : List Nat) (v : V) (s : Nat) (m : Mach) (G : Hp), vs = [.str (strOf l), v, .int (s : Nat), .str (strOf w)] ∧ IsLetters l ∧ (∀ c ∈ w, c ∈ l) ∧ w.length ≤ 5000 ∧ Ok NoS H G ∧ Dq G v (DM m) ∧ MachOk l.length m ∧ s < m.tab.length ∧
  ∀ H', Step NoS H H' → Q (.int (runW l m s w : Nat)) H'
def spRunO : Sp := fun vs H Q _ => ∃ (l w : List Nat) (v : V) (m : Mach) (G : Hp), vs = [.str (strOf l), v, .str (strOf w)] ∧ IsLetters l ∧ (∀ c ∈ w, c ∈ l) ∧ w.length ≤ 5000 ∧ Ok NoS H G ∧ Dq G v (DM m) ∧ MachOk l.length m ∧
  ∀ H', Step NoS H H' → Q (.int (runW l m 0 w : Nat)) H'
def spTaken : Sp := fun vs H Q _ => ∃ (l w : List Nat) (v : V) (m : Mach) (G : Hp), vs = [.str (strOf l), v, .str (strOf w)] ∧ IsLetters l ∧ (∀ c ∈ w, c ∈ l) ∧ w.length ≤ 5000 ∧ Ok NoS H G ∧ Dq G v (DM m) ∧ MachOk l.length m ∧
  ∀ H', Step NoS H H' → Q (.bl (takes l m w)) H'
/-- the words ahead of w, as the program adds them -/
def ahdAt (l : List Nat) (m : Mach) (w : List Nat) (i : Nat) : Int := (((m.tab.getD (runW l m 0 (w.take i)) []).take (l.idxOf (w.getD i 0))).map fun t => cnt m (w.length - i - 1) t.toNat).sum
def ahdW (l : List Nat) (m : Mach) (w : List Nat) : Int := ((List.range w.length).map fun n => cnt m n 0).sum + ((List.range w.length).map (ahdAt l m w)).sum
def spAhead : Sp := fun vs H Q _ => ∃ (l w : List Nat) (v : V) (m : Mach) (G : Hp), vs = [.str (strOf l), v, .str (strOf w)] ∧ IsLetters l ∧ (∀ c ∈ w, c ∈ l) ∧ w.length ≤ 300 ∧ Ok NoS H G ∧ Dq G v (DM m) ∧ MachOk l.length m ∧
  ∀ H', Step NoS H H' → Q (.int (ahdW l m w)) H'
def plV (l : List Nat) (m : Mach) (w : List Nat) : V := if takes l m w = true then .int (ahdW l m w) else .non
def spPlaceOf : Sp := fun vs H Q _ => ∃ (l w : List Nat) (v : V) (m : Mach) (G : Hp), vs = [.str (strOf l), v, .str (strOf w)] ∧ IsLetters l ∧ (∀ c ∈ w, c ∈ l) ∧ w.length ≤ 300 ∧ Ok NoS H G ∧ Dq G v (DM m) ∧ MachOk l.length m ∧
  ∀ H', Step NoS H H' → Q (plV l m w) H'
/-- text += text -/
theorem ip_addS {X : Cx} : PIp X .Add (fun x y H Q => ∃ i j, x = .str i ∧ y = .str j ∧ i.length + j.length ≤ sizeLine ∧ Q (.str (i ++ j)) H) := iop_add_str
/-! ### layers, from the front -/
theorem layer_cons {l : List Nat} : ∀ {j : Nat}, layer l (j + 1) = l.flatMap fun c => (layer l j).map (c :: ·)
  | 0 => by
    show ([[]] : List (List Nat)).flatMap (fun w => l.map fun c => w ++ [c]) = _
    rw [List.flatMap_cons, List.flatMap_nil, List.append_nil]
    show l.map (fun c => [c]) = l.flatMap fun c => [[c]]
    induction l with
    | nil => rfl
    | cons a r ih => rw [List.map_cons, List.flatMap_cons, ih]; rfl
  | j + 1 => by
    show (layer l (j + 1)).flatMap (fun w => l.map fun c => w ++ [c]) = _
    have e := layer_cons (l := l) (j := j)
    conv => lhs; rw [e, List.flatMap_assoc]
    refine congrArg (fun f => l.flatMap f) (funext fun c => ?_)
    rw [List.flatMap_map]
    show _ = ((layer l j).flatMap fun w => l.map fun d => w ++ [d]).map (c :: ·)
    rw [List.map_flatMap]
    refine congrArg (fun f => (layer l j).flatMap f) (funext fun w => ?_)
    rw [List.map_map]
    rfl
theorem layer_from {l : List Nat} {m : Mach} (nd : l.Nodup) (mo : MachOk l.length m) : ∀ {j s : Nat} {f : Nat → Int}, s < m.tab.length → ((layer l j).map fun w => f (runW l m s w)).sum = pw m j f s
  | 0, s, f, _ => by show f s + 0 = f s; omega
  | j + 1, s, f, hs => by
    show ((((layer l j).flatMap fun w => l.map fun c => w ++ [c])).map fun w => f (runW l m s w)).sum = pw m j (Tf m f) s
    rw [sum_flat, ← layer_from nd mo hs]
    refine sum_congr fun w hw => ?_
    rw [List.map_map]
    have := Tf_signs nd mo (f := f) (s := runW l m s w) (runW_lt mo w hs (layer_mem hw))
    rw [← this]
    refine sum_congr fun c _ => ?_
    show f (runW l m s (w ++ [c])) = _
    rw [runW_snoc]
/-- the words of a layer taken from a state on -/
theorem layer_cnt {l : List Nat} {m : Mach} (nd : l.Nodup) (mo : MachOk l.length m) {j s : Nat} (hs : s < m.tab.length) : ((layer l j).map fun w => cnt m 0 (runW l m s w)).sum = cnt m j s := by
  rw [layer_from nd mo hs, pw_cnt, Nat.add_zero]
/-! ### where a word stands in its layer -/
def posL (l : List Nat) : List Nat → Nat
  | [] => 0
  | c :: w => l.idxOf c * l.length ^ w.length + posL l w
theorem flat_at {α β : Type} {f : α → List β} {B : Nat} : ∀ {L : List α} {i p : Nat} {x : α}, (∀ y ∈ L, (f y).length = B) → L[i]? = some x → p < B → (L.flatMap f)[i * B + p]? = (f x)[p]? ∧ (L.flatMap f).take (i * B + p) = (L.take i).flatMap f ++ (f x).take p
  | [], _, _, _, _, h, _ => by simp at h
  | y :: L, 0, p, x, hB, h, hp => by
    have e : y = x := Option.some.inj h
    subst e
    have ly := hB y List.mem_cons_self
    rw [List.flatMap_cons, Nat.zero_mul, Nat.zero_add, List.getElem?_append_left (by omega), List.take_append_of_le_length (by omega)]
    exact ⟨rfl, rfl⟩
  | y :: L, i + 1, p, x, hB, h, hp => by
    have ih := flat_at (f := f) (L := L) (i := i) (p := p) (x := x) (fun z hz => hB z (List.mem_cons_of_mem _ hz)) h hp
    have ly := hB y List.mem_cons_self
    have e : (i + 1) * B + p = B + (i * B + p) := by rw [Nat.add_mul]; omega
    rw [List.flatMap_cons, e, List.getElem?_append_right (by omega), List.take_append, ly, show B + (i * B + p) - B = i * B + p by omega, ih.1, ih.2, List.take_of_length_le (by omega)]
    exact ⟨rfl, by rw [List.take_succ_cons, List.flatMap_cons, List.append_assoc]⟩
theorem posL_lt {l : List Nat} : ∀ {w : List Nat}, (∀ c ∈ w, c ∈ l) → posL l w < l.length ^ w.length
  | [], _ => Nat.lt_succ_self 0
  | c :: w, h => by
    have ih := posL_lt (l := l) (w := w) fun d hd => h d (List.mem_cons_of_mem _ hd)
    have hi := idx_lt (h c List.mem_cons_self)
    show l.idxOf c * l.length ^ w.length + posL l w < l.length ^ (w.length + 1)
    rw [Nat.pow_succ, Nat.mul_comm (l.length ^ w.length)]
    have : (l.idxOf c + 1) * l.length ^ w.length ≤ l.length * l.length ^ w.length := Nat.mul_le_mul_right _ hi
    rw [Nat.add_mul] at this
    omega
theorem posL_at {l : List Nat} : ∀ {w : List Nat}, (∀ c ∈ w, c ∈ l) → (layer l w.length)[posL l w]? = some w
  | [], _ => rfl
  | c :: w, h => by
    have hw : ∀ d ∈ w, d ∈ l := fun d hd => h d (List.mem_cons_of_mem _ hd)
    have ih := posL_at (l := l) (w := w) hw
    have hi := idx_lt (h c List.mem_cons_self)
    have hc : l[l.idxOf c]? = some c := by rw [List.getElem?_eq_getElem hi, List.getElem_idxOf hi]
    show (layer l (w.length + 1))[l.idxOf c * l.length ^ w.length + posL l w]? = _
    rw [layer_cons, (flat_at (f := fun c => (layer l w.length).map (c :: ·)) (fun y _ => by rw [List.length_map, layer_size]) hc (posL_lt hw)).1, List.getElem?_map, ih]
    rfl
/-- the words ahead from a state on, sign by sign -/
def ahdFrom (l : List Nat) (m : Mach) : Nat → List Nat → Int
  | _, [] => 0
  | s, c :: w => (((m.tab.getD s []).take (l.idxOf c)).map fun t => cnt m w.length t.toNat).sum + ahdFrom l m (step1 l m s c) w
theorem ahd_sum {l : List Nat} {m : Mach} (nd : l.Nodup) (mo : MachOk l.length m) : ∀ {w : List Nat} {s : Nat}, s < m.tab.length → (∀ c ∈ w, c ∈ l) → (((layer l w.length).take (posL l w)).map fun v => cnt m 0 (runW l m s v)).sum = ahdFrom l m s w
  | [], _, _, _ => rfl
  | c :: w, s, hs, h => by
    have hw : ∀ d ∈ w, d ∈ l := fun d hd => h d (List.mem_cons_of_mem _ hd)
    have cl := h c List.mem_cons_self
    have hi := idx_lt cl
    have hc : l[l.idxOf c]? = some c := by rw [List.getElem?_eq_getElem hi, List.getElem_idxOf hi]
    obtain ⟨r, hr, hrc, hl⟩ := step1_ok mo hs cl
    have ih := ahd_sum nd mo (w := w) hl hw
    show (((layer l (w.length + 1)).take (l.idxOf c * l.length ^ w.length + posL l w)).map fun v => cnt m 0 (runW l m s v)).sum = _
    rw [layer_cons, (flat_at (f := fun c => (layer l w.length).map (c :: ·)) (fun y _ => by rw [List.length_map, layer_size]) hc (posL_lt hw)).2, List.map_append, List.sum_append, sum_flat]
    show _ = (((m.tab.getD s []).take (l.idxOf c)).map fun t => cnt m w.length t.toNat).sum + ahdFrom l m (step1 l m s c) w
    congr 1
    · have rl := mo.row r (List.mem_of_getElem? hr)
      have rs := row_signs nd rl
      have eg : m.tab.getD s [] = r := by rw [List.getD_eq_getElem?_getD, hr]; rfl
      rw [eg]
      conv => rhs; rw [← rs]
      rw [← List.map_take, List.map_map]
      refine sum_congr fun d hd => ?_
      have dl := List.mem_of_mem_take hd
      obtain ⟨_, _, _, hl2⟩ := step1_ok mo hs dl
      rw [List.map_map]
      have := layer_cnt nd mo (j := w.length) hl2
      have es : step1 l m s d = (r.getD (l.idxOf d) 0).toNat := by unfold step1; rw [eg]
      show ((layer l w.length).map fun v => cnt m 0 (runW l m (step1 l m s d) v)).sum = cnt m w.length ((r.getD (l.idxOf d) 0).toNat)
      rw [this, es]
    · rw [← ih, ← List.map_take, List.map_map]
      rfl
def ahdAtS (l : List Nat) (m : Mach) (s : Nat) (w : List Nat) (i : Nat) : Int := (((m.tab.getD (runW l m s (w.take i)) []).take (l.idxOf (w.getD i 0))).map fun t => cnt m (w.length - i - 1) t.toNat).sum
theorem ahd_from {l : List Nat} {m : Mach} : ∀ (w : List Nat) (s : Nat), ((List.range w.length).map (ahdAtS l m s w)).sum = ahdFrom l m s w
  | [], _ => rfl
  | c :: w, s => by
    have ih := ahd_from (l := l) (m := m) w (step1 l m s c)
    rw [List.length_cons, List.range_succ_eq_map, List.map_cons, List.sum_cons, List.map_map]
    show _ = (((m.tab.getD s []).take (l.idxOf c)).map fun t => cnt m w.length t.toNat).sum + ahdFrom l m (step1 l m s c) w
    rw [← ih]
    congr 1
    refine sum_congr fun i _ => ?_
    show ahdAtS l m s (c :: w) (i + 1) = ahdAtS l m (step1 l m s c) w i
    unfold ahdAtS
    rw [List.take_succ_cons, List.getD_cons_succ, List.length_cons, show w.length + 1 - (i + 1) - 1 = w.length - i - 1 by omega]
    rfl
/-- the words ahead: the shorter ones, and those ahead in the layer -/
theorem ahdW_is {l : List Nat} {m : Mach} (nd : l.Nodup) (mo : MachOk l.length m) {w : List Nat} (h : ∀ c ∈ w, c ∈ l) :
    ahdW l m w = ((List.range w.length).map fun n => (((layer l n).filter (takes l m)).length : Int)).sum + ((((layer l w.length).take (posL l w)).filter (takes l m)).length : Int) := by
  unfold ahdW
  congr 1
  · exact sum_congr fun n _ => (layer_taken nd mo).symm
  · have e := ahd_from (l := l) (m := m) w 0
    rw [filter_len]
    have e2 := ahd_sum nd mo (w := w) (s := 0) (by have := mo.pos; omega) h
    rw [show (List.range w.length).map (ahdAt l m w) = (List.range w.length).map (ahdAtS l m 0 w) from rfl, e, ← e2]
    refine sum_congr fun v _ => ?_
    rw [cnt_zero]
    rfl
theorem layer_nodup {l : List Nat} (nd : l.Nodup) : ∀ {j : Nat}, (layer l j).Nodup
  | 0 => List.nodup_cons.mpr ⟨List.not_mem_nil, List.nodup_nil⟩
  | j + 1 => by
    rw [layer_cons]
    unfold List.Nodup
    refine List.pairwise_flatMap.mpr ⟨fun c _ => ?_, ?_⟩
    · exact List.pairwise_map.mpr ((layer_nodup nd (j := j)).imp fun h z => h (List.cons.inj z).2)
    · refine nd.imp fun {a b} h x hx y hy z => ?_
      obtain ⟨u, _, rfl⟩ := List.mem_map.mp hx
      obtain ⟨v, _, rfl⟩ := List.mem_map.mp hy
      exact h (List.cons.inj z).1
/-- the words ahead of a place -/
theorem words_at {l : List Nat} : ∀ {n k : Nat} {w : List Nat}, (wordsUpto l n)[k]? = some w → ∃ j p, j ≤ n ∧ (layer l j)[p]? = some w ∧ (wordsUpto l n).take k = (List.range j).flatMap (layer l) ++ (layer l j).take p
  | 0, k, w, h => ⟨0, k, Nat.le_refl 0, by
      have e : wordsUpto l 0 = layer l 0 := by unfold wordsUpto; rfl
      rw [← e]; exact h, by
      have e : wordsUpto l 0 = layer l 0 := by unfold wordsUpto; rfl
      rw [e]; rfl⟩
  | n + 1, k, w, h => by
    rw [words_succ] at h ⊢
    by_cases hk : k < (wordsUpto l n).length
    · rw [List.getElem?_append_left hk] at h
      obtain ⟨j, p, h1, h2, h3⟩ := words_at h
      exact ⟨j, p, by omega, h2, by rw [List.take_append_of_le_length (by omega), h3]⟩
    · rw [List.getElem?_append_right (by omega)] at h
      refine ⟨n + 1, k - (wordsUpto l n).length, Nat.le_refl _, h, ?_⟩
      rw [List.take_append, List.take_of_length_le (by omega)]
      rfl
theorem filter_flat {α β : Type} {f : α → List β} {q : β → Bool} : ∀ {L : List α}, (((L.flatMap f).filter q).length : Int) = (L.map fun x => (((f x).filter q).length : Int)).sum
  | [] => rfl
  | x :: L => by
    have ih := filter_flat (f := f) (q := q) (L := L)
    rw [List.flatMap_cons, List.filter_append, List.length_append, List.map_cons, List.sum_cons, ← ih]
    omega
/-- count_ahead tells the number of the taken words ahead -/
theorem ahead_is {l : List Nat} {m : Mach} (nd : l.Nodup) (mo : MachOk l.length m) {n k : Nat} {w : List Nat} (h : (wordsUpto l n)[k]? = some w) : ((((wordsUpto l n).take k).filter (takes l m)).length : Int) = ahdW l m w := by
  obtain ⟨j, p, _, h2, h3⟩ := words_at h
  have hm := List.mem_of_getElem? h2
  have hj := layer_len hm
  have hw := layer_mem hm
  subst hj
  have hp : p = posL l w := nodup_at (layer_nodup nd) h2 (posL_at hw)
  rw [ahdW_is nd mo hw, h3, List.filter_append, List.length_append, hp]
  have := filter_flat (f := layer l) (q := takes l m) (L := List.range w.length)
  omega
/-! ### the word at a place -/
theorem cnt_nonneg {m : Mach} : ∀ (n s : Nat), 0 ≤ cnt m n s
  | 0, s => by rw [cnt_zero]; split <;> decide
  | n + 1, s => by
    rw [cnt_succ]
    induction m.tab.getD s [] with
    | nil => exact Int.le_refl 0
    | cons t r ih =>
      rw [List.map_cons, List.sum_cons]
      have := cnt_nonneg (m := m) n t.toNat
      omega
/-- the first place of the row whose count exceeds the place; what is left of it -/
def pickT (m : Mach) (n : Nat) : List Int → Int → Option (Nat × Int)
  | [], _ => none
  | t :: r, p => if p < cnt m n t.toNat then some (0, p) else (pickT m n r (p - cnt m n t.toNat)).map fun q => (q.1 + 1, q.2)
theorem pickT_at {m : Mach} {n : Nat} : ∀ {r : List Int} {i : Nat} {t p : Int}, r[i]? = some t → 0 ≤ p → p < cnt m n t.toNat → pickT m n r (((r.take i).map fun t => cnt m n t.toNat).sum + p) = some (i, p)
  | [], _, _, _, h, _, _ => by simp at h
  | u :: r, 0, t, p, h, h0, hp => by
    have e : u = t := Option.some.inj h
    subst e
    show pickT m n (u :: r) (0 + p) = _
    rw [Int.zero_add, pickT, if_pos hp]
  | u :: r, i + 1, t, p, h, h0, hp => by
    have ih := pickT_at (m := m) (n := n) (r := r) (i := i) (t := t) (p := p) h h0 hp
    have hs : 0 ≤ ((r.take i).map fun t => cnt m n t.toNat).sum := by
      generalize r.take i = q
      induction q with
      | nil => exact Int.le_refl 0
      | cons v q ihq =>
        rw [List.map_cons, List.sum_cons]
        have := cnt_nonneg (m := m) n v.toNat
        omega
    rw [List.take_succ_cons, List.map_cons, List.sum_cons, pickT, if_neg (by omega), show cnt m n u.toNat + ((r.take i).map fun t => cnt m n t.toNat).sum + p - cnt m n u.toNat = ((r.take i).map fun t => cnt m n t.toNat).sum + p by omega, ih]
    rfl
theorem take_sum_lt : ∀ {xs : List Int} {k : Nat}, (∀ x ∈ xs, 0 ≤ x) → xs[k]? = some 1 → 0 ≤ (xs.take k).sum ∧ (xs.take k).sum < xs.sum
  | [], _, _, h => by simp at h
  | x :: r, 0, hx, h => by
    have e : x = 1 := Option.some.inj h
    subst e
    have hr : 0 ≤ r.sum := by
      clear h
      induction r with
      | nil => exact Int.le_refl 0
      | cons y q ih =>
        rw [List.sum_cons]
        have h1 := hx y (List.mem_cons_of_mem _ List.mem_cons_self)
        have h2 := ih fun z hz => by
          rcases List.mem_cons.mp hz with rfl | hz
          · exact hx _ List.mem_cons_self
          · exact hx z (List.mem_cons_of_mem _ (List.mem_cons_of_mem _ hz))
        omega
    rw [List.take_zero, List.sum_cons]
    show (0 : Int) ≤ 0 ∧ (0 : Int) < _
    omega
  | x :: r, k + 1, hx, h => by
    have ih := take_sum_lt (xs := r) (k := k) (fun y hy => hx y (List.mem_cons_of_mem _ hy)) h
    have := hx x List.mem_cons_self
    rw [List.take_succ_cons, List.sum_cons, List.sum_cons]
    omega
theorem ahd_lt {l : List Nat} {m : Mach} (nd : l.Nodup) (mo : MachOk l.length m) {w : List Nat} {s : Nat} (hs : s < m.tab.length) (h : ∀ c ∈ w, c ∈ l) (ht : cnt m 0 (runW l m s w) = 1) : 0 ≤ ahdFrom l m s w ∧ ahdFrom l m s w < cnt m w.length s := by
  have e1 := ahd_sum nd mo hs h
  have e2 := layer_cnt nd mo (j := w.length) hs
  rw [← e1, ← e2, List.map_take]
  refine take_sum_lt (fun x hx => ?_) ?_
  · obtain ⟨v, _, rfl⟩ := List.mem_map.mp hx
    exact cnt_nonneg 0 _
  · rw [List.getElem?_map, posL_at h, Option.map_some, ht]
def wordAt (l : List Nat) (m : Mach) : Nat → Nat → Int → List Nat
  | 0, _, _ => []
  | j + 1, s, p => match pickT m j (m.tab.getD s []) p with
    | none => []
    | some q => l.getD q.1 0 :: wordAt l m j ((m.tab.getD s []).getD q.1 0).toNat q.2
theorem wordAt_is {l : List Nat} {m : Mach} (nd : l.Nodup) (mo : MachOk l.length m) : ∀ {w : List Nat} {s : Nat}, s < m.tab.length → (∀ c ∈ w, c ∈ l) → cnt m 0 (runW l m s w) = 1 → wordAt l m w.length s (ahdFrom l m s w) = w
  | [], _, _, _, _ => rfl
  | c :: w, s, hs, h, ht => by
    have hw : ∀ d ∈ w, d ∈ l := fun d hd => h d (List.mem_cons_of_mem _ hd)
    have cl := h c List.mem_cons_self
    obtain ⟨r, hr, hrc, hl⟩ := step1_ok mo hs cl
    have ht' : cnt m 0 (runW l m (step1 l m s c) w) = 1 := ht
    have ih := wordAt_is nd mo (w := w) hl hw ht'
    have hb := ahd_lt nd mo hl hw ht'
    have eg : m.tab.getD s [] = r := by rw [List.getD_eq_getElem?_getD, hr]; rfl
    have hp := pickT_at (m := m) (n := w.length) (r := r) (i := l.idxOf c) (t := ((step1 l m s c : Nat) : Int)) (p := ahdFrom l m (step1 l m s c) w) hrc hb.1 (by rw [Int.toNat_natCast]; exact hb.2)
    show wordAt l m (w.length + 1) s ((((m.tab.getD s []).take (l.idxOf c)).map fun t => cnt m w.length t.toNat).sum + ahdFrom l m (step1 l m s c) w) = c :: w
    rw [wordAt, eg, hp]
    have hi := idx_lt cl
    show l.getD (l.idxOf c) 0 :: wordAt l m w.length ((r.getD (l.idxOf c) 0).toNat) (ahdFrom l m (step1 l m s c) w) = c :: w
    rw [List.getD_eq_getElem?_getD, List.getElem?_eq_getElem hi, List.getElem_idxOf hi, List.getD_eq_getElem?_getD, hrc]
    show c :: wordAt l m w.length (((step1 l m s c : Nat) : Int).toNat) _ = _
    rw [Int.toNat_natCast, ih]
end Hw
namespace Hw
open PySem PySem.Spec PyProof.Rows L2
/-- word_at(letters, machine, rows, length, place), the place below the count -/
def spWordAt : Sp := fun vs H Q _ => ∃ (l : List Nat) (v u : V) (m : Mach) (n top : Nat) (p : Int) (G : Hp), vs = [.str (strOf l), v, u, .int (n : Nat), .int p] ∧ IsLetters l ∧ Ok NoS H G ∧ Dq G v (DM m) ∧ Dq G u (DT (rowsOf m top)) ∧ MachOk l.length m ∧ n ≤ top ∧ top ≤ 300 ∧ 0 ≤ p ∧ p < cnt m n 0 ∧
  ∀ H', Step NoS H H' → Q (.str (strOf (wordAt l m n 0 p))) H'
/-! ### the search along a row -/
structure PickI (m : Mach) (n : Nat) (r : List Int) (p : Int) (k : Nat) (q : Int) : Prop where
  lo : 0 ≤ q
  hi : q < ((r.drop k).map fun t => cnt m n t.toNat).sum
  eq : pickT m n r p = (pickT m n (r.drop k) q).map fun x => (x.1 + k, x.2)
theorem PickI.zero {m : Mach} {n : Nat} {r : List Int} {p : Int} (h0 : 0 ≤ p) (h : p < (r.map fun t => cnt m n t.toNat).sum) : PickI m n r p 0 p :=
  ⟨h0, h, by rw [List.drop_zero]; cases pickT m n r p <;> rfl⟩
theorem PickI.hit {m : Mach} {n : Nat} {r : List Int} {p : Int} {k : Nat} {q t : Int} (h : PickI m n r p k q) (e : r[k]? = some t) (lt : q < cnt m n t.toNat) : pickT m n r p = some (k, q) := by
  obtain ⟨hk, ek⟩ := List.getElem?_eq_some_iff.mp e
  have := h.eq
  rw [List.drop_eq_getElem_cons hk, ek, pickT, if_pos lt] at this
  rw [this]
  show some (0 + k, q) = _
  rw [Nat.zero_add]
theorem PickI.miss {m : Mach} {n : Nat} {r : List Int} {p : Int} {k : Nat} {q t : Int} (h : PickI m n r p k q) (e : r[k]? = some t) (ge : ¬ q < cnt m n t.toNat) : PickI m n r p (k + 1) (q - cnt m n t.toNat) := by
  obtain ⟨hk, ek⟩ := List.getElem?_eq_some_iff.mp e
  have he := h.eq
  have hi := h.hi
  rw [List.drop_eq_getElem_cons hk, ek] at he hi
  rw [pickT, if_neg ge] at he
  rw [List.map_cons, List.sum_cons] at hi
  refine ⟨by omega, by omega, ?_⟩
  rw [he]
  cases pickT m n (r.drop (k + 1)) (q - cnt m n t.toNat) with
  | none => rfl
  | some x => show some (x.1 + 1 + k, x.2) = some (x.1 + (k + 1), x.2); rw [Nat.add_assoc, Nat.add_comm 1 k]
theorem PickI.ends {m : Mach} {n : Nat} {r : List Int} {p : Int} {q : Int} (h : PickI m n r p r.length q) : False := by
  have h1 := h.lo
  have h2 := h.hi
  rw [List.drop_length] at h2
  have : q < 0 := h2
  omega
/-! ### the word at a place of all words -/
def kthFrom (l : List Nat) (m : Mach) : Nat → Nat → Int → Option (List Nat)
  | 0, _, _ => none
  | f + 1, n, p => if p < cnt m n 0 then some (wordAt l m n 0 p) else kthFrom l m f (n + 1) (p - cnt m n 0)
def kthW (l : List Nat) (m : Mach) (p : Int) : Option (List Nat) := kthFrom l m 201 0 p
def spKth (C : Addr) : Sp := fun vs H Q E => ∃ (l : List Nat) (v : V) (m : Mach) (p : Int) (G : Hp), vs = [.str (strOf l), v, .int p] ∧ IsLetters l ∧ Ok NoS H G ∧ Dq G v (DM m) ∧ MachOk l.length m ∧ 0 ≤ p ∧
  (∀ w, kthW l m p = some w → ∀ H', Step NoS H H' → Q (.str (strOf w)) H') ∧ (kthW l m p = none → ∀ H', Step NoS H H' → E (.ref C) none H')
def spNext (C : Addr) : Sp := fun vs H Q E => ∃ (l u : List Nat) (v : V) (m : Mach) (G : Hp), vs = [.str (strOf l), v, .str (strOf u)] ∧ IsLetters l ∧ (∀ c ∈ u, c ∈ l) ∧ u.length ≤ 300 ∧ Ok NoS H G ∧ Dq G v (DM m) ∧ MachOk l.length m ∧
  (∀ w, kthW l m (ahdW l m u + if takes l m u = true then 1 else 0) = some w → ∀ H', Step NoS H H' → Q (.str (strOf w)) H') ∧ (kthW l m (ahdW l m u + if takes l m u = true then 1 else 0) = none → ∀ H', Step NoS H H' → E (.ref C) none H')
/-- isinstance, asked one after the other -/
def spAlone (C : Addr) : Addr → Value → Option Addr → Sp := fun a c d vs H Q _ => vs = [.ref a] ∧ c = .ref C ∧ d = none ∧ Q (.bl true) H
/-- what the law's own callers hand back: ('told', the word) or 'refused' -/
def Tells (o : Option (List Nat)) (Q : VK) (H G : Hp) : Prop :=
  (∀ w, o = some w → ∀ (H' G' : Hp) (a : Addr), Fz NoS H G H' G' → G' a = some (.tup [.str "told", .str (strOf w)]) → Q (.ref a) H') ∧ (o = none → ∀ H', Step NoS H H' → Q (.str "refused") H')
def spLKth : Sp := fun vs H Q _ => ∃ (l : List Nat) (v : V) (m : Mach) (p : Int) (G : Hp), vs = [.str (strOf l), v, .int p] ∧ IsLetters l ∧ Ok NoS H G ∧ Dq G v (DM m) ∧ MachOk l.length m ∧ 0 ≤ p ∧ Tells (kthW l m p) Q H G
def nextW (l : List Nat) (m : Mach) (u : List Nat) : Option (List Nat) := kthW l m (ahdW l m u + if takes l m u = true then 1 else 0)
def spLNext : Sp := fun vs H Q _ => ∃ (l u : List Nat) (v : V) (m : Mach) (G : Hp), vs = [.str (strOf l), v, .str (strOf u)] ∧ IsLetters l ∧ (∀ c ∈ u, c ∈ l) ∧ u.length ≤ 300 ∧ Ok NoS H G ∧ Dq G v (DM m) ∧ MachOk l.length m ∧ Tells (nextW l m u) Q H G
theorem ahdAt_nonneg {l : List Nat} {m : Mach} {w : List Nat} {i : Nat} : 0 ≤ ahdAt l m w i := by
  unfold ahdAt
  generalize ((m.tab.getD (runW l m 0 (w.take i)) []).take (l.idxOf (w.getD i 0))) = r
  induction r with
  | nil => exact Int.le_refl 0
  | cons t r ih =>
    rw [List.map_cons, List.sum_cons]
    have := cnt_nonneg (m := m) (w.length - i - 1) t.toNat
    omega
theorem sum_nonneg {α : Type} {f : α → Int} (h : ∀ x, 0 ≤ f x) : ∀ (xs : List α), 0 ≤ (xs.map f).sum
  | [] => Int.le_refl 0
  | x :: r => by
    have := sum_nonneg h r
    have := h x
    rw [List.map_cons, List.sum_cons]
    omega
theorem ahdW_nonneg {l : List Nat} {m : Mach} {w : List Nat} : 0 ≤ ahdW l m w := by
  have h1 := sum_nonneg (f := fun n => cnt m n 0) (fun n => cnt_nonneg n 0) (List.range w.length)
  have h2 := sum_nonneg (f := ahdAt l m w) (fun _ => ahdAt_nonneg) (List.range w.length)
  unfold ahdW
  omega
end Hw

/-! places of words: what the searches find -/
namespace Hw
open PySem PySem.Spec PyProof.Rows L2
/-- words of k lengths from n on -/
def cntS (m : Mach) (n k : Nat) : Int := ((List.range k).map fun i => cnt m (n + i) 0).sum
theorem cntS_succ {m : Mach} {n k : Nat} : cntS m n (k + 1) = cnt m n 0 + cntS m (n + 1) k := by
  unfold cntS
  rw [List.range_succ_eq_map, List.map_cons, List.sum_cons, List.map_map]
  congr 1
  refine sum_congr fun i _ => ?_
  show cnt m (n + (i + 1)) 0 = cnt m (n + 1 + i) 0
  rw [show n + (i + 1) = n + 1 + i by omega]
theorem cntS_snoc {m : Mach} {n k : Nat} : cntS m n (k + 1) = cntS m n k + cnt m (n + k) 0 := by
  unfold cntS
  rw [List.range_succ, List.map_append, List.sum_append]
  show _ + (cnt m (n + k) 0 + 0) = _
  omega
theorem cntS_nonneg {m : Mach} {n k : Nat} : 0 ≤ cntS m n k := sum_nonneg (fun i => cnt_nonneg (n + i) 0) _
theorem cntS_zero {m : Mach} {n : Nat} : cntS m n 0 = 0 := rfl
theorem kth_skip {l : List Nat} {m : Mach} {f : Nat} : ∀ (k : Nat) {n : Nat} {p : Int}, 0 ≤ p → kthFrom l m (f + k) n (cntS m n k + p) = kthFrom l m f (n + k) p
  | 0, n, p, _ => by rw [cntS_zero, Int.zero_add]; rfl
  | k + 1, n, p, h => by
    have ih := kth_skip (l := l) (m := m) (f := f) k (n := n + 1) h
    have h1 := cntS_nonneg (m := m) (n := n + 1) (k := k)
    rw [cntS_succ, show f + (k + 1) = f + k + 1 by omega, kthFrom, if_neg (by omega), show cnt m n 0 + cntS m (n + 1) k + p - cnt m n 0 = cntS m (n + 1) k + p by omega, ih, show n + 1 + k = n + (k + 1) by omega]
theorem kth_at {l : List Nat} {m : Mach} {n : Nat} {p : Int} (h0 : 0 ≤ p) (h1 : p < cnt m n 0) (hn : n ≤ 200) : kthW l m (cntS m 0 n + p) = some (wordAt l m n 0 p) := by
  unfold kthW
  rw [show 201 = 200 - n + 1 + n by omega, kth_skip n h0, kthFrom, Nat.zero_add, if_pos h1]
theorem kth_no {l : List Nat} {m : Mach} : ∀ {f n : Nat} {p : Int}, (∀ j, n ≤ j → j < n + f → cnt m j 0 = 0) → 0 ≤ p → kthFrom l m f n p = none
  | 0, _, _, _, _ => rfl
  | f + 1, n, p, hz, h0 => by
    have e := hz n (Nat.le_refl n) (by omega)
    rw [kthFrom, if_neg (by omega), e]
    exact kth_no (fun j h1 h2 => hz j (by omega) (by omega)) (by omega)
theorem kth_none {l : List Nat} {m : Mach} {M : Nat} {p : Int} (hM : M ≤ 200) (hz : ∀ j, M < j → cnt m j 0 = 0) (h : cntS m 0 (M + 1) ≤ p) : kthW l m p = none := by
  unfold kthW
  rw [show 201 = 200 - M + (M + 1) by omega, show p = cntS m 0 (M + 1) + (p - cntS m 0 (M + 1)) by omega, kth_skip (M + 1) (by omega)]
  exact kth_no (fun j h1 _ => hz j (by omega)) (by omega)
theorem takes_cnt {l : List Nat} {m : Mach} {w : List Nat} (h : takes l m w = true) : cnt m 0 (runW l m 0 w) = 1 := by
  rw [cnt_zero, if_pos (show m.ends.getD (runW l m 0 w) false = true from h)]
theorem cnt_takes {l : List Nat} {m : Mach} {w : List Nat} (h : cnt m 0 (runW l m 0 w) = 1) : takes l m w = true := by
  rw [cnt_zero] at h
  by_cases c : m.ends.getD (runW l m 0 w) false = true
  · exact c
  · rw [if_neg c] at h; cases h
theorem ahdW_cut {l : List Nat} {m : Mach} {w : List Nat} : ahdW l m w = cntS m 0 w.length + ahdFrom l m 0 w := by
  unfold ahdW cntS
  congr 1
  · exact sum_congr fun i _ => by rw [Nat.zero_add]
  · exact ahd_from w 0
/-- kth finds a taken word at the number of those ahead -/
theorem kth_word {l : List Nat} {m : Mach} (nd : l.Nodup) (mo : MachOk l.length m) {w : List Nat} (h : ∀ c ∈ w, c ∈ l) (hl : w.length ≤ 200) (ht : takes l m w = true) : kthW l m (ahdW l m w) = some w := by
  have hs : 0 < m.tab.length := by have := mo.pos; omega
  have tc := takes_cnt ht
  have b := ahd_lt nd mo hs h tc
  rw [ahdW_cut, kth_at b.1 b.2 hl, wordAt_is nd mo hs h tc]
theorem pickT_ok {m : Mach} {n : Nat} : ∀ {r : List Int} {p : Int}, 0 ≤ p → p < (r.map fun t => cnt m n t.toNat).sum → ∃ i q t, pickT m n r p = some (i, q) ∧ r[i]? = some t ∧ 0 ≤ q ∧ q < cnt m n t.toNat
  | [], p, h0, h => by
    have : p < 0 := h
    omega
  | t :: r, p, h0, h => by
    rw [List.map_cons, List.sum_cons] at h
    by_cases c : p < cnt m n t.toNat
    · exact ⟨0, p, t, by rw [pickT, if_pos c], rfl, h0, c⟩
    · obtain ⟨i, q, u, e1, e2, e3, e4⟩ := pickT_ok (m := m) (n := n) (r := r) (p := p - cnt m n t.toNat) (by omega) (by omega)
      exact ⟨i + 1, q, u, by rw [pickT, if_neg c, e1]; rfl, e2, e3, e4⟩
theorem wordAt_ok {l : List Nat} {m : Mach} (nd : l.Nodup) (mo : MachOk l.length m) : ∀ {n s : Nat} {p : Int}, s < m.tab.length → 0 ≤ p → p < cnt m n s → (wordAt l m n s p).length = n ∧ (∀ c ∈ wordAt l m n s p, c ∈ l) ∧ cnt m 0 (runW l m s (wordAt l m n s p)) = 1
  | 0, s, p, _, h0, h1 => by
    refine ⟨rfl, (fun _ z => by cases z), ?_⟩
    show cnt m 0 s = 1
    rw [cnt_zero] at h1 ⊢
    by_cases c : m.ends.getD s false = true
    · rw [if_pos c]
    · rw [if_neg c] at h1; omega
  | n + 1, s, p, hs, h0, h1 => by
    obtain ⟨r, hr, rl, rt⟩ := mo.at_row (s := (s : Int)) (by omega) (by omega)
    have hr' : m.tab[s]? = some r := hr
    have eg : m.tab.getD s [] = r := by rw [List.getD_eq_getElem?_getD, hr']; rfl
    rw [cnt_succ, eg] at h1
    obtain ⟨i, q, t, e1, e2, e3, e4⟩ := pickT_ok h0 h1
    have tb := rt t (List.mem_of_getElem? e2)
    have hi : i < l.length := by rw [← rl]; exact (List.getElem?_eq_some_iff.mp e2).1
    have er : r.getD i 0 = t := by rw [List.getD_eq_getElem?_getD, e2]; rfl
    have ec : l[i]? = some (l.getD i 0) := by rw [List.getD_eq_getElem?_getD, List.getElem?_eq_getElem hi]; rfl
    have cl : l.getD i 0 ∈ l := List.mem_of_getElem? ec
    have ix : l.idxOf (l.getD i 0) = i := idx_of ec fun k hk z => absurd (nodup_at nd z ec) (by omega)
    have es : step1 l m s (l.getD i 0) = t.toNat := by unfold step1; rw [eg, ix, er]
    have tl : t.toNat < m.tab.length := by omega
    obtain ⟨a1, a2, a3⟩ := wordAt_ok nd mo (n := n) tl e3 e4
    have ew : wordAt l m (n + 1) s p = l.getD i 0 :: wordAt l m n t.toNat q := by
      rw [wordAt, eg, e1]
      show l.getD i 0 :: wordAt l m n (r.getD i 0).toNat q = _
      rw [er]
    rw [ew]
    refine ⟨by rw [List.length_cons, a1], fun c hc => ?_, ?_⟩
    · rcases List.mem_cons.mp hc with rfl | hc
      · exact cl
      · exact a2 c hc
    · show cnt m 0 (runW l m (step1 l m s (l.getD i 0)) (wordAt l m n t.toNat q)) = 1
      rw [es]; exact a3
/-- the taken words up to a length -/
theorem taken_len {l : List Nat} {m : Mach} (nd : l.Nodup) (mo : MachOk l.length m) : ∀ {n : Nat}, (((wordsUpto l n).filter (takes l m)).length : Int) = cntS m 0 (n + 1)
  | 0 => by
    rw [show wordsUpto l 0 = layer l 0 from by unfold wordsUpto; rfl, layer_taken nd mo, cntS_succ, cntS_zero, Int.add_zero]
  | n + 1 => by
    rw [words_succ, List.filter_append, List.length_append, cntS_snoc, Nat.zero_add]
    have := taken_len nd mo (n := n)
    have := layer_taken nd mo (j := n + 1)
    omega
theorem filter_at {α : Type} {q : α → Bool} : ∀ {L : List α} {i : Nat} {x : α}, (L.filter q)[i]? = some x → ∃ k, L[k]? = some x ∧ q x = true ∧ ((L.take k).filter q).length = i
  | [], i, x, h => by simp at h
  | y :: L, i, x, h => by
    cases c : q y with
    | false =>
      rw [List.filter_cons_of_neg (by rw [c]; exact Bool.false_ne_true)] at h
      obtain ⟨k, h1, h2, h3⟩ := filter_at h
      exact ⟨k + 1, h1, h2, by rw [List.take_succ_cons, List.filter_cons_of_neg (by rw [c]; exact Bool.false_ne_true), h3]⟩
    | true =>
      rw [List.filter_cons_of_pos c] at h
      match i, h with
      | 0, h =>
        have e : y = x := Option.some.inj h
        subst e
        exact ⟨0, rfl, c, rfl⟩
      | i + 1, h =>
        obtain ⟨k, h1, h2, h3⟩ := filter_at (i := i) h
        exact ⟨k + 1, h1, h2, by rw [List.take_succ_cons, List.filter_cons_of_pos c, List.length_cons, h3]⟩
theorem words_mem {l : List Nat} {n : Nat} {w : List Nat} (h : w ∈ wordsUpto l n) : w.length ≤ n ∧ ∀ c ∈ w, c ∈ l := by
  obtain ⟨j, hj1, hj⟩ := List.mem_flatMap.mp h
  have := List.mem_range.mp hj1
  exact ⟨by rw [layer_len hj]; omega, layer_mem hj⟩
/-- the taken words are found by their places -/
theorem kth_taken {l : List Nat} {m : Mach} (nd : l.Nodup) (mo : MachOk l.length m) {n i : Nat} {w : List Nat} (hn : n ≤ 200) (h : ((wordsUpto l n).filter (takes l m))[i]? = some w) : kthW l m (i : Nat) = some w := by
  obtain ⟨k, h1, h2, h3⟩ := filter_at h
  obtain ⟨wl, wm⟩ := words_mem (List.mem_of_getElem? h1)
  have e := ahead_is nd mo h1
  rw [h3] at e
  rw [e]
  exact kth_word nd mo wm (by omega) h2
theorem ahd_next {l : List Nat} {m : Mach} (nd : l.Nodup) (mo : MachOk l.length m) {n k : Nat} {u : List Nat} (h : (wordsUpto l n)[k]? = some u) : (ahdW l m u + if takes l m u = true then 1 else 0) = ((((wordsUpto l n).take (k + 1)).filter (takes l m)).length : Int) := by
  rw [← ahead_is nd mo h, List.take_add_one, h, List.filter_append, List.length_append]
  cases c : takes l m u with
  | true =>
    rw [if_pos rfl]
    show _ = ((_ + ([u].filter (takes l m)).length : Nat) : Int)
    rw [List.filter_cons_of_pos c]
    rfl
  | false =>
    rw [if_neg Bool.false_ne_true]
    show _ = ((_ + ([u].filter (takes l m)).length : Nat) : Int)
    rw [List.filter_cons_of_neg (by rw [c]; exact Bool.false_ne_true)]
    rfl
theorem next_some {l : List Nat} {m : Mach} (nd : l.Nodup) (mo : MachOk l.length m) {n k : Nat} {u w : List Nat} (hn : n ≤ 200) (h : (wordsUpto l n)[k]? = some u) (hb : (((wordsUpto l n).drop (k + 1)).filter (takes l m))[0]? = some w) : nextW l m u = some w := by
  unfold nextW
  rw [ahd_next nd mo h]
  refine kth_taken nd mo hn ?_
  have e : (wordsUpto l n).filter (takes l m) = ((wordsUpto l n).take (k + 1)).filter (takes l m) ++ ((wordsUpto l n).drop (k + 1)).filter (takes l m) := by
    rw [← List.filter_append, List.take_append_drop]
  rw [e, List.getElem?_append_right (Nat.le_refl _), Nat.sub_self, hb]
theorem next_all {l : List Nat} {m : Mach} (nd : l.Nodup) (mo : MachOk l.length m) {n k : Nat} {u : List Nat} (h : (wordsUpto l n)[k]? = some u) (hb : ((wordsUpto l n).drop (k + 1)).filter (takes l m) = []) : (ahdW l m u + if takes l m u = true then 1 else 0) = cntS m 0 (n + 1) := by
  rw [ahd_next nd mo h, ← taken_len nd mo]
  conv => rhs; rw [← List.take_append_drop (k + 1) (wordsUpto l n), List.filter_append, hb, List.append_nil]
/-! ### longer words -/
theorem runW_app' {l : List Nat} {m : Mach} : ∀ {a b : List Nat} {s : Nat}, runW l m s (a ++ b) = runW l m (runW l m s a) b
  | [], _, _ => rfl
  | c :: a, b, s => runW_app' (a := a) (b := b) (s := step1 l m s c)
theorem nodup_le : ∀ {S : Nat} {xs : List Nat}, xs.Nodup → (∀ x ∈ xs, x < S) → xs.length ≤ S
  | 0, xs, _, h => by
    cases xs with
    | nil => exact Nat.le_refl 0
    | cons x r => exact absurd (h x List.mem_cons_self) (by omega)
  | S + 1, xs, nd, h => by
    have ih := nodup_le (S := S) (xs := xs.erase S) (nd.erase S) fun x hx => by
      have := (nd.mem_erase_iff).mp hx
      have := h x this.2
      omega
    have := List.length_erase (a := S) (l := xs)
    split at this <;> omega
theorem pigeon {S : Nat} {f : Nat → Nat} (h : ∀ i, i ≤ S → f i < S) : ∃ i j, i < j ∧ j ≤ S ∧ f i = f j := by
  apply Classical.byContradiction
  intro no
  have nd : ((List.range (S + 1)).map f).Nodup := by
    refine List.pairwise_map.mpr (List.pairwise_lt_range.imp_of_mem fun {a b} ha hb lt e => no ⟨a, b, lt, ?_, e⟩)
    have := List.mem_range.mp hb
    omega
  have := nodup_le nd fun x hx => by
    obtain ⟨i, hi, rfl⟩ := List.mem_map.mp hx
    have := List.mem_range.mp hi
    exact h i (by omega)
  rw [List.length_map, List.length_range] at this
  omega
/-- a taken word that is long can be shortened by at most as many signs as there are states -/
theorem shorter {l : List Nat} {m : Mach} (nd : l.Nodup) (mo : MachOk l.length m) {n : Nat} (hn : m.tab.length ≤ n) (h : 0 < cnt m n 0) : ∃ k, n - m.tab.length ≤ k ∧ k < n ∧ 0 < cnt m k 0 := by
  have hs : 0 < m.tab.length := by have := mo.pos; omega
  obtain ⟨wl, wm, wt⟩ := wordAt_ok nd mo hs (Int.le_refl 0) h
  generalize wordAt l m n 0 0 = w at wl wm wt
  obtain ⟨i, j, ij, jS, e⟩ := pigeon (S := m.tab.length) (f := fun i => runW l m 0 (w.take i)) fun i _ => runW_lt mo (w.take i) hs fun c hc => wm c (List.mem_of_mem_take hc)
  have e' : runW l m 0 (w.take i) = runW l m 0 (w.take j) := e
  have er : runW l m 0 (w.take i ++ w.drop j) = runW l m 0 w := by
    rw [runW_app', e', ← runW_app', List.take_append_drop]
  have el : (w.take i ++ w.drop j).length = n - (j - i) := by
    rw [List.length_append, List.length_take, List.length_drop, wl]; omega
  have b := ahd_lt nd mo hs (w := w.take i ++ w.drop j) (fun c hc => by
    rcases List.mem_append.mp hc with hc | hc
    · exact wm c (List.mem_of_mem_take hc)
    · exact wm c (List.mem_of_mem_drop hc)) (by rw [er]; exact wt)
  rw [el] at b
  exact ⟨n - (j - i), by omega, by omega, by omega⟩
theorem no_longer {l : List Nat} {m : Mach} (nd : l.Nodup) (mo : MachOk l.length m) {M : Nat} (hz : ∀ j, M < j → j ≤ M + m.tab.length → cnt m j 0 = 0) : ∀ n, M < n → cnt m n 0 = 0 := by
  intro n
  induction n using Nat.strongRecOn with
  | _ n ih =>
    intro hn
    by_cases c : n ≤ M + m.tab.length
    · exact hz n hn c
    · have h0 := cnt_nonneg (m := m) n 0
      by_cases z : 0 < cnt m n 0
      · obtain ⟨k, h1, h2, h3⟩ := shorter nd mo (by omega) z
        have := ih k h2 (by omega)
        omega
      · omega
theorem cntS_eq_zero {m : Mach} : ∀ {k n : Nat}, cntS m n k = 0 → ∀ i, i < k → cnt m (n + i) 0 = 0
  | 0, _, _, i, h => by omega
  | k + 1, n, e, i, hi => by
    rw [cntS_succ] at e
    have h1 := cnt_nonneg (m := m) n 0
    have h2 := cntS_nonneg (m := m) (n := n + 1) (k := k)
    match i, hi with
    | 0, _ => show cnt m n 0 = 0; omega
    | i + 1, hi =>
      have := cntS_eq_zero (m := m) (k := k) (n := n + 1) (by omega) i (by omega)
      rw [show n + (i + 1) = n + 1 + i by omega]; exact this
theorem cntS_app {m : Mach} : ∀ {k n j : Nat}, cntS m n (k + j) = cntS m n k + cntS m (n + k) j
  | 0, n, j => by rw [cntS_zero, Nat.zero_add, Int.zero_add]; rfl
  | k + 1, n, j => by
    have := cntS_app (m := m) (k := k) (n := n + 1) (j := j)
    rw [show k + 1 + j = k + j + 1 by omega, cntS_succ, cntS_succ, this, show n + 1 + k = n + (k + 1) by omega]
    omega
/-- no word is longer: when the sums say so -/
theorem last_of {l : List Nat} {m : Mach} (nd : l.Nodup) (mo : MachOk l.length m) {M : Nat} (e : cntS m 0 (M + m.tab.length + 1) = cntS m 0 (M + 1)) : ∀ n, M < n → cnt m n 0 = 0 := by
  rw [show M + m.tab.length + 1 = M + 1 + m.tab.length by omega, cntS_app] at e
  have z := cntS_eq_zero (m := m) (k := m.tab.length) (n := 0 + (M + 1)) (by omega)
  refine no_longer nd mo fun j h1 h2 => ?_
  have := z (j - (M + 1)) (by omega)
  rw [show 0 + (M + 1) + (j - (M + 1)) = j by omega] at this
  exact this
theorem cntS_pos {m : Mach} : ∀ {k n : Nat}, cntS m n k ≠ 0 → ∃ i, i < k ∧ cntS m n i = 0 ∧ 0 < cnt m (n + i) 0
  | 0, _, h => absurd rfl h
  | k + 1, n, h => by
    have h1 := cnt_nonneg (m := m) n 0
    by_cases c : cnt m n 0 = 0
    · obtain ⟨i, a1, a2, a3⟩ := cntS_pos (m := m) (k := k) (n := n + 1) (fun z => h (by rw [cntS_succ, c, z]; rfl))
      exact ⟨i + 1, by omega, by rw [cntS_succ, c, a2]; rfl, by rw [show n + (i + 1) = n + 1 + i by omega]; exact a3⟩
    · exact ⟨0, by omega, rfl, by show 0 < cnt m n 0; omega⟩
/-- a longer word there is: kth behind all these words finds one -/
theorem longer_of {l : List Nat} {m : Mach} (nd : l.Nodup) (mo : MachOk l.length m) {M : Nat} (hM : M ≤ 100) (e : cntS m 0 (M + m.tab.length + 1) ≠ cntS m 0 (M + 1)) :
    ∃ w, kthW l m (cntS m 0 (M + 1)) = some w ∧ M < w.length ∧ w.length ≤ 200 ∧ (∀ c ∈ w, c ∈ l) ∧ takes l m w = true := by
  have n60 := mo.most
  rw [show M + m.tab.length + 1 = M + 1 + m.tab.length by omega, cntS_app] at e
  obtain ⟨i, a1, a2, a3⟩ := cntS_pos (m := m) (k := m.tab.length) (n := 0 + (M + 1)) (fun z => e (by rw [z, Int.add_zero]))
  have hs : 0 < m.tab.length := by omega
  rw [Nat.zero_add] at a2 a3
  have k1 := kth_at (l := l) (m := m) (n := M + 1 + i) (Int.le_refl 0) a3 (by omega)
  rw [cntS_app, Nat.zero_add, a2, Int.add_zero, Int.add_zero] at k1
  obtain ⟨wl, wm, wt⟩ := wordAt_ok nd mo hs (Int.le_refl 0) a3
  exact ⟨_, k1, by omega, by omega, wm, cnt_takes wt⟩
/-- what the law's callers handed back -/
def Told (H : Hp) (o : Option (List Nat)) (t : V) : Prop := match o with
  | some w => ∃ a, t = .ref a ∧ H a = some (.tup [.str "told", .str (strOf w)])
  | none => t = .str "refused"
def spIsWord : Sp := fun vs H Q _ => ∃ (t : V) (w u : List Nat), vs = [t, .str (strOf u)] ∧ Told H (some w) t ∧ Q (.bl (decide (w = u))) H
def spIsLonger : Sp := fun vs H Q _ => ∃ (l w : List Nat) (v t : V) (m : Mach) (M : Nat) (G : Hp), vs = [.str (strOf l), v, t, .int (M : Nat)] ∧ IsLetters l ∧ Ok NoS H G ∧ Dq G v (DM m) ∧ MachOk l.length m ∧ Told H (some w) t ∧ M < w.length ∧ w.length ≤ 200 ∧ (∀ c ∈ w, c ∈ l) ∧ takes l m w = true ∧
  ∀ H', Step NoS H H' → Q (.bl true) H'
/-! ### lists that the law makes -/
def pickF (W : List (List Nat)) : V → V
  | .int s => .str (strOf (W.getD s.toNat []))
  | _ => .non
def pickP (W : List (List Nat)) (q : List Nat → Bool) : V → Bool
  | .int s => q (W.getD s.toNat [])
  | _ => false
theorem pick_words {W : List (List Nat)} {q : List Nat → Bool} {lo n : Nat} {z : Int} (hz : z = (lo : Int)) (hn : lo + n = W.length) : ((rngI z n).filter (pickP W q)).map (pickF W) = SV ((W.drop lo).filter q) := by
  subst hz
  have e : W.drop lo = (List.range n).map fun i => W.getD (lo + i) [] := by
    refine List.ext_getElem? fun i => ?_
    rw [List.getElem?_drop, List.getElem?_map]
    by_cases hi : i < n
    · rw [List.getElem?_range hi, Option.map_some, List.getD_eq_getElem?_getD, List.getElem?_eq_getElem (by omega)]; rfl
    · rw [List.getElem?_eq_none (by omega), List.getElem?_eq_none (by rw [List.length_range]; omega)]; rfl
  show _ = (((W.drop lo).filter q).map strOf).map V.str
  rw [e, List.filter_map, List.filter_map, List.map_map, List.map_map, List.map_map]
  have hf : (pickP W q ∘ fun (i : Nat) => V.int ((lo : Int) + (i : Nat))) = q ∘ fun i => W.getD (lo + i) [] := by
    funext i
    show q (W.getD ((lo : Int) + (i : Nat)).toNat []) = q (W.getD (lo + i) [])
    rw [show ((lo : Int) + (i : Nat)).toNat = lo + i by omega]
  rw [hf]
  refine List.map_congr_left fun i _ => ?_
  show V.str (strOf (W.getD ((lo : Int) + (i : Nat)).toNat [])) = V.str (strOf (W.getD (lo + i) []))
  rw [show ((lo : Int) + (i : Nat)).toNat = lo + i by omega]
theorem SV_get {W : List (List Nat)} {k : Nat} {u : List Nat} (h : W[k]? = some u) : (SV W)[k]? = some (.str (strOf u)) := by
  show ((W.map strOf).map V.str)[k]? = _
  rw [List.map_map, List.getElem?_map, h]; rfl
theorem ones_taken {W : List (List Nat)} {q : List Nat → Bool} {k : Nat} : (((W.map q).take k).map fun b => if b = true then (1 : Int) else 0).sum = (((W.take k).filter q).length : Int) := by
  rw [← List.map_take, List.map_map, filter_len]
  rfl
/-! ### lists of texts, compared -/
theorem lay_ds : ∀ xs : List (List Nat), (∀ w ∈ xs, ∀ c ∈ w, c < 0x110000) → PyData.canLayAll0 ((xs.map strOf).map PyData.str) = true ∧ PyData.depthAll ((xs.map strOf).map PyData.str) = 0
  | [], _ => ⟨by rw [List.map_nil, List.map_nil, PyData.canLayAll0], by rw [List.map_nil, List.map_nil, PyData.depthAll]⟩
  | x :: xs, h => by
    obtain ⟨h1, h2⟩ := lay_ds xs fun w hw => h w (List.mem_cons_of_mem _ hw)
    rw [List.map_cons, List.map_cons]
    refine ⟨?_, ?_⟩
    · rw [PyData.canLayAll0, h1, PyData.canLay0, Bool.and_true]
      unfold PyData.strOk
      show x.toArray.all _ = true
      rw [List.all_toArray]
      exact List.all_eq_true.mpr fun c hc => decide_eq_true (h x List.mem_cons_self c hc)
    · rw [PyData.depthAll, h2, PyData.depth]; rfl
theorem shaped_ds {xs : List (List Nat)} (h : ∀ w ∈ xs, ∀ c ∈ w, c < 0x110000) : SeqAt.shaped (DS (xs.map strOf)) = true := by
  obtain ⟨h1, h2⟩ := lay_ds xs h
  unfold SeqAt.shaped
  rw [Bool.and_eq_true_iff]
  refine ⟨by rw [PyData.canLay0]; exact h1, decide_eq_true ?_⟩
  rw [PyData.depth, h2]; omega
theorem eqv_ds_nil : ∀ xs : List (List Nat), PyData.eqv (DS (xs.map strOf)) (.list []) = xs.isEmpty
  | [] => by simp [PyData.eqv, PyData.eqvAll]
  | p :: ps => by simp [PyData.eqv, PyData.eqvAll]
theorem shaped_nil : SeqAt.shaped (.list []) = true := shaped_ds (xs := []) (fun _ h => nomatch h)
end Hw

/-! words and their numbers, both ways -/
namespace Hw
open PySem PySem.Spec PyProof.Rows L2
theorem pickT_sum {m : Mach} {n : Nat} : ∀ {r : List Int} {p : Int} {i : Nat} {q : Int}, pickT m n r p = some (i, q) → p = ((r.take i).map fun t => cnt m n t.toNat).sum + q
  | [], p, i, q, h => by cases h
  | t :: r, p, i, q, h => by
    rw [pickT] at h
    by_cases c : p < cnt m n t.toNat
    · rw [if_pos c] at h
      cases h
      show p = 0 + p
      omega
    · rw [if_neg c] at h
      obtain ⟨x, hx, e⟩ := Option.map_eq_some_iff.mp h
      cases e
      have := pickT_sum (r := r) (i := x.1) (q := x.2) hx
      rw [List.take_succ_cons, List.map_cons, List.sum_cons]
      omega
theorem ahd_wordAt {l : List Nat} {m : Mach} (nd : l.Nodup) (mo : MachOk l.length m) : ∀ {n s : Nat} {p : Int}, s < m.tab.length → 0 ≤ p → p < cnt m n s → ahdFrom l m s (wordAt l m n s p) = p
  | 0, s, p, _, h0, h1 => by
    show (0 : Int) = p
    rw [cnt_zero] at h1
    split at h1 <;> omega
  | n + 1, s, p, hs, h0, h1 => by
    obtain ⟨r, hr, rl, rt⟩ := mo.at_row (s := (s : Int)) (by omega) (by omega)
    have hr' : m.tab[s]? = some r := hr
    have eg : m.tab.getD s [] = r := by rw [List.getD_eq_getElem?_getD, hr']; rfl
    rw [cnt_succ, eg] at h1
    obtain ⟨i, q, t, e1, e2, e3, e4⟩ := pickT_ok h0 h1
    have tb := rt t (List.mem_of_getElem? e2)
    have hi : i < l.length := by rw [← rl]; exact (List.getElem?_eq_some_iff.mp e2).1
    have er : r.getD i 0 = t := by rw [List.getD_eq_getElem?_getD, e2]; rfl
    have ec : l[i]? = some (l.getD i 0) := by rw [List.getD_eq_getElem?_getD, List.getElem?_eq_getElem hi]; rfl
    have ix : l.idxOf (l.getD i 0) = i := idx_of ec fun k hk z => absurd (nodup_at nd z ec) (by omega)
    have es : step1 l m s (l.getD i 0) = t.toNat := by unfold step1; rw [eg, ix, er]
    have tl : t.toNat < m.tab.length := by omega
    have ih := ahd_wordAt nd mo (n := n) tl e3 e4
    obtain ⟨wl, _, _⟩ := wordAt_ok nd mo tl e3 e4
    have ew : wordAt l m (n + 1) s p = l.getD i 0 :: wordAt l m n t.toNat q := by
      rw [wordAt, eg, e1]
      show l.getD i 0 :: wordAt l m n (r.getD i 0).toNat q = _
      rw [er]
    rw [ew]
    show (((m.tab.getD s []).take (l.idxOf (l.getD i 0))).map fun u => cnt m (wordAt l m n t.toNat q).length u.toNat).sum + ahdFrom l m (step1 l m s (l.getD i 0)) (wordAt l m n t.toNat q) = p
    rw [eg, ix, es]
    show ((r.take i).map fun u => cnt m (wordAt l m n t.toNat q).length u.toNat).sum + ahdFrom l m t.toNat (wordAt l m n t.toNat q) = p
    rw [ih, wl]
    exact (pickT_sum e1).symm
theorem kthFrom_some {l : List Nat} {m : Mach} : ∀ {f n : Nat} {p : Int} {w : List Nat}, 0 ≤ p → kthFrom l m f n p = some w → ∃ k p', k < f ∧ p = cntS m n k + p' ∧ 0 ≤ p' ∧ p' < cnt m (n + k) 0 ∧ w = wordAt l m (n + k) 0 p'
  | 0, _, _, _, _, h => by cases h
  | f + 1, n, p, w, h0, h => by
    rw [kthFrom] at h
    by_cases c : p < cnt m n 0
    · rw [if_pos c] at h
      exact ⟨0, p, by omega, by rw [cntS_zero, Int.zero_add], h0, c, (Option.some.inj h).symm⟩
    · rw [if_neg c] at h
      obtain ⟨k, p', a1, a2, a3, a4, a5⟩ := kthFrom_some (by omega) h
      refine ⟨k + 1, p', by omega, by rw [cntS_succ]; omega, a3, ?_, ?_⟩
      · rw [show n + (k + 1) = n + 1 + k by omega]; exact a4
      · rw [show n + (k + 1) = n + 1 + k by omega]; exact a5
/-- the word that kth finds -/
theorem kth_some {l : List Nat} {m : Mach} (nd : l.Nodup) (mo : MachOk l.length m) {p : Int} {w : List Nat} (h0 : 0 ≤ p) (h : kthW l m p = some w) : w.length ≤ 200 ∧ (∀ c ∈ w, c ∈ l) ∧ takes l m w = true ∧ ahdW l m w = p := by
  obtain ⟨k, p', a1, a2, a3, a4, a5⟩ := kthFrom_some h0 h
  have hs : 0 < m.tab.length := by have := mo.pos; omega
  rw [Nat.zero_add] at a4 a5
  obtain ⟨wl, wm, wt⟩ := wordAt_ok nd mo hs a3 a4
  have wa := ahd_wordAt nd mo hs a3 a4
  rw [← a5] at wl wm wt wa
  exact ⟨by omega, wm, cnt_takes wt, by rw [ahdW_cut, wa, wl, a2]⟩
theorem kthFrom_none {l : List Nat} {m : Mach} : ∀ {f n : Nat} {p : Int}, kthFrom l m f n p = none → cntS m n f ≤ p ∨ p < 0
  | 0, n, p, _ => by rw [cntS_zero]; omega
  | f + 1, n, p, h => by
    rw [kthFrom] at h
    by_cases c : p < cnt m n 0
    · rw [if_pos c] at h; cases h
    · rw [if_neg c] at h
      have := kthFrom_none h
      have := cnt_nonneg (m := m) n 0
      rw [cntS_succ]
      omega
theorem kth_lt {l : List Nat} {m : Mach} {p : Int} (h0 : 0 ≤ p) (h : p < cntS m 0 201) : ∃ w, kthW l m p = some w := by
  cases e : kthW l m p with
  | some w => exact ⟨w, rfl⟩
  | none =>
    have := kthFrom_none e
    omega
theorem kth_ge {l : List Nat} {m : Mach} {p : Int} (h : cntS m 0 201 ≤ p) : kthW l m p = none := by
  have := kth_skip (l := l) (m := m) (f := 0) 201 (n := 0) (p := p - cntS m 0 201) (by omega)
  unfold kthW
  rw [show cntS m 0 201 + (p - cntS m 0 201) = p by omega] at this
  exact this
/-- _law_backs(machine, n) -/
abbrev spBacks : Sp := spCountRows
/-- _law_rank(letters, machine, backs, word) -/
def spRank : Sp := fun vs H Q _ => ∃ (l w : List Nat) (v b : V) (m : Mach) (top : Nat) (G : Hp), vs = [.str (strOf l), v, b, .str (strOf w)] ∧ IsLetters l ∧ (∀ c ∈ w, c ∈ l) ∧ w.length ≤ top + 1 ∧ top ≤ 300 ∧ Ok NoS H G ∧ Dq G v (DM m) ∧ Dq G b (DT (rowsOf m top)) ∧ MachOk l.length m ∧
  ∀ H', Step NoS H H' → Q (.int (ahdW l m w)) H'
def spGreatN : Sp := fun vs H Q _ => ∃ (pa : Addr) (d : Nat) (b : Int), vs = [.ref pa, .int (d : Nat), .int b] ∧ PoolOk H pa ∧ d ≤ 1000 ∧ 1 ≤ b ∧
  ∀ (x : Int) (H' : Hp), 0 ≤ x → x < b → Step (At pa) H H' → Pools (At pa) H' → Q (.int x) H'
/-- _law_is_at(letters, machine, backs, told, place, total) -/
def spIsAt : Sp := fun vs H Q _ => ∃ (l : List Nat) (v b t : V) (m : Mach) (p : Int) (G : Hp), vs = [.str (strOf l), v, b, t, .int p, .int (cntS m 0 201)] ∧ IsLetters l ∧ Ok NoS H G ∧ Dq G v (DM m) ∧ Dq G b (DT (rowsOf m 200)) ∧ MachOk l.length m ∧ 0 ≤ p ∧ Told H (kthW l m p) t ∧
  ∀ H', Step NoS H H' → Q (.bl true) H'
theorem cutP {t : List Nat} {b : Nat} : cutS (strOf t) none (some (b : Int)) = strOf (t.take b) := by
  unfold cutS
  rw [strOf_cps, strOf_len, show HT.sIx t.length t.length (some (b : Int)) = min b t.length from HT.sIx_nat t.length t.length b, HT.sIx_none, List.drop_zero, Nat.sub_zero]
  show strOf _ = strOf _
  by_cases hb : b ≤ t.length
  · rw [Nat.min_eq_left hb]
  · rw [Nat.min_eq_right (by omega), List.take_of_length_le (by omega), List.take_of_length_le (by omega)]
theorem sign_of {l : List Nat} {k : Int} (h0 : 0 ≤ k) (h : k < l.length) : ∃ c, c ∈ l ∧ atI (strOf l).cps.toList k = some c := by
  obtain ⟨c, hc⟩ := exists_at (xs := l) h0 h
  exact ⟨c, List.mem_of_getElem? hc, by rw [strOf_cps]; exact atI_of h0 hc⟩
theorem Told.up {H H' : Hp} {o : Option (List Nat)} {t : V} (h : Told H o t) (s : Same H H') : Told H' o t := by
  cases o with
  | none => exact h
  | some w =>
    obtain ⟨a, e, ha⟩ := h
    exact ⟨a, e, s _ _ ha⟩
theorem Told.pool {H H' : Hp} {pa : Addr} {o : Option (List Nat)} {t : V} (h : Told H o t) (s : Step (At pa) H H') (po : PoolOk H pa) : Told H' o t := by
  cases o with
  | none => exact h
  | some w =>
    obtain ⟨a, e, ha⟩ := h
    refine ⟨a, e, s.keep _ _ (fun z => ?_) ha⟩
    have z' : a = pa := z
    subst z'
    obtain ⟨c, ns, e1, _⟩ := po
    rw [ha] at e1
    cases e1
end Hw
namespace Hw
open PySem PySem.Spec PyProof.Rows L2
def topS (i : Nat) : Stmt := PySem.Challenge.pw_hallofwords_k27_whole_words_by_their_num.main.body.getD i (.Pass ⟨0, 0, 0, 0⟩)
/-- the built-in names stand as they are -/
structure Bt (mg : Str → Option Value) : Prop where
  m_ValueError : mg "ValueError" = none
  m_all : mg "all" = none
  m_bool : mg "bool" = none
  m_enumerate : mg "enumerate" = none
  m_int : mg "int" = none
  m_isinstance : mg "isinstance" = none
  m_len : mg "len" = none
  m_list : mg "list" = none
  m_max : mg "max" = none
  m_min : mg "min" = none
  m_range : mg "range" = none
  m_repr : mg "repr" = none
  m_str : mg "str" = none
  m_sum : mg "sum" = none
  m_tuple : mg "tuple" = none
  m_zip : mg "zip" = none
  c_MOST_SIGNS : ∃ t, mg "MOST_SIGNS" = some (.int 200 t)
/-- the own classes, as the written part says -/
structure Cl0 (K : PySem.W.Frag) (aHallError aBadWord aBadSize aBadNumber aBadMachine aTooMany aTooGreat aNotLeast aNoWord : Addr) : Prop where
  g_HallError : PySem.W.nsIn K mainGlobals "HallError" = some (some (.ref aHallError))
  g_BadWord : PySem.W.nsIn K mainGlobals "BadWord" = some (some (.ref aBadWord))
  g_BadSize : PySem.W.nsIn K mainGlobals "BadSize" = some (some (.ref aBadSize))
  g_BadNumber : PySem.W.nsIn K mainGlobals "BadNumber" = some (some (.ref aBadNumber))
  g_BadMachine : PySem.W.nsIn K mainGlobals "BadMachine" = some (some (.ref aBadMachine))
  g_TooMany : PySem.W.nsIn K mainGlobals "TooMany" = some (some (.ref aTooMany))
  g_TooGreat : PySem.W.nsIn K mainGlobals "TooGreat" = some (some (.ref aTooGreat))
  g_NotLeast : PySem.W.nsIn K mainGlobals "NotLeast" = some (some (.ref aNotLeast))
  g_NoWord : PySem.W.nsIn K mainGlobals "NoWord" = some (some (.ref aNoWord))
  k_HallError : PySem.W.keepIn K (.ref aHallError) = true
  b_HallError : PySem.W.subIn K (.ref aHallError) (.type "BaseException") = some true
  t_HallError : PySem.W.typeIn K (.ref aHallError) = some (.type "type")
  h_HallError : PySem.W.hasDictIn K aHallError = true
  k_BadWord : PySem.W.keepIn K (.ref aBadWord) = true
  b_BadWord : PySem.W.subIn K (.ref aBadWord) (.type "BaseException") = some true
  t_BadWord : PySem.W.typeIn K (.ref aBadWord) = some (.type "type")
  h_BadWord : PySem.W.hasDictIn K aBadWord = true
  k_BadSize : PySem.W.keepIn K (.ref aBadSize) = true
  b_BadSize : PySem.W.subIn K (.ref aBadSize) (.type "BaseException") = some true
  t_BadSize : PySem.W.typeIn K (.ref aBadSize) = some (.type "type")
  h_BadSize : PySem.W.hasDictIn K aBadSize = true
  k_BadNumber : PySem.W.keepIn K (.ref aBadNumber) = true
  b_BadNumber : PySem.W.subIn K (.ref aBadNumber) (.type "BaseException") = some true
  t_BadNumber : PySem.W.typeIn K (.ref aBadNumber) = some (.type "type")
  h_BadNumber : PySem.W.hasDictIn K aBadNumber = true
  k_BadMachine : PySem.W.keepIn K (.ref aBadMachine) = true
  b_BadMachine : PySem.W.subIn K (.ref aBadMachine) (.type "BaseException") = some true
  t_BadMachine : PySem.W.typeIn K (.ref aBadMachine) = some (.type "type")
  h_BadMachine : PySem.W.hasDictIn K aBadMachine = true
  k_TooMany : PySem.W.keepIn K (.ref aTooMany) = true
  b_TooMany : PySem.W.subIn K (.ref aTooMany) (.type "BaseException") = some true
  t_TooMany : PySem.W.typeIn K (.ref aTooMany) = some (.type "type")
  h_TooMany : PySem.W.hasDictIn K aTooMany = true
  k_TooGreat : PySem.W.keepIn K (.ref aTooGreat) = true
  b_TooGreat : PySem.W.subIn K (.ref aTooGreat) (.type "BaseException") = some true
  t_TooGreat : PySem.W.typeIn K (.ref aTooGreat) = some (.type "type")
  h_TooGreat : PySem.W.hasDictIn K aTooGreat = true
  k_NotLeast : PySem.W.keepIn K (.ref aNotLeast) = true
  b_NotLeast : PySem.W.subIn K (.ref aNotLeast) (.type "BaseException") = some true
  t_NotLeast : PySem.W.typeIn K (.ref aNotLeast) = some (.type "type")
  h_NotLeast : PySem.W.hasDictIn K aNotLeast = true
  k_NoWord : PySem.W.keepIn K (.ref aNoWord) = true
  b_NoWord : PySem.W.subIn K (.ref aNoWord) (.type "BaseException") = some true
  t_NoWord : PySem.W.typeIn K (.ref aNoWord) = some (.type "type")
  h_NoWord : PySem.W.hasDictIn K aNoWord = true
  e_NoWord : PySem.W.excIn K aNoWord [.type "ValueError", .type "Exception", .type "BaseException", .type "object"] "ValueError.__new__" = true
  hg_NoWord : PySem.W.findIn K (.ref aNoWord) "__getattribute__" = some (some (.builtin "BaseException.__getattribute__"))
  hk_NoWord : PySem.W.findIn K (.ref aNoWord) "__getattr__" = some none
  ha_NoWord : PySem.W.findIn K (.ref aNoWord) "__class__" = some (some (.builtin "object.__class__"))
  hn_NoWord : PySem.W.specialIn K (.builtin "object.__class__") "__get__" = some (some (.builtin "getset_descriptor.__get__"))
  ht_NoWord : PySem.W.takesIn K (.builtin "object.__class__") = some true
  hm_NoWord : PySem.W.mroIn K aNoWord (.type "object") = some true
  ve_NoWord : PySem.W.kitOne K (.ref aNoWord) (.type "ValueError") = some true
  s_NoWord_HallError : PySem.W.subIn K (.ref aNoWord) (.ref aHallError) = some true
  q_NoWord_HallError : PySem.W.kitOne K (.ref aNoWord) (.ref aHallError) = some true
  s_NoWord_BadWord : PySem.W.subIn K (.ref aNoWord) (.ref aBadWord) = some false
  q_NoWord_BadWord : PySem.W.kitOne K (.ref aNoWord) (.ref aBadWord) = some false
  s_NoWord_BadSize : PySem.W.subIn K (.ref aNoWord) (.ref aBadSize) = some false
  q_NoWord_BadSize : PySem.W.kitOne K (.ref aNoWord) (.ref aBadSize) = some false
  s_NoWord_BadNumber : PySem.W.subIn K (.ref aNoWord) (.ref aBadNumber) = some false
  q_NoWord_BadNumber : PySem.W.kitOne K (.ref aNoWord) (.ref aBadNumber) = some false
  s_NoWord_BadMachine : PySem.W.subIn K (.ref aNoWord) (.ref aBadMachine) = some false
  q_NoWord_BadMachine : PySem.W.kitOne K (.ref aNoWord) (.ref aBadMachine) = some false
  s_NoWord_TooMany : PySem.W.subIn K (.ref aNoWord) (.ref aTooMany) = some false
  q_NoWord_TooMany : PySem.W.kitOne K (.ref aNoWord) (.ref aTooMany) = some false
  s_NoWord_TooGreat : PySem.W.subIn K (.ref aNoWord) (.ref aTooGreat) = some false
  q_NoWord_TooGreat : PySem.W.kitOne K (.ref aNoWord) (.ref aTooGreat) = some false
  s_NoWord_NotLeast : PySem.W.subIn K (.ref aNoWord) (.ref aNotLeast) = some false
  q_NoWord_NotLeast : PySem.W.kitOne K (.ref aNoWord) (.ref aNotLeast) = some false
  s_NoWord_NoWord : PySem.W.subIn K (.ref aNoWord) (.ref aNoWord) = some true
  q_NoWord_NoWord : PySem.W.kitOne K (.ref aNoWord) (.ref aNoWord) = some true
structure Cl (K : PySem.W.Frag) (mg : Str → Option Value) (aHallError aBadWord aBadSize aBadNumber aBadMachine aTooMany aTooGreat aNotLeast aNoWord : Addr) : Prop where
  o_HallError : OwnC K mg "HallError" aHallError
  o_BadWord : OwnC K mg "BadWord" aBadWord
  o_BadSize : OwnC K mg "BadSize" aBadSize
  o_BadNumber : OwnC K mg "BadNumber" aBadNumber
  o_BadMachine : OwnC K mg "BadMachine" aBadMachine
  o_TooMany : OwnC K mg "TooMany" aTooMany
  o_TooGreat : OwnC K mg "TooGreat" aTooGreat
  o_NotLeast : OwnC K mg "NotLeast" aNotLeast
  o_NoWord : OwnC K mg "NoWord" aNoWord
  p_NoWord : PlainC K aNoWord
  s_NoWord_HallError : PySem.W.subIn K (.ref aNoWord) (.ref aHallError) = some true
  q_NoWord_HallError : PySem.W.kitOne K (.ref aNoWord) (.ref aHallError) = some true
  s_NoWord_BadWord : PySem.W.subIn K (.ref aNoWord) (.ref aBadWord) = some false
  q_NoWord_BadWord : PySem.W.kitOne K (.ref aNoWord) (.ref aBadWord) = some false
  s_NoWord_BadSize : PySem.W.subIn K (.ref aNoWord) (.ref aBadSize) = some false
  q_NoWord_BadSize : PySem.W.kitOne K (.ref aNoWord) (.ref aBadSize) = some false
  s_NoWord_BadNumber : PySem.W.subIn K (.ref aNoWord) (.ref aBadNumber) = some false
  q_NoWord_BadNumber : PySem.W.kitOne K (.ref aNoWord) (.ref aBadNumber) = some false
  s_NoWord_BadMachine : PySem.W.subIn K (.ref aNoWord) (.ref aBadMachine) = some false
  q_NoWord_BadMachine : PySem.W.kitOne K (.ref aNoWord) (.ref aBadMachine) = some false
  s_NoWord_TooMany : PySem.W.subIn K (.ref aNoWord) (.ref aTooMany) = some false
  q_NoWord_TooMany : PySem.W.kitOne K (.ref aNoWord) (.ref aTooMany) = some false
  s_NoWord_TooGreat : PySem.W.subIn K (.ref aNoWord) (.ref aTooGreat) = some false
  q_NoWord_TooGreat : PySem.W.kitOne K (.ref aNoWord) (.ref aTooGreat) = some false
  s_NoWord_NotLeast : PySem.W.subIn K (.ref aNoWord) (.ref aNotLeast) = some false
  q_NoWord_NotLeast : PySem.W.kitOne K (.ref aNoWord) (.ref aNotLeast) = some false
  s_NoWord_NoWord : PySem.W.subIn K (.ref aNoWord) (.ref aNoWord) = some true
  q_NoWord_NoWord : PySem.W.kitOne K (.ref aNoWord) (.ref aNoWord) = some true
theorem cl_mk {K : PySem.W.Frag} {h : Heap} {mg : Str → Option Value} {aHallError aBadWord aBadSize aBadNumber aBadMachine aTooMany aTooGreat aNotLeast aNoWord : Addr} (X : K.In h) (G : h.Ns mainGlobals mg) (c : Cl0 K aHallError aBadWord aBadSize aBadNumber aBadMachine aTooMany aTooGreat aNotLeast aNoWord) : Cl K mg aHallError aBadWord aBadSize aBadNumber aBadMachine aTooMany aTooGreat aNotLeast aNoWord where
  o_HallError := ⟨PySem.W.mg_of X G c.g_HallError, c.k_HallError, c.b_HallError, c.t_HallError, c.h_HallError⟩
  o_BadWord := ⟨PySem.W.mg_of X G c.g_BadWord, c.k_BadWord, c.b_BadWord, c.t_BadWord, c.h_BadWord⟩
  o_BadSize := ⟨PySem.W.mg_of X G c.g_BadSize, c.k_BadSize, c.b_BadSize, c.t_BadSize, c.h_BadSize⟩
  o_BadNumber := ⟨PySem.W.mg_of X G c.g_BadNumber, c.k_BadNumber, c.b_BadNumber, c.t_BadNumber, c.h_BadNumber⟩
  o_BadMachine := ⟨PySem.W.mg_of X G c.g_BadMachine, c.k_BadMachine, c.b_BadMachine, c.t_BadMachine, c.h_BadMachine⟩
  o_TooMany := ⟨PySem.W.mg_of X G c.g_TooMany, c.k_TooMany, c.b_TooMany, c.t_TooMany, c.h_TooMany⟩
  o_TooGreat := ⟨PySem.W.mg_of X G c.g_TooGreat, c.k_TooGreat, c.b_TooGreat, c.t_TooGreat, c.h_TooGreat⟩
  o_NotLeast := ⟨PySem.W.mg_of X G c.g_NotLeast, c.k_NotLeast, c.b_NotLeast, c.t_NotLeast, c.h_NotLeast⟩
  o_NoWord := ⟨PySem.W.mg_of X G c.g_NoWord, c.k_NoWord, c.b_NoWord, c.t_NoWord, c.h_NoWord⟩
  p_NoWord := ⟨c.e_NoWord, ⟨c.hg_NoWord, c.hk_NoWord, c.b_NoWord, c.h_NoWord, c.ha_NoWord, c.hn_NoWord, c.ht_NoWord, c.hm_NoWord⟩, c.ve_NoWord⟩
  s_NoWord_HallError := c.s_NoWord_HallError
  q_NoWord_HallError := c.q_NoWord_HallError
  s_NoWord_BadWord := c.s_NoWord_BadWord
  q_NoWord_BadWord := c.q_NoWord_BadWord
  s_NoWord_BadSize := c.s_NoWord_BadSize
  q_NoWord_BadSize := c.q_NoWord_BadSize
  s_NoWord_BadNumber := c.s_NoWord_BadNumber
  q_NoWord_BadNumber := c.q_NoWord_BadNumber
  s_NoWord_BadMachine := c.s_NoWord_BadMachine
  q_NoWord_BadMachine := c.q_NoWord_BadMachine
  s_NoWord_TooMany := c.s_NoWord_TooMany
  q_NoWord_TooMany := c.q_NoWord_TooMany
  s_NoWord_TooGreat := c.s_NoWord_TooGreat
  q_NoWord_TooGreat := c.q_NoWord_TooGreat
  s_NoWord_NotLeast := c.s_NoWord_NotLeast
  q_NoWord_NotLeast := c.q_NoWord_NotLeast
  s_NoWord_NoWord := c.s_NoWord_NoWord
  q_NoWord_NoWord := c.q_NoWord_NoWord
abbrev s_places_of : Stmt := topS 11
abbrev s_run_from : Stmt := topS 13
abbrev s_run : Stmt := topS 14
abbrev s_is_taken : Stmt := topS 15
abbrev s_count_rows : Stmt := topS 16
abbrev s_count_ahead : Stmt := topS 19
abbrev s_place_of : Stmt := topS 20
abbrev s_word_at : Stmt := topS 21
abbrev s_kth : Stmt := topS 22
abbrev s_next_word : Stmt := topS 23
abbrev s_law_pool : Stmt := topS 25
abbrev s_law_stream : Stmt := topS 26
abbrev s_law_pick : Stmt := topS 27
abbrev s_law_letters : Stmt := topS 28
abbrev s_law_machine : Stmt := topS 29
abbrev s_law_blocks : Stmt := topS 30
abbrev s_law_moved : Stmt := topS 31
abbrev s_law_doubled : Stmt := topS 32
abbrev s_law_renamed : Stmt := topS 33
abbrev s_law_shaped : Stmt := topS 34
abbrev s_law_run : Stmt := topS 35
abbrev s_law_backs : Stmt := topS 36
abbrev s_law_rank : Stmt := topS 37
abbrev s_law_great : Stmt := topS 38
abbrev s_law_is_number : Stmt := topS 39
abbrev s_law_is_alone : Stmt := topS 40
abbrev s_law_kth : Stmt := topS 41
abbrev s_law_next : Stmt := topS 42
abbrev s_law_is_at : Stmt := topS 43
abbrev s_law : Stmt := topS 44
section
variable {P : Program} {w : World} {K : PySem.W.Frag} {mg : Str → Option Value} {base : Heap}
variable {aHallError aBadWord aBadSize aBadNumber aBadMachine aTooMany aTooGreat aNotLeast aNoWord : Addr}
theorem sc_places_of : FnScope ["letters", "word", "sign"] ["letters", "word"] (defScope s_places_of) := ⟨rfl, rfl, rfl, by decide +kernel, rfl, by decide +kernel, by decide +kernel⟩
theorem ok_places_of {f : Addr} {fd : FuncData} (F : Fun K "places_of" "places_of" s_places_of f fd) (T : Bt mg) (C : Cl K mg aHallError aBadWord aBadSize aBadNumber aBadMachine aTooMany aTooGreat aNotLeast aNoWord)  : FnG P w K mg base CX0 1 f fd ["letters", "word"] (spPlacesOf) := by
  refine FnG.calm F sc_places_of (fun vs H Q E h => by first | (obtain ⟨_, rfl, _⟩ := h; rfl) | (obtain ⟨_, _, rfl, _⟩ := h; rfl) | (obtain ⟨_, _, _, rfl, _⟩ := h; rfl) | (obtain ⟨_, _, _, _, rfl, _⟩ := h; rfl) | (obtain ⟨_, _, _, _, _, rfl, _⟩ := h; rfl) | (obtain ⟨_, _, _, _, _, _, rfl, _⟩ := h; rfl) | (obtain ⟨_, _, _, _, _, _, _, rfl, _⟩ := h; rfl) | (obtain ⟨_, _, _, _, _, _, _, _, rfl, _⟩ := h; rfl)) (fun cd A out z H vs Q E hg hr h => ?_)
  have nd := sc_places_of.nd
  obtain ⟨l, w, G, rfl, IL, hw, wl, ok, q⟩ := h
  refine ⟨_, (pss_one (ps_ret (pe_lc (own := [("sign", 2)]) (tt := tYes) (g := gName 2) rfl nd (pi_str (pv 1)) (blkOk_by (by kernel_rfl)) (fun _ _ _ _ _ => (pg_name (i := 2) nd rfl (by first | exact Or.inl rfl | exact Or.inr rfl))) (fun _ _ _ _ _ => pts_nil) (fun _ _ _ _ _ => (pe_sindex (pv 0) (pv 2)))))), ?_⟩
  refine ⟨_, rfl, _, rfl, fun D nD => ?_⟩
  refine lc_map walkS (fun x => match x with | .str z => .int ((l.idxOf (z.cps.toList.headD 0) : Nat)) | _ => .non) (fun _ => true) (by rw [lenS]; omega) (fun _ => trivial) (fun i x acc N hx fin _ => ?_) ?_
  · obtain ⟨c, hc, rfl⟩ := sgnI_at hx
    have cl := hw c (List.mem_of_getElem? hc)
    obtain ⟨rest, ho⟩ := sign_at cl
    exact ⟨rfl, _, rfl, ⟨_, rfl⟩, _, rfl, _, _, _, rest, rfl, rfl, ho, fin rfl⟩
  have e : ((sgnI w).filter fun _ => true).map (fun x => match x with | .str z => V.int ((l.idxOf (z.cps.toList.headD 0) : Nat)) | _ => .non) = (plsOf l w).map V.int := by
    rw [filter_all]
    unfold plsOf
    rw [List.map_map, List.map_map]
    rfl
  rw [e]
  exact q _ _ _ (ok.fz.new nD) (Idp upd_same)
theorem sc_run_from : FnScope ["letters", "machine", "state", "word", "place"] ["letters", "machine", "state", "word"] (defScope s_run_from) := ⟨rfl, rfl, rfl, by decide +kernel, rfl, by decide +kernel, by decide +kernel⟩
theorem ok_run_from {f : Addr} {fd : FuncData} (F : Fun K "run_from" "run_from" s_run_from f fd) (T : Bt mg) (C : Cl K mg aHallError aBadWord aBadSize aBadNumber aBadMachine aTooMany aTooGreat aNotLeast aNoWord) (Dplaces_of : DefG P w K mg base CX0 1 "places_of" ["letters", "word"] (spPlacesOf)) : FnG P w K mg base CX0 2 f fd ["letters", "machine", "state", "word"] (spRunFrom) := by
  refine FnG.calm F sc_run_from (fun vs H Q E h => by first | (obtain ⟨_, rfl, _⟩ := h; rfl) | (obtain ⟨_, _, rfl, _⟩ := h; rfl) | (obtain ⟨_, _, _, rfl, _⟩ := h; rfl) | (obtain ⟨_, _, _, _, rfl, _⟩ := h; rfl) | (obtain ⟨_, _, _, _, _, rfl, _⟩ := h; rfl) | (obtain ⟨_, _, _, _, _, _, rfl, _⟩ := h; rfl) | (obtain ⟨_, _, _, _, _, _, _, rfl, _⟩ := h; rfl) | (obtain ⟨_, _, _, _, _, _, _, _, rfl, _⟩ := h; rfl)) (fun cd A out z H vs Q E hg hr h => ?_)
  have nd := sc_run_from.nd
  obtain ⟨l, w, v, s, m, G, rfl, IL, hw, wl, ok, dm, mo, hs, q⟩ := h
  obtain ⟨a, x, y, rfl, ea, dt, de⟩ := dM dm
  obtain ⟨b, xs, rfl, eb, hx⟩ := dp_list dt
  refine ⟨_, (pss_cons (ps_for PassesOwn.never rfl (piL K (pe_fn Dplaces_of hg (hr.mono (by decide)) (pa_cons (pv 0) (pa_cons (pv 3) pa_nil)))) (pg_name (i := 4) nd rfl (by first | exact Or.inl rfl | exact Or.inr rfl))
    (pss_one (ps_set (i := 2) nd rfl (by first | exact Or.inl rfl | exact Or.inr rfl) (pe_ix (ixL K) (pe_ix (ixL K) (pe_ix (ixT K) (pv 1) pe_int (fun _ _ => rfl)) (pv 2) (fun _ _ => rfl)) (pv 4) (fun _ _ => rfl)))))
    (pss_one (ps_ret (pv 2)))), ?_⟩
  refine ⟨_, rfl, _, rfl, l, w, G, rfl, IL, hw, wl, ok, fun H1 G1 r z1 d1 => ?_⟩
  obtain ⟨pa, rfl, ep⟩ := dI d1
  refine ⟨pa, rfl, ⟨_, SqL.of (z1.same _ _ ep)⟩, ?_⟩
  have lp : ((plsOf l w).map V.int).length = w.length := by unfold plsOf; rw [List.length_map, List.length_map]
  refine for_it (walk_list (xs := (plsOf l w).map V.int)) (fun i σ H2 => H2 = H1 ∧ ∃ y4, σ = [some (.str (strOf l)), some (.ref a), some (.int (runW l m s (w.take i) : Nat)), some (.str (strOf w)), y4]) ⟨rfl, none, rfl⟩ (fun i σ H2 _ hP => by rw [hP.1]; exact SqL.of (z1.same _ _ ep)) (fun i x σ H2 H2' hi hP hy => ?_) (fun σ H2 hP => ?_)
  · obtain ⟨rfl, hx2⟩ := hy
    obtain ⟨rfl, y4, rfl⟩ := hP
    obtain ⟨n, hn, rfl⟩ := intsAt hx2
    unfold plsOf at hn
    rw [List.getElem?_map] at hn
    obtain ⟨c, hc, rfl⟩ := Option.map_eq_some_iff.mp hn
    have cl := hw c (List.mem_of_getElem? hc)
    have lt := runW_lt mo (w.take i) (s := s) hs fun d hd => hw d (List.mem_of_mem_take hd)
    obtain ⟨r, hr, hrc, _⟩ := step1_ok mo lt cl
    obtain ⟨rb, e1, e2⟩ := dT_row hx hr
    refine ⟨.ref a, rfl, a, _, 0, .ref b, rfl, rfl, SqT.of (z1.same _ _ (z1.up _ _ ea)), atI_nat (j := 0) rfl, _, rfl, b, _, _, .ref rb, rfl, rfl, SqL.of (z1.same _ _ (z1.up _ _ eb)), atI_nat e1, _, rfl, rb, _, _, _, rfl, rfl, SqL.of (z1.same _ _ (z1.up _ _ e2)), atI_nat (getI hrc), rfl, some (.int ((l.idxOf c : Nat) : Int)), ?_⟩
    rw [List.take_add_one, hc]
    show _ = [_, _, some (V.int (runW l m s (w.take i ++ [c]) : Nat)), _, _]
    rw [runW_snoc]
    rfl
  · obtain ⟨rfl, y4, rfl⟩ := hP
    rw [lp, List.take_length] at *
    exact ⟨_, rfl, q _ z1.step⟩
theorem sc_run : FnScope ["letters", "machine", "word"] ["letters", "machine", "word"] (defScope s_run) := ⟨rfl, rfl, rfl, by decide +kernel, rfl, by decide +kernel, by decide +kernel⟩
theorem ok_run {f : Addr} {fd : FuncData} (F : Fun K "run" "run" s_run f fd) (T : Bt mg) (C : Cl K mg aHallError aBadWord aBadSize aBadNumber aBadMachine aTooMany aTooGreat aNotLeast aNoWord) (Drun_from : DefG P w K mg base CX0 2 "run_from" ["letters", "machine", "state", "word"] (spRunFrom)) : FnG P w K mg base CX0 3 f fd ["letters", "machine", "word"] (spRunO) := by
  refine FnG.calm F sc_run (fun vs H Q E h => by first | (obtain ⟨_, rfl, _⟩ := h; rfl) | (obtain ⟨_, _, rfl, _⟩ := h; rfl) | (obtain ⟨_, _, _, rfl, _⟩ := h; rfl) | (obtain ⟨_, _, _, _, rfl, _⟩ := h; rfl) | (obtain ⟨_, _, _, _, _, rfl, _⟩ := h; rfl) | (obtain ⟨_, _, _, _, _, _, rfl, _⟩ := h; rfl) | (obtain ⟨_, _, _, _, _, _, _, rfl, _⟩ := h; rfl) | (obtain ⟨_, _, _, _, _, _, _, _, rfl, _⟩ := h; rfl)) (fun cd A out z H vs Q E hg hr h => ?_)
  have nd := sc_run.nd
  obtain ⟨l, w, v, m, G, rfl, IL, hw, wl, ok, dm, mo, q⟩ := h
  refine ⟨_, (pss_one (ps_ret (pe_fn Drun_from hg (hr.mono (by decide)) (pa_cons (pv 0) (pa_cons (pv 1) (pa_cons pe_int (pa_cons (pv 2) pa_nil))))))), ?_⟩
  exact ⟨_, rfl, _, rfl, _, rfl, l, w, v, 0, m, G, rfl, IL, hw, wl, ok, dm, mo, mo.pos, q⟩
theorem sc_is_taken : FnScope ["letters", "machine", "word"] ["letters", "machine", "word"] (defScope s_is_taken) := ⟨rfl, rfl, rfl, by decide +kernel, rfl, by decide +kernel, by decide +kernel⟩
theorem ok_is_taken {f : Addr} {fd : FuncData} (F : Fun K "is_taken" "is_taken" s_is_taken f fd) (T : Bt mg) (C : Cl K mg aHallError aBadWord aBadSize aBadNumber aBadMachine aTooMany aTooGreat aNotLeast aNoWord) (Drun : DefG P w K mg base CX0 3 "run" ["letters", "machine", "word"] (spRunO)) : FnG P w K mg base CX0 4 f fd ["letters", "machine", "word"] (spTaken) := by
  refine FnG.calm F sc_is_taken (fun vs H Q E h => by first | (obtain ⟨_, rfl, _⟩ := h; rfl) | (obtain ⟨_, _, rfl, _⟩ := h; rfl) | (obtain ⟨_, _, _, rfl, _⟩ := h; rfl) | (obtain ⟨_, _, _, _, rfl, _⟩ := h; rfl) | (obtain ⟨_, _, _, _, _, rfl, _⟩ := h; rfl) | (obtain ⟨_, _, _, _, _, _, rfl, _⟩ := h; rfl) | (obtain ⟨_, _, _, _, _, _, _, rfl, _⟩ := h; rfl) | (obtain ⟨_, _, _, _, _, _, _, _, rfl, _⟩ := h; rfl)) (fun cd A out z H vs Q E hg hr h => ?_)
  have nd := sc_is_taken.nd
  obtain ⟨l, w, v, m, G, rfl, IL, hw, wl, ok, dm, mo, q⟩ := h
  obtain ⟨a, x, y, rfl, ea, dt, de⟩ := dM dm
  obtain ⟨c, rfl, ec⟩ := dB de
  have lt := runW_lt mo w (s := 0) (by have := mo.pos; omega) hw
  obtain ⟨e, he⟩ := mo.at_end (s := ((runW l m 0 w : Nat) : Int)) (by omega) (by omega)
  have he' : m.ends[runW l m 0 w]? = some e := he
  have ht : takes l m w = e := by unfold takes; rw [List.getD_eq_getElem?_getD, he']; rfl
  rw [ht] at q
  refine ⟨_, (pss_one (ps_ret (pe_ix (ixL K) (pe_ix (ixT K) (pv 1) pe_int (fun _ _ => rfl)) (pe_fn Drun hg (hr.mono (by decide)) (pa_cons (pv 0) (pa_cons (pv 1) (pa_cons (pv 2) pa_nil)))) (fun _ _ => rfl)))), ?_⟩
  refine ⟨.ref a, rfl, a, _, 1, .ref c, rfl, rfl, SqT.of (ok.same _ _ ea), atI_nat (j := 1) rfl, _, rfl, .ref a, rfl, _, rfl, l, w, .ref a, m, G, rfl, IL, hw, wl, ok, dm, mo, fun H1 s1 => ?_⟩
  exact ⟨c, _, _, .bl e, rfl, rfl, SqL.of (s1.same _ _ (ok.same _ _ ec)), atI_nat (getB he'), q H1 s1⟩
theorem sc_count_rows : FnScope ["machine", "length", "table", "ends", "rows", "is_end", "step", "target", "row"] ["machine", "length"] (defScope s_count_rows) := ⟨rfl, rfl, rfl, by decide +kernel, rfl, by decide +kernel, by decide +kernel⟩
theorem ok_count_rows {f : Addr} {fd : FuncData} (F : Fun K "count_rows" "count_rows" s_count_rows f fd) (T : Bt mg) (C : Cl K mg aHallError aBadWord aBadSize aBadNumber aBadMachine aTooMany aTooGreat aNotLeast aNoWord)  : FnG P w K mg base CX0 1 f fd ["machine", "length"] (spCountRows) := by
  refine FnG.calm F sc_count_rows (fun vs H Q E h => by first | (obtain ⟨_, rfl, _⟩ := h; rfl) | (obtain ⟨_, _, rfl, _⟩ := h; rfl) | (obtain ⟨_, _, _, rfl, _⟩ := h; rfl) | (obtain ⟨_, _, _, _, rfl, _⟩ := h; rfl) | (obtain ⟨_, _, _, _, _, rfl, _⟩ := h; rfl) | (obtain ⟨_, _, _, _, _, _, rfl, _⟩ := h; rfl) | (obtain ⟨_, _, _, _, _, _, _, rfl, _⟩ := h; rfl) | (obtain ⟨_, _, _, _, _, _, _, _, rfl, _⟩ := h; rfl)) (fun cd A out z H vs Q E hg hr h => ?_)
  have nd := sc_count_rows.nd
  obtain ⟨v, n, m, k, G, rfl, ok, dm, mo, k6, n300, q⟩ := h
  obtain ⟨a, x, y, rfl, ea, dt, de⟩ := dM dm
  obtain ⟨b, xs, rfl, eb, hx⟩ := dp_list dt
  obtain ⟨c, rfl, ec⟩ := dB de
  have lx : xs.length = m.tab.length := by rw [dps_len hx, List.length_map]
  have n60 := mo.most
  have n1 := mo.pos
  have le := mo.ends
  refine ⟨_, (pss_cons (ps_asg (pv 0) (gT K (n := 2) rfl (pgs_cons (pg_name (i := 2) nd rfl (by first | exact Or.inl rfl | exact Or.inr rfl)) (pgs_cons (pg_name (i := 3) nd rfl (by first | exact Or.inl rfl | exact Or.inr rfl)) pgs_nil))))
    (pss_cons (ps_set (i := 4) nd rfl (by first | exact Or.inl rfl | exact Or.inr rfl) (pe_lst (pa_cons (pe_lc (own := [("is_end", 5)]) (tt := tYes) (g := gName 5) rfl nd (piL K (pv 3)) (blkOk_by (by kernel_rfl)) (fun _ _ _ _ _ => (pg_name (i := 5) nd rfl (by first | exact Or.inl rfl | exact Or.inr rfl))) (fun _ _ _ _ _ => pts_nil) (fun _ _ _ _ _ => (pe_callTy call_int1 (by rfl) T.m_int (by decide +kernel) (pa_cons (pv 5) pa_nil)))) pa_nil)))
    (pss_cons (ps_for PassesOwn.never rfl (pi_range1 (by rfl) T.m_range (pa_cons (pv 1) pa_nil)) (pg_name (i := 6) nd rfl (by first | exact Or.inl rfl | exact Or.inr rfl))
    (pss_one (ps_expr (pe_bm PySem.F.plainAttrs_list PySem.F.slot_list_append PySem.F.type_list_append mt_append (pv 4) (pa_cons (pe_lc (own := [("row", 8)]) (tt := tYes) (g := gName 8) rfl nd (piL K (pv 2)) (blkOk_by (by kernel_rfl)) (fun _ _ _ _ _ => (pg_name (i := 8) nd rfl (by first | exact Or.inl rfl | exact Or.inr rfl))) (fun _ _ _ _ _ => pts_nil) (fun _ _ _ _ _ => (pe_callB (sumQ K rfl) (by rfl) T.m_sum (by decide +kernel) (pa_cons (pe_lc (own := [("target", 7)]) (tt := tYes) (g := gName 7) rfl nd (piL K (pv 8)) (blkOk_by (by kernel_rfl)) (fun _ _ _ _ _ => (pg_name (i := 7) nd rfl (by first | exact Or.inl rfl | exact Or.inr rfl))) (fun _ _ _ _ _ => pts_nil) (fun _ _ _ _ _ => (pe_ix (ixL K) (pe_ix (ixL K) (pv 4) (pe_un un_neg pe_int) (fun _ _ => rfl)) (pv 7) (fun _ _ => rfl)))) pa_nil)))) pa_nil)))))
    (pss_one (ps_ret (pv 4)))))), ?_⟩
  -- table, ends = machine
  refine ⟨.ref a, rfl, a, _, rfl, SqT.of (ok.same _ _ ea), rfl, _, _, rfl, _, _, rfl, rfl, ?_⟩
  -- rows = [[..]]
  refine ⟨.ref c, rfl, c, rfl, ⟨_, SqL.of (ok.same _ _ ec)⟩, fun D nD => ?_⟩
  refine lc_draw (R := fun i d => d = .int (cnt m 0 i)) (walk_list (xs := m.ends.map V.bl)) (by rw [List.length_map]; omega) ok nD (fun H s => SqL.of (s _ _ ec)) (fun i x H2 G2 N hi hl z2 fin => ?_) (fun H2 G2 ds z2 dp2 _ hl hR => ?_)
  · obtain ⟨e, he, rfl⟩ : ∃ e, m.ends[i]? = some e ∧ x = .bl e := by
      rw [List.getElem?_map] at hi
      cases e : m.ends[i]? with
      | none => rw [e] at hi; cases hi
      | some n => rw [e] at hi; exact ⟨n, rfl, (Option.some.inj hi).symm⟩
    refine ⟨rfl, ?_⟩
    refine ⟨_, rfl, .inr ⟨e, rfl, fin _ H2 G2 (.int _) z2.ok.fz (.int _) ?_⟩⟩
    unfold cnt
    rw [List.getD_eq_getElem?_getD, he]
    cases e <;> rfl
  rw [List.length_map, le] at hl
  have e0 := row_is hl hR
  subst e0
  refine ⟨by show 1 ≤ sizeLine; decide, fun p np => ?_⟩
  have np0 : H p = none := z2.step.free np
  have gp : G2 p = none := free_of z2.same np
  have ns : ¬ NoS p := fun z => z
  refine ⟨_, rfl, _, rfl, by omega, by omega, ?_⟩
  refine for_range (lo := 0) (fun i σ H3 => ∃ (G3 : Hp) (acc : List V) (y6 : Option V), σ = [some (.ref a), some (.int (n : Nat)), some (.ref b), some (.ref c), some (.ref p), none, y6, none, none] ∧ Fz NoS H G H3 G3 ∧ H3 p = some (.lst acc) ∧ G3 p = none ∧ DqAll G3 acc ((rowsOf m i).map DI))
    ⟨G2, [.ref D], none, rfl, z2.loc np, upd_same, gp, .cons dp2 .nil⟩ (fun i σ H3 hi hP => ?_) (fun σ H3 hP => ?_)
  · obtain ⟨G3, acc, y6, rfl, z3, e3, g3, d3⟩ := hP
    have hi' : i < n := by omega
    have la : acc.length = i + 1 := by rw [dps_len d3, List.length_map, rowsOf_len]
    -- the last row
    obtain ⟨lr, hlr, hrow⟩ := dT_row d3 (rowsOf_at (Nat.le_refl i))
    refine ⟨.ref p, rfl, .inl ⟨rfl, _, SqL.of e3⟩, .ref b, rfl, b, rfl, ⟨_, SqL.of (z3.same _ _ (z3.up _ _ eb))⟩, fun D1 nD1 => ?_⟩
    have hx3 := dps_up hx z3.up
    have dp1 : p ≠ D1 := ne_of_none e3 nD1
    refine lc_draw (R := fun j d => d = .int (cnt m (i + 1) j)) (walk_list (xs := xs)) (by omega) z3.ok nD1 (fun H s => SqL.of (s _ _ (z3.up _ _ eb))) (fun j x H4 G4 N hj hl z4 fin => ?_) (fun H4 G4 ds z4 dp4 _ hl hR => ?_)
    · obtain ⟨d, hd, hdx⟩ := dps_get' hx3 hj
      obtain ⟨r, hr, rfl⟩ : ∃ r, m.tab[j]? = some r ∧ DI r = d := by
        rw [List.getElem?_map] at hd
        cases e : m.tab[j]? with
        | none => rw [e] at hd; cases hd
        | some r => rw [e] at hd; exact ⟨r, rfl, Option.some.inj hd⟩
      obtain ⟨rb, rfl, er⟩ := dI hdx
      have rl := mo.row r (List.mem_of_getElem? hr)
      have rt := mo.tgt r (List.mem_of_getElem? hr)
      have e4 := z4.step.own_stays ns e3
      refine ⟨rfl, ?_⟩
      refine ⟨.ref rb, rfl, rb, rfl, ⟨_, SqL.of (z4.same _ _ (z4.up _ _ er))⟩, fun D2 nD2 => ?_⟩
      have dp2' : p ≠ D2 := ne_of_none e4 nD2
      have drb : rb ≠ D2 := ne_of_none (z4.same _ _ (z4.up _ _ er)) nD2
      have dlr : lr ≠ D2 := ne_of_none (z4.same _ _ (z4.up _ _ hrow)) nD2
      refine lc_map (walk_list (xs := r.map V.int)) (fun x => match x with | .int t => .int (cnt m i t.toNat) | _ => .non) (fun _ => true) (by rw [List.length_map, rl]; omega) (fun acc => SqL.of (by rw [upd_ne drb]; exact z4.same _ _ (z4.up _ _ er))) (fun u x acc' N2 hu fin2 _ => ?_) ?_
      · obtain ⟨t, ht, rfl⟩ := intsAt hu
        obtain ⟨t0, tn⟩ := rt t (List.mem_of_getElem? ht)
        refine ⟨rfl, ?_⟩
        refine ⟨.ref p, rfl, 1, rfl, p, _, -1, .ref lr, rfl, rfl, SqL.of (by rw [upd_ne dp2']; exact e4), ?_, _, rfl, lr, _, t, _, rfl, rfl, SqL.of (by rw [upd_ne dlr]; exact z4.same _ _ (z4.up _ _ hrow)), atI_of t0 (getI (rowOf_at (by omega))), fin2 rfl⟩
        obtain ⟨front, last, hfl⟩ : ∃ front last, acc = front ++ [last] := by
          rcases List.eq_nil_or_concat acc with h | ⟨f, l, h⟩
          · rw [h] at la; simp at la
          · exact ⟨f, l, by rw [h, List.concat_eq_append]⟩
        have lf : front.length = i := by rw [hfl, List.length_append] at la; simpa using la
        rw [hfl, List.getElem?_append_right (by omega), lf, Nat.sub_self] at hlr
        have : last = .ref lr := Option.some.inj hlr
        rw [hfl, this]
        exact atI_last _ _
      · have em : ((r.map V.int).filter fun _ => true).map (fun x => match x with | .int t => V.int (cnt m i t.toNat) | _ => V.non) = (r.map fun t => cnt m i t.toNat).map V.int := by
          rw [filter_all, List.map_map, List.map_map]; rfl
        rw [em]
        refine ⟨D2, _, rfl, SqL.of upd_same, ?_⟩
        refine fin _ _ G4 (.int _) (z4.ok.fz.loc nD2) (.int _) ?_
        show PyData.int _ = .int (cnt m (i + 1) j)
        rw [cnt_succ, List.getD_eq_getElem?_getD, hr]
        rfl
    · rw [lx] at hl
      have e1 := row_is hl hR
      subst e1
      have e4 := z4.step.own_stays ns e3
      have g4 := z4.grow.out g3 e3
      refine ⟨p, _, _, rfl, rfl, e4, szl (by omega), ?_⟩
      refine ⟨G4, acc ++ [.ref D1], _, rfl, (z3.trans z4).put np0 g4 ns, upd_same, g4, ?_⟩
      rw [rowsOf_succ, List.map_append]
      exact dps_snoc (dps_up d3 z4.up) dp4
  · obtain ⟨G3, acc, y6, rfl, z3, e3, g3, d3⟩ := hP
    have tn : ((n : Nat) : Int).toNat = n := by omega
    rw [tn] at d3
    exact ⟨.ref p, rfl, q _ _ _ (z3.fix np0 e3 ns) (.lst upd_same (dps_up d3 (same_sub g3)))⟩
theorem sc_count_ahead : FnScope ["letters", "machine", "word", "rows", "found", "row", "state", "at", "place", "targets", "target"] ["letters", "machine", "word"] (defScope s_count_ahead) := ⟨rfl, rfl, rfl, by decide +kernel, rfl, by decide +kernel, by decide +kernel⟩
theorem ok_count_ahead {f : Addr} {fd : FuncData} (F : Fun K "count_ahead" "count_ahead" s_count_ahead f fd) (T : Bt mg) (C : Cl K mg aHallError aBadWord aBadSize aBadNumber aBadMachine aTooMany aTooGreat aNotLeast aNoWord) (Dcount_rows : DefG P w K mg base CX0 1 "count_rows" ["machine", "length"] (spCountRows)) (Dplaces_of : DefG P w K mg base CX0 1 "places_of" ["letters", "word"] (spPlacesOf)) : FnG P w K mg base CX0 2 f fd ["letters", "machine", "word"] (spAhead) := by
  refine FnG.calm F sc_count_ahead (fun vs H Q E h => by first | (obtain ⟨_, rfl, _⟩ := h; rfl) | (obtain ⟨_, _, rfl, _⟩ := h; rfl) | (obtain ⟨_, _, _, rfl, _⟩ := h; rfl) | (obtain ⟨_, _, _, _, rfl, _⟩ := h; rfl) | (obtain ⟨_, _, _, _, _, rfl, _⟩ := h; rfl) | (obtain ⟨_, _, _, _, _, _, rfl, _⟩ := h; rfl) | (obtain ⟨_, _, _, _, _, _, _, rfl, _⟩ := h; rfl) | (obtain ⟨_, _, _, _, _, _, _, _, rfl, _⟩ := h; rfl)) (fun cd A out z H vs Q E hg hr h => ?_)
  have nd := sc_count_ahead.nd
  obtain ⟨l, w, v, m, G, rfl, IL, hw, wl, ok, dm, mo, q⟩ := h
  have l6 := IL.six
  have n1 := mo.pos
  have n60 := mo.most
  obtain ⟨a, x, y, rfl, ea, dt, de⟩ := dM dm
  obtain ⟨b, txs, rfl, eb, hx⟩ := dp_list dt
  have sw : (strOf w).length ≤ sizeLine := by rw [strOf_len]; exact sz (by omega)
  refine ⟨_, (pss_cons (ps_set (i := 3) nd rfl (by first | exact Or.inl rfl | exact Or.inr rfl) (pe_fn Dcount_rows hg (hr.mono (by decide)) (pa_cons (pv 1) (pa_cons (pe_callB call_len_str (by rfl) T.m_len PySem.boot_len (pa_cons (pv 2) pa_nil)) pa_nil))))
    (pss_cons (ps_set (i := 4) nd rfl (by first | exact Or.inl rfl | exact Or.inr rfl) (pe_callB (sumQ K rfl) (by rfl) T.m_sum (by decide +kernel) (pa_cons (pe_lc (own := [("row", 5)]) (tt := tYes) (g := gName 5) rfl nd (piL K (pe_slice (slL K) (pv 3) po_none (po_some (pe_callB call_len_str (by rfl) T.m_len PySem.boot_len (pa_cons (pv 2) pa_nil))))) (blkOk_by (by kernel_rfl)) (fun _ _ _ _ _ => (pg_name (i := 5) nd rfl (by first | exact Or.inl rfl | exact Or.inr rfl))) (fun _ _ _ _ _ => pts_nil) (fun _ _ _ _ _ => (pe_ix (ixL K) (pv 5) pe_int (fun _ _ => rfl)))) pa_nil)))
    (pss_cons (ps_set (i := 6) nd rfl (by first | exact Or.inl rfl | exact Or.inr rfl) pe_int)
    (pss_cons (ps_for PassesOwn.never rfl (piEnum K (by rfl) T.m_enumerate (pa_cons (pe_fn Dplaces_of hg (hr.mono (by decide)) (pa_cons (pv 0) (pa_cons (pv 2) pa_nil))) pa_nil)) (gT K (n := 2) rfl (pgs_cons (pg_name (i := 7) nd rfl (by first | exact Or.inl rfl | exact Or.inr rfl)) (pgs_cons (pg_name (i := 8) nd rfl (by first | exact Or.inl rfl | exact Or.inr rfl)) pgs_nil)))
    (pss_cons (ps_set (i := 9) nd rfl (by first | exact Or.inl rfl | exact Or.inr rfl) (pe_ix (ixL K) (pe_ix (ixT K) (pv 1) pe_int (fun _ _ => rfl)) (pv 6) (fun _ _ => rfl)))
      (pss_cons (ps_aug (i := 4) nd rfl (by first | exact Or.inl rfl | exact Or.inr rfl) (pe_callB (sumQ K rfl) (by rfl) T.m_sum (by decide +kernel) (pa_cons (pe_lc (own := [("target", 10)]) (tt := tYes) (g := gName 10) rfl nd (piL K (pe_slice (slL K) (pv 9) po_none (po_some (pv 8)))) (blkOk_by (by kernel_rfl)) (fun _ _ _ _ _ => (pg_name (i := 10) nd rfl (by first | exact Or.inl rfl | exact Or.inr rfl))) (fun _ _ _ _ _ => pts_nil) (fun _ _ _ _ _ => (pe_ix (ixL K) (pe_ix (ixL K) (pv 3) (pe_op op_sub (pe_op op_sub (pe_callB call_len_str (by rfl) T.m_len PySem.boot_len (pa_cons (pv 2) pa_nil)) (pv 7)) pe_int) (fun _ _ => rfl)) (pv 10) (fun _ _ => rfl)))) pa_nil)) ip_add)
      (pss_one (ps_set (i := 6) nd rfl (by first | exact Or.inl rfl | exact Or.inr rfl) (pe_ix (ixL K) (pv 9) (pv 8) (fun _ _ => rfl)))))))
    (pss_one (ps_ret (pv 4))))))), ?_⟩
  refine ⟨.ref a, rfl, _, rfl, _, rfl, sw, ?_⟩
  rw [strOf_len]
  refine ⟨.ref a, w.length, m, l.length, G, rfl, ok, dm, mo, l6, wl, fun H2 G2 rr z2 d2 => ?_⟩
  obtain ⟨ra, xs, rfl, era, dxs⟩ := dp_list d2
  have lxs : xs.length = w.length + 1 := by rw [dps_len dxs, List.length_map, rowsOf_len]
  have row_at : ∀ i, i ≤ w.length → ∃ rb, xs[i]? = some (.ref rb) ∧ G2 rb = some (.lst ((rowOf m i).map V.int)) := fun i hi => dT_row dxs (rowsOf_at hi)
  refine ⟨.ref ra, rfl, _, rfl, _, rfl, sw, ?_⟩
  rw [strOf_len]
  refine ⟨_, rfl, ra, _, rfl, SqL.of (z2.same _ _ era), fun ps nps => ?_⟩
  rw [cut_to]
  have z3 := z2.new (o := .lst (xs.take w.length)) nps
  have eps : upd G2 ps (.lst (xs.take w.length)) ps = some (.lst (xs.take w.length)) := upd_same
  have up3 : Same G2 (upd G2 ps (.lst (xs.take w.length))) := same_sub (free_of z2.same nps)
  generalize upd G2 ps (.lst (xs.take w.length)) = G3 at z3 eps up3
  generalize upd H2 ps (.lst (xs.take w.length)) = H3 at z3
  have ltk : (xs.take w.length).length = w.length := by rw [List.length_take]; omega
  refine ⟨ps, rfl, ⟨_, SqL.of (z3.same _ _ eps)⟩, fun D nD => ?_⟩
  refine lc_draw (R := fun i d => d = .int (cnt m i 0)) (walk_list (xs := xs.take w.length)) (by omega) z3.ok nD (fun H s => SqL.of (s _ _ eps)) (fun i x H4 G4 N hi hl z4 fin => ?_) (fun H4 G4 ds z4 dp4 _ hl hR => ?_)
  · rw [ltk] at hl
    obtain ⟨rb, h1, h2⟩ := row_at i (by omega)
    rw [List.getElem?_take_of_lt hl, h1] at hi
    cases Option.some.inj hi
    refine ⟨rfl, ?_⟩
    exact ⟨_, rfl, rb, _, 0, .int (cnt m i 0), rfl, rfl, SqL.of (z4.same _ _ (z4.up _ _ (up3 _ _ h2))), atI_nat (j := 0) (getI (rowOf_at (by omega))), fin _ H4 G4 (.int _) z4.ok.fz (.int _) rfl⟩
  rw [ltk] at hl
  have eds : ds = ((List.range w.length).map fun n => cnt m n 0).map .int := by
    refine List.ext_getElem? fun i => ?_
    rw [List.getElem?_map, List.getElem?_map]
    by_cases hi : i < w.length
    · have e1 : ds[i]? = some ds[i] := List.getElem?_eq_getElem (by omega)
      rw [List.getElem?_range hi, e1, hR i _ e1]; rfl
    · rw [List.getElem?_eq_none (by omega), List.getElem?_eq_none (by rw [List.length_range]; omega)]; rfl
  subst eds
  obtain ⟨Da, eDa, hDa⟩ := dI dp4
  cases eDa
  have z5 := z3.trans z4
  have up5 := up3.trans z4.up
  have ok5 := z5.ok
  refine ⟨D, _, rfl, SqL.of (z4.same _ _ hDa), ?_⟩
  -- the signs
  refine ⟨_, rfl, _, rfl, l, w, G4, rfl, IL, hw, by omega, ok5, fun H6 G6 rp z6 d6 => ?_⟩
  obtain ⟨pp, rfl, epp⟩ := dI d6
  have z7 := z5.trans z6
  have up7 := up5.trans z6.up
  have lpp : ((plsOf l w).map V.int).length = w.length := by unfold plsOf; rw [List.length_map, List.length_map]
  refine ⟨pp, _, rfl, SqL.of (z6.same _ _ epp), ?_⟩
  refine for_it (walk_enum (xs := (plsOf l w).map V.int)) (fun i σ H8 => ∃ y7 y8 y9 : Option V, σ = [some (.str (strOf l)), some (.ref a), some (.str (strOf w)), some (.ref ra), some (.int (((List.range w.length).map fun n => cnt m n 0).sum + ((List.range i).map (ahdAt l m w)).sum)), none, some (.int (runW l m 0 (w.take i) : Nat)), y7, y8, y9, none] ∧ Step NoS H6 H8)
    ⟨none, none, none, by rw [show ((List.range 0).map (ahdAt l m w)).sum = 0 from rfl, Int.add_zero]; rfl, Step.refl _ _⟩ (fun i σ H8 _ hP => ?_) (fun i x σ H8 H8' hi hP hy => ?_) (fun σ H8 hP => ?_)
  · obtain ⟨y7, y8, y9, rfl, s8⟩ := hP
    exact SqL.of (s8.same _ _ (z6.same _ _ epp))
  · obtain ⟨T, xi, xv, rfl, nT, rfl, hxi, hxv⟩ := hy
    cases Option.some.inj hxi
    obtain ⟨y7, y8, y9, rfl, s8⟩ := hP
    rw [lpp] at hi
    obtain ⟨n, hn, rfl⟩ := intsAt hxv
    unfold plsOf at hn
    rw [List.getElem?_map] at hn
    obtain ⟨c, hc, rfl⟩ := Option.map_eq_some_iff.mp hn
    have cl := hw c (List.mem_of_getElem? hc)
    have z8 := (z7.step0 s8).loc (o := .tup [.int (i : Nat), .int ((l.idxOf c : Nat) : Int)]) nT
    have sT := s8.trans (Step.new (o := .tup [.int (i : Nat), .int ((l.idxOf c : Nat) : Int)]) nT)
    refine ⟨T, _, rfl, SqT.of upd_same, rfl, _, _, rfl, _, _, rfl, rfl, ?_⟩
    generalize upd H8 T (.tup [.int (i : Nat), .int ((l.idxOf c : Nat) : Int)]) = H9 at z8 sT
    have lt := runW_lt mo (w.take i) (s := 0) (by omega) fun d hd => hw d (List.mem_of_mem_take hd)
    obtain ⟨r, hr, hrc, _⟩ := step1_ok mo lt cl
    obtain ⟨rb, e1, e2⟩ := dT_row hx hr
    have G9 := z8.up
    have er9 := z8.same _ _ (z8.up _ _ e2)
    refine ⟨.ref a, rfl, a, _, 0, .ref b, rfl, rfl, SqT.of (z8.same _ _ (z8.up _ _ ea)), atI_nat (j := 0) rfl, _, rfl, b, _, _, .ref rb, rfl, rfl, SqL.of (z8.same _ _ (z8.up _ _ eb)), atI_nat e1, ?_⟩
    refine ⟨_, rfl, .ref rb, rfl, _, rfl, _, rfl, rb, _, rfl, SqL.of er9, fun pt npt => ?_⟩
    rw [cut_to, ← List.map_take]
    have z10 := z8.loc (o := .lst ((r.take (l.idxOf c)).map V.int)) npt
    have sU := sT.trans (Step.new (o := .lst ((r.take (l.idxOf c)).map V.int)) npt)
    have ept : upd H9 pt (.lst ((r.take (l.idxOf c)).map V.int)) pt = some (.lst ((r.take (l.idxOf c)).map V.int)) := upd_same
    generalize upd H9 pt (.lst ((r.take (l.idxOf c)).map V.int)) = H10 at z10 sU ept
    have er10 := z10.same _ _ (z10.up _ _ e2)
    obtain ⟨rw_, h1, h2⟩ := row_at (w.length - i - 1) (by omega)
    have hrow := z10.same _ _ ((up7 : Same G2 G6) _ _ h2)
    have hra := z10.same _ _ ((up7 : Same G2 G6) _ _ era)
    have rb6 : (r.take (l.idxOf c)).length ≤ 6 := by rw [List.length_take]; have := idx_lt cl; omega
    refine ⟨pt, rfl, ⟨_, SqL.of ept⟩, fun Dc nc => ?_⟩
    have pD : pt ≠ Dc := ne_of_none ept nc
    refine lc_map (walk_list (xs := (r.take (l.idxOf c)).map V.int)) (fun x => match x with | .int t => .int (cnt m (w.length - i - 1) t.toNat) | _ => .non) (fun _ => true) (by rw [List.length_map]; omega) (fun acc => SqL.of (by rw [upd_ne pD]; exact ept)) (fun j x acc N hx2 fin _ => ?_) ?_
    · obtain ⟨t, ht, rfl⟩ := intsAt hx2
      have tr := List.mem_of_mem_take (List.mem_of_getElem? ht)
      have tb := mo.tgt r (List.mem_of_getElem? hr) t tr
      refine ⟨rfl, ?_⟩
      refine ⟨.ref ra, rfl, _, rfl, _, rfl, sw, ?_⟩
      rw [strOf_len]
      refine ⟨_, rfl, _, _, rfl, rfl, _, _, rfl, rfl, ra, _, _, .ref rw_, rfl, rfl, SqL.of (by rw [upd_ne (ne_of_none hra nc)]; exact hra), ?_, _, rfl, rw_, _, _, .int (cnt m (w.length - i - 1) t.toNat), rfl, rfl, SqL.of (by rw [upd_ne (ne_of_none hrow nc)]; exact hrow), atI_of tb.1 (getI (rowOf_at (by omega))), fin rfl⟩
      rw [show (w.length : Int) - (i : Int) - 1 = ((w.length - i - 1 : Nat) : Int) by omega]
      exact atI_nat h1
    have em : (((r.take (l.idxOf c)).map V.int).filter fun _ => true).map (fun x => match x with | .int t => V.int (cnt m (w.length - i - 1) t.toNat) | _ => V.non) = ((r.take (l.idxOf c)).map fun t => cnt m (w.length - i - 1) t.toNat).map V.int := by
      rw [filter_all, List.map_map, List.map_map]; rfl
    rw [em]
    refine ⟨Dc, _, rfl, SqL.of upd_same, _, _, rfl, rfl, ?_⟩
    have sV := sU.trans (Step.new (o := .lst (((r.take (l.idxOf c)).map fun t => cnt m (w.length - i - 1) t.toNat).map V.int)) nc)
    refine ⟨.ref rb, rfl, _, rfl, rb, _, _, _, rfl, rfl, SqL.of (by rw [upd_ne (ne_of_none er10 nc)]; exact er10), atI_nat (getI hrc), some (.int (i : Nat)), some (.int ((l.idxOf c : Nat) : Int)), some (.ref rb), ?_, sV⟩
    have ea2 : ahdAt l m w i = ((r.take (l.idxOf c)).map fun t => cnt m (w.length - i - 1) t.toNat).sum := by
      unfold ahdAt
      rw [List.getD_eq_getElem?_getD, List.getD_eq_getElem?_getD, hr, hc]; rfl
    rw [List.range_succ, List.map_append, List.sum_append, show ([i].map (ahdAt l m w)).sum = ahdAt l m w i from Int.add_zero _, ea2, List.take_add_one, hc, ← Int.add_assoc]
    show _ = [_, _, _, _, _, _, some (V.int (runW l m 0 (w.take i ++ [c]) : Nat)), _, _, _, _]
    rw [runW_snoc]
    rfl
  · obtain ⟨y7, y8, y9, rfl, s8⟩ := hP
    rw [lpp]
    exact ⟨_, rfl, q _ (z7.step.trans s8)⟩
theorem sc_place_of : FnScope ["letters", "machine", "word"] ["letters", "machine", "word"] (defScope s_place_of) := ⟨rfl, rfl, rfl, by decide +kernel, rfl, by decide +kernel, by decide +kernel⟩
theorem ok_place_of {f : Addr} {fd : FuncData} (F : Fun K "place_of" "place_of" s_place_of f fd) (T : Bt mg) (C : Cl K mg aHallError aBadWord aBadSize aBadNumber aBadMachine aTooMany aTooGreat aNotLeast aNoWord) (Dcount_ahead : DefG P w K mg base CX0 2 "count_ahead" ["letters", "machine", "word"] (spAhead)) (Dis_taken : DefG P w K mg base CX0 4 "is_taken" ["letters", "machine", "word"] (spTaken)) : FnG P w K mg base CX0 5 f fd ["letters", "machine", "word"] (spPlaceOf) := by
  refine FnG.calm F sc_place_of (fun vs H Q E h => by first | (obtain ⟨_, rfl, _⟩ := h; rfl) | (obtain ⟨_, _, rfl, _⟩ := h; rfl) | (obtain ⟨_, _, _, rfl, _⟩ := h; rfl) | (obtain ⟨_, _, _, _, rfl, _⟩ := h; rfl) | (obtain ⟨_, _, _, _, _, rfl, _⟩ := h; rfl) | (obtain ⟨_, _, _, _, _, _, rfl, _⟩ := h; rfl) | (obtain ⟨_, _, _, _, _, _, _, rfl, _⟩ := h; rfl) | (obtain ⟨_, _, _, _, _, _, _, _, rfl, _⟩ := h; rfl)) (fun cd A out z H vs Q E hg hr h => ?_)
  have nd := sc_place_of.nd
  obtain ⟨l, w, v, m, G, rfl, IL, hw, wl, ok, dm, mo, q⟩ := h
  refine ⟨_, (pss_cons (ps_if (pt_not (pt_val (pe_fn Dis_taken hg (hr.mono (by decide)) (pa_cons (pv 0) (pa_cons (pv 1) (pa_cons (pv 2) pa_nil)))))) (pss_one (ps_ret pe_non)) pss_nil)
    (pss_one (ps_ret (pe_fn Dcount_ahead hg (hr.mono (by decide)) (pa_cons (pv 0) (pa_cons (pv 1) (pa_cons (pv 2) pa_nil))))))), ?_⟩
  refine ⟨_, rfl, _, rfl, _, rfl, l, w, v, m, G, rfl, IL, hw, by omega, ok, dm, mo, fun H1 s1 => ⟨_, rfl, ?_⟩⟩
  have z1 := ok.fz.step0 s1
  cases ht : takes l m w with
  | false =>
    have := q H1 s1
    unfold plV at this
    rw [ht] at this
    exact this
  | true =>
    refine ⟨_, rfl, _, rfl, _, rfl, l, w, v, m, G, rfl, IL, hw, wl, z1.ok, dm, mo, fun H2 s2 => ?_⟩
    have := q H2 (s1.trans s2)
    unfold plV at this
    rw [ht] at this
    exact this
theorem sc_word_at : FnScope ["letters", "machine", "rows", "length", "place", "word", "state", "left", "sign", "target"] ["letters", "machine", "rows", "length", "place"] (defScope s_word_at) := ⟨rfl, rfl, rfl, by decide +kernel, rfl, by decide +kernel, by decide +kernel⟩
theorem ok_word_at {f : Addr} {fd : FuncData} (F : Fun K "word_at" "word_at" s_word_at f fd) (T : Bt mg) (C : Cl K mg aHallError aBadWord aBadSize aBadNumber aBadMachine aTooMany aTooGreat aNotLeast aNoWord)  : FnG P w K mg base CX0 1 f fd ["letters", "machine", "rows", "length", "place"] (spWordAt) := by
  refine FnG.calm F sc_word_at (fun vs H Q E h => by first | (obtain ⟨_, rfl, _⟩ := h; rfl) | (obtain ⟨_, _, rfl, _⟩ := h; rfl) | (obtain ⟨_, _, _, rfl, _⟩ := h; rfl) | (obtain ⟨_, _, _, _, rfl, _⟩ := h; rfl) | (obtain ⟨_, _, _, _, _, rfl, _⟩ := h; rfl) | (obtain ⟨_, _, _, _, _, _, rfl, _⟩ := h; rfl) | (obtain ⟨_, _, _, _, _, _, _, rfl, _⟩ := h; rfl) | (obtain ⟨_, _, _, _, _, _, _, _, rfl, _⟩ := h; rfl)) (fun cd A out z H vs Q E hg hr h => ?_)
  have nd := sc_word_at.nd
  obtain ⟨l, v, u, m, n, top, p, G, rfl, IL, ok, dm, dt, mo, hn, ht, p0, pc, q⟩ := h
  have l6 := IL.six
  have n1 := mo.pos
  obtain ⟨a, x, y, rfl, ea, dtab, de⟩ := dM dm
  obtain ⟨b, txs, rfl, eb, hx⟩ := dp_list dtab
  obtain ⟨ra, rxs, rfl, era, hrx⟩ := dp_list dt
  refine ⟨_, (pss_cons (ps_set (i := 5) nd rfl (by first | exact Or.inl rfl | exact Or.inr rfl) pe_str)
    (pss_cons (ps_set (i := 6) nd rfl (by first | exact Or.inl rfl | exact Or.inr rfl) pe_int)
    (pss_cons (ps_for PassesOwn.never rfl (pi_range3 (by rfl) T.m_range (pa_cons (pe_op op_sub (pv 3) pe_int) (pa_cons (pe_un un_neg pe_int) (pa_cons (pe_un un_neg pe_int) pa_nil)))) (pg_name (i := 7) nd rfl (by first | exact Or.inl rfl | exact Or.inr rfl))
    (pss_one (ps_for PassesOwn.never rfl (pi_zipS K (by rfl) T.m_zip (pa_cons (pv 0) (pa_cons (pe_ix (ixL K) (pe_ix (ixT K) (pv 1) pe_int (fun _ _ => rfl)) (pv 6) (fun _ _ => rfl)) pa_nil))) (gT K (n := 2) rfl (pgs_cons (pg_name (i := 8) nd rfl (by first | exact Or.inl rfl | exact Or.inr rfl)) (pgs_cons (pg_name (i := 9) nd rfl (by first | exact Or.inl rfl | exact Or.inr rfl)) pgs_nil)))
      (pss_cons (ps_if (pt_cmpR op_lt (pv 4) (pe_ix (ixL K) (pe_ix (ixL K) (pv 2) (pv 7) (fun _ _ => rfl)) (pv 9) (fun _ _ => rfl)) (nomark _)) (pss_cons (ps_aug (i := 5) nd rfl (by first | exact Or.inl rfl | exact Or.inr rfl) (pv 8) ip_addS)
          (pss_cons (ps_set (i := 6) nd rfl (by first | exact Or.inl rfl | exact Or.inr rfl) (pv 9))
          (pss_one ps_break))) pss_nil)
        (pss_one (ps_aug (i := 4) nd rfl (by first | exact Or.inl rfl | exact Or.inr rfl) (pe_ix (ixL K) (pe_ix (ixL K) (pv 2) (pv 7) (fun _ _ => rfl)) (pv 9) (fun _ _ => rfl)) ip_sub))))))
    (pss_one (ps_ret (pv 5)))))), ?_⟩
  refine ⟨_, rfl, _, _, rfl, rfl, _, rfl, _, rfl, _, _, _, n, rfl, ?_, ?_⟩
  · have e : ((n : Int) - 1 - (-1)).toNat = n := by omega
    have r := RgC.neg (i := (n : Int) - 1) (j := -1) (by omega) (by omega) (by omega) (by omega)
    rw [e] at r
    exact r
  refine for_it walk_rangeC (fun i σ H1 => ∃ (pre : List Nat) (s : Nat) (p1 : Int) (y7 y8 y9 : Option V), σ = [some (.str (strOf l)), some (.ref a), some (.ref ra), some (.int (n : Nat)), some (.int p1), some (.str (strOf pre)), some (.int (s : Nat)), y7, y8, y9] ∧
      pre.length = i ∧ s < m.tab.length ∧ 0 ≤ p1 ∧ p1 < cnt m (n - i) s ∧ wordAt l m n 0 p = pre ++ wordAt l m (n - i) s p1 ∧ Step NoS H H1)
    ⟨[], 0, p, none, none, none, by rw [← empty_str]; rfl, rfl, by omega, p0, pc, rfl, Step.refl _ _⟩ (fun _ _ _ _ _ => trivial) (fun i x σ H1 H1' hi hP hy => ?_) (fun σ H1 hP => ?_)
  · obtain ⟨rfl, rfl⟩ := hy
    obtain ⟨pre, s, p1, y7, y8, y9, rfl, pl, hs, lo, hi1, ew, st⟩ := hP
    obtain ⟨r, hr, rl, rt⟩ := mo.at_row (s := (s : Int)) (by omega) (by omega)
    have hr' : m.tab[s]? = some r := hr
    have eg : m.tab.getD s [] = r := by rw [List.getD_eq_getElem?_getD, hr']; rfl
    obtain ⟨rb, e1, e2⟩ := dT_row hx hr'
    obtain ⟨j, ej⟩ : ∃ j, n - i = j + 1 := ⟨n - i - 1, by omega⟩
    obtain ⟨ca, c1, c2⟩ := dT_row hrx (rowsOf_at (show j ≤ top by omega))
    rw [ej] at hi1 ew
    rw [cnt_succ, eg] at hi1
    have ew' := ew
    rw [wordAt, eg] at ew'
    have z1 := ok.fz.step0 st
    have cs : (strOf l).cps.size = (r.map V.int).length := by
      have := strOf_len l
      show (strOf l).length = _
      rw [this, List.length_map, rl]
    refine ⟨_, rfl, .ref a, rfl, a, _, 0, .ref b, rfl, rfl, SqT.of (z1.same _ _ ea), atI_nat (j := 0) rfl, _, rfl, b, _, _, .ref rb, rfl, rfl, SqL.of (z1.same _ _ eb), atI_nat e1, _, rb, _, rfl, SqL.of (z1.same _ _ e2), ?_⟩
    refine for_it (walk_zipS (b := rb) (ys := r.map V.int) cs) (fun k σ H2 => ∃ (p2 : Int) (y8 y9 : Option V), σ = [some (.str (strOf l)), some (.ref a), some (.ref ra), some (.int (n : Nat)), some (.int p2), some (.str (strOf pre)), some (.int (s : Nat)), some (.int (j : Nat)), y8, y9] ∧
      PickI m j r p1 k p2 ∧ Step NoS H H2)
      ⟨p1, y8, y9, ?_, PickI.zero lo hi1, st⟩ (fun k σ H2 _ hP => ?_) (fun k x σ H2 H2' hk hP hy => ?_) (fun σ H2 hP => ?_)
    · show [_, _, _, _, _, _, _, some (V.int ((n : Int) - 1 + (i : Nat) * -1)), _, _] = _
      rw [show (n : Int) - 1 + (i : Nat) * -1 = (j : Int) by omega]
    · obtain ⟨p2, z8, z9, rfl, _, st2⟩ := hP
      exact SqL.of ((ok.fz.step0 st2).same _ _ e2)
    · obtain ⟨p2, z8, z9, rfl, PK, st2⟩ := hP
      obtain ⟨T, sg, tv, rfl, nT, rfl, hsg, htv⟩ := hy
      obtain ⟨t, htk, rfl⟩ := intsAt htv
      have kl : k < l.length := by rw [List.length_map, rl] at hk; exact hk
      have hlk : l[k]? = some (l.getD k 0) := by rw [List.getD_eq_getElem?_getD, List.getElem?_eq_getElem kl]; rfl
      have hcp : (strOf l).cps[k]? = some (l.getD k 0) := by
        rw [← Array.getElem?_toList, strOf_cps]; exact hlk
      have esg : sg = .str (strOf [l.getD k 0]) := by
        have w : (strOf l).cps[k]?.map (fun c => V.str ⟨#[c]⟩) = some sg := hsg
        rw [hcp] at w
        exact (Option.some.inj w).symm
      subst esg
      have tb := rt t (List.mem_of_getElem? htk)
      have tl : t.toNat < m.tab.length := by have := tb.2; have := tb.1; omega
      have z2 := (ok.fz.step0 st2).loc (o := .tup [.str (strOf [l.getD k 0]), .int t]) nT
      have sT := st2.trans (Step.new (o := .tup [.str (strOf [l.getD k 0]), .int t]) nT)
      refine ⟨T, _, rfl, SqT.of upd_same, rfl, _, _, rfl, _, _, rfl, rfl, ?_⟩
      generalize upd H2 T (.tup [.str (strOf [l.getD k 0]), .int t]) = H3 at z2 sT
      have lj : (strOf pre).length = pre.length := strOf_len pre
      refine ⟨_, rfl, .ref ra, rfl, _, rfl, ra, _, _, .ref ca, rfl, rfl, SqL.of (z2.same _ _ era), atI_nat c1, _, rfl, ca, _, _, .int (cnt m j t.toNat), rfl, rfl, SqL.of (z2.same _ _ c2), atI_of tb.1 (getI (rowOf_at tl)), _, _, rfl, rfl, _, rfl, ite2 (fun h => ?_) (fun h => ?_)⟩
      · have lt := of_decide_eq_true h
        have hit := PK.hit htk lt
        rw [hit] at ew'
        have er : r.getD k 0 = t := by rw [List.getD_eq_getElem?_getD, htk]; rfl
        have zz : (strOf pre).length + (strOf [l.getD k 0]).length ≤ sizeLine := sz (by rw [strOf_len, strOf_len]; show pre.length + 1 ≤ _; omega)
        refine ⟨_, rfl, _, rfl, _, _, rfl, rfl, zz, _, rfl, pre ++ [l.getD k 0], t.toNat, p2, some (.int (j : Nat)), some (.str (strOf [l.getD k 0])), some (.int t), ?_, ?_, ?_, PK.lo, ?_, ?_, sT⟩
        · rw [strOf_app, Int.toNat_of_nonneg tb.1]; rfl
        · rw [List.length_append, pl]; rfl
        · omega
        · rw [show n - (i + 1) = j by omega]; exact lt
        · rw [ew', show n - (i + 1) = j by omega, List.append_assoc]
          show pre ++ (l.getD k 0 :: wordAt l m j (r.getD k 0).toNat p2) = _
          rw [er]; rfl
      · have ge : ¬ p2 < cnt m j t.toNat := fun w => h (decide_eq_true w)
        refine ⟨_, rfl, .ref ra, rfl, _, rfl, ra, _, _, .ref ca, rfl, rfl, SqL.of (z2.same _ _ era), atI_nat c1, _, rfl, ca, _, _, .int (cnt m j t.toNat), rfl, rfl, SqL.of (z2.same _ _ c2), atI_of tb.1 (getI (rowOf_at tl)), _, _, rfl, rfl, p2 - cnt m j t.toNat, some (.str (strOf [l.getD k 0])), some (.int t), rfl, PK.miss htk ge, sT⟩
    · obtain ⟨p2, z8, z9, rfl, PK, st2⟩ := hP
      rw [List.length_map] at PK
      exact PK.ends.elim
  · obtain ⟨pre, s, p1, y7, y8, y9, rfl, pl, hs, lo, hi1, ew, st⟩ := hP
    rw [Nat.sub_self, wordAt, List.append_nil] at ew
    exact ⟨_, rfl, by rw [← ew]; exact q _ st⟩
theorem sc_kth : FnScope ["letters", "machine", "place", "rows", "length", "row"] ["letters", "machine", "place"] (defScope s_kth) := ⟨rfl, rfl, rfl, by decide +kernel, rfl, by decide +kernel, by decide +kernel⟩
theorem ok_kth {f : Addr} {fd : FuncData} (F : Fun K "kth" "kth" s_kth f fd) (T : Bt mg) (C : Cl K mg aHallError aBadWord aBadSize aBadNumber aBadMachine aTooMany aTooGreat aNotLeast aNoWord) (Dcount_rows : DefG P w K mg base CX0 1 "count_rows" ["machine", "length"] (spCountRows)) (Dword_at : DefG P w K mg base CX0 1 "word_at" ["letters", "machine", "rows", "length", "place"] (spWordAt)) : FnG P w K mg base (L2.CX P w) 2 f fd ["letters", "machine", "place"] (spKth aNoWord) := by
  refine FnG.body F sc_kth (fun vs H Q E h => by first | (obtain ⟨_, rfl, _⟩ := h; rfl) | (obtain ⟨_, _, rfl, _⟩ := h; rfl) | (obtain ⟨_, _, _, rfl, _⟩ := h; rfl) | (obtain ⟨_, _, _, _, rfl, _⟩ := h; rfl) | (obtain ⟨_, _, _, _, _, rfl, _⟩ := h; rfl) | (obtain ⟨_, _, _, _, _, _, rfl, _⟩ := h; rfl) | (obtain ⟨_, _, _, _, _, _, _, rfl, _⟩ := h; rfl) | (obtain ⟨_, _, _, _, _, _, _, _, rfl, _⟩ := h; rfl)) (fun cd A out z H vs Q E hg hr h => ?_)
  have nd := sc_kth.nd
  obtain ⟨l, v, m, p, G, rfl, IL, ok, dm, mo, p0, q, qn⟩ := h
  have n1 := mo.pos
  refine ⟨_, (pss_cons (ps_set (i := 3) nd rfl (by first | exact Or.inl rfl | exact Or.inr rfl) (pe_fn Dcount_rows hg (hr.mono (by decide)) (pa_cons (pv 1) (pa_cons (pe_glob (v := .int 200) rfl T.c_MOST_SIGNS.choose_spec ⟨_, rfl⟩) pa_nil))))
    (pss_cons (ps_for (passes_of rfl) rfl (piEnum K (by rfl) T.m_enumerate (pa_cons (pv 3) pa_nil)) (gT K (n := 2) rfl (pgs_cons (pg_name (i := 4) nd rfl (by first | exact Or.inl rfl | exact Or.inr rfl)) (pgs_cons (pg_name (i := 5) nd rfl (by first | exact Or.inl rfl | exact Or.inr rfl)) pgs_nil)))
    (pss_cons (ps_if (pt_cmpR op_lt (pv 2) (pe_ix (ixL K) (pv 5) pe_int (fun _ _ => rfl)) (nomark _)) (pss_one (ps_ret (pe_fn Dword_at hg (hr.mono (by decide)) (pa_cons (pv 0) (pa_cons (pv 1) (pa_cons (pv 3) (pa_cons (pv 4) (pa_cons (pv 2) pa_nil)))))))) pss_nil)
      (pss_one (ps_aug (i := 2) nd rfl (by first | exact Or.inl rfl | exact Or.inr rfl) (pe_ix (ixL K) (pv 5) pe_int (fun _ _ => rfl)) ip_sub))))
    (pss_one (ps_raise rfl (takes_of rfl rfl rfl rfl) (pmk_own0 PySem.F.excBase_ValueError C.p_NoWord.e C.o_NoWord.g C.o_NoWord.kp (raises_own C.o_NoWord.b C.o_NoWord.t) rfl))))), ?_⟩
  refine ⟨_, rfl, v, 200, m, l.length, G, rfl, ok, dm, mo, IL.six, by omega, fun H1 G1 r1 z1 d1 => ?_⟩
  obtain ⟨ra, xs, rfl, era, dxs⟩ := dp_list d1
  have lxs : xs.length = 201 := by rw [dps_len dxs, List.length_map, rowsOf_len]
  have d1' := d1
  refine ⟨_, rfl, ra, xs, rfl, SqL.of (z1.same _ _ era), ?_⟩
  refine for_it (walk_enum (xs := xs)) (fun i σ H2 => ∃ (p2 : Int) (y4 y5 : Option V), σ = [some (.str (strOf l)), some v, some (.int p2), some (.ref ra), y4, y5] ∧ 0 ≤ p2 ∧ kthW l m p = kthFrom l m (201 - i) i p2 ∧ Step NoS H1 H2)
    ⟨p, none, none, rfl, p0, rfl, Step.refl _ _⟩ (fun i σ H2 _ hP => ?_) (fun i x σ H2 H2' hi hP hy => ?_) (fun σ H2 hP => ?_)
  · obtain ⟨p2, y4, y5, rfl, _, _, st⟩ := hP
    exact SqL.of (st.same _ _ (z1.same _ _ era))
  · obtain ⟨p2, y4, y5, rfl, lo, ek, st⟩ := hP
    obtain ⟨T, xi, xv, rfl, nT, rfl, hxi, hxv⟩ := hy
    cases Option.some.inj hxi
    rw [lxs] at hi
    obtain ⟨rb, e1, e2⟩ := dT_row dxs (rowsOf_at (m := m) (show i ≤ 200 by omega))
    have hxw : xs[i]? = some xv := hxv
    rw [e1] at hxw
    cases Option.some.inj hxw
    have z2 := (z1.step0 st).loc (o := .tup [.int (i : Nat), .ref rb]) nT
    have sT := st.trans (Step.new (o := .tup [.int (i : Nat), .ref rb]) nT)
    refine ⟨T, _, rfl, SqT.of upd_same, rfl, _, _, rfl, _, _, rfl, rfl, ?_⟩
    generalize upd H2 T (.tup [.int (i : Nat), .ref rb]) = H3 at z2 sT
    have er := z2.same _ _ e2
    rw [show 201 - i = (201 - (i + 1)) + 1 by omega, kthFrom] at ek
    refine ⟨_, rfl, .ref rb, rfl, rb, _, 0, .int (cnt m i 0), rfl, rfl, SqL.of er, atI_nat (j := 0) (getI (rowOf_at (by omega))), _, _, rfl, rfl, _, rfl, ite2 (fun h => ?_) (fun h => ?_)⟩
    · have lt := of_decide_eq_true h
      rw [if_pos lt] at ek
      refine ⟨_, rfl, v, rfl, .ref ra, rfl, _, rfl, _, rfl, l, v, .ref ra, m, i, 200, p2, G1, rfl, IL, z2.ok, dp_up dm z1.up, d1', mo, by omega, by omega, lo, lt, fun H4 s4 => ?_⟩
      exact q _ ek _ (z2.step.trans s4)
    · have ge : ¬ p2 < cnt m i 0 := fun w => h (decide_eq_true w)
      rw [if_neg ge] at ek
      refine ⟨_, rfl, .ref rb, rfl, rb, _, 0, .int (cnt m i 0), rfl, rfl, SqL.of er, atI_nat (j := 0) (getI (rowOf_at (by omega))), _, _, rfl, rfl, p2 - cnt m i 0, some (.int (i : Nat)), some (.ref rb), rfl, by omega, ek, sT⟩
  · obtain ⟨p2, y4, y5, rfl, lo, ek, st⟩ := hP
    rw [lxs] at ek
    exact qn ek _ (z1.step.trans st)
theorem sc_next_word : FnScope ["letters", "machine", "word", "ahead"] ["letters", "machine", "word"] (defScope s_next_word) := ⟨rfl, rfl, rfl, by decide +kernel, rfl, by decide +kernel, by decide +kernel⟩
theorem ok_next_word {f : Addr} {fd : FuncData} (F : Fun K "next_word" "next_word" s_next_word f fd) (T : Bt mg) (C : Cl K mg aHallError aBadWord aBadSize aBadNumber aBadMachine aTooMany aTooGreat aNotLeast aNoWord) (Dcount_ahead : DefG P w K mg base CX0 2 "count_ahead" ["letters", "machine", "word"] (spAhead)) (Dis_taken : DefG P w K mg base CX0 4 "is_taken" ["letters", "machine", "word"] (spTaken)) (Dkth : DefG P w K mg base (L2.CX P w) 2 "kth" ["letters", "machine", "place"] (spKth aNoWord)) : FnG P w K mg base (L2.CX P w) 5 f fd ["letters", "machine", "word"] (spNext aNoWord) := by
  refine FnG.body F sc_next_word (fun vs H Q E h => by first | (obtain ⟨_, rfl, _⟩ := h; rfl) | (obtain ⟨_, _, rfl, _⟩ := h; rfl) | (obtain ⟨_, _, _, rfl, _⟩ := h; rfl) | (obtain ⟨_, _, _, _, rfl, _⟩ := h; rfl) | (obtain ⟨_, _, _, _, _, rfl, _⟩ := h; rfl) | (obtain ⟨_, _, _, _, _, _, rfl, _⟩ := h; rfl) | (obtain ⟨_, _, _, _, _, _, _, rfl, _⟩ := h; rfl) | (obtain ⟨_, _, _, _, _, _, _, _, rfl, _⟩ := h; rfl)) (fun cd A out z H vs Q E hg hr h => ?_)
  have nd := sc_next_word.nd
  obtain ⟨l, u, v, m, G, rfl, IL, hu, ul, ok, dm, mo, q, qn⟩ := h
  have a0 := ahdW_nonneg (l := l) (m := m) (w := u)
  refine ⟨_, (pss_cons (ps_set (i := 3) nd rfl (by first | exact Or.inl rfl | exact Or.inr rfl) (pe_fn Dcount_ahead hg (hr.mono (by decide)) (pa_cons (pv 0) (pa_cons (pv 1) (pa_cons (pv 2) pa_nil)))))
    (pss_one (ps_ret (pe_fnW Dkth hg (hr.mono (by decide)) (takes_of rfl rfl rfl rfl) (pa_cons (pv 0) (pa_cons (pv 1) (pa_cons (pe_op op_add (pv 3) (pe_callTy call_int1 (by rfl) T.m_int (by decide +kernel) (pa_cons (pe_fn Dis_taken hg (hr.mono (by decide)) (pa_cons (pv 0) (pa_cons (pv 1) (pa_cons (pv 2) pa_nil)))) pa_nil))) pa_nil))))))), ?_⟩
  refine ⟨_, rfl, v, rfl, _, rfl, l, u, v, m, G, rfl, IL, hu, ul, ok, dm, mo, fun H1 s1 => ?_⟩
  have z1 := ok.fz.step0 s1
  refine ⟨_, rfl, v, rfl, _, rfl, _, rfl, v, rfl, _, rfl, l, u, v, m, G, rfl, IL, hu, by omega, z1.ok, dm, mo, fun H2 s2 => ?_⟩
  have z2 := z1.step0 s2
  refine .inr ⟨_, rfl, _, _, rfl, rfl, l, v, m, _, G, rfl, IL, z2.ok, dm, mo, ?_, fun w e H3 s3 => q w e _ (z2.step.trans s3), fun e H3 s3 => qn e _ (z2.step.trans s3)⟩
  split <;> omega
theorem sc_law_pool : FnScope ["script", "pool", "state", "k", "cell", "step", "one", "two"] ["script"] (defScope s_law_pool) := ⟨rfl, rfl, rfl, by decide +kernel, rfl, by decide +kernel, by decide +kernel⟩
theorem ok_law_pool {f : Addr} {fd : FuncData} (F : Fun K "_law_pool" "_law_pool" s_law_pool f fd) (T : Bt mg) (C : Cl K mg aHallError aBadWord aBadSize aBadNumber aBadMachine aTooMany aTooGreat aNotLeast aNoWord)  : FnG P w K mg base CX0 1 f fd ["script"] (spPool K) := by
  refine FnG.calm F sc_law_pool (fun vs H Q E h => by first | (obtain ⟨_, rfl, _⟩ := h; rfl) | (obtain ⟨_, _, rfl, _⟩ := h; rfl) | (obtain ⟨_, _, _, rfl, _⟩ := h; rfl) | (obtain ⟨_, _, _, _, rfl, _⟩ := h; rfl) | (obtain ⟨_, _, _, _, _, rfl, _⟩ := h; rfl) | (obtain ⟨_, _, _, _, _, _, rfl, _⟩ := h; rfl) | (obtain ⟨_, _, _, _, _, _, _, rfl, _⟩ := h; rfl) | (obtain ⟨_, _, _, _, _, _, _, _, rfl, _⟩ := h; rfl)) (fun cd A out z H vs Q E hg hr h => ?_)
  have nd := sc_law_pool.nd
  obtain ⟨a, ns, rfl, hS, hl, q⟩ := h
  refine ⟨_, (pss_cons (ps_set (i := 1) nd rfl (by first | exact Or.inl rfl | exact Or.inr rfl) (pe_lst pa_nil))
    (pss_cons (ps_set (i := 2) nd rfl (by first | exact Or.inl rfl | exact Or.inr rfl) pe_int)
    (pss_cons (ps_for PassesOwn.never rfl (pi_range1 (by rfl) T.m_range (pa_cons (pe_callB (call_min2 rfl) (by rfl) T.m_min (by decide +kernel) (pa_cons (pe_callB (lenQ K) (by rfl) T.m_len PySem.boot_len (pa_cons (pv 0) pa_nil)) (pa_cons pe_int pa_nil))) pa_nil)) (pg_name (i := 3) nd rfl (by first | exact Or.inl rfl | exact Or.inr rfl))
    (pss_cons (ps_set (i := 4) nd rfl (by first | exact Or.inl rfl | exact Or.inr rfl) (pe_ix (ixL K) (pv 0) (pv 3) (fun _ _ => rfl)))
      (pss_cons (ps_set (i := 2) nd rfl (by first | exact Or.inl rfl | exact Or.inr rfl) (pe_op op_mod (pe_callTy call_int1 (by rfl) T.m_int (by decide +kernel) (pa_cons (pe_op op_add (pe_op op_add (pe_op op_mul (pv 2) pe_int) (pe_op op_mul (pv 4) pe_int)) (pv 3)) pa_nil)) pe_int))
      (pss_one (ps_if (pt_cmpR op_ge (pv 4) (pe_op op_pow pe_int pe_int) (nomark _)) (pss_one (ps_for PassesOwn.never rfl (pi_range1 (by rfl) T.m_range (pa_cons pe_int pa_nil)) (pg_name (i := 5) nd rfl (by first | exact Or.inl rfl | exact Or.inr rfl))
        (pss_cons (ps_if (pt_cmpR op_eq (pv 4) pe_int (nomark _)) (pss_one ps_break) pss_nil)
          (pss_cons (ps_expr (pe_bm PySem.F.plainAttrs_list PySem.F.slot_list_append PySem.F.type_list_append mt_append (pv 1) (pa_cons (pe_op op_mod (pe_callTy call_int1 (by rfl) T.m_int (by decide +kernel) (pa_cons (pv 4) pa_nil)) pe_int) pa_nil)))
          (pss_one (ps_set (i := 4) nd rfl (by first | exact Or.inl rfl | exact Or.inr rfl) (pe_op op_fdiv (pv 4) pe_int))))))) (pss_cons (ps_set (i := 6) nd rfl (by first | exact Or.inl rfl | exact Or.inr rfl) (pe_op op_mod (pe_callTy call_int1 (by rfl) T.m_int (by decide +kernel) (pa_cons (pe_op op_add (pe_op op_add (pe_op op_mul (pv 4) pe_int) (pe_op op_mul (pv 3) pe_int)) pe_int) pa_nil)) pe_int))
        (pss_cons (ps_set (i := 7) nd rfl (by first | exact Or.inl rfl | exact Or.inr rfl) (pe_op op_mod (pe_callTy call_int1 (by rfl) T.m_int (by decide +kernel) (pa_cons (pe_op op_add (pe_op op_add (pe_op op_mul (pv 6) pe_int) (pe_op op_mul (pv 4) pe_int)) (pv 3)) pa_nil)) pe_int))
        (pss_one (ps_set (i := 1) nd rfl (by first | exact Or.inl rfl | exact Or.inr rfl) (pe_op op_cat (pv 1) (pe_lst (pa_cons (pe_op op_mod (pe_callTy call_int1 (by rfl) T.m_int (by decide +kernel) (pa_cons (pe_op op_fdiv (pv 6) pe_int) pa_nil)) pe_int) (pa_cons (pe_op op_mod (pe_callTy call_int1 (by rfl) T.m_int (by decide +kernel) (pa_cons (pv 7) pa_nil)) pe_int) pa_nil)))))))))))))
    (pss_cons (ps_for PassesOwn.never rfl (pi_range1 (by rfl) T.m_range (pa_cons pe_int pa_nil)) (pg_name (i := 5) nd rfl (by first | exact Or.inl rfl | exact Or.inr rfl))
    (pss_cons (ps_set (i := 2) nd rfl (by first | exact Or.inl rfl | exact Or.inr rfl) (pe_op op_mod (pe_callTy call_int1 (by rfl) T.m_int (by decide +kernel) (pa_cons (pe_op op_add (pe_op op_mul (pv 2) pe_int) pe_int) pa_nil)) pe_int))
      (pss_one (ps_expr (pe_bm PySem.F.plainAttrs_list PySem.F.slot_list_append PySem.F.type_list_append mt_append (pv 1) (pa_cons (pe_op op_mod (pe_callTy call_int1 (by rfl) T.m_int (by decide +kernel) (pa_cons (pe_op op_fdiv (pv 2) pe_int) pa_nil)) pe_int) pa_nil))))))
    (pss_one (ps_ret (pv 1))))))), ?_⟩
  refine ⟨Nat.zero_le _, fun p0 n0 => ?_⟩
  refine ⟨.ref a, rfl, a, _, rfl, .inl ((same_new (Same.refl H) n0).seq hS), _, _, rfl, _, rfl, ?_, ?_, ?_⟩
  · split <;> omega
  · split <;> omega
  refine for_range (lo := 0) (fun i σ H1 => ∃ (p : Addr) (ps : List Int) (st : Int) (y3 y4 y5 y6 y7 : Option V), σ = [some (.ref a), some (.ref p), some (.int st), y3, y4, y5, y6, y7] ∧ Step NoS H H1 ∧ H p = none ∧ H1 p = some (.lst (ps.map V.int)) ∧ ps.length ≤ 60 * i ∧ ∀ x ∈ ps, 0 ≤ x ∧ x < 60)
    ⟨p0, [], 17, none, none, none, none, none, rfl, Step.new n0, n0, upd_same, Nat.le_refl _, fun _ z => nomatch z⟩ (fun i σ H1 hi hp => ?_) (fun σ H1 hp => ?_)
  · obtain ⟨p, ps, st, y3, y4, y5, y6, y7, rfl, sm, fp, hp, lp, bp⟩ := hp
    have hi' : (0 + (i : Int)) < ns.length := by
      rw [List.length_map] at hi
      split at hi <;> omega
    have hi63 : i < 63 := by
      rw [List.length_map] at hi
      split at hi <;> omega
    obtain ⟨cell, hc⟩ := exists_at (xs := ns) (show (0 : Int) ≤ 0 + (i : Int) by omega) hi'
    -- cell = script[k]
    refine ⟨.ref a, rfl, _, rfl, a, _, _, .int cell, rfl, rfl, sm.same.seq hS, atI_of (by omega) (getI hc), ?_⟩
    -- state = ..
    refine ⟨_, rfl, _, _, rfl, rfl, .inr ⟨by decide, by decide⟩, _, rfl, _, _, rfl, rfl, .inr ⟨by decide, by decide⟩, _, _, rfl, rfl, _, rfl, _, _, rfl, rfl, .inl ⟨_, rfl, _, _, rfl, rfl, by omega, ?_⟩⟩
    -- if cell >= 10 ** 18
    refine ⟨_, rfl, _, _, rfl, rfl, ⟨by decide, by decide, by decide⟩, _, _, rfl, rfl, _, rfl, ite2 (fun _ => ?_) (fun _ => ?_)⟩
    · refine ⟨60, rfl, by decide, by decide, ?_⟩
      refine for_range (lo := 0) (n := 60) (fun j σ H2 => ∃ (ps : List Int) (st c : Int) (y5 : Option V), σ = [some (.ref a), some (.ref p), some (.int st), some (.int (0 + (i : Int))), some (.int c), y5, y6, y7] ∧ Step NoS H H2 ∧ H2 p = some (.lst (ps.map V.int)) ∧ ps.length ≤ 60 * i + j ∧ ∀ x ∈ ps, 0 ≤ x ∧ x < 60)
        ⟨ps, _, cell, y5, rfl, sm, hp, lp, bp⟩ (fun j σ H2 hj hq => ?_) (fun σ H2 hq => ?_)
      · obtain ⟨ps, st, c, y5, rfl, sm, hp, lp, bp⟩ := hq
        refine ⟨_, rfl, rfl, _, rfl, ite2 (fun _ => ?_) (fun _ => ?_)⟩
        · exact ⟨p, ps, st, _, _, _, _, _, rfl, sm, fp, hp, by omega, bp⟩
        · refine ⟨.ref p, rfl, .inl ⟨rfl, _, SqL.of hp⟩, _, rfl, .inl ⟨_, rfl, _, _, rfl, rfl, by omega, p, _, _, rfl, rfl, hp, szl (by rw [List.length_map]; omega), ?_⟩⟩
          refine ⟨_, rfl, _, _, rfl, rfl, ⟨by decide, by decide⟩, ps ++ [c % 60], st, _, _, rfl, sm.own fp, ?_, ?_, all_snoc bp small60⟩
          · rw [upd_same, List.map_append]; rfl
          · rw [List.length_append]; show ps.length + 1 ≤ _; omega
      · obtain ⟨ps, st, c, y5, rfl, sm, hp, lp, bp⟩ := hq
        exact ⟨p, ps, st, _, _, _, _, _, rfl, sm, fp, hp, by omega, bp⟩
    · -- one, two
      refine ⟨_, rfl, _, _, rfl, rfl, .inr ⟨by decide, by decide⟩, _, rfl, _, _, rfl, rfl, .inr ⟨by decide, by decide⟩, _, _, rfl, rfl, _, _, rfl, rfl, .inl ⟨_, rfl, _, _, rfl, rfl, by omega, ?_⟩⟩
      refine ⟨_, rfl, _, _, rfl, rfl, .inr ⟨by decide, by decide⟩, _, rfl, _, _, rfl, rfl, .inr ⟨by decide, by decide⟩, _, _, rfl, rfl, _, rfl, _, _, rfl, rfl, .inl ⟨_, rfl, _, _, rfl, rfl, by omega, ?_⟩⟩
      refine ⟨.ref p, rfl, _, rfl, _, _, rfl, rfl, ⟨by decide, by decide⟩, .inl ⟨_, rfl, _, _, rfl, rfl, by omega, _, rfl, .inl ⟨_, rfl, _, _, rfl, rfl, by omega, by show 2 ≤ sizeLine; decide, fun b nb => ?_⟩⟩⟩
      have hpb : p ≠ b := ne_of_none hp nb
      refine ⟨p, b, _, _, rfl, rfl, (by rw [upd_ne hpb]; exact hp), upd_same, sz (by rw [List.length_map]; show ps.length + 2 ≤ _; omega), fun c nc => ?_⟩
      have nc1 : H1 c = none := by
        by_cases e : c = b
        · rw [e]; exact nb
        · rw [upd_ne e] at nc; exact nc
      refine ⟨c, ps ++ [_, _], _, _, _, _, _, _, rfl, (sm.trans (Step.new nb)).trans (Step.new nc), sm.free nc1, two_more, ?_, snoc2 bp small60 small60⟩
      rw [List.length_append]; show ps.length + 2 ≤ _; omega
  · obtain ⟨p, ps, st, y3, y4, y5, y6, y7, rfl, sm, fp, hp, lp, bp⟩ := hp
    have hk : ps.length ≤ 3780 := by
      refine Nat.le_trans lp ?_
      rw [List.length_map]
      split <;> omega
    refine ⟨300, rfl, by decide, by decide, ?_⟩
    refine for_range (lo := 0) (n := 300) (fun j σ H2 => ∃ (ps : List Int) (st : Int) (y5 : Option V), σ = [some (.ref a), some (.ref p), some (.int st), y3, y4, y5, y6, y7] ∧ Step NoS H H2 ∧ H2 p = some (.lst (ps.map V.int)) ∧ j ≤ ps.length ∧ ps.length ≤ 3780 + j ∧ ∀ x ∈ ps, 0 ≤ x ∧ x < 60)
      ⟨ps, st, y5, rfl, sm, hp, Nat.zero_le _, by omega, bp⟩ (fun j σ H2 hj hq => ?_) (fun σ H2 hq => ?_)
    · obtain ⟨ps, st, y5, rfl, sm, hp, lp1, lp2, bp⟩ := hq
      refine ⟨_, rfl, _, _, rfl, rfl, .inr ⟨by decide, by decide⟩, _, _, rfl, rfl, .inl ⟨_, rfl, _, _, rfl, rfl, by omega, ?_⟩⟩
      refine ⟨.ref p, rfl, .inl ⟨rfl, _, SqL.of hp⟩, _, rfl, _, _, rfl, rfl, ⟨by decide, by decide⟩, .inl ⟨_, rfl, _, _, rfl, rfl, by omega, p, _, _, rfl, rfl, hp, szl (by rw [List.length_map]; omega), ?_⟩⟩
      refine ⟨ps ++ [_], _, _, rfl, sm.own fp, one_more, ?_, ?_, all_snoc bp small60⟩
      · rw [List.length_append]; show _ ≤ ps.length + 1; omega
      · rw [List.length_append]; show ps.length + 1 ≤ _; omega
    · obtain ⟨ps, st, y5, rfl, sm, hp, lp1, lp2, bp⟩ := hq
      exact ⟨.ref p, rfl, q H2 p ps sm fp hp lp1 (by omega) bp⟩
theorem sc_law_stream : FnScope ["script"] ["script"] (defScope s_law_stream) := ⟨rfl, rfl, rfl, by decide +kernel, rfl, by decide +kernel, by decide +kernel⟩
theorem ok_law_stream {f : Addr} {fd : FuncData} (F : Fun K "_law_stream" "_law_stream" s_law_stream f fd) (T : Bt mg) (C : Cl K mg aHallError aBadWord aBadSize aBadNumber aBadMachine aTooMany aTooGreat aNotLeast aNoWord) (D_law_pool : DefG P w K mg base CX0 1 "_law_pool" ["script"] (spPool K)) : FnG P w K mg base CX0 2 f fd ["script"] (spStream K) := by
  refine FnG.calm F sc_law_stream (fun vs H Q E h => by first | (obtain ⟨_, rfl, _⟩ := h; rfl) | (obtain ⟨_, _, rfl, _⟩ := h; rfl) | (obtain ⟨_, _, _, rfl, _⟩ := h; rfl) | (obtain ⟨_, _, _, _, rfl, _⟩ := h; rfl) | (obtain ⟨_, _, _, _, _, rfl, _⟩ := h; rfl) | (obtain ⟨_, _, _, _, _, _, rfl, _⟩ := h; rfl) | (obtain ⟨_, _, _, _, _, _, _, rfl, _⟩ := h; rfl) | (obtain ⟨_, _, _, _, _, _, _, _, rfl, _⟩ := h; rfl)) (fun cd A out z H vs Q E hg hr h => ?_)
  have nd := sc_law_stream.nd
  obtain ⟨a, ns, rfl, hS, hl, q⟩ := h
  refine ⟨_, (pss_one (ps_ret (pe_op op_cat (pe_lst (pa_cons pe_int pa_nil)) (pe_fn D_law_pool hg (hr.mono (by decide)) (pa_cons (pv 0) pa_nil))))), ?_⟩
  refine ⟨by show 1 ≤ sizeLine; decide, fun b nb => ?_⟩
  have s1 : Step NoS H (upd H b (.lst [.int 0])) := Step.new nb
  refine ⟨.ref a, rfl, a, ns, rfl, s1.same.seq hS, hl, fun H2 p ps s2 np hp l1 l2 hb => ?_⟩
  refine ⟨b, p, _, _, rfl, rfl, s2.same _ _ upd_same, hp, sz (by rw [List.length_map]; show 1 + ps.length ≤ _; omega), fun c nc => ?_⟩
  exact q _ c ((s1.trans s2).trans (Step.new nc)) ((s1.trans s2).free nc) ⟨0, ps, upd_same, l1, by omega, by decide, hb⟩
theorem sc_law_pick : FnScope ["pool", "many"] ["pool", "many"] (defScope s_law_pick) := ⟨rfl, rfl, rfl, by decide +kernel, rfl, by decide +kernel, by decide +kernel⟩
theorem ok_law_pick {f : Addr} {fd : FuncData} (F : Fun K "_law_pick" "_law_pick" s_law_pick f fd) (T : Bt mg) (C : Cl K mg aHallError aBadWord aBadSize aBadNumber aBadMachine aTooMany aTooGreat aNotLeast aNoWord)  : FnG P w K mg base CX0 1 f fd ["pool", "many"] (spPick) := by
  refine FnG.calm F sc_law_pick (fun vs H Q E h => by first | (obtain ⟨_, rfl, _⟩ := h; rfl) | (obtain ⟨_, _, rfl, _⟩ := h; rfl) | (obtain ⟨_, _, _, rfl, _⟩ := h; rfl) | (obtain ⟨_, _, _, _, rfl, _⟩ := h; rfl) | (obtain ⟨_, _, _, _, _, rfl, _⟩ := h; rfl) | (obtain ⟨_, _, _, _, _, _, rfl, _⟩ := h; rfl) | (obtain ⟨_, _, _, _, _, _, _, rfl, _⟩ := h; rfl) | (obtain ⟨_, _, _, _, _, _, _, _, rfl, _⟩ := h; rfl)) (fun cd A out z H vs Q E hg hr h => ?_)
  have nd := sc_law_pick.nd
  obtain ⟨pa, n, rfl, ⟨p0, ps, hp, l1, l2, h0, hb⟩, n1, n2, q⟩ := h
  refine ⟨_, (pss_cons (ps_asg (pe_op op_add pe_int (pe_op op_mod (pe_callTy call_int1 (by rfl) T.m_int (by decide +kernel) (pa_cons (pe_ix (ixL K) (pv 0) pe_int (fun _ _ => rfl)) pa_nil)) (pe_op op_sub (pe_callB (lenQ K) (by rfl) T.m_len PySem.boot_len (pa_cons (pv 0) pa_nil)) pe_int))) (pg_sub (pv 0) pe_int set_list))
    (pss_one (ps_ret (pe_op op_mod (pe_callTy call_int1 (by rfl) T.m_int (by decide +kernel) (pa_cons (pe_ix (ixL K) (pv 0) (pe_ix (ixL K) (pv 0) pe_int (fun _ _ => rfl)) (fun _ _ => rfl)) pa_nil)) (pv 1))))), ?_⟩
  have ll : (((p0 :: ps).map V.int).length : Int) - 1 = ps.length := by rw [List.length_map, List.length_cons]; omega
  refine ⟨.ref pa, rfl, pa, _, 0, .int p0, rfl, rfl, SqL.of hp, atI_nat (j := 0) rfl, .inl ⟨_, rfl, .ref pa, rfl, pa, _, rfl, .inl (SqL.of hp), _, _, rfl, rfl, _, _, rfl, rfl, (by rw [ll]; omega), _, _, rfl, rfl, .ref pa, rfl, pa, _, 0, 0, rfl, rfl, hp, ixN_of (k := 0) (by omega) (by rw [List.length_map, List.length_cons]; omega), ?_⟩⟩
  rw [ll]
  have hm1 : 0 ≤ p0 % (ps.length : Int) := Int.emod_nonneg _ (by omega)
  have hm2 : p0 % (ps.length : Int) < ps.length := Int.emod_lt_of_pos _ (by omega)
  obtain ⟨v, hv⟩ := exists_at (xs := ps) hm1 hm2
  have hv2 : ((((p0 :: ps).map V.int).set 0 (.int (1 + p0 % (ps.length : Int)))))[(1 + p0 % (ps.length : Int)).toNat]? = some (.int v) := by
    rw [show (1 + p0 % (ps.length : Int)).toNat = (p0 % (ps.length : Int)).toNat + 1 by omega]
    exact getI hv
  have hvb := hb v (List.mem_of_getElem? hv)
  refine ⟨.ref pa, rfl, .ref pa, rfl, pa, _, 0, .int (1 + p0 % (ps.length : Int)), rfl, rfl, SqL.of upd_same, atI_nat (j := 0) rfl, pa, _, _, .int v, rfl, rfl, SqL.of upd_same, atI_of (by omega) hv2, .inl ⟨_, rfl, _, rfl, _, _, rfl, rfl, by omega, ?_⟩⟩
  refine q _ _ (Int.emod_nonneg _ (by omega)) (Int.emod_lt_of_pos _ (by omega)) ?_ (Step.mut rfl (by rw [hp]; exact fun z => nomatch z)) (Pools.at ⟨_, ps, by rw [upd_same]; rfl, l1, l2, by omega, hb⟩)
  by_cases c : v < n
  · rw [Int.emod_eq_of_lt hvb.1 c]; exact hvb.2
  · have := Int.emod_lt_of_pos v (show (0 : Int) < n by omega)
    omega
theorem sc_law_letters : FnScope ["pool", "most", "many", "signs", "at", "step", "k"] ["pool", "most"] (defScope s_law_letters) := ⟨rfl, rfl, rfl, by decide +kernel, rfl, by decide +kernel, by decide +kernel⟩
-- pre
theorem pick6 {k : Int} (h0 : 0 ≤ k) (h1 : k < 6) : ∃ s : Nat, s ∈ [1, 3, 5, 7, 9, 11] ∧ atI [V.int 1, V.int 3, V.int 5, V.int 7, V.int 9, V.int 11] k = some (.int (s : Nat)) := by
  have h : k = 0 ∨ k = 1 ∨ k = 2 ∨ k = 3 ∨ k = 4 ∨ k = 5 := by omega
  rcases h with rfl | rfl | rfl | rfl | rfl | rfl
  · exact ⟨1, by decide, rfl⟩
  · exact ⟨3, by decide, rfl⟩
  · exact ⟨5, by decide, rfl⟩
  · exact ⟨7, by decide, rfl⟩
  · exact ⟨9, by decide, rfl⟩
  · exact ⟨11, by decide, rfl⟩
def drawnSigns (at_ st m : Nat) : List Nat := (List.range m).map fun k => 97 + (at_ + st * k) % 26
theorem drawn_nodup : ∀ a < 26, ∀ s ∈ [1, 3, 5, 7, 9, 11], ∀ m < 7, (drawnSigns a s m).Nodup := by decide +kernel
theorem drawn_letters {a s m : Nat} (ha : a < 26) (hs : s ∈ [1, 3, 5, 7, 9, 11]) (h1 : 1 ≤ m) (h6 : m ≤ 6) : IsLetters (drawnSigns a s m) where
  pos := by unfold drawnSigns; rw [List.length_map, List.length_range]; omega
  six := by unfold drawnSigns; rw [List.length_map, List.length_range]; omega
  nodup := drawn_nodup a ha s hs m (by omega)
  abc := fun c hc => by
    unfold drawnSigns at hc
    obtain ⟨k, _, rfl⟩ := List.mem_map.mp hc
    have := Nat.mod_lt (a + s * k) (show 26 > 0 by decide)
    omega
theorem abc_at : ∀ j < 26, ("abcdefghijklmnopqrstuvwxyz" : Str).cps.toList[j]? = some (97 + j) := by decide +kernel
theorem ok_law_letters {f : Addr} {fd : FuncData} (F : Fun K "_law_letters" "_law_letters" s_law_letters f fd) (T : Bt mg) (C : Cl K mg aHallError aBadWord aBadSize aBadNumber aBadMachine aTooMany aTooGreat aNotLeast aNoWord) (D_law_pick : DefG P w K mg base CX0 1 "_law_pick" ["pool", "many"] (spPick)) : FnG P w K mg base CX0 2 f fd ["pool", "most"] (spLetters) := by
  refine FnG.calm F sc_law_letters (fun vs H Q E h => by first | (obtain ⟨_, rfl, _⟩ := h; rfl) | (obtain ⟨_, _, rfl, _⟩ := h; rfl) | (obtain ⟨_, _, _, rfl, _⟩ := h; rfl) | (obtain ⟨_, _, _, _, rfl, _⟩ := h; rfl) | (obtain ⟨_, _, _, _, _, rfl, _⟩ := h; rfl) | (obtain ⟨_, _, _, _, _, _, rfl, _⟩ := h; rfl) | (obtain ⟨_, _, _, _, _, _, _, rfl, _⟩ := h; rfl) | (obtain ⟨_, _, _, _, _, _, _, _, rfl, _⟩ := h; rfl)) (fun cd A out z H vs Q E hg hr h => ?_)
  have nd := sc_law_letters.nd
  obtain ⟨pa, n, rfl, po, n1, n6, q⟩ := h
  refine ⟨_, (pss_cons (ps_set (i := 2) nd rfl (by first | exact Or.inl rfl | exact Or.inr rfl) (pe_op op_add pe_int (pe_fn D_law_pick hg (hr.mono (by decide)) (pa_cons (pv 0) (pa_cons (pv 1) pa_nil)))))
    (pss_cons (ps_set (i := 3) nd rfl (by first | exact Or.inl rfl | exact Or.inr rfl) pe_str)
    (pss_cons (ps_asg (pe_tup (pa_cons (pe_fn D_law_pick hg (hr.mono (by decide)) (pa_cons (pv 0) (pa_cons pe_int pa_nil))) (pa_cons (pe_ix (ixL K) (pe_lst (pa_cons pe_int (pa_cons pe_int (pa_cons pe_int (pa_cons pe_int (pa_cons pe_int (pa_cons pe_int pa_nil))))))) (pe_fn D_law_pick hg (hr.mono (by decide)) (pa_cons (pv 0) (pa_cons pe_int pa_nil))) (fun _ _ => rfl)) pa_nil))) (gT K (n := 2) rfl (pgs_cons (pg_name (i := 4) nd rfl (by first | exact Or.inl rfl | exact Or.inr rfl)) (pgs_cons (pg_name (i := 5) nd rfl (by first | exact Or.inl rfl | exact Or.inr rfl)) pgs_nil))))
    (pss_one (ps_ret (joinQ K pe_str (pe_lc (own := [("k", 6)]) (tt := tYes) (g := gName 6) rfl nd (pi_range1 (by rfl) T.m_range (pa_cons (pv 2) pa_nil)) (blkOk_by (by kernel_rfl)) (fun _ _ _ _ _ => (pg_name (i := 6) nd rfl (by first | exact Or.inl rfl | exact Or.inr rfl))) (fun _ _ _ _ _ => pts_nil) (fun _ _ _ _ _ => (pe_ix ix_str (pv 3) (pe_op op_mod (pe_callTy call_int1 (by rfl) T.m_int (by decide +kernel) (pa_cons (pe_op op_add (pv 4) (pe_op op_mul (pv 5) (pv 6))) pa_nil)) pe_int) (fun _ _ => rfl)))))))))), ?_⟩
  refine ⟨.ref pa, rfl, .int n, rfl, pa, n, rfl, po, n1, by omega, fun k1 H1 a1 b1 _ s1 po1 => ⟨_, _, rfl, rfl, ?_⟩⟩
  refine ⟨.ref pa, rfl, pa, 26, rfl, po1.ok, by decide, by decide, fun k2 H2 a2 b2 _ s2 po2 => ?_⟩
  refine ⟨by show 6 ≤ sizeLine; decide, fun p np => ?_⟩
  have hpp : p ≠ pa := fun e => po2.ok.some (e ▸ np)
  refine ⟨.ref pa, rfl, pa, 6, rfl, po2.ok.new np, by decide, by decide, fun k3 H3 a3 b3 _ s3 po3 => ?_⟩
  obtain ⟨st, hst, hat⟩ := pick6 a3 b3
  refine ⟨p, _, _, _, rfl, rfl, SqL.of (s3.keep _ _ hpp upd_same), hat, by show 2 ≤ sizeLine; decide, fun t nt => ?_⟩
  refine ⟨t, _, rfl, SqT.of upd_same, rfl, _, _, rfl, _, _, rfl, rfl, ?_⟩
  have po4 := Pools.new (o := .tup [.int k2, .int (st : Nat)]) po3 nt
  have s4 : Step (At pa) H (upd H3 t (.tup [.int k2, .int (st : Nat)])) := ((s1.trans s2).trans (Step.new np)).trans (s3.trans (Step.new nt))
  generalize upd H3 t (.tup [.int k2, .int (st : Nat)]) = H4 at po4 s4
  obtain ⟨ka, rfl⟩ := Int.eq_ofNat_of_zero_le a2
  obtain ⟨m, hm⟩ : ∃ m : Nat, 1 + k1 = (m : Int) := Int.eq_ofNat_of_zero_le (by omega)
  have hm6 : m ≤ 6 := by omega
  have hka : ka < 26 := by omega
  have LL := drawn_letters hka hst (show 1 ≤ m by omega) hm6
  refine ⟨⟨_, rfl⟩, _, rfl, _, rfl, (by show -(2 ^ 62) ≤ 1 + k1; omega), (by show 1 + k1 < 2 ^ 62; omega), fun D nD => ?_⟩
  have hn : (1 + k1).toNat = m := by omega
  refine lc_range (lo := 0) (n := (1 + k1).toNat) (fun i H' => H' = upd H4 D (.lst (((drawnSigns ka st m).take i).map fun c => V.str (strOf [c])))) (by rw [List.take_zero]; rfl) (fun i H' hi e => ?_) (fun H' e => ?_)
  · subst e
    have hi' : i < m := by omega
    have hlt := Nat.mod_lt (ka + st * i) (show 26 > 0 by decide)
    refine ⟨rfl, ?_⟩
    refine ⟨_, rfl, _, rfl, _, rfl, _, rfl, _, _, rfl, rfl, .inr ⟨by omega, by omega⟩, _, _, rfl, rfl, .inl ⟨_, rfl, _, _, rfl, rfl, by omega, _, _, 97 + (ka + st * i) % 26, rfl, rfl, by decide +kernel, ?_, ?_⟩⟩
    · have e : ((ka : Int) + (st : Int) * (0 + (i : Int))) % 26 = (((ka + st * i) % 26 : Nat) : Int) := by
        rw [Int.zero_add]; push_cast; rfl
      show atI _ (((ka : Int) + (st : Int) * (0 + (i : Int))) % 26) = _
      rw [e]
      exact atI_nat (abc_at _ hlt)
    · refine ⟨_, upd_same, szl (by rw [List.length_map, List.length_take]; omega), ?_⟩
      rw [upd_upd, List.take_add_one, show (drawnSigns ka st m)[i]? = some (97 + (ka + st * i) % 26) by
        unfold drawnSigns; rw [List.getElem?_map, List.getElem?_range hi']; rfl, List.map_append]
      rfl
  · subst e
    have hl : (drawnSigns ka st m).length = m := by unfold drawnSigns; rw [List.length_map, List.length_range]
    rw [hn, List.take_of_length_le (by omega)]
    refine ⟨_, D, (drawnSigns ka st m).map fun c => strOf [c], rfl, rfl, .inl (SqL.of (by rw [upd_same, List.map_map]; rfl)), ?_, ?_⟩
    · rw [sum_ones, List.length_map, hl]
      show m + m * 0 ≤ _
      omega
    · rw [txt_join]
      exact q _ _ LL (by rw [hl]; omega) (s4.trans (Step.new nD)) (po4.new nD)
theorem sc_law_machine : FnScope ["pool", "letters", "most", "many", "table", "sign", "state"] ["pool", "letters", "most"] (defScope s_law_machine) := ⟨rfl, rfl, rfl, by decide +kernel, rfl, by decide +kernel, by decide +kernel⟩
theorem ok_law_machine {f : Addr} {fd : FuncData} (F : Fun K "_law_machine" "_law_machine" s_law_machine f fd) (T : Bt mg) (C : Cl K mg aHallError aBadWord aBadSize aBadNumber aBadMachine aTooMany aTooGreat aNotLeast aNoWord) (D_law_pick : DefG P w K mg base CX0 1 "_law_pick" ["pool", "many"] (spPick)) : FnG P w K mg base CX0 2 f fd ["pool", "letters", "most"] (spMachine K) := by
  refine FnG.calm F sc_law_machine (fun vs H Q E h => by first | (obtain ⟨_, rfl, _⟩ := h; rfl) | (obtain ⟨_, _, rfl, _⟩ := h; rfl) | (obtain ⟨_, _, _, rfl, _⟩ := h; rfl) | (obtain ⟨_, _, _, _, rfl, _⟩ := h; rfl) | (obtain ⟨_, _, _, _, _, rfl, _⟩ := h; rfl) | (obtain ⟨_, _, _, _, _, _, rfl, _⟩ := h; rfl) | (obtain ⟨_, _, _, _, _, _, _, rfl, _⟩ := h; rfl) | (obtain ⟨_, _, _, _, _, _, _, _, rfl, _⟩ := h; rfl)) (fun cd A out z H vs Q E hg hr h => ?_)
  have nd := sc_law_machine.nd
  obtain ⟨pa, l, n, G, rfl, IL, n1, n60, ok, q⟩ := h
  have l6 := IL.six
  refine ⟨_, (pss_cons (ps_set (i := 3) nd rfl (by first | exact Or.inl rfl | exact Or.inr rfl) (pe_op op_add pe_int (pe_fn D_law_pick hg (hr.mono (by decide)) (pa_cons (pv 0) (pa_cons (pv 2) pa_nil)))))
    (pss_cons (ps_setLc (i := 4) (own := [("state", 6)]) (tt := tYes) (g := gName 6) rfl nd rfl rfl (sw_true rfl rfl rfl (by decide +kernel)) (pi_range1 (by rfl) T.m_range (pa_cons (pv 3) pa_nil)) (blkOk_by (by kernel_rfl)) (fun _ _ _ _ _ => (pg_name (i := 6) nd rfl (by first | exact Or.inl rfl | exact Or.inr rfl))) (fun _ _ _ _ _ => pts_nil) (fun _ _ _ _ _ => (pe_lc (own := [("sign", 5)]) (tt := tYes) (g := gName 5) rfl nd (pi_str (pv 1)) (blkOk_by (by kernel_rfl)) (fun _ _ _ _ _ => (pg_name (i := 5) nd rfl (by first | exact Or.inl rfl | exact Or.inr rfl))) (fun _ _ _ _ _ => pts_nil) (fun _ _ _ _ _ => (pe_fn D_law_pick hg (hr.mono (by decide)) (pa_cons (pv 0) (pa_cons (pv 3) pa_nil)))))))
    (pss_one (ps_ret (pe_tup (pa_cons (pv 4) (pa_cons (pe_lc (own := [("state", 6)]) (tt := tYes) (g := gName 6) rfl nd (pi_range1 (by rfl) T.m_range (pa_cons (pv 3) pa_nil)) (blkOk_by (by kernel_rfl)) (fun _ _ _ _ _ => (pg_name (i := 6) nd rfl (by first | exact Or.inl rfl | exact Or.inr rfl))) (fun _ _ _ _ _ => pts_nil) (fun _ _ _ _ _ => (pe_cmpR op_eq (pe_fn D_law_pick hg (hr.mono (by decide)) (pa_cons (pv 0) (pa_cons pe_int pa_nil))) pe_int (nomark _)))) pa_nil))))))), ?_⟩
  refine ⟨.ref pa, rfl, _, rfl, pa, n, rfl, ok.pool, by omega, by omega, fun k1 H1 a1 b1 _ s1 po1 => ⟨_, _, rfl, rfl, ?_⟩⟩
  have z1 := ok.fz.stepS s1 po1
  obtain ⟨m, hm⟩ : ∃ m : Nat, 1 + k1 = (m : Int) := Int.eq_ofNat_of_zero_le (by omega)
  have m1 : 1 ≤ m := by omega
  have mn : m ≤ n := by omega
  have tn : (1 + k1).toNat = m := by omega
  -- the table
  refine ⟨_, rfl, _, rfl, by show -(2 ^ 62) ≤ 1 + k1; omega, by show 1 + k1 < 2 ^ 62; omega, fun D nD => ?_⟩
  rw [tn]
  refine lc_draw (R := fun _ d => ∃ r : List Int, d = DI r ∧ (r.length = l.length ∧ ∀ t ∈ r, 0 ≤ t ∧ t < m)) walkR (by rw [lenR]; omega) z1.ok nD (fun _ _ => trivial) (fun i x H2 G2 N hx hi z2 fin => ?_) (fun H2 G2 ds z2 dp2 _ hl hR => ?_)
  · refine ⟨rfl, ?_⟩
    refine ⟨_, rfl, _, rfl, fun D2 nD2 => ?_⟩
    refine lc_draw (R := fun _ d => ∃ k : Int, d = .int k ∧ (0 ≤ k ∧ k < m)) walkS (by rw [lenS]; omega) z2.ok nD2 (fun _ _ => trivial) (fun j y H3 G3 N3 hy hj z3 fin3 => ?_) (fun H3 G3 ds z3 dp3 _ hl hR => ?_)
    · refine ⟨rfl, ?_⟩
      refine ⟨.ref pa, rfl, _, rfl, pa, 1 + k1, rfl, z3.pool, by omega, by omega, fun k H4 a b _ s4 po4 => ?_⟩
      exact fin3 _ H4 G3 (.int k) (z3.ok.fz.stepS s4 po4) (.int k) ⟨k, rfl, a, by omega⟩
    · obtain ⟨r, rfl, e2, e3⟩ := data_of hR
      exact fin _ H3 G3 (DI r) z3 dp3 ⟨r, rfl, by rw [e2, hl, lenS], e3⟩
  obtain ⟨t, rfl, tl, hrow⟩ := data_of hR
  rw [hl, lenR] at tl
  -- the ends
  refine ⟨_, rfl, _, rfl, _, rfl, by show -(2 ^ 62) ≤ 1 + k1; omega, by show 1 + k1 < 2 ^ 62; omega, fun D3 nD3 => ?_⟩
  rw [tn]
  refine lc_draw (R := fun _ d => ∃ b : Bool, d = .bool b ∧ True) walkR (by rw [lenR]; omega) z2.ok nD3 (fun _ _ => trivial) (fun i x H4 G4 N hx hi z4 fin => ?_) (fun H4 G4 ds z4 dp4 _ hl hR => ?_)
  · refine ⟨rfl, ?_⟩
    refine ⟨.ref pa, rfl, pa, 3, rfl, z4.pool, by decide, by decide, fun k H5 a b _ s5 po5 => ?_⟩
    refine ⟨rfl, ?_⟩
    exact fin _ H5 G4 (.bool _) (z4.ok.fz.stepS s5 po5) (.bl _) ⟨_, rfl, trivial⟩
  obtain ⟨es, rfl, el, _⟩ := data_of hR
  rw [hl, lenR] at el
  refine ⟨by show 2 ≤ sizeLine; decide, fun t0 nt => ?_⟩
  have z5 := z4.ok.fz.new (o := .tup [.ref D, .ref D3]) nt
  have sG := same_sub (o := .tup [.ref D, .ref D3]) (free_of z4.same nt)
  exact q _ _ _ ⟨t, es⟩ (((z1.trans z2).trans z4).trans z5) (Mdp upd_same (dp_up dp2 (z4.up.trans sG)) (dp_up dp4 sG)) ⟨by rw [el, tl], by rw [tl]; exact m1, by rw [tl]; omega, fun r hr => (hrow r hr).1, fun r hr x hx => by rw [tl]; exact (hrow r hr).2 x hx⟩ (by show t.length ≤ n; omega)
theorem sc_law_blocks : FnScope ["pool", "letters", "blocks", "wide", "sizes", "k", "size", "dead", "table", "first", "goes_round", "row", "sign", "ends", "state"] ["pool", "letters", "blocks", "wide"] (defScope s_law_blocks) := ⟨rfl, rfl, rfl, by decide +kernel, rfl, by decide +kernel, by decide +kernel⟩
-- pre
/-- the blocks' table so far: cnt rows at pt -/
structure BlkHP (K : PySem.W.Frag) (pa p1 pt : Addr) (H0 G0 : Hp) (ss : List Int) (k : Nat) (cnt : Int) (H G : Hp) (tbl : List (List Int)) (acc : List V) : Prop where
  z : Fz (At pa) H0 G0 H G
  e1 : H p1 = some (.lst (ss.map V.int))
  g1 : G p1 = none
  n1 : ¬ At pa p1
  et : H pt = some (.lst acc)
  gt : G pt = none
  nt : ¬ At pa pt
  dp : DqAll G acc (tbl.map DI)
  len : (tbl.length : Int) = cnt
  rows : ∀ r ∈ tbl, r.length = k ∧ ∀ t ∈ r, 0 ≤ t ∧ t ≤ ss.sum
section
variable {pa p1 pt D : Addr} {H0 G0 H G H' G' : Hp} {ss : List Int} {k : Nat} {cnt : Int} {tbl : List (List Int)} {acc : List V}
theorem BlkHP.accl (b : BlkHP K pa p1 pt H0 G0 ss k cnt H G tbl acc) : (acc.length : Int) = cnt := by rw [dps_len b.dp, List.length_map]; exact b.len
theorem BlkHP.go (b : BlkHP K pa p1 pt H0 G0 ss k cnt H G tbl acc) (y : Fz (At pa) H G H' G') : BlkHP K pa p1 pt H0 G0 ss k cnt H' G' tbl acc where
  z := b.z.trans y
  e1 := y.step.own_stays b.n1 b.e1
  g1 := y.grow.out b.g1 b.e1
  n1 := b.n1
  et := y.step.own_stays b.nt b.et
  gt := y.grow.out b.gt b.et
  nt := b.nt
  dp := dps_up b.dp y.up
  len := b.len
  rows := b.rows
/-- a row more -/
theorem BlkHP.add {ns : List Int} (b : BlkHP K pa p1 pt H0 G0 ss k cnt H G tbl acc) (ht0 : H0 pt = none) (hD0 : H0 D = none) (nD : ¬ At pa D) (gD : G D = none) (d1 : D ≠ p1) (dt : D ≠ pt) (t1 : p1 ≠ pt)
    (eD : H D = some (.lst (ns.map V.int))) (hl : ns.length = k) (hb : ∀ t ∈ ns, 0 ≤ t ∧ t ≤ ss.sum) :
    BlkHP K pa p1 pt H0 G0 ss k (cnt + 1) (upd H pt (.lst (acc ++ [.ref D]))) (upd G D (.lst (ns.map V.int))) (tbl ++ [ns]) (acc ++ [.ref D]) where
  z := (b.z.fix hD0 eD nD).put ht0 (by rw [upd_ne dt.symm]; exact b.gt) b.nt
  e1 := by rw [upd_ne t1]; exact b.e1
  g1 := by rw [upd_ne d1.symm]; exact b.g1
  n1 := b.n1
  et := upd_same
  gt := by rw [upd_ne dt.symm]; exact b.gt
  nt := b.nt
  dp := by
    rw [List.map_append]
    exact dps_snoc (dps_up b.dp (same_sub gD)) (Idp upd_same)
  len := by rw [List.length_append]; have := b.len; show ((tbl.length + 1 : Nat) : Int) = _; omega
  rows := fun r hr => by
    rcases List.mem_append.mp hr with h | h
    · exact b.rows r h
    · rw [List.mem_singleton.mp h]; exact ⟨hl, hb⟩
end
theorem ok_law_blocks {f : Addr} {fd : FuncData} (F : Fun K "_law_blocks" "_law_blocks" s_law_blocks f fd) (T : Bt mg) (C : Cl K mg aHallError aBadWord aBadSize aBadNumber aBadMachine aTooMany aTooGreat aNotLeast aNoWord) (D_law_pick : DefG P w K mg base CX0 1 "_law_pick" ["pool", "many"] (spPick)) : FnG P w K mg base CX0 2 f fd ["pool", "letters", "blocks", "wide"] (spBlocks K) := by
  refine FnG.calm F sc_law_blocks (fun vs H Q E h => by first | (obtain ⟨_, rfl, _⟩ := h; rfl) | (obtain ⟨_, _, rfl, _⟩ := h; rfl) | (obtain ⟨_, _, _, rfl, _⟩ := h; rfl) | (obtain ⟨_, _, _, _, rfl, _⟩ := h; rfl) | (obtain ⟨_, _, _, _, _, rfl, _⟩ := h; rfl) | (obtain ⟨_, _, _, _, _, _, rfl, _⟩ := h; rfl) | (obtain ⟨_, _, _, _, _, _, _, rfl, _⟩ := h; rfl) | (obtain ⟨_, _, _, _, _, _, _, _, rfl, _⟩ := h; rfl)) (fun cd A out z H vs Q E hg hr h => ?_)
  have nd := sc_law_blocks.nd
  obtain ⟨pa, l, nb, nw, G, rfl, IL, b1, b2, w1, w2, ok, q⟩ := h
  have l6 := IL.six
  have l1 := IL.pos
  refine ⟨_, (pss_cons (ps_set (i := 4) nd rfl (by first | exact Or.inl rfl | exact Or.inr rfl) (pe_lst pa_nil))
    (pss_cons (ps_for PassesOwn.never rfl (pi_range1 (by rfl) T.m_range (pa_cons (pe_op op_add pe_int (pe_fn D_law_pick hg (hr.mono (by decide)) (pa_cons (pv 0) (pa_cons (pv 2) pa_nil)))) pa_nil)) (pg_name (i := 5) nd rfl (by first | exact Or.inl rfl | exact Or.inr rfl))
    (pss_cons (ps_set (i := 6) nd rfl (by first | exact Or.inl rfl | exact Or.inr rfl) (pe_op op_add pe_int (pe_fn D_law_pick hg (hr.mono (by decide)) (pa_cons (pv 0) (pa_cons (pv 3) pa_nil)))))
      (pss_one (ps_if (pt_cmpR op_lt (pe_op op_add (pe_callB (sumQ K rfl) (by rfl) T.m_sum (by decide +kernel) (pa_cons (pv 4) pa_nil)) (pv 6)) pe_int (nomark _)) (pss_one (ps_expr (pe_bm PySem.F.plainAttrs_list PySem.F.slot_list_append PySem.F.type_list_append mt_append (pv 4) (pa_cons (pv 6) pa_nil)))) pss_nil))))
    (pss_cons (ps_set (i := 7) nd rfl (by first | exact Or.inl rfl | exact Or.inr rfl) (pe_callB (sumQ K rfl) (by rfl) T.m_sum (by decide +kernel) (pa_cons (pv 4) pa_nil)))
    (pss_cons (ps_set (i := 8) nd rfl (by first | exact Or.inl rfl | exact Or.inr rfl) (pe_lst pa_nil))
    (pss_cons (ps_for PassesOwn.never rfl (piL K (pv 4)) (pg_name (i := 6) nd rfl (by first | exact Or.inl rfl | exact Or.inr rfl))
    (pss_cons (ps_set (i := 9) nd rfl (by first | exact Or.inl rfl | exact Or.inr rfl) (pe_callB (lenQ K) (by rfl) T.m_len PySem.boot_len (pa_cons (pv 8) pa_nil)))
      (pss_cons (ps_set (i := 10) nd rfl (by first | exact Or.inl rfl | exact Or.inr rfl) (pe_cmpR op_gt (pe_fn D_law_pick hg (hr.mono (by decide)) (pa_cons (pv 0) (pa_cons pe_int pa_nil))) pe_int (nomark _)))
      (pss_one (ps_for PassesOwn.never rfl (pi_range1 (by rfl) T.m_range (pa_cons (pv 6) pa_nil)) (pg_name (i := 5) nd rfl (by first | exact Or.inl rfl | exact Or.inr rfl))
      (pss_cons (ps_setLc (i := 11) (own := [("sign", 12)]) (tt := tYes) (g := gName 12) rfl nd rfl rfl (sw_true rfl rfl rfl (by decide +kernel)) (pi_str (pv 1)) (blkOk_by (by kernel_rfl)) (fun _ _ _ _ _ => (pg_name (i := 12) nd rfl (by first | exact Or.inl rfl | exact Or.inr rfl))) (fun _ _ _ _ _ => pts_nil) (fun _ _ _ _ _ => (pe_op op_add (pe_op op_add (pv 9) (pv 6)) (pe_fn D_law_pick hg (hr.mono (by decide)) (pa_cons (pv 0) (pa_cons (pe_op op_sub (pe_op op_sub (pe_op op_add (pv 7) pe_int) (pv 9)) (pv 6)) pa_nil))))))
        (pss_cons (ps_if (PW.pt (pw_or (pt_val (pv 10)) (pw_or1 (pt_cmpR op_lt (pv 5) (pe_op op_sub (pv 6) pe_int) (nomark _))))) (pss_one (ps_asg (pe_op op_add (pv 9) (pe_op op_mod (pe_callTy call_int1 (by rfl) T.m_int (by decide +kernel) (pa_cons (pe_op op_add (pv 5) pe_int) pa_nil)) (pv 6))) (pg_sub (pv 11) (pe_fn D_law_pick hg (hr.mono (by decide)) (pa_cons (pv 0) (pa_cons (pe_callB call_len_str (by rfl) T.m_len PySem.boot_len (pa_cons (pv 1) pa_nil)) pa_nil))) set_list))) pss_nil)
        (pss_one (ps_expr (pe_bm PySem.F.plainAttrs_list PySem.F.slot_list_append PySem.F.type_list_append mt_append (pv 8) (pa_cons (pv 11) pa_nil)))))))))))
    (pss_cons (ps_expr (pe_bm PySem.F.plainAttrs_list PySem.F.slot_list_append PySem.F.type_list_append mt_append (pv 8) (pa_cons (pe_lc (own := [("sign", 12)]) (tt := tYes) (g := gName 12) rfl nd (pi_str (pv 1)) (blkOk_by (by kernel_rfl)) (fun _ _ _ _ _ => (pg_name (i := 12) nd rfl (by first | exact Or.inl rfl | exact Or.inr rfl))) (fun _ _ _ _ _ => pts_nil) (fun _ _ _ _ _ => (pv 7))) pa_nil)))
    (pss_cons (ps_set (i := 13) nd rfl (by first | exact Or.inl rfl | exact Or.inr rfl) (pe_op op_cat (pe_lc (own := [("state", 14)]) (tt := tYes) (g := gName 14) rfl nd (pi_range1 (by rfl) T.m_range (pa_cons (pv 7) pa_nil)) (blkOk_by (by kernel_rfl)) (fun _ _ _ _ _ => (pg_name (i := 14) nd rfl (by first | exact Or.inl rfl | exact Or.inr rfl))) (fun _ _ _ _ _ => pts_nil) (fun _ _ _ _ _ => (pe_cmpR op_eq (pe_fn D_law_pick hg (hr.mono (by decide)) (pa_cons (pv 0) (pa_cons pe_int pa_nil))) pe_int (nomark _)))) (pe_lst (pa_cons pe_bl pa_nil))))
    (pss_cons (ps_asg (pe_cmpR op_gt (pe_fn D_law_pick hg (hr.mono (by decide)) (pa_cons (pv 0) (pa_cons pe_int pa_nil))) pe_int (nomark _)) (pg_sub (pv 13) (pe_op op_sub (pv 7) pe_int) set_list))
    (pss_one (ps_ret (pe_tup (pa_cons (pv 8) (pa_cons (pv 13) pa_nil))))))))))))), ?_⟩
  -- sizes
  refine ⟨Nat.zero_le _, fun p1 np1 => ?_⟩
  have z0 := ok.fz.loc (o := .lst []) np1
  have gp1 : G p1 = none := free_of ok.same np1
  have sp1 : ¬ (At pa) p1 := ok.ne np1
  refine ⟨.ref pa, rfl, .int nb, rfl, pa, nb, rfl, z0.pool, by omega, by omega, fun k1 H1 a1 c1 _ s1 po1 => ⟨_, _, rfl, rfl, _, rfl, by show -(2 ^ 62) ≤ 1 + k1; omega, by show 1 + k1 < 2 ^ 62; omega, ?_⟩⟩
  refine for_range (lo := 0) (fun i σ H2 => ∃ (ss : List Int) (y5 y6 : Option V), σ = [some (.ref pa), some (.str (strOf l)), some (.int nb), some (.int nw), some (.ref p1), y5, y6, none, none, none, none, none, none, none, none] ∧ Fz (At pa) H G H2 G ∧ H2 p1 = some (.lst (ss.map V.int)) ∧ (∀ x ∈ ss, 1 ≤ x) ∧ 0 ≤ ss.sum ∧ ss.sum < 60 ∧ (0 < i → 1 ≤ ss.sum) ∧ ss.length ≤ i)
    ⟨[], none, none, rfl, z0.stepS s1 po1, s1.own_stays sp1 upd_same, (fun _ h => nomatch h), by decide, by decide, (fun h => absurd h (by decide)), Nat.le_refl _⟩ (fun i σ H2 hi hP => ?_) (fun σ H2 hP => ?_)
  · obtain ⟨ss, y5, y6, rfl, z2, e2, hp, s0, s60, _, sl⟩ := hP
    refine ⟨.ref pa, rfl, .int nw, rfl, pa, nw, rfl, z2.pool, by omega, by omega, fun k H3 a b _ s3 po3 => ⟨_, _, rfl, rfl, ?_⟩⟩
    have z3 := z2.stepS s3 po3
    have e3 := s3.own_stays sp1 e2
    refine ⟨.ref p1, rfl, p1, ss, rfl, SqL.of e3, _, rfl, _, _, rfl, rfl, _, _, rfl, rfl, _, rfl, ite2 (fun c => ?_) (fun c => ?_)⟩
    · have c' : ss.sum + (1 + k) < 60 := of_decide_eq_true c
      refine ⟨.ref p1, rfl, .inl ⟨rfl, _, SqL.of e3⟩, _, rfl, p1, _, _, rfl, rfl, e3, szl (by rw [List.length_map]; omega), ?_⟩
      have es : (ss ++ [1 + k]).sum = ss.sum + (1 + k) := by rw [List.sum_append]; show _ + (1 + k + 0) = _; omega
      exact ⟨ss ++ [1 + k], _, _, rfl, z3.put np1 gp1 sp1, one_more, all_snoc hp (by omega), by omega, by omega, fun _ => by omega, by rw [List.length_append]; show ss.length + 1 ≤ _; omega⟩
    · have c' : ¬ (ss.sum + (1 + k) < 60) := fun z => c (decide_eq_true z)
      exact ⟨ss, _, _, rfl, z3, e3, hp, s0, s60, fun _ => by omega, by omega⟩
  obtain ⟨ss, y5, y6, rfl, z2, e2, hp, s0, s60, s1', sl⟩ := hP
  have s1 : 1 ≤ ss.sum := s1' (by omega)
  refine ⟨.ref p1, rfl, p1, ss, rfl, SqL.of e2, ?_⟩
  -- the table
  refine ⟨Nat.zero_le _, fun pt npt => ?_⟩
  have npt0 : H pt = none := z2.step.free npt
  have d1t : p1 ≠ pt := ne_of_none e2 npt
  have e2' : upd H2 pt (.lst []) p1 = some (.lst (ss.map V.int)) := by rw [upd_ne d1t]; exact e2
  refine ⟨.ref p1, rfl, p1, rfl, ⟨_, SqL.of e2'⟩, ?_⟩
  refine for_it (walk_list (xs := ss.map V.int)) (fun i σ H3 => ∃ (G3 : Hp) (tbl : List (List Int)) (acc : List V) (y5 y6 y9 y10 y11 : Option V), σ = [some (.ref pa), some (.str (strOf l)), some (.int nb), some (.int nw), some (.ref p1), y5, y6, some (.int ss.sum), some (.ref pt), y9, y10, y11, none, none, none] ∧ BlkHP K pa p1 pt H G ss l.length (ss.take i).sum H3 G3 tbl acc)
    ⟨G, [], [], y5, y6, none, none, none, rfl, ⟨z2.loc npt, e2', gp1, sp1, upd_same, free_of ok.same npt0, ok.ne npt0, .nil, rfl, (fun _ h => nomatch h)⟩⟩ (fun i σ H3 hi hP => ?_) (fun i x σ H3 H3' hi hP hy => ?_) (fun σ H3 hP => ?_)
  · obtain ⟨_, _, _, _, _, _, _, _, _, b⟩ := hP
    exact SqL.of b.e1
  · obtain ⟨rfl, hx⟩ := hy
    obtain ⟨G3, tbl, acc, y5, y6, y9, y10, y11, rfl, b⟩ := hP
    obtain ⟨size, hsz, rfl⟩ : ∃ n, ss[i]? = some n ∧ x = .int n := by
      rw [List.getElem?_map] at hx
      cases e : ss[i]? with
      | none => rw [e] at hx; cases hx
      | some n => rw [e] at hx; exact ⟨n, rfl, (Option.some.inj hx).symm⟩
    have hsz1 := hp size (List.mem_of_getElem? hsz)
    obtain ⟨hsum, hsum0⟩ := sum_pos_take hp hsz
    refine ⟨.ref pt, rfl, pt, acc, rfl, .inl (SqL.of b.et), ?_⟩
    rw [b.accl]
    refine ⟨.ref pa, rfl, pa, 5, rfl, b.z.pool, by decide, by decide, fun k H4 a4 b4 _ s4 po4 => ⟨_, _, rfl, rfl, ?_⟩⟩
    have b4 := b.go (b.z.ok.fz.stepS s4 po4)
    obtain ⟨sn, rfl⟩ : ∃ sn : Nat, size = (sn : Int) := Int.eq_ofNat_of_zero_le (by omega)
    refine ⟨_, rfl, _, rfl, by show -(2 ^ 62) ≤ (sn : Int); omega, by show (sn : Int) < 2 ^ 62; omega, ?_⟩
    refine for_range (lo := 0) (n := sn) (fun j σ H5 => ∃ (G5 : Hp) (tbl : List (List Int)) (acc : List V) (y5 y11 : Option V), σ = [some (.ref pa), some (.str (strOf l)), some (.int nb), some (.int nw), some (.ref p1), y5, some (.int sn), some (.int ss.sum), some (.ref pt), some (.int (ss.take i).sum), some (.bl (decide (0 < k))), y11, none, none, none] ∧ BlkHP K pa p1 pt H G ss l.length ((ss.take i).sum + j) H5 G5 tbl acc)
      ⟨G3, tbl, acc, y5, y11, rfl, (Int.add_zero _).symm ▸ b4⟩ (fun j σ H5 hj hP => ?_) (fun σ H5 hP => ?_)
    · obtain ⟨G5, tbl, acc, y5, y11, rfl, b5⟩ := hP
      -- row
      refine ⟨_, rfl, _, rfl, fun D nD => ?_⟩
      have nD0 : H D = none := b5.z.step.free nD
      have dD1 : D ≠ p1 := (ne_of_none b5.e1 nD).symm
      have dDt : D ≠ pt := (ne_of_none b5.et nD).symm
      have sD : ¬ At pa D := ok.ne nD0
      refine lc_drawU (R := fun _ d => ∃ k : Int, d = .int k ∧ (0 ≤ k ∧ k ≤ ss.sum)) walkS (by rw [lenS]; omega) b5.z.ok nD (fun _ _ => trivial) (fun u y H6 G6 N6 hy hu z6 fin6 => ?_) (fun H6 G6 racc ds z6 gD eD dp6 hl hR => ?_)
      · refine ⟨rfl, ?_⟩
        refine ⟨_, rfl, _, rfl, _, _, rfl, rfl, .ref pa, rfl, _, rfl, _, _, rfl, rfl, _, rfl, _, _, rfl, rfl, _, rfl, _, _, rfl, rfl, pa, _, rfl, z6.pool, by omega, by omega, fun k H7 a7 c7 _ s7 po7 => ⟨_, _, rfl, rfl, ?_⟩⟩
        exact fin6 _ H7 G6 (.int _) (z6.ok.fz.stepS s7 po7) (.int _) ⟨_, rfl, by omega, by omega⟩
      obtain ⟨row, rfl, e6, h6⟩ := data_of hR
      rw [hl, lenS] at e6
      have er := dps_ints dp6
      subst er
      have b6 := b5.go z6
      -- if goes_round or k < size - 1
      refine ⟨_, rfl, _, rfl, ?_⟩
      refine (fun hA hB => ite2 (fun _ => hA) (fun _ => ⟨_, rfl, _, rfl, _, _, rfl, rfl, _, _, rfl, rfl, _, rfl, ite2 (fun _ => hA) (fun _ => hB)⟩)) ?A ?B
      case A =>
        refine ⟨_, rfl, _, rfl, _, _, rfl, rfl, .inl ⟨_, rfl, _, rfl, _, _, rfl, rfl, by omega, _, _, rfl, rfl, .ref D, rfl, .ref pa, rfl, _, rfl, _, rfl, by rw [strOf_len]; exact sz (by omega), pa, _, rfl, b6.z.pool, by rw [strOf_len]; omega, by rw [strOf_len]; omega, fun k7 H7 a7 c7 _ s7 po7 => ?_⟩⟩
        rw [strOf_len] at c7
        have b7 := b6.go (b6.z.ok.fz.stepS s7 po7)
        have eD7 := s7.own_stays sD eD
        refine ⟨D, _, _, _, rfl, rfl, eD7, ixN_of a7 (by rw [List.length_map, e6]; exact c7), ?_⟩
        rw [map_set_int]
        generalize hv : (ss.take i).sum + (0 + (j : Int) + 1) % (sn : Int) = v
        have hm0 := Int.emod_nonneg (0 + (j : Int) + 1) (show (sn : Int) ≠ 0 by omega)
        have hm1 := Int.emod_lt_of_pos (0 + (j : Int) + 1) (show (0 : Int) < sn by omega)
        have b8 : BlkHP K pa p1 pt H G ss l.length ((ss.take i).sum + j) (upd H7 D (.lst ((row.set k7.toNat v).map V.int))) G6 tbl acc :=
          ⟨b7.z.put nD0 gD sD, by rw [upd_ne dD1.symm]; exact b7.e1, b7.g1, b7.n1, by rw [upd_ne dDt.symm]; exact b7.et, b7.gt, b7.nt, b7.dp, b7.len, b7.rows⟩
        refine ⟨.ref pt, rfl, .inl ⟨rfl, _, SqL.of b8.et⟩, .ref D, rfl, pt, _, _, rfl, rfl, b8.et, szl (by have := b8.accl; omega), ?_⟩
        have b9 := b8.add npt0 nD0 sD gD dD1 dDt d1t upd_same (by rw [List.length_set]; exact e6) (fun t ht => by
          rcases List.mem_or_eq_of_mem_set ht with h | h
          · exact h6 t h
          · omega)
        rw [show (ss.take i).sum + (j : Int) + 1 = (ss.take i).sum + ((j + 1 : Nat) : Int) by omega] at b9
        exact ⟨_, _, _, _, _, rfl, b9⟩
      case B =>
        refine ⟨.ref pt, rfl, .inl ⟨rfl, _, SqL.of b6.et⟩, .ref D, rfl, pt, _, _, rfl, rfl, b6.et, szl (by have := b6.accl; omega), ?_⟩
        have b9 := b6.add npt0 nD0 sD gD dD1 dDt d1t eD e6 h6
        rw [show (ss.take i).sum + (j : Int) + 1 = (ss.take i).sum + ((j + 1 : Nat) : Int) by omega] at b9
        exact ⟨_, _, _, _, _, rfl, b9⟩
    · obtain ⟨G5, tbl, acc, y5, y11, rfl, b5⟩ := hP
      refine ⟨G5, tbl, acc, y5, _, _, _, y11, rfl, ?_⟩
      rw [sum_take_succ hsz]
      exact b5
  · obtain ⟨G3, tbl, acc, y5, y6, y9, y10, y11, rfl, b⟩ := hP
    rw [List.length_map, List.take_length] at b
    -- table.append([dead ..])
    refine ⟨.ref pt, rfl, .inl ⟨rfl, _, SqL.of b.et⟩, _, rfl, _, rfl, fun D nD => ?_⟩
    have nD0 : H D = none := b.z.step.free nD
    have dD1 : D ≠ p1 := (ne_of_none b.e1 nD).symm
    have dDt : D ≠ pt := (ne_of_none b.et nD).symm
    have sD : ¬ At pa D := ok.ne nD0
    have gD : G3 D = none := free_of b.z.same nD
    refine lc_map walkS (fun _ => .int ss.sum) (fun _ => true) (by rw [lenS]; omega) (fun _ => trivial) (fun u y acc N hy fin _ => ?_) ?_
    · refine ⟨rfl, ?_⟩
      exact ⟨_, rfl, fin rfl⟩
    have em : ((sgnI l).filter fun _ => true).map (fun _ => V.int ss.sum) = ((List.replicate l.length ss.sum).map V.int) := by
      rw [List.filter_eq_self.mpr (fun _ _ => rfl), List.map_map, List.map_replicate]
      exact List.map_const' ..
    rw [em]
    have b1 : BlkHP K pa p1 pt H G ss l.length ss.sum (upd H3 D (.lst ((List.replicate l.length ss.sum).map V.int))) G3 tbl acc :=
      ⟨b.z.loc nD, by rw [upd_ne dD1.symm]; exact b.e1, b.g1, b.n1, by rw [upd_ne dDt.symm]; exact b.et, b.gt, b.nt, b.dp, b.len, b.rows⟩
    refine ⟨pt, _, _, rfl, rfl, b1.et, szl (by have := b1.accl; omega), ?_⟩
    have b2 := b1.add npt0 nD0 sD gD dD1 dDt d1t upd_same List.length_replicate (fun t ht => by rw [List.eq_of_mem_replicate ht]; omega)
    generalize upd (upd H3 D (.lst ((List.replicate l.length ss.sum).map V.int))) pt (.lst (acc ++ [.ref D])) = H5 at b2
    generalize upd G3 D (.lst ((List.replicate l.length ss.sum).map V.int)) = G5 at b2
    generalize tbl ++ [List.replicate l.length ss.sum] = tbl2 at b2
    generalize acc ++ [.ref D] = acc2 at b2
    -- ends
    obtain ⟨dn, hdn⟩ : ∃ dn : Nat, ss.sum = (dn : Int) := Int.eq_ofNat_of_zero_le s0
    refine ⟨_, rfl, _, rfl, by show -(2 ^ 62) ≤ ss.sum; omega, by show ss.sum < 2 ^ 62; omega, fun D2 nD2 => ?_⟩
    rw [show ss.sum.toNat = dn by omega]
    have nD20 : H D2 = none := b2.z.step.free nD2
    refine lc_drawU (R := fun _ d => ∃ b : Bool, d = .bool b ∧ True) walkR (by rw [lenR]; omega) b2.z.ok nD2 (fun _ _ => trivial) (fun i x H4 G4 N hx hi z4 fin => ?_) (fun H4 G4 bacc ds z4 gD4 eD4 dp4 hl4 hR => ?_)
    · refine ⟨rfl, ?_⟩
      refine ⟨.ref pa, rfl, pa, 3, rfl, z4.pool, by decide, by decide, fun k H5 a b _ s5 po5 => ?_⟩
      refine ⟨rfl, ?_⟩
      exact fin _ H5 G4 (.bool _) (z4.ok.fz.stepS s5 po5) (.bl _) ⟨_, rfl, trivial⟩
    obtain ⟨es, rfl, el, _⟩ := data_of hR
    rw [hl4, lenR] at el
    have er := dps_bools dp4
    subst er
    have b4 := b2.go z4
    refine ⟨by show 1 ≤ sizeLine; decide, fun D3 nD3 => ?_⟩
    have d23 : D2 ≠ D3 := ne_of_none eD4 nD3
    refine ⟨D2, D3, _, _, rfl, rfl, by rw [upd_ne d23]; exact eD4, upd_same, sz (by rw [List.length_map]; show es.length + 1 ≤ _; omega), fun pe npe => ?_⟩
    have npe' : H4 pe = none := (Step.new (S := NoS) (H := H4) (p := D3) (o := .lst [.bl false]) nD3).free npe
    have z5 := (b4.z.loc (o := .lst [.bl false]) nD3).loc (o := .lst (es.map V.bl ++ [.bl false])) npe
    have npe0 : H pe = none := b4.z.step.free npe'
    have spe : ¬ At pa pe := ok.ne npe0
    have gpe : G4 pe = none := free_of b4.z.same npe'
    refine ⟨.ref pa, rfl, pa, 6, rfl, z5.pool, by decide, by decide, fun k6 H6 a6 c6 _ s6 po6 => ⟨_, _, rfl, rfl, ?_⟩⟩
    have epe := s6.own_stays spe upd_same
    have z6 := z5.stepS s6 po6
    rw [show es.map V.bl ++ [V.bl false] = (es ++ [false]).map V.bl by rw [List.map_append]; rfl] at epe
    refine ⟨.ref pe, rfl, _, rfl, _, _, rfl, rfl, pe, _, _, _, rfl, rfl, epe, ixN_of (by show 0 ≤ ss.sum - 1; omega) (by rw [List.length_map, List.length_append, el]; show ss.sum - 1 < ((dn + 1 : Nat) : Int); omega), ?_⟩
    rw [show ((es ++ [false]).map V.bl).set (ss.sum - 1).toNat (.bl (decide (0 < k6))) = ((es ++ [false]).set (ss.sum - 1).toNat (decide (0 < k6))).map V.bl by rw [List.map_set]]
    have z7 := z6.put (o := .lst (((es ++ [false]).set (ss.sum - 1).toNat (decide (0 < k6))).map V.bl)) npe0 gpe spe
    -- the pair
    have dte : pt ≠ pe := ne_of_none b4.et npe'
    have et6 : upd H6 pe (.lst (((es ++ [false]).set (ss.sum - 1).toNat (decide (0 < k6))).map V.bl)) pt = some (.lst acc2) := by
      rw [upd_ne dte]
      refine s6.own_stays b4.nt ?_
      rw [upd_ne dte, upd_ne (ne_of_none b4.et nD3)]
      exact b4.et
    have z8 := z7.fix npt0 et6 b4.nt
    have z9 := z8.fix npe0 upd_same spe
    refine ⟨.ref pt, rfl, .ref pe, rfl, by show 2 ≤ sizeLine; decide, fun t0 nt0 => ?_⟩
    have z10 := z9.new (o := .tup [.ref pt, .ref pe]) nt0
    have gpt : G4 pt = none := b4.gt
    have g2 : upd G4 pt (.lst acc2) pe = none := by rw [upd_ne dte.symm]; exact gpe
    have u1 := same_sub (o := .lst acc2) gpt
    have u2 := same_sub (o := .lst (((es ++ [false]).set (ss.sum - 1).toNat (decide (0 < k6))).map V.bl)) g2
    have u3 := same_sub (o := .tup [.ref pt, .ref pe]) (free_of z9.same nt0)
    have lt2 := b4.len
    refine q _ _ _ ⟨tbl2, (es ++ [false]).set (ss.sum - 1).toNat (decide (0 < k6))⟩ z10 (Mdp upd_same (dp_up (dp_up (.lst upd_same (dps_up b4.dp u1)) u2) u3) (dp_up (Bdp upd_same) u3)) ⟨?_, ?_, ?_, ?_, ?_⟩ ?_
    · show ((es ++ [false]).set _ _).length = tbl2.length
      rw [List.length_set, List.length_append, el]
      show dn + 1 = _
      omega
    · show 1 ≤ tbl2.length
      omega
    · show tbl2.length ≤ 60
      omega
    · exact fun r hr => (b4.rows r hr).1
    · intro r hr t ht
      have := (b4.rows r hr).2 t ht
      show 0 ≤ t ∧ t < (tbl2.length : Int)
      omega
    · show tbl2.length ≤ 60
      omega
theorem sc_law_moved : FnScope ["pool", "machine", "table", "row", "at"] ["pool", "machine"] (defScope s_law_moved) := ⟨rfl, rfl, rfl, by decide +kernel, rfl, by decide +kernel, by decide +kernel⟩
theorem ok_law_moved {f : Addr} {fd : FuncData} (F : Fun K "_law_moved" "_law_moved" s_law_moved f fd) (T : Bt mg) (C : Cl K mg aHallError aBadWord aBadSize aBadNumber aBadMachine aTooMany aTooGreat aNotLeast aNoWord) (D_law_pick : DefG P w K mg base CX0 1 "_law_pick" ["pool", "many"] (spPick)) : FnG P w K mg base CX0 2 f fd ["pool", "machine"] (spMoved) := by
  refine FnG.calm F sc_law_moved (fun vs H Q E h => by first | (obtain ⟨_, rfl, _⟩ := h; rfl) | (obtain ⟨_, _, rfl, _⟩ := h; rfl) | (obtain ⟨_, _, _, rfl, _⟩ := h; rfl) | (obtain ⟨_, _, _, _, rfl, _⟩ := h; rfl) | (obtain ⟨_, _, _, _, _, rfl, _⟩ := h; rfl) | (obtain ⟨_, _, _, _, _, _, rfl, _⟩ := h; rfl) | (obtain ⟨_, _, _, _, _, _, _, rfl, _⟩ := h; rfl) | (obtain ⟨_, _, _, _, _, _, _, _, rfl, _⟩ := h; rfl)) (fun cd A out z H vs Q E hg hr h => ?_)
  have nd := sc_law_moved.nd
  obtain ⟨pa, v, m, k, G, rfl, ok, dm, mo, k1, k6, q⟩ := h
  obtain ⟨a, x, y, rfl, ea, dt, de⟩ := dM dm
  obtain ⟨b, xs, rfl, eb, hx⟩ := dp_list dt
  obtain ⟨c, rfl, ec⟩ := dB de
  have lx : xs.length = m.tab.length := by rw [dps_len hx, List.length_map]
  have n1 := mo.pos
  have n60 := mo.most
  have le := mo.ends
  refine ⟨_, (pss_cons (ps_setLc (i := 2) (own := [("row", 3)]) (tt := tYes) (g := gName 3) rfl nd rfl rfl (sw_true rfl rfl rfl (by decide +kernel)) (piL K (pe_ix (ixT K) (pv 1) pe_int (fun _ _ => rfl))) (blkOk_by (by kernel_rfl)) (fun _ _ _ _ _ => (pg_name (i := 3) nd rfl (by first | exact Or.inl rfl | exact Or.inr rfl))) (fun _ _ _ _ _ => pts_nil) (fun _ _ _ _ _ => (pe_callTy (listQ K) (by rfl) T.m_list (by decide +kernel) (pa_cons (pv 3) pa_nil))))
    (pss_cons (ps_set (i := 4) nd rfl (by first | exact Or.inl rfl | exact Or.inr rfl) (pe_fn D_law_pick hg (hr.mono (by decide)) (pa_cons (pv 0) (pa_cons (pe_callB (lenQ K) (by rfl) T.m_len PySem.boot_len (pa_cons (pv 2) pa_nil)) pa_nil))))
    (pss_cons (ps_asg (pe_fn D_law_pick hg (hr.mono (by decide)) (pa_cons (pv 0) (pa_cons (pe_callB (lenQ K) (by rfl) T.m_len PySem.boot_len (pa_cons (pv 2) pa_nil)) pa_nil))) (pg_sub (pe_ix (ixL K) (pv 2) (pv 4) (fun _ _ => rfl)) (pe_fn D_law_pick hg (hr.mono (by decide)) (pa_cons (pv 0) (pa_cons (pe_callB (lenQ K) (by rfl) T.m_len PySem.boot_len (pa_cons (pe_ix (ixL K) (pv 2) pe_int (fun _ _ => rfl)) pa_nil)) pa_nil))) set_list))
    (pss_one (ps_ret (pe_tup (pa_cons (pv 2) (pa_cons (pe_callTy (listQ K) (by rfl) T.m_list (by decide +kernel) (pa_cons (pe_ix (ixT K) (pv 1) pe_int (fun _ _ => rfl)) pa_nil)) pa_nil)))))))), ?_⟩
  refine ⟨.ref a, rfl, a, _, 0, .ref b, rfl, rfl, SqT.of (ok.same _ _ ea), atI_nat (j := 0) rfl, b, rfl, ⟨_, SqL.of (ok.same _ _ eb)⟩, fun D nD => ?_⟩
  have sD : ¬ At pa D := ok.ne nD
  have gD : G D = none := free_of ok.same nD
  refine lc_it (walk_list (xs := xs)) (fun i H2 => ∃ as : List Addr, Fz (At pa) H G H2 G ∧ H2 D = some (.lst (as.map V.ref)) ∧ as.length = i ∧ as.Nodup ∧ ∀ (j : Nat) p, as[j]? = some p → ∃ r, m.tab[j]? = some r ∧ H2 p = some (.lst (r.map V.int)) ∧ H p = none ∧ p ≠ D)
    ⟨[], ok.fz.loc nD, upd_same, rfl, List.nodup_nil, fun j p e => by simp at e⟩ (fun i H2 _ e => ?_) (fun i y H2 H2' hi e hy => ?_) (fun H2 e => ?_)
  · obtain ⟨_, z, _⟩ := e
    exact SqL.of (z.same _ _ eb)
  · obtain ⟨rfl, hy⟩ := hy
    obtain ⟨as, z, eD, la, nd2, hA⟩ := e
    obtain ⟨d, hd, hdx⟩ := dps_get' hx hy
    obtain ⟨r, hr, rfl⟩ : ∃ r, m.tab[i]? = some r ∧ DI r = d := by
      rw [List.getElem?_map] at hd
      cases e : m.tab[i]? with
      | none => rw [e] at hd; cases hd
      | some r => rw [e] at hd; exact ⟨r, rfl, Option.some.inj hd⟩
    obtain ⟨rb, rfl, er⟩ := dI hdx
    refine ⟨rfl, ?_⟩
    refine ⟨_, rfl, rb, _, rfl, .inl (SqL.of (z.same _ _ er)), fun p np => ?_⟩
    have hpD : p ≠ D := (ne_of_none eD np).symm
    have np0 : H p = none := z.step.free np
    refine ⟨as.map V.ref, by rw [upd_ne hpD.symm]; exact eD, szl (by rw [List.length_map]; omega), as ++ [p], (z.loc np).put nD gD sD, by rw [upd_same, List.map_append]; rfl, by rw [List.length_append, la]; rfl, ?_, fun j p' hj => ?_⟩
    · rw [List.nodup_append]
      refine ⟨nd2, List.nodup_cons.mpr ⟨List.not_mem_nil, List.nodup_nil⟩, fun u hu w hw e => ?_⟩
      rw [List.mem_singleton.mp hw] at e
      obtain ⟨j, hj⟩ := List.getElem?_of_mem hu
      obtain ⟨_, _, h2, _⟩ := hA j u hj
      rw [e, np] at h2; cases h2
    · by_cases hlt : j < as.length
      · rw [List.getElem?_append_left hlt] at hj
        obtain ⟨r', h1, h2, h3, h4⟩ := hA j p' hj
        exact ⟨r', h1, by rw [upd_ne h4, upd_ne (ne_of_none h2 np)]; exact h2, h3, h4⟩
      · rw [List.getElem?_append_right (by omega)] at hj
        have hj0 : j - as.length = 0 := by
          cases h : j - as.length with
          | zero => rfl
          | succ w => rw [h] at hj; simp at hj
        rw [hj0] at hj
        have hp : p = p' := Option.some.inj hj
        subst hp
        have hji : j = i := by omega
        subst hji
        exact ⟨r, hr, by rw [upd_ne hpD]; exact upd_same, np0, hpD⟩
  obtain ⟨as, z2, eD, la, nda, hA⟩ := e
  rw [lx] at la
  have lA : ((as.map V.ref).length : Int) = m.tab.length := by rw [List.length_map, la]
  have stay : ∀ {H3 : Hp}, Step (At pa) H2 H3 → H3 D = some (.lst (as.map V.ref)) ∧ ∀ (j : Nat) p, as[j]? = some p → ∃ r, m.tab[j]? = some r ∧ H3 p = some (.lst (r.map V.int)) ∧ H p = none ∧ p ≠ D := fun {H3} s => by
    refine ⟨s.own_stays sD eD, fun j p hj => ?_⟩
    obtain ⟨r, h1, h2, h3, h4⟩ := hA j p hj
    exact ⟨r, h1, s.own_stays (ok.ne h3) h2, h3, h4⟩
  -- at = ..
  refine ⟨.ref pa, rfl, .ref D, rfl, D, _, rfl, .inl (SqL.of eD), pa, _, rfl, z2.pool, by rw [lA]; omega, by rw [lA]; omega, fun at_ H3 a3 c3 _ s3 po3 => ?_⟩
  rw [lA] at c3
  obtain ⟨eD3, hA3⟩ := stay s3
  have z3 := z2.stepS s3 po3
  -- table[at][..] = ..
  refine ⟨.ref pa, rfl, .ref D, rfl, D, _, rfl, .inl (SqL.of eD3), pa, _, rfl, z3.pool, by rw [lA]; omega, by rw [lA]; omega, fun vv H4 a4 c4 _ s4 po4 => ?_⟩
  rw [lA] at c4
  obtain ⟨eD4, hA4⟩ := stay (s3.trans s4)
  have z4 := z3.stepS s4 po4
  obtain ⟨pr, hpr⟩ := exists_at (xs := as) a3 (by rw [la]; exact c3)
  obtain ⟨p0, hp0⟩ := exists_at (xs := as) (k := 0) (Int.le_refl 0) (by rw [la]; omega)
  obtain ⟨r0, hr0, er0, _, _⟩ := hA4 _ _ hp0
  have lr0 := mo.row r0 (List.mem_of_getElem? hr0)
  refine ⟨.ref D, rfl, _, rfl, D, _, _, .ref pr, rfl, rfl, SqL.of eD4, atI_of a3 (by rw [List.getElem?_map, hpr]; rfl), .ref pa, rfl, .ref D, rfl, D, _, 0, .ref p0, rfl, rfl, SqL.of eD4, atI_of (Int.le_refl 0) (by rw [List.getElem?_map, hp0]; rfl), p0, _, rfl, .inl (SqL.of er0), pa, _, rfl, z4.pool, by rw [List.length_map, lr0]; omega, by rw [List.length_map, lr0]; omega, fun jj H5 a5 c5 _ s5 po5 => ?_⟩
  rw [List.length_map, lr0] at c5
  obtain ⟨eD5, hA5⟩ := stay ((s3.trans s4).trans s5)
  have z5 := z4.stepS s5 po5
  obtain ⟨r, hr, er, npr, dpr⟩ := hA5 _ _ hpr
  have lr := mo.row r (List.mem_of_getElem? hr)
  refine ⟨pr, _, _, _, rfl, rfl, er, ixN_of a5 (by rw [List.length_map, lr]; exact c5), ?_⟩
  rw [map_set_int]
  have z6 := z5.put (o := .lst ((r.set jj.toNat vv).map V.int)) npr (free_of ok.same npr) (ok.ne npr)
  have eD6 : upd H5 pr (.lst ((r.set jj.toNat vv).map V.int)) D = some (.lst (as.map V.ref)) := by rw [upd_ne dpr.symm]; exact eD5
  have hA6 : ∀ (j : Nat) p, as[j]? = some p → ∃ r', (m.tab.set at_.toNat (r.set jj.toNat vv))[j]? = some r' ∧ upd H5 pr (.lst ((r.set jj.toNat vv).map V.int)) p = some (.lst (r'.map V.int)) := fun j p hj => by
    by_cases hja : j = at_.toNat
    · subst hja
      rw [hpr] at hj
      cases hj
      refine ⟨_, List.getElem?_set_self (by have := List.getElem?_eq_some_iff.mp hr; exact this.1), upd_same⟩
    · obtain ⟨r', h1, h2, h3, h4⟩ := hA5 j p hj
      refine ⟨r', by rw [List.getElem?_set_ne (Ne.symm hja)]; exact h1, ?_⟩
      rw [upd_ne ?_]; exact h2
      rintro rfl
      exact hja (nodup_at nda hj hpr)
  generalize upd H5 pr (.lst ((r.set jj.toNat vv).map V.int)) = H6 at z6 eD6 hA6
  generalize ht : m.tab.set at_.toNat (r.set jj.toNat vv) = t at hA6
  have lt : t.length = m.tab.length := by rw [← ht, List.length_set]
  have z7 := z6.fixAll as (fun p hp => let ⟨j, hj⟩ := List.getElem?_of_mem hp; let ⟨_, _, _, h, _⟩ := hA j p hj; h) (fun p hp => ok.ne (let ⟨j, hj⟩ := List.getElem?_of_mem hp; let ⟨_, _, _, h, _⟩ := hA j p hj; h))
  have dq7 : DqAll (fun b => if b ∈ as then H6 b else G b) (as.map V.ref) (t.map DI) := dqs_refs (by rw [la, lt]) fun j p hj => by
    obtain ⟨r', h1, h2⟩ := hA6 j p hj
    exact ⟨r', h1, (if_pos (List.mem_of_getElem? hj)).trans h2⟩
  have gD7 : (fun b => if b ∈ as then H6 b else G b) D = none := (if_neg fun z => by
    obtain ⟨j, hj⟩ := List.getElem?_of_mem z
    obtain ⟨_, _, _, _, h⟩ := hA j D hj
    exact h rfl).trans gD
  generalize (fun b => if b ∈ as then H6 b else G b) = G7 at z7 dq7 gD7
  have z8 := z7.fix nD eD6 sD
  -- the pair
  refine ⟨.ref D, rfl, .ref a, rfl, a, _, 1, .ref c, rfl, rfl, SqT.of (z6.same _ _ ea), atI_nat (j := 1) rfl, c, _, rfl, .inl (SqL.of (z6.same _ _ ec)), fun pe npe => ?_⟩
  have z9 := z8.new (o := .lst (m.ends.map V.bl)) npe
  refine ⟨by show 2 ≤ sizeLine; decide, fun t0 nt => ?_⟩
  have z10 := z9.new (o := .tup [.ref D, .ref pe]) nt
  have s0 := same_sub (o := .lst (as.map V.ref)) gD7
  have s1 := same_sub (o := .lst (m.ends.map V.bl)) (free_of z8.same npe)
  have s2 := same_sub (o := .tup [.ref D, .ref pe]) (free_of z9.same nt)
  refine q _ _ _ ⟨t, m.ends⟩ z10 (Mdp upd_same (dp_up (.lst upd_same (dps_up dq7 s0)) (s1.trans s2)) (dp_up (Bdp upd_same) s2)) ⟨?_, ?_, ?_, fun w hw => ?_, fun w hw x hx => ?_⟩
  · show m.ends.length = t.length
    rw [lt, le]
  · show 1 ≤ t.length
    omega
  · show t.length ≤ 60
    omega
  · have hw' : w ∈ t := hw
    rw [← ht] at hw'
    rcases List.mem_or_eq_of_mem_set hw' with h | h
    · exact mo.row w h
    · rw [h, List.length_set]; exact lr
  · have hw' : w ∈ t := hw
    show 0 ≤ x ∧ x < (t.length : Int)
    rw [lt]
    rw [← ht] at hw'
    rcases List.mem_or_eq_of_mem_set hw' with h | h
    · exact mo.tgt w h x hx
    · rw [h] at hx
      rcases List.mem_or_eq_of_mem_set hx with h | h
      · exact mo.tgt r (List.mem_of_getElem? hr) x h
      · omega
theorem sc_law_doubled : FnScope ["pool", "machine", "many", "table", "target", "row"] ["pool", "machine"] (defScope s_law_doubled) := ⟨rfl, rfl, rfl, by decide +kernel, rfl, by decide +kernel, by decide +kernel⟩
theorem ok_law_doubled {f : Addr} {fd : FuncData} (F : Fun K "_law_doubled" "_law_doubled" s_law_doubled f fd) (T : Bt mg) (C : Cl K mg aHallError aBadWord aBadSize aBadNumber aBadMachine aTooMany aTooGreat aNotLeast aNoWord) (D_law_pick : DefG P w K mg base CX0 1 "_law_pick" ["pool", "many"] (spPick)) : FnG P w K mg base CX0 2 f fd ["pool", "machine"] (spDoubled) := by
  refine FnG.calm F sc_law_doubled (fun vs H Q E h => by first | (obtain ⟨_, rfl, _⟩ := h; rfl) | (obtain ⟨_, _, rfl, _⟩ := h; rfl) | (obtain ⟨_, _, _, rfl, _⟩ := h; rfl) | (obtain ⟨_, _, _, _, rfl, _⟩ := h; rfl) | (obtain ⟨_, _, _, _, _, rfl, _⟩ := h; rfl) | (obtain ⟨_, _, _, _, _, _, rfl, _⟩ := h; rfl) | (obtain ⟨_, _, _, _, _, _, _, rfl, _⟩ := h; rfl) | (obtain ⟨_, _, _, _, _, _, _, _, rfl, _⟩ := h; rfl)) (fun cd A out z H vs Q E hg hr h => ?_)
  have nd := sc_law_doubled.nd
  obtain ⟨pa, v, m, k, G, rfl, ok, dm, mo, k6, n30, q⟩ := h
  obtain ⟨a, x, y, rfl, ea, dt, de⟩ := dM dm
  obtain ⟨b, xs, rfl, eb, hx⟩ := dp_list dt
  obtain ⟨c, rfl, ec⟩ := dB de
  have lx : xs.length = m.tab.length := by rw [dps_len hx, List.length_map]
  have n1 := mo.pos
  have le := mo.ends
  refine ⟨_, (pss_cons (ps_set (i := 2) nd rfl (by first | exact Or.inl rfl | exact Or.inr rfl) (pe_callB (lenQ K) (by rfl) T.m_len PySem.boot_len (pa_cons (pe_ix (ixT K) (pv 1) pe_int (fun _ _ => rfl)) pa_nil)))
    (pss_cons (ps_setLc (i := 3) (own := [("row", 5)]) (tt := tYes) (g := gName 5) rfl nd rfl rfl (sw_true rfl rfl rfl (by decide +kernel)) (piL K (pe_op op_cat (pe_ix (ixT K) (pv 1) pe_int (fun _ _ => rfl)) (pe_ix (ixT K) (pv 1) pe_int (fun _ _ => rfl)))) (blkOk_by (by kernel_rfl)) (fun _ _ _ _ _ => (pg_name (i := 5) nd rfl (by first | exact Or.inl rfl | exact Or.inr rfl))) (fun _ _ _ _ _ => pts_nil) (fun _ _ _ _ _ => (pe_lc (own := [("target", 4)]) (tt := tYes) (g := gName 4) rfl nd (piL K (pv 5)) (blkOk_by (by kernel_rfl)) (fun _ _ _ _ _ => (pg_name (i := 4) nd rfl (by first | exact Or.inl rfl | exact Or.inr rfl))) (fun _ _ _ _ _ => pts_nil) (fun _ _ _ _ _ => (pe_op op_add (pv 4) (pe_op op_mul (pv 2) (pe_fn D_law_pick hg (hr.mono (by decide)) (pa_cons (pv 0) (pa_cons pe_int pa_nil)))))))))
    (pss_one (ps_ret (pe_tup (pa_cons (pv 3) (pa_cons (pe_op op_cat (pe_ix (ixT K) (pv 1) pe_int (fun _ _ => rfl)) (pe_ix (ixT K) (pv 1) pe_int (fun _ _ => rfl))) pa_nil))))))), ?_⟩
  refine ⟨.ref a, rfl, a, _, 0, .ref b, rfl, rfl, SqT.of (ok.same _ _ ea), atI_nat (j := 0) rfl, b, xs, rfl, .inl (SqL.of (ok.same _ _ eb)), ?_⟩
  rw [lx]
  -- machine[0] + machine[0]
  refine ⟨.ref a, rfl, a, _, 0, .ref b, rfl, rfl, SqT.of (ok.same _ _ ea), atI_nat (j := 0) rfl, .ref a, rfl, a, _, 0, .ref b, rfl, rfl, SqT.of (ok.same _ _ ea), atI_nat (j := 0) rfl, b, b, xs, xs, rfl, rfl, ok.same _ _ eb, ok.same _ _ eb, sz (by omega), fun p np => ?_⟩
  have z1 := ok.fz.new (o := .lst (xs ++ xs)) np
  have ea1 := z1.up _ _ ea
  have eb1 := z1.up _ _ eb
  have ec1 := z1.up _ _ ec
  have hx1 := dps_up hx z1.up
  have hxx : DqAll (upd G p (.lst (xs ++ xs))) (xs ++ xs) ((m.tab ++ m.tab).map DI) := by rw [List.map_append]; exact dps_app hx1 hx1
  have ep : upd G p (.lst (xs ++ xs)) p = some (.lst (xs ++ xs)) := upd_same
  generalize upd G p (.lst (xs ++ xs)) = G1 at z1 ea1 eb1 ec1 hx1 hxx ep
  refine ⟨p, rfl, ⟨_, SqL.of (z1.same _ _ ep)⟩, fun D1 nD1 => ?_⟩
  refine lc_draw (R := fun _ d => ∃ r : List Int, d = DI r ∧ (r.length = k ∧ ∀ t ∈ r, 0 ≤ t ∧ t < m.tab.length + m.tab.length)) (walk_list (xs := xs ++ xs)) (by rw [List.length_append]; omega) z1.ok nD1 (fun H s => SqL.of (s _ _ ep)) (fun i x H2 G2 N hi hl z2 fin => ?_) (fun H2 G2 ds z2 dp2 _ hl hR => ?_)
  · obtain ⟨d, hd, hdx⟩ := dps_get' hxx hi
    obtain ⟨r, hr, rfl⟩ : ∃ r, r ∈ m.tab ∧ DI r = d := by
      rw [List.getElem?_map] at hd
      cases e : (m.tab ++ m.tab)[i]? with
      | none => rw [e] at hd; cases hd
      | some r =>
        rw [e] at hd
        have := List.mem_of_getElem? e
        exact ⟨r, by rcases List.mem_append.mp this with h | h <;> exact h, Option.some.inj hd⟩
    obtain ⟨rb, rfl, er⟩ := dI hdx
    have rl := mo.row r hr
    have rt := mo.tgt r hr
    refine ⟨rfl, ?_⟩
    refine ⟨_, rfl, rb, rfl, ⟨_, SqL.of (z2.same _ _ (z2.up _ _ er))⟩, fun D2 nD2 => ?_⟩
    refine lc_draw (R := fun _ d => ∃ k : Int, d = .int k ∧ (0 ≤ k ∧ k < m.tab.length + m.tab.length)) (walk_list (xs := r.map V.int)) (by rw [List.length_map, rl]; omega) z2.ok nD2 (fun H s => SqL.of (s _ _ (z2.up _ _ er))) (fun j y H3 G3 N3 hj hlj z3 fin3 => ?_) (fun H3 G3 ds z3 dp3 _ hl hR => ?_)
    · obtain ⟨t, ht, rfl⟩ := intsAt hj
      obtain ⟨t0, tn⟩ := rt t (List.mem_of_getElem? ht)
      refine ⟨rfl, ?_⟩
      refine ⟨_, rfl, _, rfl, .ref pa, rfl, pa, 2, rfl, z3.pool, by decide, by decide, fun k H4 a b _ s4 po4 => ?_⟩
      refine ⟨_, _, rfl, rfl, .inl ⟨by omega, by omega⟩, _, _, rfl, rfl, ?_⟩
      refine fin3 _ H4 G3 (.int _) (z3.ok.fz.stepS s4 po4) (.int _) ⟨_, rfl, ?_⟩
      have : k = 0 ∨ k = 1 := by omega
      rcases this with rfl | rfl <;> omega
    · obtain ⟨r', rfl, e2, e3⟩ := data_of hR
      exact fin _ H3 G3 (DI r') z3 dp3 ⟨r', rfl, by rw [e2, hl, List.length_map, rl], e3⟩
  obtain ⟨t, rfl, tl, hrow⟩ := data_of hR
  rw [hl, List.length_append, lx] at tl
  -- the ends
  have ea2 := z2.same _ _ (z2.up _ _ ea1)
  have ec2 := z2.same _ _ (z2.up _ _ ec1)
  refine ⟨_, rfl, .ref a, rfl, a, _, 1, .ref c, rfl, rfl, SqT.of ea2, atI_nat (j := 1) rfl, .ref a, rfl, a, _, 1, .ref c, rfl, rfl, SqT.of ea2, atI_nat (j := 1) rfl, c, c, _, _, rfl, rfl, ec2, ec2, sz (by rw [List.length_map]; omega), fun pe npe => ?_⟩
  have z3 := z2.ok.fz.new (o := .lst (m.ends.map V.bl ++ m.ends.map V.bl)) npe
  refine ⟨by show 2 ≤ sizeLine; decide, fun t0 nt => ?_⟩
  have z4 := z3.new (o := .tup [.ref D1, .ref pe]) nt
  have s1 := same_sub (o := .lst (m.ends.map V.bl ++ m.ends.map V.bl)) (free_of z2.same npe)
  have s2 := same_sub (o := .tup [.ref D1, .ref pe]) (free_of z3.same nt)
  refine q _ _ _ ⟨t, m.ends ++ m.ends⟩ ((z1.trans z2).trans z4) (Mdp upd_same (dp_up dp2 (s1.trans s2)) (dp_up (Bdp (by rw [List.map_append]; exact upd_same)) s2)) ⟨?_, ?_, ?_, fun r hr => (hrow r hr).1, fun r hr x hx => ?_⟩
  · show (m.ends ++ m.ends).length = t.length
    rw [List.length_append, tl, le]
  · show 1 ≤ t.length
    omega
  · show t.length ≤ 60
    omega
  · have := (hrow r hr).2 x hx
    show 0 ≤ x ∧ x < (t.length : Int)
    omega
theorem sc_law_renamed : FnScope ["machine", "many", "names", "state", "target", "name"] ["machine"] (defScope s_law_renamed) := ⟨rfl, rfl, rfl, by decide +kernel, rfl, by decide +kernel, by decide +kernel⟩
theorem ok_law_renamed {f : Addr} {fd : FuncData} (F : Fun K "_law_renamed" "_law_renamed" s_law_renamed f fd) (T : Bt mg) (C : Cl K mg aHallError aBadWord aBadSize aBadNumber aBadMachine aTooMany aTooGreat aNotLeast aNoWord)  : FnG P w K mg base CX0 1 f fd ["machine"] (spRenamed) := by
  refine FnG.calm F sc_law_renamed (fun vs H Q E h => by first | (obtain ⟨_, rfl, _⟩ := h; rfl) | (obtain ⟨_, _, rfl, _⟩ := h; rfl) | (obtain ⟨_, _, _, rfl, _⟩ := h; rfl) | (obtain ⟨_, _, _, _, rfl, _⟩ := h; rfl) | (obtain ⟨_, _, _, _, _, rfl, _⟩ := h; rfl) | (obtain ⟨_, _, _, _, _, _, rfl, _⟩ := h; rfl) | (obtain ⟨_, _, _, _, _, _, _, rfl, _⟩ := h; rfl) | (obtain ⟨_, _, _, _, _, _, _, _, rfl, _⟩ := h; rfl)) (fun cd A out z H vs Q E hg hr h => ?_)
  have nd := sc_law_renamed.nd
  obtain ⟨v, m, k, G, rfl, ok, dm, mo, k6, q⟩ := h
  obtain ⟨a, x, y, rfl, ea, dt, de⟩ := dM dm
  obtain ⟨b, xs, rfl, eb, hx⟩ := dp_list dt
  obtain ⟨c, rfl, ec⟩ := dB de
  have lx : xs.length = m.tab.length := by rw [dps_len hx, List.length_map]
  have n60 := mo.most
  have n1 := mo.pos
  refine ⟨_, (pss_cons (ps_set (i := 1) nd rfl (by first | exact Or.inl rfl | exact Or.inr rfl) (pe_callB (lenQ K) (by rfl) T.m_len PySem.boot_len (pa_cons (pe_ix (ixT K) (pv 0) pe_int (fun _ _ => rfl)) pa_nil)))
    (pss_cons (ps_set (i := 2) nd rfl (by first | exact Or.inl rfl | exact Or.inr rfl) (pe_op op_cat (pe_lst (pa_cons pe_int pa_nil)) (pe_lc (own := [("state", 3)]) (tt := tYes) (g := gName 3) rfl nd (pi_range2 (by rfl) T.m_range (pa_cons pe_int (pa_cons (pv 1) pa_nil))) (blkOk_by (by kernel_rfl)) (fun _ _ _ _ _ => (pg_name (i := 3) nd rfl (by first | exact Or.inl rfl | exact Or.inr rfl))) (fun _ _ _ _ _ => pts_nil) (fun _ _ _ _ _ => (pe_op op_sub (pv 1) (pv 3))))))
    (pss_one (ps_ret (pe_tup (pa_cons (pe_lc (own := [("name", 5)]) (tt := tYes) (g := gName 5) rfl nd (piL K (pv 2)) (blkOk_by (by kernel_rfl)) (fun _ _ _ _ _ => (pg_name (i := 5) nd rfl (by first | exact Or.inl rfl | exact Or.inr rfl))) (fun _ _ _ _ _ => pts_nil) (fun _ _ _ _ _ => (pe_lc (own := [("target", 4)]) (tt := tYes) (g := gName 4) rfl nd (piL K (pe_ix (ixL K) (pe_ix (ixT K) (pv 0) pe_int (fun _ _ => rfl)) (pv 5) (fun _ _ => rfl))) (blkOk_by (by kernel_rfl)) (fun _ _ _ _ _ => (pg_name (i := 4) nd rfl (by first | exact Or.inl rfl | exact Or.inr rfl))) (fun _ _ _ _ _ => pts_nil) (fun _ _ _ _ _ => (pe_ix (ixL K) (pv 2) (pv 4) (fun _ _ => rfl)))))) (pa_cons (pe_lc (own := [("name", 5)]) (tt := tYes) (g := gName 5) rfl nd (piL K (pv 2)) (blkOk_by (by kernel_rfl)) (fun _ _ _ _ _ => (pg_name (i := 5) nd rfl (by first | exact Or.inl rfl | exact Or.inr rfl))) (fun _ _ _ _ _ => pts_nil) (fun _ _ _ _ _ => (pe_ix (ixL K) (pe_ix (ixT K) (pv 0) pe_int (fun _ _ => rfl)) (pv 5) (fun _ _ => rfl)))) pa_nil))))))), ?_⟩
  refine ⟨.ref a, rfl, a, _, 0, .ref b, rfl, rfl, SqT.of (ok.same _ _ ea), atI_nat (j := 0) rfl, b, xs, rfl, .inl (SqL.of (ok.same _ _ eb)), ?_⟩
  rw [lx]
  generalize hn : m.tab.length = n at *
  -- names
  refine ⟨by show 1 ≤ sizeLine; decide, fun p1 np1 => ⟨_, rfl, 1, _, rfl, ⟨by decide, by decide, by omega, by omega⟩, fun D nD => ?_⟩⟩
  refine lc_map walkR (fun x => match x with | .int s => .int ((n : Int) - s) | _ => .non) (fun _ => true) (by rw [lenR]; omega) (fun _ => trivial) (fun i x acc N hx fin _ => ?_) ?_
  · obtain ⟨_, rfl⟩ := rngI_at hx
    exact ⟨rfl, _, rfl, _, rfl, _, _, rfl, rfl, fin rfl⟩
  obtain ⟨NS, eN, lN, bN⟩ : ∃ NS : List Int, [V.int 0] ++ ((rngI 1 ((n : Int) - 1).toNat).filter fun _ => true).map (fun x => match x with | .int s => V.int ((n : Int) - s) | _ => V.non) = NS.map V.int ∧ NS.length = n ∧ ∀ s ∈ NS, 0 ≤ s ∧ s < n := by
    refine ⟨0 :: (List.range ((n : Int) - 1).toNat).map (fun i => (n : Int) - (1 + (i : Nat))), ?_, ?_, fun s hs => ?_⟩
    · rw [filter_all, List.map_map, List.map_cons, List.map_map]
      rfl
    · rw [List.length_cons, List.length_map, List.length_range]; omega
    · rcases List.mem_cons.mp hs with rfl | hs
      · omega
      · obtain ⟨i, hi, rfl⟩ := List.mem_map.mp hs
        have := List.mem_range.mp hi
        omega
  have d1 : p1 ≠ D := ne_of_none upd_same nD
  refine ⟨p1, D, _, _, rfl, rfl, by rw [upd_ne d1]; exact upd_same, upd_same, by rw [List.length_map, filter_all, lenR]; exact sz (by show 1 + _ ≤ _; omega), fun pn npn => ?_⟩
  rw [eN]
  have z1 := ((ok.fz.loc (o := .lst [.int 0]) np1).loc nD).new (o := .lst (NS.map V.int)) npn
  have ea1 := z1.up _ _ ea
  have eb1 := z1.up _ _ eb
  have ec1 := z1.up _ _ ec
  have hx1 := dps_up hx z1.up
  have en1 : upd G pn (.lst (NS.map V.int)) pn = some (.lst (NS.map V.int)) := upd_same
  generalize upd G pn (.lst (NS.map V.int)) = G1 at z1 ea1 eb1 ec1 hx1 en1
  generalize hH1 : upd (upd (upd H p1 (.lst [.int 0])) D _) pn (.lst (NS.map V.int)) = H1 at z1
  -- the rows
  refine ⟨.ref pn, rfl, pn, rfl, ⟨_, SqL.of (z1.same _ _ en1)⟩, fun D1 nD1 => ?_⟩
  refine lc_draw (R := fun _ d => ∃ r : List Int, d = DI r ∧ (r.length = k ∧ ∀ t ∈ r, 0 ≤ t ∧ t < n)) (walk_list (xs := NS.map V.int)) (by rw [List.length_map]; omega) z1.ok nD1 (fun H s => SqL.of (s _ _ en1)) (fun i x H2 G2 N hi hl z2 fin => ?_) (fun H2 G2 ds z2 dp2 _ hl hR => ?_)
  · obtain ⟨s, hs, rfl⟩ := intsAt hi
    obtain ⟨s0, sn⟩ := bN s (List.mem_of_getElem? hs)
    obtain ⟨r, er, rl, rb⟩ := mo.at_row s0 (by rw [hn]; exact sn)
    obtain ⟨br, e1, e2⟩ := dT_row hx1 er
    rw [hn] at rb
    refine ⟨rfl, ?_⟩
    refine ⟨.ref a, rfl, a, _, 0, .ref b, rfl, rfl, SqT.of (z2.same _ _ (z2.up _ _ ea1)), atI_nat (j := 0) rfl, _, rfl, b, _, s, .ref br, rfl, rfl, SqL.of (z2.same _ _ (z2.up _ _ eb1)), atI_of s0 e1, br, rfl, ⟨_, SqL.of (z2.same _ _ (z2.up _ _ e2))⟩, fun D2 nD2 => ?_⟩
    refine lc_draw (R := fun _ d => ∃ k : Int, d = .int k ∧ (0 ≤ k ∧ k < n)) (walk_list (xs := r.map V.int)) (by rw [List.length_map, rl]; omega) z2.ok nD2 (fun H s => SqL.of (s _ _ (z2.up _ _ e2))) (fun j y H3 G3 N3 hj hlj z3 fin3 => ?_) (fun H3 G3 ds z3 dp3 _ hl hR => ?_)
    · obtain ⟨t, ht, rfl⟩ := intsAt hj
      obtain ⟨t0, tn⟩ := rb t (List.mem_of_getElem? ht)
      obtain ⟨u, hu⟩ := exists_at (xs := NS) t0 (by rw [lN]; exact tn)
      refine ⟨rfl, ?_⟩
      refine ⟨.ref pn, rfl, _, rfl, pn, _, t, .int u, rfl, rfl, SqL.of (z3.same _ _ (z3.up _ _ (z2.up _ _ en1))), atI_of t0 (getI hu), ?_⟩
      exact fin3 _ H3 G3 (.int u) z3.ok.fz (.int u) ⟨u, rfl, bN u (List.mem_of_getElem? hu)⟩
    · obtain ⟨r', rfl, e2, e3⟩ := data_of hR
      exact fin _ H3 G3 (DI r') z3 dp3 ⟨r', rfl, by rw [e2, hl, List.length_map, rl], e3⟩
  obtain ⟨t, rfl, tl, hrow⟩ := data_of hR
  rw [hl, List.length_map, lN] at tl
  -- the ends
  refine ⟨.ref pn, rfl, pn, rfl, ⟨_, SqL.of (z2.same _ _ (z2.up _ _ en1))⟩, fun D3 nD3 => ?_⟩
  refine lc_draw (R := fun _ d => ∃ b : Bool, d = .bool b ∧ True) (walk_list (xs := NS.map V.int)) (by rw [List.length_map]; omega) z2.ok nD3 (fun H s => SqL.of (s _ _ (z2.up _ _ en1))) (fun i x H4 G4 N hi hl z4 fin => ?_) (fun H4 G4 ds z4 dp4 _ hl hR => ?_)
  · obtain ⟨s, hs, rfl⟩ := intsAt hi
    obtain ⟨s0, sn⟩ := bN s (List.mem_of_getElem? hs)
    obtain ⟨e, he⟩ := mo.at_end s0 (by rw [hn]; exact sn)
    refine ⟨rfl, ?_⟩
    refine ⟨.ref a, rfl, a, _, 1, .ref c, rfl, rfl, SqT.of (z4.same _ _ (z4.up _ _ (z2.up _ _ ea1))), atI_nat (j := 1) rfl, _, rfl, c, _, s, .bl e, rfl, rfl, SqL.of (z4.same _ _ (z4.up _ _ (z2.up _ _ ec1))), atI_of s0 (getB he), ?_⟩
    exact fin _ H4 G4 (.bool e) z4.ok.fz (.bl e) ⟨_, rfl, trivial⟩
  obtain ⟨es, rfl, el, _⟩ := data_of hR
  rw [hl, List.length_map, lN] at el
  refine ⟨by show 2 ≤ sizeLine; decide, fun t0 nt => ?_⟩
  have z5 := z4.ok.fz.new (o := .tup [.ref D1, .ref D3]) nt
  have sG := same_sub (o := .tup [.ref D1, .ref D3]) (free_of z4.same nt)
  exact q _ _ _ ⟨t, es⟩ (((z1.trans z2).trans z4).trans z5) (Mdp upd_same (dp_up dp2 (z4.up.trans sG)) (dp_up dp4 sG)) ⟨by rw [el, tl], by rw [tl]; exact n1, by rw [tl]; omega, fun r hr => (hrow r hr).1, fun r hr x hx => by rw [tl]; exact (hrow r hr).2 x hx⟩
theorem sc_law_shaped : FnScope ["pool", "letters", "kind", "more", "machine"] ["pool", "letters"] (defScope s_law_shaped) := ⟨rfl, rfl, rfl, by decide +kernel, rfl, by decide +kernel, by decide +kernel⟩
theorem ok_law_shaped {f : Addr} {fd : FuncData} (F : Fun K "_law_shaped" "_law_shaped" s_law_shaped f fd) (T : Bt mg) (C : Cl K mg aHallError aBadWord aBadSize aBadNumber aBadMachine aTooMany aTooGreat aNotLeast aNoWord) (D_law_blocks : DefG P w K mg base CX0 2 "_law_blocks" ["pool", "letters", "blocks", "wide"] (spBlocks K)) (D_law_doubled : DefG P w K mg base CX0 2 "_law_doubled" ["pool", "machine"] (spDoubled)) (D_law_machine : DefG P w K mg base CX0 2 "_law_machine" ["pool", "letters", "most"] (spMachine K)) (D_law_moved : DefG P w K mg base CX0 2 "_law_moved" ["pool", "machine"] (spMoved)) (D_law_pick : DefG P w K mg base CX0 1 "_law_pick" ["pool", "many"] (spPick)) (D_law_renamed : DefG P w K mg base CX0 1 "_law_renamed" ["machine"] (spRenamed)) : FnG P w K mg base CX0 3 f fd ["pool", "letters"] (spShaped) := by
  refine FnG.calm F sc_law_shaped (fun vs H Q E h => by first | (obtain ⟨_, rfl, _⟩ := h; rfl) | (obtain ⟨_, _, rfl, _⟩ := h; rfl) | (obtain ⟨_, _, _, rfl, _⟩ := h; rfl) | (obtain ⟨_, _, _, _, rfl, _⟩ := h; rfl) | (obtain ⟨_, _, _, _, _, rfl, _⟩ := h; rfl) | (obtain ⟨_, _, _, _, _, _, rfl, _⟩ := h; rfl) | (obtain ⟨_, _, _, _, _, _, _, rfl, _⟩ := h; rfl) | (obtain ⟨_, _, _, _, _, _, _, _, rfl, _⟩ := h; rfl)) (fun cd A out z H vs Q E hg hr h => ?_)
  have nd := sc_law_shaped.nd
  obtain ⟨pa, l, G, rfl, IL, ok, q⟩ := h
  have l6 := IL.six
  have l1 := IL.pos
  refine ⟨_, (pss_cons (ps_par (i := 2) (j := 3) (by rfl) nd rfl rfl (by decide) rfl rfl (pa_cons (pe_fn D_law_pick hg (hr.mono (by decide)) (pa_cons (pv 0) (pa_cons pe_int pa_nil))) (pa_cons (pe_fn D_law_pick hg (hr.mono (by decide)) (pa_cons (pv 0) (pa_cons pe_int pa_nil))) pa_nil)) (by rfl))
    (pss_cons (ps_if (pt_cmpR op_lt (pv 2) pe_int (nomark _)) (pss_one (ps_set (i := 4) nd rfl (by first | exact Or.inl rfl | exact Or.inr rfl) (pe_fn D_law_machine hg (hr.mono (by decide)) (pa_cons (pv 0) (pa_cons (pv 1) (pa_cons pe_int pa_nil)))))) (pss_one (ps_if (pt_cmpR op_eq (pv 2) pe_int (nomark _)) (pss_one (ps_set (i := 4) nd rfl (by first | exact Or.inl rfl | exact Or.inr rfl) (pe_fn D_law_blocks hg (hr.mono (by decide)) (pa_cons (pv 0) (pa_cons (pv 1) (pa_cons pe_int (pa_cons pe_int pa_nil))))))) (pss_one (ps_set (i := 4) nd rfl (by first | exact Or.inl rfl | exact Or.inr rfl) (pe_fn D_law_blocks hg (hr.mono (by decide)) (pa_cons (pv 0) (pa_cons (pv 1) (pa_cons pe_int (pa_cons pe_int pa_nil))))))))))
    (pss_cons (ps_if (pt_cmpR op_eq (pe_op op_mod (pe_callTy call_int1 (by rfl) T.m_int (by decide +kernel) (pa_cons (pv 3) pa_nil)) pe_int) pe_int (nomark _)) (pss_one (ps_set (i := 4) nd rfl (by first | exact Or.inl rfl | exact Or.inr rfl) (pe_fn D_law_moved hg (hr.mono (by decide)) (pa_cons (pv 0) (pa_cons (pv 4) pa_nil))))) pss_nil)
    (pss_cons (ps_if (PW.pt (pw_and (pt_cmpR op_eq (pe_op op_mod (pe_callTy call_int1 (by rfl) T.m_int (by decide +kernel) (pa_cons (pv 3) pa_nil)) pe_int) pe_int (nomark _)) (pw_and1 (pt_cmpR op_le (pe_callB (lenQ K) (by rfl) T.m_len PySem.boot_len (pa_cons (pe_ix (ixT K) (pv 4) pe_int (fun _ _ => rfl)) pa_nil)) pe_int (nomark _))))) (pss_one (ps_set (i := 4) nd rfl (by first | exact Or.inl rfl | exact Or.inr rfl) (pe_fn D_law_doubled hg (hr.mono (by decide)) (pa_cons (pv 0) (pa_cons (pv 4) pa_nil))))) pss_nil)
    (pss_cons (ps_if (pt_cmpR op_eq (pe_op op_mod (pe_callTy call_int1 (by rfl) T.m_int (by decide +kernel) (pa_cons (pv 3) pa_nil)) pe_int) pe_int (nomark _)) (pss_one (ps_set (i := 4) nd rfl (by first | exact Or.inl rfl | exact Or.inr rfl) (pe_fn D_law_renamed hg (hr.mono (by decide)) (pa_cons (pv 4) pa_nil)))) pss_nil)
    (pss_one (ps_ret (pv 4)))))))), ?_⟩
  refine ⟨.ref pa, rfl, pa, 30, rfl, ok.pool, by decide, by decide, fun kind H1 a1 c1 _ s1 po1 => ?_⟩
  have z1 := ok.fz.stepS s1 po1
  refine ⟨.ref pa, rfl, pa, 12, rfl, z1.pool, by decide, by decide, fun more H2 a2 c2 _ s2 po2 => ?_⟩
  have z2 := z1.stepS s2 po2
  refine ⟨_, _, rfl, ?_⟩
  -- the machine, then what is done with it
  refine (fun (rest : ∀ (H3 G3 : Hp) (r : V) (m : Mach), Fz (At pa) H G H3 G3 → Dq G3 r (DM m) → MachOk l.length m → (_ : List (Option V) → Hp → Prop) [some (.ref pa), some (.str (strOf l)), some (.int kind), some (.int more), some r] H3) => ⟨_, rfl, _, _, rfl, rfl, _, rfl, ite2
      (fun _ => ⟨.ref pa, rfl, _, rfl, pa, l, 6, G, rfl, IL, by decide, by decide, z2.ok, fun H3 G3 r m z3 d3 m3 _ => rest H3 G3 r m (z2.trans z3) d3 m3⟩)
      (fun _ => ⟨_, rfl, rfl, _, rfl, ite2
        (fun _ => ⟨.ref pa, rfl, _, rfl, pa, l, 6, 40, G, rfl, IL, by decide, by decide, by decide, by decide, z2.ok, fun H3 G3 r m z3 d3 m3 _ => rest H3 G3 r m (z2.trans z3) d3 m3⟩)
        (fun _ => ⟨.ref pa, rfl, _, rfl, pa, l, 4, 3, G, rfl, IL, by decide, by decide, by decide, by decide, z2.ok, fun H3 G3 r m z3 d3 m3 _ => rest H3 G3 r m (z2.trans z3) d3 m3⟩)⟩)⟩) ?_
  intro H3 G3 r m z3 d3 m3
  -- moved
  refine (fun (rest : ∀ (H3 G3 : Hp) (r : V) (m : Mach), Fz (At pa) H G H3 G3 → Dq G3 r (DM m) → MachOk l.length m → (_ : List (Option V) → Hp → Prop) [some (.ref pa), some (.str (strOf l)), some (.int kind), some (.int more), some r] H3) => ⟨_, rfl, .inl ⟨_, rfl, _, _, rfl, rfl, by omega, rfl, _, rfl, ite2
      (fun _ => ⟨.ref pa, rfl, r, rfl, pa, r, m, l.length, G3, rfl, z3.ok, d3, m3, l1, l6, fun H4 G4 r m z4 d4 m4 => rest H4 G4 r m (z3.trans z4) d4 m4⟩)
      (fun _ => rest H3 G3 r m z3 d3 m3)⟩⟩) ?_
  intro H3 G3 r m z3 d3 m3
  -- doubled
  obtain ⟨a, x, y, rfl, ea, dt, de⟩ := dM d3
  obtain ⟨b, xs, rfl, eb, hx⟩ := dp_list dt
  have lx : xs.length = m.tab.length := by rw [dps_len hx, List.length_map]
  refine (fun (rest : ∀ (H3 G3 : Hp) (r : V) (m : Mach), Fz (At pa) H G H3 G3 → Dq G3 r (DM m) → MachOk l.length m → (_ : List (Option V) → Hp → Prop) [some (.ref pa), some (.str (strOf l)), some (.int kind), some (.int more), some r] H3) => ⟨_, rfl, .inl ⟨_, rfl, _, _, rfl, rfl, by omega, rfl, _, rfl, ite2
      (fun _ => ⟨.ref a, rfl, a, _, 0, .ref b, rfl, rfl, SqT.of (z3.same _ _ ea), atI_nat (j := 0) rfl, b, _, rfl, .inl (SqL.of (z3.same _ _ eb)), _, _, rfl, rfl, _, rfl, ite2
        (fun c => ⟨.ref pa, rfl, .ref a, rfl, pa, .ref a, m, l.length, G3, rfl, z3.ok, d3, m3, l6, (by have := of_decide_eq_true c; rw [lx] at this; omega), fun H4 G4 r m z4 d4 m4 => rest H4 G4 r m (z3.trans z4) d4 m4⟩)
        (fun _ => rest H3 G3 _ m z3 d3 m3)⟩)
      (fun _ => rest H3 G3 _ m z3 d3 m3)⟩⟩) ?_
  intro H3 G3 r m z3 d3 m3
  -- renamed
  refine ⟨_, rfl, .inl ⟨_, rfl, _, _, rfl, rfl, by omega, rfl, _, rfl, ite2
      (fun _ => ⟨r, rfl, r, m, l.length, G3, rfl, z3.ok.narrow, d3, m3, l6, fun H4 G4 r m z4 d4 m4 => ?_⟩)
      (fun _ => ⟨r, rfl, q H3 G3 r m z3 d3 m3⟩)⟩⟩
  exact ⟨r, rfl, q H4 G4 r m (z3.call z4) d4 m4⟩
theorem sc_law_run : FnScope ["letters", "machine", "word", "state", "sign"] ["letters", "machine", "word"] (defScope s_law_run) := ⟨rfl, rfl, rfl, by decide +kernel, rfl, by decide +kernel, by decide +kernel⟩
theorem ok_law_run {f : Addr} {fd : FuncData} (F : Fun K "_law_run" "_law_run" s_law_run f fd) (T : Bt mg) (C : Cl K mg aHallError aBadWord aBadSize aBadNumber aBadMachine aTooMany aTooGreat aNotLeast aNoWord)  : FnG P w K mg base CX0 1 f fd ["letters", "machine", "word"] (spRun) := by
  refine FnG.calm F sc_law_run (fun vs H Q E h => by first | (obtain ⟨_, rfl, _⟩ := h; rfl) | (obtain ⟨_, _, rfl, _⟩ := h; rfl) | (obtain ⟨_, _, _, rfl, _⟩ := h; rfl) | (obtain ⟨_, _, _, _, rfl, _⟩ := h; rfl) | (obtain ⟨_, _, _, _, _, rfl, _⟩ := h; rfl) | (obtain ⟨_, _, _, _, _, _, rfl, _⟩ := h; rfl) | (obtain ⟨_, _, _, _, _, _, _, rfl, _⟩ := h; rfl) | (obtain ⟨_, _, _, _, _, _, _, _, rfl, _⟩ := h; rfl)) (fun cd A out z H vs Q E hg hr h => ?_)
  have nd := sc_law_run.nd
  obtain ⟨l, v, w, m, rfl, IL, dm, mo, hw, q⟩ := h
  obtain ⟨a, x, y, rfl, ea, dt, de⟩ := dM dm
  obtain ⟨b, xs, rfl, eb, hx⟩ := dp_list dt
  have n1 := mo.pos
  refine ⟨_, (pss_cons (ps_set (i := 3) nd rfl (by first | exact Or.inl rfl | exact Or.inr rfl) pe_int)
    (pss_cons (ps_for PassesOwn.never rfl (pi_str (pv 2)) (pg_name (i := 4) nd rfl (by first | exact Or.inl rfl | exact Or.inr rfl))
    (pss_one (ps_set (i := 3) nd rfl (by first | exact Or.inl rfl | exact Or.inr rfl) (pe_ix (ixL K) (pe_ix (ixL K) (pe_ix (ixT K) (pv 1) pe_int (fun _ _ => rfl)) (pv 3) (fun _ _ => rfl)) (pe_sindex (pv 0) (pv 4)) (fun _ _ => rfl)))))
    (pss_one (ps_ret (pv 3))))), ?_⟩
  refine ⟨_, rfl, _, rfl, ?_⟩
  refine for_it walkS (fun i σ H1 => H1 = H ∧ ∃ y4, σ = [some (.str (strOf l)), some (.ref a), some (.str (strOf w)), some (.int (runW l m 0 (w.take i) : Nat)), y4]) ⟨rfl, none, rfl⟩ (fun _ _ _ _ _ => trivial) (fun i x σ H1 H1' hi hP hy => ?_) (fun σ H1 hP => ?_)
  · obtain ⟨rfl, hcx⟩ := hy
    obtain ⟨rfl, y4, rfl⟩ := hP
    obtain ⟨c, hc, rfl⟩ := sgnI_at hcx
    have cl := hw c (List.mem_of_getElem? hc)
    have lt := runW_lt mo (w.take i) (s := 0) (by omega) fun d hd => hw d (List.mem_of_mem_take hd)
    obtain ⟨r, hr, hrc, _⟩ := step1_ok mo lt cl
    obtain ⟨rb, e1, e2⟩ := dT_row hx hr
    obtain ⟨rest, ho⟩ := sign_at cl
    refine ⟨.ref a, rfl, a, _, 0, .ref b, rfl, rfl, SqT.of ea, atI_nat (j := 0) rfl, _, rfl, b, _, _, .ref rb, rfl, rfl, SqL.of eb, atI_nat e1, _, rfl, ⟨_, rfl⟩, _, rfl, _, _, _, rest, rfl, rfl, ho, rb, _, _, _, rfl, rfl, SqL.of e2, atI_nat (getI hrc), rfl, some (.str (strOf [c])), ?_⟩
    rw [List.take_add_one, hc]
    show _ = [_, _, _, some (V.int (runW l m 0 (w.take i ++ [c]) : Nat)), _]
    rw [runW_snoc]
    rfl
  · obtain ⟨rfl, y4, rfl⟩ := hP
    rw [lenS, List.take_length] at *
    exact ⟨_, rfl, q⟩
theorem sc_law_backs : FnScope ["machine", "length", "rows", "one", "step", "target", "row"] ["machine", "length"] (defScope s_law_backs) := ⟨rfl, rfl, rfl, by decide +kernel, rfl, by decide +kernel, by decide +kernel⟩
theorem ok_law_backs {f : Addr} {fd : FuncData} (F : Fun K "_law_backs" "_law_backs" s_law_backs f fd) (T : Bt mg) (C : Cl K mg aHallError aBadWord aBadSize aBadNumber aBadMachine aTooMany aTooGreat aNotLeast aNoWord)  : FnG P w K mg base CX0 1 f fd ["machine", "length"] (spBacks) := by
  refine FnG.calm F sc_law_backs (fun vs H Q E h => by first | (obtain ⟨_, rfl, _⟩ := h; rfl) | (obtain ⟨_, _, rfl, _⟩ := h; rfl) | (obtain ⟨_, _, _, rfl, _⟩ := h; rfl) | (obtain ⟨_, _, _, _, rfl, _⟩ := h; rfl) | (obtain ⟨_, _, _, _, _, rfl, _⟩ := h; rfl) | (obtain ⟨_, _, _, _, _, _, rfl, _⟩ := h; rfl) | (obtain ⟨_, _, _, _, _, _, _, rfl, _⟩ := h; rfl) | (obtain ⟨_, _, _, _, _, _, _, _, rfl, _⟩ := h; rfl)) (fun cd A out z H vs Q E hg hr h => ?_)
  have nd := sc_law_backs.nd
  obtain ⟨v, n, m, k, G, rfl, ok, dm, mo, k6, n300, q⟩ := h
  obtain ⟨a, x, y, rfl, ea, dt, de⟩ := dM dm
  obtain ⟨b, xs, rfl, eb, hx⟩ := dp_list dt
  obtain ⟨c, rfl, ec⟩ := dB de
  have lx : xs.length = m.tab.length := by rw [dps_len hx, List.length_map]
  have n60 := mo.most
  have n1 := mo.pos
  have le := mo.ends
  refine ⟨_, (pss_cons (ps_set (i := 2) nd rfl (by first | exact Or.inl rfl | exact Or.inr rfl) (pe_lst (pa_cons (pe_lc (own := [("one", 3)]) (tt := tYes) (g := gName 3) rfl nd (piL K (pe_ix (ixT K) (pv 0) pe_int (fun _ _ => rfl))) (blkOk_by (by kernel_rfl)) (fun _ _ _ _ _ => (pg_name (i := 3) nd rfl (by first | exact Or.inl rfl | exact Or.inr rfl))) (fun _ _ _ _ _ => pts_nil) (fun _ _ _ _ _ => (pe_callTy call_int1 (by rfl) T.m_int (by decide +kernel) (pa_cons (pv 3) pa_nil)))) pa_nil)))
    (pss_cons (ps_for PassesOwn.never rfl (pi_range1 (by rfl) T.m_range (pa_cons (pv 1) pa_nil)) (pg_name (i := 4) nd rfl (by first | exact Or.inl rfl | exact Or.inr rfl))
    (pss_one (ps_expr (pe_bm PySem.F.plainAttrs_list PySem.F.slot_list_append PySem.F.type_list_append mt_append (pv 2) (pa_cons (pe_lc (own := [("row", 6)]) (tt := tYes) (g := gName 6) rfl nd (piL K (pe_ix (ixT K) (pv 0) pe_int (fun _ _ => rfl))) (blkOk_by (by kernel_rfl)) (fun _ _ _ _ _ => (pg_name (i := 6) nd rfl (by first | exact Or.inl rfl | exact Or.inr rfl))) (fun _ _ _ _ _ => pts_nil) (fun _ _ _ _ _ => (pe_callB (sumQ K rfl) (by rfl) T.m_sum (by decide +kernel) (pa_cons (pe_lc (own := [("target", 5)]) (tt := tYes) (g := gName 5) rfl nd (piL K (pv 6)) (blkOk_by (by kernel_rfl)) (fun _ _ _ _ _ => (pg_name (i := 5) nd rfl (by first | exact Or.inl rfl | exact Or.inr rfl))) (fun _ _ _ _ _ => pts_nil) (fun _ _ _ _ _ => (pe_ix (ixL K) (pe_ix (ixL K) (pv 2) (pv 4) (fun _ _ => rfl)) (pv 5) (fun _ _ => rfl)))) pa_nil)))) pa_nil)))))
    (pss_one (ps_ret (pv 2))))), ?_⟩
  refine ⟨.ref a, rfl, a, _, 1, .ref c, rfl, rfl, SqT.of (ok.same _ _ ea), atI_nat (j := 1) rfl, c, rfl, ⟨_, SqL.of (ok.same _ _ ec)⟩, fun D nD => ?_⟩
  refine lc_draw (R := fun i d => d = .int (cnt m 0 i)) (walk_list (xs := m.ends.map V.bl)) (by rw [List.length_map]; omega) ok nD (fun H s => SqL.of (s _ _ ec)) (fun i x H2 G2 N hi hl z2 fin => ?_) (fun H2 G2 ds z2 dp2 _ hl hR => ?_)
  · obtain ⟨e, he, rfl⟩ : ∃ e, m.ends[i]? = some e ∧ x = .bl e := by
      rw [List.getElem?_map] at hi
      cases e : m.ends[i]? with
      | none => rw [e] at hi; cases hi
      | some n => rw [e] at hi; exact ⟨n, rfl, (Option.some.inj hi).symm⟩
    refine ⟨rfl, ?_⟩
    refine ⟨_, rfl, .inr ⟨e, rfl, fin _ H2 G2 (.int _) z2.ok.fz (.int _) ?_⟩⟩
    unfold cnt
    rw [List.getD_eq_getElem?_getD, he]
    cases e <;> rfl
  rw [List.length_map, le] at hl
  have e0 := row_is hl hR
  subst e0
  refine ⟨by show 1 ≤ sizeLine; decide, fun p np => ?_⟩
  have np0 : H p = none := z2.step.free np
  have gp : G2 p = none := free_of z2.same np
  have ns : ¬ NoS p := fun z => z
  refine ⟨_, rfl, _, rfl, by omega, by omega, ?_⟩
  refine for_range (lo := 0) (fun i σ H3 => ∃ (G3 : Hp) (acc : List V) (y6 : Option V), σ = [some (.ref a), some (.int (n : Nat)), some (.ref p), none, y6, none, none] ∧ Fz NoS H G H3 G3 ∧ H3 p = some (.lst acc) ∧ G3 p = none ∧ DqAll G3 acc ((rowsOf m i).map DI))
    ⟨G2, [.ref D], none, rfl, z2.loc np, upd_same, gp, .cons dp2 .nil⟩ (fun i σ H3 hi hP => ?_) (fun σ H3 hP => ?_)
  · obtain ⟨G3, acc, y6, rfl, z3, e3, g3, d3⟩ := hP
    have hi' : i < n := by omega
    have la : acc.length = i + 1 := by rw [dps_len d3, List.length_map, rowsOf_len]
    -- the last row
    obtain ⟨lr, hlr, hrow⟩ := dT_row d3 (rowsOf_at (Nat.le_refl i))
    refine ⟨.ref p, rfl, .inl ⟨rfl, _, SqL.of e3⟩, .ref a, rfl, a, _, 0, .ref b, rfl, rfl, SqT.of (z3.same _ _ (z3.up _ _ ea)), atI_nat (j := 0) rfl, b, rfl, ⟨_, SqL.of (z3.same _ _ (z3.up _ _ eb))⟩, fun D1 nD1 => ?_⟩
    have hx3 := dps_up hx z3.up
    have dp1 : p ≠ D1 := ne_of_none e3 nD1
    refine lc_draw (R := fun j d => d = .int (cnt m (i + 1) j)) (walk_list (xs := xs)) (by omega) z3.ok nD1 (fun H s => SqL.of (s _ _ (z3.up _ _ eb))) (fun j x H4 G4 N hj hl z4 fin => ?_) (fun H4 G4 ds z4 dp4 _ hl hR => ?_)
    · obtain ⟨d, hd, hdx⟩ := dps_get' hx3 hj
      obtain ⟨r, hr, rfl⟩ : ∃ r, m.tab[j]? = some r ∧ DI r = d := by
        rw [List.getElem?_map] at hd
        cases e : m.tab[j]? with
        | none => rw [e] at hd; cases hd
        | some r => rw [e] at hd; exact ⟨r, rfl, Option.some.inj hd⟩
      obtain ⟨rb, rfl, er⟩ := dI hdx
      have rl := mo.row r (List.mem_of_getElem? hr)
      have rt := mo.tgt r (List.mem_of_getElem? hr)
      have e4 := z4.step.own_stays ns e3
      refine ⟨rfl, ?_⟩
      refine ⟨.ref rb, rfl, rb, rfl, ⟨_, SqL.of (z4.same _ _ (z4.up _ _ er))⟩, fun D2 nD2 => ?_⟩
      have dp2' : p ≠ D2 := ne_of_none e4 nD2
      have drb : rb ≠ D2 := ne_of_none (z4.same _ _ (z4.up _ _ er)) nD2
      have dlr : lr ≠ D2 := ne_of_none (z4.same _ _ (z4.up _ _ hrow)) nD2
      refine lc_map (walk_list (xs := r.map V.int)) (fun x => match x with | .int t => .int (cnt m i t.toNat) | _ => .non) (fun _ => true) (by rw [List.length_map, rl]; omega) (fun acc => SqL.of (by rw [upd_ne drb]; exact z4.same _ _ (z4.up _ _ er))) (fun u x acc' N2 hu fin2 _ => ?_) ?_
      · obtain ⟨t, ht, rfl⟩ := intsAt hu
        obtain ⟨t0, tn⟩ := rt t (List.mem_of_getElem? ht)
        refine ⟨rfl, ?_⟩
        refine ⟨.ref p, rfl, _, rfl, p, _, _, .ref lr, rfl, rfl, SqL.of (by rw [upd_ne dp2']; exact e4), by rw [Int.zero_add]; exact atI_nat hlr, _, rfl, lr, _, t, _, rfl, rfl, SqL.of (by rw [upd_ne dlr]; exact z4.same _ _ (z4.up _ _ hrow)), atI_of t0 (getI (rowOf_at (by omega))), fin2 rfl⟩
      · have em : ((r.map V.int).filter fun _ => true).map (fun x => match x with | .int t => V.int (cnt m i t.toNat) | _ => V.non) = (r.map fun t => cnt m i t.toNat).map V.int := by
          rw [filter_all, List.map_map, List.map_map]; rfl
        rw [em]
        refine ⟨D2, _, rfl, SqL.of upd_same, ?_⟩
        refine fin _ _ G4 (.int _) (z4.ok.fz.loc nD2) (.int _) ?_
        show PyData.int _ = .int (cnt m (i + 1) j)
        rw [cnt_succ, List.getD_eq_getElem?_getD, hr]
        rfl
    · rw [lx] at hl
      have e1 := row_is hl hR
      subst e1
      have e4 := z4.step.own_stays ns e3
      have g4 := z4.grow.out g3 e3
      refine ⟨p, _, _, rfl, rfl, e4, szl (by omega), ?_⟩
      refine ⟨G4, acc ++ [.ref D1], _, rfl, (z3.trans z4).put np0 g4 ns, upd_same, g4, ?_⟩
      rw [rowsOf_succ, List.map_append]
      exact dps_snoc (dps_up d3 z4.up) dp4
  · obtain ⟨G3, acc, y6, rfl, z3, e3, g3, d3⟩ := hP
    have tn : ((n : Nat) : Int).toNat = n := by omega
    rw [tn] at d3
    exact ⟨.ref p, rfl, q _ _ _ (z3.fix np0 e3 ns) (.lst upd_same (dps_up d3 (same_sub g3)))⟩
theorem sc_law_rank : FnScope ["letters", "machine", "backs", "word", "found", "length", "state", "at", "k"] ["letters", "machine", "backs", "word"] (defScope s_law_rank) := ⟨rfl, rfl, rfl, by decide +kernel, rfl, by decide +kernel, by decide +kernel⟩
theorem ok_law_rank {f : Addr} {fd : FuncData} (F : Fun K "_law_rank" "_law_rank" s_law_rank f fd) (T : Bt mg) (C : Cl K mg aHallError aBadWord aBadSize aBadNumber aBadMachine aTooMany aTooGreat aNotLeast aNoWord)  : FnG P w K mg base CX0 1 f fd ["letters", "machine", "backs", "word"] (spRank) := by
  refine FnG.calm F sc_law_rank (fun vs H Q E h => by first | (obtain ⟨_, rfl, _⟩ := h; rfl) | (obtain ⟨_, _, rfl, _⟩ := h; rfl) | (obtain ⟨_, _, _, rfl, _⟩ := h; rfl) | (obtain ⟨_, _, _, _, rfl, _⟩ := h; rfl) | (obtain ⟨_, _, _, _, _, rfl, _⟩ := h; rfl) | (obtain ⟨_, _, _, _, _, _, rfl, _⟩ := h; rfl) | (obtain ⟨_, _, _, _, _, _, _, rfl, _⟩ := h; rfl) | (obtain ⟨_, _, _, _, _, _, _, _, rfl, _⟩ := h; rfl)) (fun cd A out z H vs Q E hg hr h => ?_)
  have nd := sc_law_rank.nd
  obtain ⟨l, w, v, b, m, top, G, rfl, IL, hw, wl, tl, ok, dm, db, mo, q⟩ := h
  have l6 := IL.six
  have n1 := mo.pos
  have n60 := mo.most
  obtain ⟨a, x, y, rfl, ea, dt, de⟩ := dM dm
  obtain ⟨tb, txs, rfl, eb, hx⟩ := dp_list dt
  obtain ⟨ba, bxs, rfl, eba, hbx⟩ := dp_list db
  have sw : (strOf w).length ≤ sizeLine := by rw [strOf_len]; exact sz (by omega)
  have row_at : ∀ i, i ≤ top → ∃ rb, bxs[i]? = some (.ref rb) ∧ G rb = some (.lst ((rowOf m i).map V.int)) := fun i hi => dT_row hbx (rowsOf_at hi)
  refine ⟨_, (pss_cons (ps_set (i := 4) nd rfl (by first | exact Or.inl rfl | exact Or.inr rfl) (pe_callB (sumQ K rfl) (by rfl) T.m_sum (by decide +kernel) (pa_cons (pe_lc (own := [("length", 5)]) (tt := tYes) (g := gName 5) rfl nd (pi_range1 (by rfl) T.m_range (pa_cons (pe_callB call_len_str (by rfl) T.m_len PySem.boot_len (pa_cons (pv 3) pa_nil)) pa_nil)) (blkOk_by (by kernel_rfl)) (fun _ _ _ _ _ => (pg_name (i := 5) nd rfl (by first | exact Or.inl rfl | exact Or.inr rfl))) (fun _ _ _ _ _ => pts_nil) (fun _ _ _ _ _ => (pe_ix (ixL K) (pe_ix (ixL K) (pv 2) (pv 5) (fun _ _ => rfl)) pe_int (fun _ _ => rfl)))) pa_nil)))
    (pss_cons (ps_set (i := 6) nd rfl (by first | exact Or.inl rfl | exact Or.inr rfl) pe_int)
    (pss_cons (ps_for PassesOwn.never rfl (pi_range1 (by rfl) T.m_range (pa_cons (pe_callB call_len_str (by rfl) T.m_len PySem.boot_len (pa_cons (pv 3) pa_nil)) pa_nil)) (pg_name (i := 7) nd rfl (by first | exact Or.inl rfl | exact Or.inr rfl))
    (pss_cons (ps_for PassesOwn.never rfl (pi_range1 (by rfl) T.m_range (pa_cons (pe_sindex (pv 0) (pe_ix ix_str (pv 3) (pv 7) (fun _ _ => rfl))) pa_nil)) (pg_name (i := 8) nd rfl (by first | exact Or.inl rfl | exact Or.inr rfl))
      (pss_one (ps_set (i := 4) nd rfl (by first | exact Or.inl rfl | exact Or.inr rfl) (pe_op op_add (pv 4) (pe_ix (ixL K) (pe_ix (ixL K) (pv 2) (pe_op op_sub (pe_op op_sub (pe_callB call_len_str (by rfl) T.m_len PySem.boot_len (pa_cons (pv 3) pa_nil)) (pv 7)) pe_int) (fun _ _ => rfl)) (pe_ix (ixL K) (pe_ix (ixL K) (pe_ix (ixT K) (pv 1) pe_int (fun _ _ => rfl)) (pv 6) (fun _ _ => rfl)) (pv 8) (fun _ _ => rfl)) (fun _ _ => rfl))))))
      (pss_one (ps_set (i := 6) nd rfl (by first | exact Or.inl rfl | exact Or.inr rfl) (pe_ix (ixL K) (pe_ix (ixL K) (pe_ix (ixT K) (pv 1) pe_int (fun _ _ => rfl)) (pv 6) (fun _ _ => rfl)) (pe_sindex (pv 0) (pe_ix ix_str (pv 3) (pv 7) (fun _ _ => rfl))) (fun _ _ => rfl))))))
    (pss_one (ps_ret (pv 4)))))), ?_⟩
  refine ⟨_, rfl, _, rfl, sw, ?_⟩
  rw [strOf_len]
  refine ⟨_, rfl, by omega, by omega, fun D nD => ?_⟩
  rw [Int.toNat_natCast]
  refine lc_map walkR (fun x => match x with | .int i => .int (cnt m i.toNat 0) | _ => .non) (fun _ => true) (by rw [lenR]; omega) (fun _ => trivial) (fun i x acc N hx2 fin _ => ?_) ?_
  · obtain ⟨hi, rfl⟩ := rngI_at hx2
    obtain ⟨rb, h1, h2⟩ := row_at (0 + (i : Int)).toNat (by omega)
    have s1 : Same H (upd H D (.lst acc)) := same_new (Same.refl _) nD
    refine ⟨rfl, ?_⟩
    exact ⟨.ref ba, rfl, _, rfl, ba, _, _, .ref rb, rfl, rfl, SqL.of (s1 _ _ (ok.same _ _ eba)), atI_of (by omega) h1, rb, _, 0, .int (cnt m (0 + (i : Int)).toNat 0), rfl, rfl, SqL.of (s1 _ _ (ok.same _ _ h2)), atI_nat (j := 0) (getI (rowOf_at (by omega))), fin rfl⟩
  have em : ((rngI 0 w.length).filter fun _ => true).map (fun x => match x with | .int i => V.int (cnt m i.toNat 0) | _ => V.non) = ((List.range w.length).map fun n => cnt m n 0).map V.int := by
    rw [filter_all, List.map_map, List.map_map]
    refine List.map_congr_left fun i _ => ?_
    show V.int (cnt m (0 + (i : Int)).toNat 0) = V.int (cnt m i 0)
    rw [show (0 + (i : Int)).toNat = i by omega]
  rw [em]
  refine ⟨D, _, rfl, SqL.of upd_same, ?_⟩
  have z1 := ok.fz.loc (o := .lst (((List.range w.length).map fun n => cnt m n 0).map V.int)) nD
  generalize upd H D (.lst (((List.range w.length).map fun n => cnt m n 0).map V.int)) = H1 at z1
  refine ⟨_, rfl, _, rfl, sw, ?_⟩
  rw [strOf_len]
  refine ⟨_, rfl, by omega, by omega, ?_⟩
  refine for_range (lo := 0) (fun i σ H2 => ∃ y5 y7 y8 : Option V, σ = [some (.str (strOf l)), some (.ref a), some (.ref ba), some (.str (strOf w)), some (.int (((List.range w.length).map fun n => cnt m n 0).sum + ((List.range i).map (ahdAt l m w)).sum)), y5, some (.int (runW l m 0 (w.take i) : Nat)), y7, y8] ∧ Step NoS H1 H2)
    ⟨none, none, none, by rw [show ((List.range 0).map (ahdAt l m w)).sum = 0 from rfl, Int.add_zero]; rfl, Step.refl _ _⟩ (fun i σ H2 hi hP => ?_) (fun σ H2 hP => ?_)
  · obtain ⟨y5, y7, y8, rfl, s2⟩ := hP
    rw [Int.toNat_natCast] at hi
    have z2 := z1.step0 s2
    obtain ⟨c, hc⟩ : ∃ c, w[i]? = some c := ⟨_, List.getElem?_eq_getElem hi⟩
    have cl := hw c (List.mem_of_getElem? hc)
    have hcx : atI (strOf w).cps.toList (0 + (i : Int)) = some c := by rw [strOf_cps, Int.zero_add]; exact atI_nat hc
    have lt := runW_lt mo (w.take i) (s := 0) (by omega) fun d hd => hw d (List.mem_of_mem_take hd)
    obtain ⟨r, hr, hrc, _⟩ := step1_ok mo lt cl
    obtain ⟨rb, e1, e2⟩ := dT_row hx hr
    obtain ⟨rest, ho⟩ := sign_at cl
    have ix := idx_lt cl
    have rl := mo.row r (List.mem_of_getElem? hr)
    obtain ⟨kb, k1, k2⟩ := row_at (w.length - i - 1) (by omega)
    refine ⟨_, rfl, ⟨_, rfl⟩, _, rfl, _, rfl, _, _, c, rfl, rfl, sw, hcx, _, _, _, rest, rfl, rfl, ho, _, rfl, by omega, by omega, ?_⟩
    refine for_range (lo := 0) (fun k σ H3 => ∃ y8 : Option V, σ = [some (.str (strOf l)), some (.ref a), some (.ref ba), some (.str (strOf w)), some (.int (((List.range w.length).map fun n => cnt m n 0).sum + ((List.range i).map (ahdAt l m w)).sum + ((r.take k).map fun t => cnt m (w.length - i - 1) t.toNat).sum)), y5, some (.int (runW l m 0 (w.take i) : Nat)), some (.int (0 + (i : Int))), y8] ∧ H3 = H2)
      ⟨y8, by rw [show ((r.take 0).map fun t => cnt m (w.length - i - 1) t.toNat).sum = 0 from rfl, Int.add_zero]; rfl, rfl⟩ (fun k σ H3 hk hP => ?_) (fun σ H3 hP => ?_)
    · obtain ⟨y8, rfl, rfl⟩ := hP
      rw [Int.toNat_natCast] at hk
      obtain ⟨t, ht⟩ : ∃ t, r[k]? = some t := ⟨_, List.getElem?_eq_getElem (by omega)⟩
      have tbd := mo.tgt r (List.mem_of_getElem? hr) t (List.mem_of_getElem? ht)
      refine ⟨_, rfl, .ref ba, rfl, _, rfl, _, rfl, sw, ?_⟩
      rw [strOf_len]
      refine ⟨_, rfl, _, _, rfl, rfl, _, _, rfl, rfl, ba, _, _, .ref kb, rfl, rfl, SqL.of (z2.same _ _ eba), ?_, .ref a, rfl, a, _, 0, .ref tb, rfl, rfl, SqT.of (z2.same _ _ ea), atI_nat (j := 0) rfl, _, rfl, tb, _, _, .ref rb, rfl, rfl, SqL.of (z2.same _ _ eb), atI_nat e1, _, rfl, rb, _, _, .int t, rfl, rfl, SqL.of (z2.same _ _ e2), by rw [Int.zero_add]; exact atI_nat (getI ht), kb, _, _, .int (cnt m (w.length - i - 1) t.toNat), rfl, rfl, SqL.of (z2.same _ _ k2), atI_of tbd.1 (getI (rowOf_at (by omega))), _, _, rfl, rfl, some (.int (0 + (k : Int))), ?_, rfl⟩
      · rw [show (w.length : Int) - (0 + (i : Int)) - 1 = ((w.length - i - 1 : Nat) : Int) by omega]
        exact atI_nat k1
      · rw [List.take_add_one, ht, List.map_append, List.sum_append]
        show [_, _, _, _, some (V.int (_ + cnt m (w.length - i - 1) t.toNat)), _, _, _, _] = [_, _, _, _, some (V.int (_ + (_ + (cnt m (w.length - i - 1) t.toNat + 0)))), _, _, _, _]
        rw [Int.add_zero, ← Int.add_assoc]
    · obtain ⟨y8, rfl, rfl⟩ := hP
      rw [Int.toNat_natCast]
      refine ⟨.ref a, rfl, a, _, 0, .ref tb, rfl, rfl, SqT.of (z2.same _ _ ea), atI_nat (j := 0) rfl, _, rfl, tb, _, _, .ref rb, rfl, rfl, SqL.of (z2.same _ _ eb), atI_nat e1, _, rfl, ⟨_, rfl⟩, _, rfl, _, rfl, _, _, c, rfl, rfl, sw, hcx, _, _, _, rest, rfl, rfl, ho, rb, _, _, _, rfl, rfl, SqL.of (z2.same _ _ e2), atI_nat (getI hrc), y5, some (.int (0 + (i : Int))), y8, ?_, s2⟩
      have ea2 : ahdAt l m w i = ((r.take (l.idxOf c)).map fun t => cnt m (w.length - i - 1) t.toNat).sum := by
        unfold ahdAt
        rw [List.getD_eq_getElem?_getD, List.getD_eq_getElem?_getD, hr, hc]; rfl
      rw [List.range_succ, List.map_append, List.sum_append, show ([i].map (ahdAt l m w)).sum = ahdAt l m w i from Int.add_zero _, ea2, List.take_add_one, hc, ← Int.add_assoc]
      show _ = [_, _, _, _, _, _, some (V.int (runW l m 0 (w.take i ++ [c]) : Nat)), _, _]
      rw [runW_snoc]
      rfl
  · obtain ⟨y5, y7, y8, rfl, s2⟩ := hP
    rw [Int.toNat_natCast]
    exact ⟨_, rfl, q _ (z1.step.trans s2)⟩
theorem sc_law_great : FnScope ["pool", "digits", "bound", "value", "k"] ["pool", "digits", "bound"] (defScope s_law_great) := ⟨rfl, rfl, rfl, by decide +kernel, rfl, by decide +kernel, by decide +kernel⟩
theorem ok_law_great {f : Addr} {fd : FuncData} (F : Fun K "_law_great" "_law_great" s_law_great f fd) (T : Bt mg) (C : Cl K mg aHallError aBadWord aBadSize aBadNumber aBadMachine aTooMany aTooGreat aNotLeast aNoWord) (D_law_pick : DefG P w K mg base CX0 1 "_law_pick" ["pool", "many"] (spPick)) : FnG P w K mg base CX0 2 f fd ["pool", "digits", "bound"] (spGreatN) := by
  refine FnG.calm F sc_law_great (fun vs H Q E h => by first | (obtain ⟨_, rfl, _⟩ := h; rfl) | (obtain ⟨_, _, rfl, _⟩ := h; rfl) | (obtain ⟨_, _, _, rfl, _⟩ := h; rfl) | (obtain ⟨_, _, _, _, rfl, _⟩ := h; rfl) | (obtain ⟨_, _, _, _, _, rfl, _⟩ := h; rfl) | (obtain ⟨_, _, _, _, _, _, rfl, _⟩ := h; rfl) | (obtain ⟨_, _, _, _, _, _, _, rfl, _⟩ := h; rfl) | (obtain ⟨_, _, _, _, _, _, _, _, rfl, _⟩ := h; rfl)) (fun cd A out z H vs Q E hg hr h => ?_)
  have nd := sc_law_great.nd
  obtain ⟨pa, d, b, rfl, po, dl, b1, q⟩ := h
  refine ⟨_, (pss_cons (ps_set (i := 3) nd rfl (by first | exact Or.inl rfl | exact Or.inr rfl) pe_int)
    (pss_cons (ps_for PassesOwn.never rfl (pi_range1 (by rfl) T.m_range (pa_cons (pv 1) pa_nil)) (pg_name (i := 4) nd rfl (by first | exact Or.inl rfl | exact Or.inr rfl))
    (pss_one (ps_set (i := 3) nd rfl (by first | exact Or.inl rfl | exact Or.inr rfl) (pe_op op_add (pe_op op_mul (pv 3) pe_int) (pe_fn D_law_pick hg (hr.mono (by decide)) (pa_cons (pv 0) (pa_cons pe_int pa_nil)))))))
    (pss_one (ps_ret (pe_op op_mod (pe_callTy call_int1 (by rfl) T.m_int (by decide +kernel) (pa_cons (pv 3) pa_nil)) (pv 2)))))), ?_⟩
  refine ⟨_, rfl, _, rfl, by omega, by omega, ?_⟩
  refine for_range (lo := 0) (fun i σ H2 => ∃ (x : Int) (y4 : Option V), σ = [some (.ref pa), some (.int (d : Nat)), some (.int b), some (.int x), y4] ∧ 0 ≤ x ∧ Step (At pa) H H2 ∧ Pools (At pa) H2)
    ⟨0, none, rfl, Int.le_refl 0, Step.refl _ _, Pools.at po⟩ (fun i σ H2 _ hP => ?_) (fun σ H2 hP => ?_)
  · obtain ⟨x, y4, rfl, x0, st, po2⟩ := hP
    refine ⟨_, rfl, _, _, rfl, rfl, .inr ⟨by decide, by decide⟩, .ref pa, rfl, pa, 60, rfl, po2 pa rfl, by decide, by decide, fun y H3 a3 c3 _ s3 po3 => ⟨_, _, rfl, rfl, ?_⟩⟩
    exact ⟨x * 60 + y, _, rfl, by omega, st.trans s3, po3⟩
  · obtain ⟨x, y4, rfl, x0, st, po2⟩ := hP
    refine ⟨_, rfl, .inl ⟨_, rfl, _, rfl, _, _, rfl, rfl, by omega, ?_⟩⟩
    exact q _ _ (Int.emod_nonneg x (by omega)) (Int.emod_lt_of_pos x (by omega)) st po2
theorem sc_law_is_number : FnScope ["value", "due"] ["value", "due"] (defScope s_law_is_number) := ⟨rfl, rfl, rfl, by decide +kernel, rfl, by decide +kernel, by decide +kernel⟩
theorem ok_law_is_number {f : Addr} {fd : FuncData} (F : Fun K "_law_is_number" "_law_is_number" s_law_is_number f fd) (T : Bt mg) (C : Cl K mg aHallError aBadWord aBadSize aBadNumber aBadMachine aTooMany aTooGreat aNotLeast aNoWord)  : FnG P w K mg base CX0 1 f fd ["value", "due"] (spIsNum) := by
  refine FnG.calm F sc_law_is_number (fun vs H Q E h => by first | (obtain ⟨_, rfl, _⟩ := h; rfl) | (obtain ⟨_, _, rfl, _⟩ := h; rfl) | (obtain ⟨_, _, _, rfl, _⟩ := h; rfl) | (obtain ⟨_, _, _, _, rfl, _⟩ := h; rfl) | (obtain ⟨_, _, _, _, _, rfl, _⟩ := h; rfl) | (obtain ⟨_, _, _, _, _, _, rfl, _⟩ := h; rfl) | (obtain ⟨_, _, _, _, _, _, _, rfl, _⟩ := h; rfl) | (obtain ⟨_, _, _, _, _, _, _, _, rfl, _⟩ := h; rfl)) (fun cd A out z H vs Q E hg hr h => ?_)
  have nd := sc_law_is_number.nd
  obtain ⟨a, b, rfl, q⟩ := h
  refine ⟨_, (pss_one (ps_ret (pe_and (pe_callB (isiQ K) (by rfl) T.m_isinstance (by decide +kernel) (pa_cons (pv 0) (pa_cons (pe_bltn (v := .ty "int") (by rfl) T.m_int (by decide +kernel) rfl) pa_nil))) (pe_and (pe_not (pe_callB (isiQ K) (by rfl) T.m_isinstance (by decide +kernel) (pa_cons (pv 0) (pa_cons (pe_bltn (v := .ty "bool") (by rfl) T.m_bool (by decide +kernel) rfl) pa_nil)))) (pe_one (pe_cmpR op_eq (pv 0) (pv 1) (nomark _))))))), ?_⟩
  refine ⟨_, rfl, _, _, .type "int", .type "int", true, rfl, .ty "int", .base (.int a), kit_ty (by decide +kernel), true, rfl, ?_⟩
  refine ⟨_, rfl, _, _, .type "int", .type "bool", false, rfl, .ty "bool", .base (.int a), kit_ty (by decide +kernel), false, rfl, true, rfl, ?_⟩
  refine ⟨_, rfl, _, rfl, rfl, ?_⟩
  rw [show decide (V.int a = V.int b) = decide (a = b) by
    by_cases h : a = b
    · rw [h, decide_eq_true rfl, decide_eq_true rfl]
    · rw [decide_eq_false h, decide_eq_false fun z => h (V.int.inj z)]]
  exact q
theorem sc_law_is_alone : FnScope ["e"] ["e"] (defScope s_law_is_alone) := ⟨rfl, rfl, rfl, by decide +kernel, rfl, by decide +kernel, by decide +kernel⟩
theorem ok_law_is_alone {f : Addr} {fd : FuncData} (F : Fun K "_law_is_alone" "_law_is_alone" s_law_is_alone f fd) (T : Bt mg) (C : Cl K mg aHallError aBadWord aBadSize aBadNumber aBadMachine aTooMany aTooGreat aNotLeast aNoWord)  : FnP P w K mg base  1 f fd ["e"] (spAlone aNoWord) := by
  refine FnP.body F sc_law_is_alone (fun pa pc pd vs H Q E h => by obtain ⟨rfl, _⟩ := h; rfl) (fun cd A out z H vs Q E pp pc pd hr hz hf h => ?_)
  have nd := sc_law_is_alone.nd
  obtain ⟨rfl, rfl, rfl, q⟩ := h
  have xC := C.p_NoWord.is
  have hp : pp ∈ (L2H.cxH CX0 P w K mg base ["e"] "_law_is_alone" (defScope s_law_is_alone) f cd A out z H E pp).nox.pn := List.mem_cons_self
  refine ⟨_, (pss_cons (ps_if (PW.pt (pw_or (pt_val (pe_callB (isEQ K hp xC hz hf) (by rfl) T.m_isinstance (by decide +kernel) (pa_cons (pv 0) (pa_cons (pe_glob (v := .ref aBadMachine) rfl C.o_BadMachine.g rfl) pa_nil)))) (pw_or (pt_val (pe_callB (isEQ K hp xC hz hf) (by rfl) T.m_isinstance (by decide +kernel) (pa_cons (pv 0) (pa_cons (pe_glob (v := .ref aBadNumber) rfl C.o_BadNumber.g rfl) pa_nil)))) (pw_or (pt_val (pe_callB (isEQ K hp xC hz hf) (by rfl) T.m_isinstance (by decide +kernel) (pa_cons (pv 0) (pa_cons (pe_glob (v := .ref aBadSize) rfl C.o_BadSize.g rfl) pa_nil)))) (pw_or1 (pt_val (pe_callB (isEQ K hp xC hz hf) (by rfl) T.m_isinstance (by decide +kernel) (pa_cons (pv 0) (pa_cons (pe_glob (v := .ref aBadWord) rfl C.o_BadWord.g rfl) pa_nil))))))))) (pss_one (ps_ret pe_bl)) pss_nil)
    (pss_cons (ps_if (PW.pt (pw_or (pt_val (pe_callB (isEQ K hp xC hz hf) (by rfl) T.m_isinstance (by decide +kernel) (pa_cons (pv 0) (pa_cons (pe_glob (v := .ref aNotLeast) rfl C.o_NotLeast.g rfl) pa_nil)))) (pw_or (pt_val (pe_callB (isEQ K hp xC hz hf) (by rfl) T.m_isinstance (by decide +kernel) (pa_cons (pv 0) (pa_cons (pe_glob (v := .ref aTooGreat) rfl C.o_TooGreat.g rfl) pa_nil)))) (pw_or1 (pt_val (pe_callB (isEQ K hp xC hz hf) (by rfl) T.m_isinstance (by decide +kernel) (pa_cons (pv 0) (pa_cons (pe_glob (v := .ref aTooMany) rfl C.o_TooMany.g rfl) pa_nil)))))))) (pss_one (ps_ret pe_bl)) pss_nil)
    (pss_one (ps_ret (pe_and (pe_callB (isEQ K hp xC hz hf) (by rfl) T.m_isinstance (by decide +kernel) (pa_cons (pv 0) (pa_cons (pe_glob (v := .ref aNoWord) rfl C.o_NoWord.g rfl) pa_nil))) (pe_one (pe_callB (isEQ K hp xC hz hf) (by rfl) T.m_isinstance (by decide +kernel) (pa_cons (pv 0) (pa_cons (pe_bltn (v := .ty "ValueError") (by rfl) T.m_ValueError (by decide +kernel) rfl) pa_nil))))))))), ?_⟩
  refine ⟨_, rfl, _, _, false, rfl, (fun _ z => z), C.q_NoWord_BadMachine, _, rfl, ?_⟩
  refine ⟨_, rfl, _, _, false, rfl, (fun _ z => z), C.q_NoWord_BadNumber, _, rfl, ?_⟩
  refine ⟨_, rfl, _, _, false, rfl, (fun _ z => z), C.q_NoWord_BadSize, _, rfl, ?_⟩
  refine ⟨_, rfl, _, _, false, rfl, (fun _ z => z), C.q_NoWord_BadWord, _, rfl, ?_⟩
  refine ⟨_, rfl, _, _, false, rfl, (fun _ z => z), C.q_NoWord_NotLeast, _, rfl, ?_⟩
  refine ⟨_, rfl, _, _, false, rfl, (fun _ z => z), C.q_NoWord_TooGreat, _, rfl, ?_⟩
  refine ⟨_, rfl, _, _, false, rfl, (fun _ z => z), C.q_NoWord_TooMany, _, rfl, ?_⟩
  refine ⟨_, rfl, _, _, true, rfl, (fun _ z => z), C.q_NoWord_NoWord, _, rfl, ?_⟩
  exact ⟨_, rfl, _, _, true, rfl, (fun _ z => z), C.p_NoWord.ve, q⟩
theorem sc_law_kth : FnScope ["letters", "machine", "place", "told", "e"] ["letters", "machine", "place"] (defScope s_law_kth) := ⟨rfl, rfl, rfl, by decide +kernel, rfl, by decide +kernel, by decide +kernel⟩
theorem ok_law_kth {f : Addr} {fd : FuncData} (F : Fun K "_law_kth" "_law_kth" s_law_kth f fd) (T : Bt mg) (C : Cl K mg aHallError aBadWord aBadSize aBadNumber aBadMachine aTooMany aTooGreat aNotLeast aNoWord) (D_law_is_alone : DefP P w K mg base 1 "_law_is_alone" ["e"] (spAlone aNoWord)) (Dkth : DefG P w K mg base (L2.CX P w) 2 "kth" ["letters", "machine", "place"] (spKth aNoWord)) : FnG P w K mg base CX0 3 f fd ["letters", "machine", "place"] (spLKth) := by
  refine FnG.calm F sc_law_kth (fun vs H Q E h => by first | (obtain ⟨_, rfl, _⟩ := h; rfl) | (obtain ⟨_, _, rfl, _⟩ := h; rfl) | (obtain ⟨_, _, _, rfl, _⟩ := h; rfl) | (obtain ⟨_, _, _, _, rfl, _⟩ := h; rfl) | (obtain ⟨_, _, _, _, _, rfl, _⟩ := h; rfl) | (obtain ⟨_, _, _, _, _, _, rfl, _⟩ := h; rfl) | (obtain ⟨_, _, _, _, _, _, _, rfl, _⟩ := h; rfl) | (obtain ⟨_, _, _, _, _, _, _, _, rfl, _⟩ := h; rfl)) (fun cd A out z H vs Q E hg hr h => ?_)
  have nd := sc_law_kth.nd
  obtain ⟨l, v, m, p, G, rfl, IL, ok, dm, mo, p0, q, qn⟩ := h
  refine ⟨_, (pss_cons (ps_try_as (i := 4) rfl rfl nd rfl rfl ⟨rfl, by decide, .inl C.o_HallError.g⟩ takesNo (fun W pn xe tk po => (pss_one (ps_set (i := 3) nd rfl (by first | exact Or.inl rfl | exact Or.inr rfl) (pe_fnW Dkth hg (hr.mono (by decide)) tk (pa_cons (pv 0) (pa_cons (pv 1) (pa_cons (pv 2) pa_nil))))))) (fun a oe cls d pn hz hf => (pss_one (ps_ret (pe_ix (ixL K) (pe_lst (pa_cons pe_str (pa_cons pe_str pa_nil))) (pe_callTy call_int1 (by rfl) T.m_int (by decide +kernel) (pa_cons (pe_not (pe_fnP D_law_is_alone (roomS hr (by decide)) List.mem_cons_self hz hf (pa_cons (pv 4) pa_nil))) pa_nil)) (fun _ _ => rfl))))))
    (pss_one (ps_ret (pe_tup (pa_cons pe_str (pa_cons (pv 3) pa_nil)))))), ?_⟩
  refine ⟨_, rfl, v, rfl, _, rfl, l, v, m, p, G, rfl, IL, ok, dm, mo, p0, fun w e H1 s1 => ?_, fun e H1 s1 => ?_⟩
  · refine ⟨_, rfl, by show 2 ≤ sizeLine; decide, fun t nt => ?_⟩
    exact q w e _ _ t ((ok.fz.step0 s1).new nt) upd_same
  · refine ⟨true, C.o_HallError.catch C.s_NoWord_HallError, fun _ a na => ?_, fun z => nomatch z⟩
    refine ⟨by show 2 ≤ sizeLine; decide, fun L nL => ?_⟩
    refine ⟨_, rfl, rfl, rfl, rfl, _, rfl, .inr ⟨_, rfl, L, _, 0, .str "refused", rfl, rfl, SqL.of upd_same, atI_nat (j := 0) rfl, ?_⟩⟩
    exact qn e _ (s1.trans (Step.new nL))
theorem sc_law_next : FnScope ["letters", "machine", "word", "told", "e"] ["letters", "machine", "word"] (defScope s_law_next) := ⟨rfl, rfl, rfl, by decide +kernel, rfl, by decide +kernel, by decide +kernel⟩
theorem ok_law_next {f : Addr} {fd : FuncData} (F : Fun K "_law_next" "_law_next" s_law_next f fd) (T : Bt mg) (C : Cl K mg aHallError aBadWord aBadSize aBadNumber aBadMachine aTooMany aTooGreat aNotLeast aNoWord) (D_law_is_alone : DefP P w K mg base 1 "_law_is_alone" ["e"] (spAlone aNoWord)) (Dnext_word : DefG P w K mg base (L2.CX P w) 5 "next_word" ["letters", "machine", "word"] (spNext aNoWord)) : FnG P w K mg base CX0 6 f fd ["letters", "machine", "word"] (spLNext) := by
  refine FnG.calm F sc_law_next (fun vs H Q E h => by first | (obtain ⟨_, rfl, _⟩ := h; rfl) | (obtain ⟨_, _, rfl, _⟩ := h; rfl) | (obtain ⟨_, _, _, rfl, _⟩ := h; rfl) | (obtain ⟨_, _, _, _, rfl, _⟩ := h; rfl) | (obtain ⟨_, _, _, _, _, rfl, _⟩ := h; rfl) | (obtain ⟨_, _, _, _, _, _, rfl, _⟩ := h; rfl) | (obtain ⟨_, _, _, _, _, _, _, rfl, _⟩ := h; rfl) | (obtain ⟨_, _, _, _, _, _, _, _, rfl, _⟩ := h; rfl)) (fun cd A out z H vs Q E hg hr h => ?_)
  have nd := sc_law_next.nd
  obtain ⟨l, u, v, m, G, rfl, IL, hu, ul, ok, dm, mo, q, qn⟩ := h
  refine ⟨_, (pss_cons (ps_try_as (i := 4) rfl rfl nd rfl rfl ⟨rfl, by decide, .inl C.o_HallError.g⟩ takesNo (fun W pn xe tk po => (pss_one (ps_set (i := 3) nd rfl (by first | exact Or.inl rfl | exact Or.inr rfl) (pe_fnW Dnext_word hg (hr.mono (by decide)) tk (pa_cons (pv 0) (pa_cons (pv 1) (pa_cons (pv 2) pa_nil))))))) (fun a oe cls d pn hz hf => (pss_one (ps_ret (pe_ix (ixL K) (pe_lst (pa_cons pe_str (pa_cons pe_str pa_nil))) (pe_callTy call_int1 (by rfl) T.m_int (by decide +kernel) (pa_cons (pe_not (pe_fnP D_law_is_alone (roomS hr (by decide)) List.mem_cons_self hz hf (pa_cons (pv 4) pa_nil))) pa_nil)) (fun _ _ => rfl))))))
    (pss_one (ps_ret (pe_tup (pa_cons pe_str (pa_cons (pv 3) pa_nil)))))), ?_⟩
  refine ⟨_, rfl, v, rfl, _, rfl, l, u, v, m, G, rfl, IL, hu, ul, ok, dm, mo, fun w e H1 s1 => ?_, fun e H1 s1 => ?_⟩
  · refine ⟨_, rfl, by show 2 ≤ sizeLine; decide, fun t nt => ?_⟩
    exact q w e _ _ t ((ok.fz.step0 s1).new nt) upd_same
  · refine ⟨true, C.o_HallError.catch C.s_NoWord_HallError, fun _ a na => ?_, fun z => nomatch z⟩
    refine ⟨by show 2 ≤ sizeLine; decide, fun L nL => ?_⟩
    refine ⟨_, rfl, rfl, rfl, rfl, _, rfl, .inr ⟨_, rfl, L, _, 0, .str "refused", rfl, rfl, SqL.of upd_same, atI_nat (j := 0) rfl, ?_⟩⟩
    exact qn e _ (s1.trans (Step.new nL))
theorem sc_law_is_at : FnScope ["letters", "machine", "backs", "told", "place", "total", "sign"] ["letters", "machine", "backs", "told", "place", "total"] (defScope s_law_is_at) := ⟨rfl, rfl, rfl, by decide +kernel, rfl, by decide +kernel, by decide +kernel⟩
theorem ok_law_is_at {f : Addr} {fd : FuncData} (F : Fun K "_law_is_at" "_law_is_at" s_law_is_at f fd) (T : Bt mg) (C : Cl K mg aHallError aBadWord aBadSize aBadNumber aBadMachine aTooMany aTooGreat aNotLeast aNoWord) (D_law_rank : DefG P w K mg base CX0 1 "_law_rank" ["letters", "machine", "backs", "word"] (spRank)) (D_law_run : DefG P w K mg base CX0 1 "_law_run" ["letters", "machine", "word"] (spRun)) : FnG P w K mg base CX0 2 f fd ["letters", "machine", "backs", "told", "place", "total"] (spIsAt) := by
  refine FnG.calm F sc_law_is_at (fun vs H Q E h => by first | (obtain ⟨_, rfl, _⟩ := h; rfl) | (obtain ⟨_, _, rfl, _⟩ := h; rfl) | (obtain ⟨_, _, _, rfl, _⟩ := h; rfl) | (obtain ⟨_, _, _, _, rfl, _⟩ := h; rfl) | (obtain ⟨_, _, _, _, _, rfl, _⟩ := h; rfl) | (obtain ⟨_, _, _, _, _, _, rfl, _⟩ := h; rfl) | (obtain ⟨_, _, _, _, _, _, _, rfl, _⟩ := h; rfl) | (obtain ⟨_, _, _, _, _, _, _, _, rfl, _⟩ := h; rfl)) (fun cd A out z H vs Q E hg hr h => ?_)
  have nd := sc_law_is_at.nd
  obtain ⟨l, v, b, t, m, p, G, rfl, IL, ok, dm, db, mo, p0, ht, q⟩ := h
  have l6 := IL.six
  have dm' := dm
  obtain ⟨ma, x, y, rfl, ema, dt, de⟩ := dM dm
  obtain ⟨mc, rfl, emc⟩ := dB de
  refine ⟨_, (pss_cons (ps_if (pt_cmpR op_ge (pv 4) (pv 5) (nomark _)) (pss_one (ps_ret (pe_cmpR (op_eqD hr.units) (pv 3) pe_str (nomark _)))) pss_nil)
    (pss_cons (ps_if (PW.pt (pw_or (pt_not (pt_val (pe_callB (isiQ K) (by rfl) T.m_isinstance (by decide +kernel) (pa_cons (pv 3) (pa_cons (pe_bltn (v := .ty "tuple") (by rfl) T.m_tuple (by decide +kernel) rfl) pa_nil))))) (pw_or (pt_not (pt_val (pe_callB (isiQ K) (by rfl) T.m_isinstance (by decide +kernel) (pa_cons (pe_ix (ixT K) (pv 3) pe_int (fun _ _ => rfl)) (pa_cons (pe_bltn (v := .ty "str") (by rfl) T.m_str (by decide +kernel) rfl) pa_nil))))) (pw_or1 (pt_cmpR op_gt (pe_callB call_len_str (by rfl) T.m_len PySem.boot_len (pa_cons (pe_ix (ixT K) (pv 3) pe_int (fun _ _ => rfl)) pa_nil)) pe_int (nomark _)))))) (pss_one (ps_ret pe_bl)) pss_nil)
    (pss_cons (ps_if (PW.pt (pw_or (pt_not (pt_val (pe_callB (allQ K rfl) (by rfl) T.m_all (by decide +kernel) (pa_cons (pe_lc (own := [("sign", 6)]) (tt := tYes) (g := gName 6) rfl nd (pi_str (pe_ix (ixT K) (pv 3) pe_int (fun _ _ => rfl))) (blkOk_by (by kernel_rfl)) (fun _ _ _ _ _ => (pg_name (i := 6) nd rfl (by first | exact Or.inl rfl | exact Or.inr rfl))) (fun _ _ _ _ _ => pts_nil) (fun _ _ _ _ _ => (pe_cmpR op_in_sign (pv 6) (pv 0) rfl))) pa_nil)))) (pw_or1 (pt_not (pt_val (pe_ix (ixL K) (pe_ix (ixT K) (pv 1) pe_int (fun _ _ => rfl)) (pe_fn D_law_run hg (hr.mono (by decide)) (pa_cons (pv 0) (pa_cons (pv 1) (pa_cons (pe_ix (ixT K) (pv 3) pe_int (fun _ _ => rfl)) pa_nil)))) (fun _ _ => rfl))))))) (pss_one (ps_ret pe_bl)) pss_nil)
    (pss_one (ps_ret (pe_cmpR op_eq (pe_fn D_law_rank hg (hr.mono (by decide)) (pa_cons (pv 0) (pa_cons (pv 1) (pa_cons (pv 2) (pa_cons (pe_ix (ixT K) (pv 3) pe_int (fun _ _ => rfl)) pa_nil))))) (pv 4) (nomark _))))))), ?_⟩
  refine ⟨_, rfl, _, rfl, _, _, rfl, rfl, _, rfl, ite2 (fun h => ?_) (fun h => ?_)⟩
  · have ge : cntS m 0 201 ≤ p := of_decide_eq_true h
    rw [kth_ge ge] at ht
    have ht' : t = .str "refused" := ht
    subst ht'
    exact ⟨_, rfl, .str "refused", .str "refused", dp_of (.str _), dp_of (.str _), by decide +kernel, by decide +kernel, q _ (Step.refl _ _)⟩
  have lt : p < cntS m 0 201 := Int.not_le.mp fun z => h (decide_eq_true z)
  obtain ⟨w, hk⟩ := kth_lt (l := l) p0 lt
  rw [hk] at ht
  obtain ⟨a, rfl, ea⟩ := ht
  obtain ⟨h2, hw, htk, hp⟩ := kth_some IL.nodup mo p0 hk
  have rl := runW_lt mo w (s := 0) (by have := mo.pos; omega) hw
  obtain ⟨e, he⟩ := mo.at_end (s := ((runW l m 0 w : Nat) : Int)) (by omega) (by omega)
  have he' : m.ends[runW l m 0 w]? = some e := he
  have hte : e = true := by
    unfold takes at htk
    rw [List.getD_eq_getElem?_getD, he'] at htk
    exact htk
  subst hte
  have sw : (strOf w).length ≤ sizeLine := by rw [strOf_len]; exact sz (by omega)
  refine ⟨_, rfl, _, _, .type "tuple", .type "tuple", true, rfl, .ty "tuple", .base (.tup ea), kit_ty (by decide +kernel), true, rfl, ?_⟩
  refine ⟨_, rfl, a, _, 1, .str (strOf w), rfl, rfl, SqT.of ea, atI_nat (j := 1) rfl, _, _, .type "str", .type "str", true, rfl, .ty "str", .base (.str _), kit_ty (by decide +kernel), true, rfl, ?_⟩
  refine ⟨_, rfl, a, _, 1, .str (strOf w), rfl, rfl, SqT.of ea, atI_nat (j := 1) rfl, _, rfl, sw, _, _, rfl, rfl, _, rfl, ?_⟩
  rw [strOf_len]
  refine ite2 (fun h => absurd (of_decide_eq_true h) (by omega)) (fun _ => ?_)
  refine ⟨_, rfl, a, _, 1, .str (strOf w), rfl, rfl, SqT.of ea, atI_nat (j := 1) rfl, _, rfl, fun D nD => ?_⟩
  refine lc_map walkS (fun _ => .bl true) (fun _ => true) (by rw [List.length_map]; omega) (fun _ => trivial) (fun i x acc N hx fin _ => ?_) ?_
  · obtain ⟨c, hc, rfl⟩ := sgnI_at hx
    have cl := hw c (List.mem_of_getElem? hc)
    refine ⟨rfl, ?_⟩
    refine ⟨_, rfl, _, rfl, c, _, rfl, rfl, ?_⟩
    have e2 : decide (c ∈ (strOf l).cps.toList) = true := decide_eq_true (by rw [strOf_cps]; exact cl)
    rw [e2]
    exact fin rfl
  have em : ((sgnI w).filter fun _ => true).map (fun _ => V.bl true) = (w.map fun _ => true).map V.bl := by
    rw [filter_all, List.map_map, List.map_map]; rfl
  rw [em]
  have z1 := ok.fz.loc (o := .lst ((w.map fun _ => true).map V.bl)) nD
  have st1 := Step.new (S := NoS) (o := .lst ((w.map fun _ => true).map V.bl)) nD
  have eD : upd H D (.lst ((w.map fun _ => true).map V.bl)) D = some (.lst ((w.map fun _ => true).map V.bl)) := upd_same
  have ea1 := st1.same _ _ ea
  generalize upd H D (.lst ((w.map fun _ => true).map V.bl)) = H1 at z1 eD ea1 st1
  have al : (w.map fun _ => true).all id = true := by
    rw [List.all_map]
    exact List.all_eq_true.mpr fun _ _ => rfl
  refine ⟨D, _, rfl, SqL.of eD, true, by rw [al], ?_⟩
  refine ⟨.ref ma, rfl, ma, _, 1, .ref mc, rfl, rfl, SqT.of (z1.same _ _ ema), atI_nat (j := 1) rfl, _, rfl, .ref ma, rfl, .ref a, rfl, a, _, 1, .str (strOf w), rfl, rfl, SqT.of ea1, atI_nat (j := 1) rfl, l, .ref ma, w, m, rfl, IL, dp_up dm' z1.same, mo, hw, ?_⟩
  refine ⟨mc, _, _, .bl true, rfl, rfl, SqL.of (z1.same _ _ emc), atI_nat (getB he'), _, rfl, ?_⟩
  refine ⟨_, rfl, .ref ma, rfl, _, rfl, .ref a, rfl, a, _, 1, .str (strOf w), rfl, rfl, SqT.of ea1, atI_nat (j := 1) rfl, l, w, .ref ma, b, m, 200, G, rfl, IL, hw, by omega, by omega, z1.ok, dm', db, mo, fun H2 s2 => ?_⟩
  refine ⟨_, rfl, rfl, ?_⟩
  rw [hp, decide_eq_true rfl]
  exact q _ (st1.trans s2)
theorem sc_law : FnScope ["script", "pool", "letters", "machine", "kept", "backs", "total", "row", "place", "told", "choice", "word", "size", "k", "ahead", "is_in"] ["script"] (defScope s_law) := ⟨rfl, rfl, rfl, by decide +kernel, rfl, by decide +kernel, by decide +kernel⟩
-- pre
theorem three_or_six (c : Bool) : ∃ n : Int, atI [V.int 3, V.int 6] (if c = true then 1 else 0) = some (.int n) ∧ 1 ≤ n ∧ n ≤ 6 := by
  cases c
  · exact ⟨3, rfl, by decide, by decide⟩
  · exact ⟨6, rfl, by decide, by decide⟩
theorem ok_law {f : Addr} {fd : FuncData} (F : Fun K "law" "law" s_law f fd) (T : Bt mg) (C : Cl K mg aHallError aBadWord aBadSize aBadNumber aBadMachine aTooMany aTooGreat aNotLeast aNoWord) (D_law_backs : DefG P w K mg base CX0 1 "_law_backs" ["machine", "length"] (spBacks)) (D_law_great : DefG P w K mg base CX0 2 "_law_great" ["pool", "digits", "bound"] (spGreatN)) (D_law_is_at : DefG P w K mg base CX0 2 "_law_is_at" ["letters", "machine", "backs", "told", "place", "total"] (spIsAt)) (D_law_is_number : DefG P w K mg base CX0 1 "_law_is_number" ["value", "due"] (spIsNum)) (D_law_kth : DefG P w K mg base CX0 3 "_law_kth" ["letters", "machine", "place"] (spLKth)) (D_law_letters : DefG P w K mg base CX0 2 "_law_letters" ["pool", "most"] (spLetters)) (D_law_next : DefG P w K mg base CX0 6 "_law_next" ["letters", "machine", "word"] (spLNext)) (D_law_pick : DefG P w K mg base CX0 1 "_law_pick" ["pool", "many"] (spPick)) (D_law_rank : DefG P w K mg base CX0 1 "_law_rank" ["letters", "machine", "backs", "word"] (spRank)) (D_law_run : DefG P w K mg base CX0 1 "_law_run" ["letters", "machine", "word"] (spRun)) (D_law_shaped : DefG P w K mg base CX0 3 "_law_shaped" ["pool", "letters"] (spShaped)) (D_law_stream : DefG P w K mg base CX0 2 "_law_stream" ["script"] (spStream K)) (Dcount_ahead : DefG P w K mg base CX0 2 "count_ahead" ["letters", "machine", "word"] (spAhead)) (Dplace_of : DefG P w K mg base CX0 5 "place_of" ["letters", "machine", "word"] (spPlaceOf)) : FnG P w K mg base CX0 7 f fd ["script"] (spLaw K) := by
  refine FnG.calm F sc_law (fun vs H Q E h => by first | (obtain ⟨_, rfl, _⟩ := h; rfl) | (obtain ⟨_, _, rfl, _⟩ := h; rfl) | (obtain ⟨_, _, _, rfl, _⟩ := h; rfl) | (obtain ⟨_, _, _, _, rfl, _⟩ := h; rfl) | (obtain ⟨_, _, _, _, _, rfl, _⟩ := h; rfl) | (obtain ⟨_, _, _, _, _, _, rfl, _⟩ := h; rfl) | (obtain ⟨_, _, _, _, _, _, _, rfl, _⟩ := h; rfl) | (obtain ⟨_, _, _, _, _, _, _, _, rfl, _⟩ := h; rfl)) (fun cd A out z H vs Q E hg hr h => ?_)
  have nd := sc_law.nd
  obtain ⟨a, ns, rfl, hS, hl, q⟩ := h
  refine ⟨_, (pss_cons (ps_set (i := 1) nd rfl (by first | exact Or.inl rfl | exact Or.inr rfl) (pe_fn D_law_stream hg (hr.mono (by decide)) (pa_cons (pv 0) pa_nil)))
    (pss_cons (ps_set (i := 2) nd rfl (by first | exact Or.inl rfl | exact Or.inr rfl) (pe_fn D_law_letters hg (hr.mono (by decide)) (pa_cons (pv 1) (pa_cons (pe_ix (ixL K) (pe_lst (pa_cons pe_int (pa_cons pe_int pa_nil))) (pe_callTy call_int1 (by rfl) T.m_int (by decide +kernel) (pa_cons (pe_cmpR op_eq (pe_fn D_law_pick hg (hr.mono (by decide)) (pa_cons (pv 1) (pa_cons pe_int pa_nil))) pe_int (nomark _)) pa_nil)) (fun _ _ => rfl)) pa_nil))))
    (pss_cons (ps_set (i := 3) nd rfl (by first | exact Or.inl rfl | exact Or.inr rfl) (pe_fn D_law_shaped hg (hr.mono (by decide)) (pa_cons (pv 1) (pa_cons (pv 2) pa_nil))))
    (pss_cons (ps_set (i := 4) nd rfl (by first | exact Or.inl rfl | exact Or.inr rfl) (pe_callB (call_reprD hg (hu_rep hr)) (by rfl) T.m_repr (by decide +kernel) (pa_cons (pv 3) pa_nil)))
    (pss_cons (ps_set (i := 5) nd rfl (by first | exact Or.inl rfl | exact Or.inr rfl) (pe_fn D_law_backs hg (hr.mono (by decide)) (pa_cons (pv 3) (pa_cons pe_int pa_nil))))
    (pss_cons (ps_set (i := 6) nd rfl (by first | exact Or.inl rfl | exact Or.inr rfl) (pe_callB (sumQ K rfl) (by rfl) T.m_sum (by decide +kernel) (pa_cons (pe_lc (own := [("row", 7)]) (tt := tYes) (g := gName 7) rfl nd (piL K (pv 5)) (blkOk_by (by kernel_rfl)) (fun _ _ _ _ _ => (pg_name (i := 7) nd rfl (by first | exact Or.inl rfl | exact Or.inr rfl))) (fun _ _ _ _ _ => pts_nil) (fun _ _ _ _ _ => (pe_ix (ixL K) (pv 7) pe_int (fun _ _ => rfl)))) pa_nil)))
    (pss_cons (ps_set (i := 8) nd rfl (by first | exact Or.inl rfl | exact Or.inr rfl) (pe_fn D_law_great hg (hr.mono (by decide)) (pa_cons (pv 1) (pa_cons (pe_op op_add pe_int (pe_op op_mul (pe_fn D_law_pick hg (hr.mono (by decide)) (pa_cons (pv 1) (pa_cons pe_int pa_nil))) pe_int)) (pa_cons (pe_op op_add (pe_op op_add (pv 6) pe_int) (pe_op op_fdiv (pv 6) pe_int)) pa_nil)))))
    (pss_cons (ps_set (i := 8) nd rfl (by first | exact Or.inl rfl | exact Or.inr rfl) (pe_ix (ixL K) (pe_lst (pa_cons (pv 8) (pa_cons (pv 8) (pa_cons (pv 8) (pa_cons (pv 8) (pa_cons (pe_callB (call_max2 rfl) (by rfl) T.m_max (by decide +kernel) (pa_cons pe_int (pa_cons (pe_op op_sub (pv 6) pe_int) pa_nil))) (pa_cons (pv 6) pa_nil))))))) (pe_fn D_law_pick hg (hr.mono (by decide)) (pa_cons (pv 1) (pa_cons pe_int pa_nil))) (fun _ _ => rfl)))
    (pss_cons (ps_set (i := 9) nd rfl (by first | exact Or.inl rfl | exact Or.inr rfl) (pe_fn D_law_kth hg (hr.mono (by decide)) (pa_cons (pv 2) (pa_cons (pv 3) (pa_cons (pv 8) pa_nil)))))
    (pss_cons (ps_if (pt_not (pt_val (pe_fn D_law_is_at hg (hr.mono (by decide)) (pa_cons (pv 2) (pa_cons (pv 3) (pa_cons (pv 5) (pa_cons (pv 9) (pa_cons (pv 8) (pa_cons (pv 6) pa_nil))))))))) (pss_one (ps_ret pe_bl)) pss_nil)
    (pss_cons (ps_set (i := 10) nd rfl (by first | exact Or.inl rfl | exact Or.inr rfl) (pe_fn D_law_pick hg (hr.mono (by decide)) (pa_cons (pv 1) (pa_cons pe_int pa_nil))))
    (pss_cons (ps_if (PW.pt (pw_and (pt_cmpR op_lt (pv 8) (pv 6) (nomark _)) (pw_and1 (pt_cmpR op_lt (pv 10) pe_int (nomark _))))) (pss_cons (ps_set (i := 11) nd rfl (by first | exact Or.inl rfl | exact Or.inr rfl) (pe_ix (ixT K) (pv 9) pe_int (fun _ _ => rfl)))
      (pss_cons (ps_if (pt_not (pt_val (pe_fn D_law_is_number hg (hr.mono (by decide)) (pa_cons (pe_fn Dplace_of hg (hr.mono (by decide)) (pa_cons (pv 2) (pa_cons (pv 3) (pa_cons (pv 11) pa_nil)))) (pa_cons (pv 8) pa_nil))))) (pss_one (ps_ret pe_bl)) pss_nil)
      (pss_cons (ps_if (pt_cmpR op_eq (pv 10) pe_int (nomark _)) (pss_one (ps_ret (pe_and (pe_fn D_law_is_number hg (hr.mono (by decide)) (pa_cons (pe_fn Dcount_ahead hg (hr.mono (by decide)) (pa_cons (pv 2) (pa_cons (pv 3) (pa_cons (pv 11) pa_nil)))) (pa_cons (pv 8) pa_nil))) (pe_one (pe_cmpR op_eq (pe_callB (call_reprD hg (hu_rep hr)) (by rfl) T.m_repr (by decide +kernel) (pa_cons (pv 3) pa_nil)) (pv 4) (nomark _)))))) pss_nil)
      (pss_one (ps_ret (pe_and (pe_fn D_law_is_at hg (hr.mono (by decide)) (pa_cons (pv 2) (pa_cons (pv 3) (pa_cons (pv 5) (pa_cons (pe_fn D_law_next hg (hr.mono (by decide)) (pa_cons (pv 2) (pa_cons (pv 3) (pa_cons (pv 11) pa_nil)))) (pa_cons (pe_op op_add (pv 8) pe_int) (pa_cons (pv 6) pa_nil))))))) (pe_one (pe_cmpR op_eq (pe_callB (call_reprD hg (hu_rep hr)) (by rfl) T.m_repr (by decide +kernel) (pa_cons (pv 3) pa_nil)) (pv 4) (nomark _))))))))) pss_nil)
    (pss_cons (ps_set (i := 12) nd rfl (by first | exact Or.inl rfl | exact Or.inr rfl) (pe_ix (ixL K) (pe_lst (pa_cons (pe_fn D_law_pick hg (hr.mono (by decide)) (pa_cons (pv 1) (pa_cons pe_int pa_nil))) (pa_cons (pe_op op_add pe_int (pe_fn D_law_pick hg (hr.mono (by decide)) (pa_cons (pv 1) (pa_cons pe_int pa_nil)))) (pa_cons pe_int pa_nil)))) (pe_fn D_law_pick hg (hr.mono (by decide)) (pa_cons (pv 1) (pa_cons pe_int pa_nil))) (fun _ _ => rfl)))
    (pss_cons (ps_set (i := 11) nd rfl (by first | exact Or.inl rfl | exact Or.inr rfl) (joinQ K pe_str (pe_lc (own := [("k", 13)]) (tt := tYes) (g := gName 13) rfl nd (pi_range1 (by rfl) T.m_range (pa_cons (pv 12) pa_nil)) (blkOk_by (by kernel_rfl)) (fun _ _ _ _ _ => (pg_name (i := 13) nd rfl (by first | exact Or.inl rfl | exact Or.inr rfl))) (fun _ _ _ _ _ => pts_nil) (fun _ _ _ _ _ => (pe_ix ix_str (pv 2) (pe_op op_mod (pe_callTy call_int1 (by rfl) T.m_int (by decide +kernel) (pa_cons (pe_op op_add (pe_op op_mul (pv 13) (pv 13)) (pe_fn D_law_pick hg (hr.mono (by decide)) (pa_cons (pv 1) (pa_cons pe_int pa_nil)))) pa_nil)) (pe_callB call_len_str (by rfl) T.m_len PySem.boot_len (pa_cons (pv 2) pa_nil))) (fun _ _ => rfl))))))
    (pss_cons (ps_if (PW.pt (pw_and (pt_cmpR op_eq (pe_fn D_law_pick hg (hr.mono (by decide)) (pa_cons (pv 1) (pa_cons pe_int pa_nil))) pe_int (nomark _)) (pw_and1 (pt_cmpR op_lt (pv 8) (pv 6) (nomark _))))) (pss_one (ps_set (i := 11) nd rfl (by first | exact Or.inl rfl | exact Or.inr rfl) (pe_op op_add_str (pe_slice sl_str (pe_ix (ixT K) (pv 9) pe_int (fun _ _ => rfl)) po_none (po_some (pv 12))) (pe_slice sl_str (pv 11) po_none (po_some (pe_op op_sub pe_int (pe_callB call_len_str (by rfl) T.m_len PySem.boot_len (pa_cons (pe_slice sl_str (pe_ix (ixT K) (pv 9) pe_int (fun _ _ => rfl)) po_none (po_some (pv 12))) pa_nil)))))))) pss_nil)
    (pss_cons (ps_set (i := 14) nd rfl (by first | exact Or.inl rfl | exact Or.inr rfl) (pe_fn D_law_rank hg (hr.mono (by decide)) (pa_cons (pv 2) (pa_cons (pv 3) (pa_cons (pv 5) (pa_cons (pv 11) pa_nil))))))
    (pss_cons (ps_set (i := 15) nd rfl (by first | exact Or.inl rfl | exact Or.inr rfl) (pe_ix (ixL K) (pe_ix (ixT K) (pv 3) pe_int (fun _ _ => rfl)) (pe_fn D_law_run hg (hr.mono (by decide)) (pa_cons (pv 2) (pa_cons (pv 3) (pa_cons (pv 11) pa_nil)))) (fun _ _ => rfl)))
    (pss_cons (ps_if (pt_not (pt_val (pe_fn D_law_is_number hg (hr.mono (by decide)) (pa_cons (pe_fn Dcount_ahead hg (hr.mono (by decide)) (pa_cons (pv 2) (pa_cons (pv 3) (pa_cons (pv 11) pa_nil)))) (pa_cons (pv 14) pa_nil))))) (pss_one (ps_ret pe_bl)) pss_nil)
    (pss_cons (ps_set (i := 9) nd rfl (by first | exact Or.inl rfl | exact Or.inr rfl) (pe_fn Dplace_of hg (hr.mono (by decide)) (pa_cons (pv 2) (pa_cons (pv 3) (pa_cons (pv 11) pa_nil)))))
    (pss_cons (ps_if (PW.pt (pw_or (PW.pt (pw_and (pt_val (pv 15)) (pw_and1 (pt_not (pt_val (pe_fn D_law_is_number hg (hr.mono (by decide)) (pa_cons (pv 9) (pa_cons (pv 14) pa_nil)))))))) (pw_or1 (PW.pt (pw_and (pt_not (pt_val (pv 15))) (pw_and1 (pt_cmpR op_notN (pv 9) pe_non (nomark _)))))))) (pss_one (ps_ret pe_bl)) pss_nil)
    (pss_cons (ps_set (i := 9) nd rfl (by first | exact Or.inl rfl | exact Or.inr rfl) (pe_fn D_law_next hg (hr.mono (by decide)) (pa_cons (pv 2) (pa_cons (pv 3) (pa_cons (pv 11) pa_nil)))))
    (pss_one (ps_ret (pe_and (pe_fn D_law_is_at hg (hr.mono (by decide)) (pa_cons (pv 2) (pa_cons (pv 3) (pa_cons (pv 5) (pa_cons (pv 9) (pa_cons (pe_op op_add (pv 14) (pe_callTy call_int1 (by rfl) T.m_int (by decide +kernel) (pa_cons (pv 15) pa_nil))) (pa_cons (pv 6) pa_nil))))))) (pe_one (pe_cmpR op_eq (pe_callB (call_reprD hg (hu_rep hr)) (by rfl) T.m_repr (by decide +kernel) (pa_cons (pv 3) pa_nil)) (pv 4) (nomark _))))))))))))))))))))))))))), ?_⟩
  -- pool
  refine ⟨.ref a, rfl, a, ns, rfl, hS, hl, fun H1 pa st1 npa po1 => ?_⟩
  have ok1 : Ok (At pa) H1 H := ⟨st1.same, Pools.at po1, fun b e => by rw [show b = pa from e]; exact npa⟩
  -- letters
  refine ⟨.ref pa, rfl, by show 2 ≤ sizeLine; decide, fun p np => ?_⟩
  have z1 := ok1.fz.new (o := .lst [.int 3, .int 6]) np
  refine ⟨.ref pa, rfl, pa, 6, rfl, z1.pool, by decide, by decide, fun k2 H2 a2 c2 _ s2 po2 => ⟨rfl, .inr ⟨_, rfl, ?_⟩⟩⟩
  have z2 := z1.stepS s2 po2
  obtain ⟨nl, hnl, nl1, nl6⟩ := three_or_six (decide (V.int k2 = V.int 0))
  refine ⟨p, _, _, .int nl, rfl, rfl, SqL.of (z2.same _ _ upd_same), hnl, pa, nl, rfl, z2.pool, nl1, nl6, fun l H3 IL _ s3 po3 => ?_⟩
  have z3 := z2.stepS s3 po3
  have l6 := IL.six
  have l1 := IL.pos
  have nd2 := IL.nodup
  -- machine
  refine ⟨.ref pa, rfl, _, rfl, pa, l, _, rfl, IL, z3.ok, fun H4 G4 r1 m z4 d4 mo => ?_⟩
  have ok4 := z4.ok
  clear z3 s3 po3 z2 s2 po2 z1 z4
  have mp := mo.pos
  have m60 := mo.most
  obtain ⟨r1', r2', r3', r4'⟩ := repr_ok (sh_mach mo l6) (by decide) (by decide)
  have d4' := d4
  obtain ⟨xa, xt, xe, rfl, exa, dxt, dxe⟩ := dM d4
  obtain ⟨xb, rfl, exb⟩ := dB dxe
  obtain ⟨xc, xrows, rfl, exc, dxr⟩ := dp_list dxt
  have lrows : xrows.length = m.tab.length := by rw [dps_len dxr, List.length_map]
  -- kept
  refine ⟨.ref xa, rfl, xa, _, rfl, dp_of (dp_up d4' ok4.same), r1', r2', r3', r4', ?_⟩
  have dm4 := dp_up d4' (Same.refl _)
  -- backs
  refine ⟨.ref xa, rfl, .ref xa, 200, m, l.length, G4, rfl, ok4.narrow, d4', mo, l6, by omega, fun H5 G5 rb z5 d5 => ?_⟩
  have z5' := ok4.fz.call z5
  obtain ⟨ab, bxs, rfl, eab, dbx⟩ := dp_list d5
  have lbx : bxs.length = 201 := by rw [dps_len dbx, List.length_map, rowsOf_len]
  have dm5 := dp_up d4' z5'.up
  have exa5 := z5'.up _ _ exa
  have exb5 := z5'.up _ _ exb
  have ok5 := z5'.ok
  clear z5 z5' ok4 exa exb exc d4'
  -- total
  refine ⟨.ref ab, rfl, ab, rfl, ⟨_, SqL.of (ok5.same _ _ eab)⟩, fun D nD => ?_⟩
  refine lc_draw (R := fun i d => d = .int (cnt m i 0)) (walk_list (xs := bxs)) (by omega) ok5 nD (fun H s => SqL.of (s _ _ eab)) (fun i x H6 G6 N hi hl6 z6 fin => ?_) (fun H6 G6 ds z6 dp6 _ hl6 hR => ?_)
  · obtain ⟨kb, h1, h2⟩ := dT_row dbx (rowsOf_at (m := m) (n := 200) (i := i) (by omega))
    rw [h1] at hi
    cases Option.some.inj hi
    refine ⟨rfl, ?_⟩
    exact ⟨_, rfl, kb, _, 0, .int (cnt m i 0), rfl, rfl, SqL.of (z6.same _ _ (z6.up _ _ h2)), atI_nat (j := 0) (getI (rowOf_at (by omega))), fin _ H6 G6 (.int _) z6.ok.fz (.int _) rfl⟩
  rw [lbx] at hl6
  have eds : ds = ((List.range 201).map fun n => cnt m (0 + n) 0).map .int := by
    refine List.ext_getElem? fun i => ?_
    rw [List.getElem?_map, List.getElem?_map]
    by_cases hi : i < 201
    · have e1 : ds[i]? = some ds[i] := List.getElem?_eq_getElem (by omega)
      rw [List.getElem?_range hi, e1, hR i _ e1, Option.map_some, Option.map_some, Nat.zero_add]
    · rw [List.getElem?_eq_none (by omega), List.getElem?_eq_none (by rw [List.length_range]; omega)]; rfl
  subst eds
  obtain ⟨Da, eDa, hDa⟩ := dI dp6
  cases eDa
  refine ⟨D, _, rfl, SqL.of (z6.same _ _ hDa), ?_⟩
  rw [show ((List.range 201).map fun n => cnt m (0 + n) 0).sum = cntS m 0 201 from rfl]
  have tot0 := cntS_nonneg (m := m) (n := 0) (k := 201)
  have dm6 := dp_up dm5 z6.up
  have db6 := dp_up d5 z6.up
  have exa6 := z6.up _ _ exa5
  have exb6 := z6.up _ _ exb5
  have ok6 := z6.ok
  clear z6 ok5 dp6 hDa
  generalize hT : cntS m 0 201 = T at tot0
  -- place
  refine ⟨.ref pa, rfl, .ref pa, rfl, pa, 4, rfl, ok6.pool, by decide, by decide, fun x7 H7 a7 c7 _ s7 po7 => ?_⟩
  have z7 := ok6.fz.stepS s7 po7
  obtain ⟨n7, rfl⟩ := Int.eq_ofNat_of_zero_le a7
  refine ⟨_, _, rfl, rfl, .inr ⟨by decide, by decide⟩, _, _, rfl, rfl, _, rfl, _, _, rfl, rfl, _, rfl, _, _, rfl, rfl, ⟨by decide, by decide⟩, _, _, rfl, rfl, pa, 1 + n7 * 30, _, rfl, z7.pool, by omega, by have := Int.ediv_nonneg tot0 (b := 8) (by decide); omega, fun x8 H8 a8 c8 s8 po8 => ?_⟩
  have z8 := z7.stepS s8 po8
  refine ⟨_, rfl, _, rfl, _, rfl, _, rfl, _, rfl, _, _, rfl, rfl, _, _, rfl, _, rfl, by show 6 ≤ sizeLine; decide, fun p9 np9 => ?_⟩
  have z9 := z8.loc (o := .lst [.int x8, .int x8, .int x8, .int x8, .int (if T - 1 > 0 then T - 1 else 0), .int T]) np9
  have n9 : ¬ At pa p9 := z8.ok.ne np9
  refine ⟨.ref pa, rfl, pa, 6, rfl, z9.pool, by decide, by decide, fun x10 H10 a10 c10 _ s10 po10 => ?_⟩
  have z10 := z9.stepS s10 po10
  obtain ⟨pl, hpl, pl0⟩ : ∃ pl : Int, atI [V.int x8, V.int x8, V.int x8, V.int x8, V.int (if T - 1 > 0 then T - 1 else 0), V.int T] x10 = some (.int pl) ∧ 0 ≤ pl := by
    have h : x10 = 0 ∨ x10 = 1 ∨ x10 = 2 ∨ x10 = 3 ∨ x10 = 4 ∨ x10 = 5 := by omega
    rcases h with rfl | rfl | rfl | rfl | rfl | rfl
    · exact ⟨x8, rfl, a8⟩
    · exact ⟨x8, rfl, a8⟩
    · exact ⟨x8, rfl, a8⟩
    · exact ⟨x8, rfl, a8⟩
    · exact ⟨_, rfl, by split <;> omega⟩
    · exact ⟨T, rfl, tot0⟩
  refine ⟨p9, _, _, .int pl, rfl, rfl, SqL.of (s10.own_stays n9 upd_same), hpl, ?_⟩
  -- told
  refine (fun (rest : ∀ (H11 : Hp) (t : V), Fz (At pa) H6 G6 H11 G6 → Told H11 (kthW l m pl) t → (_ : List (Option V) → Hp → Prop) [some (.ref a), some (.ref pa), some (.str (strOf l)), some (.ref xa), some (.str (DM m).shown), some (.ref ab), some (.int T), none, some (.int pl), some t, none, none, none, none, none, none] H11) => ⟨_, rfl, .ref xa, rfl, _, rfl, l, .ref xa, m, pl, G6, rfl, IL, z10.ok.narrow, dm6, mo, pl0, And.intro
    (fun w e H' G' b z' eb => rest H' (.ref b) (z10.step0 z'.step) (by rw [e]; exact ⟨b, rfl, z'.same _ _ eb⟩)) (fun e H' s' => rest H' (.str "refused") (z10.step0 s') (by rw [e]; rfl))⟩) ?_
  intro H11 t z11 ht
  refine ⟨_, rfl, .ref xa, rfl, .ref ab, rfl, t, rfl, _, rfl, _, rfl, l, .ref xa, .ref ab, t, m, pl, G6, by rw [hT]; rfl, IL, z11.ok.narrow, dm6, db6, mo, pl0, ht, fun H12 s12 => ⟨_, rfl, ?_⟩⟩
  have z12 := z11.step0 s12
  have ht12 := ht.up s12.same
  -- choice
  refine ⟨.ref pa, rfl, pa, 4, rfl, z12.pool, by decide, by decide, fun ch H13 a13 c13 _ s13 po13 => ?_⟩
  have z13 := z12.stepS s13 po13
  have ht13 : Told H13 (kthW l m pl) t := ht12.pool s13 z12.pool
  refine (fun (rest : (_ : List (Option V) → Hp → Prop) [some (.ref a), some (.ref pa), some (.str (strOf l)), some (.ref xa), some (.str (DM m).shown), some (.ref ab), some (.int T), none, some (.int pl), some t, some (.int ch), none, none, none, none, none] H13) => ⟨_, rfl, _, rfl, _, _, rfl, rfl, _, rfl, ite2 (fun h1 => ⟨_, rfl, _, _, rfl, rfl, _, rfl, ite2 (fun h2 => by
      have lt : pl < cntS m 0 201 := by rw [hT]; exact of_decide_eq_true h1
      obtain ⟨w, hk⟩ := kth_lt (l := l) pl0 lt
      clear rest
      rw [hk] at ht13
      obtain ⟨b, rfl, eb⟩ := ht13
      obtain ⟨wl, hw, htk, hp⟩ := kth_some nd2 mo pl0 hk
      have hnx : nextW l m w = kthW l m (pl + 1) := by
        unfold nextW
        rw [hp, htk, if_pos rfl]
      refine ⟨.ref b, rfl, b, _, 1, .str (strOf w), rfl, rfl, SqT.of eb, atI_nat (j := 1) rfl, ?_⟩
      refine ⟨_, rfl, .ref xa, rfl, _, rfl, l, w, .ref xa, m, G6, rfl, IL, hw, by omega, z13.ok.narrow, dm6, mo, fun H14 s14 => ?_⟩
      have z14 := z13.step0 s14
      unfold plV
      rw [if_pos htk, hp]
      refine ⟨_, rfl, _, _, rfl, _, rfl, iteNS' rfl ?_⟩
      refine ⟨_, rfl, rfl, _, rfl, ite2 (fun _ => ?_) (fun _ => ?_)⟩
      · refine ⟨_, rfl, .ref xa, rfl, _, rfl, l, w, .ref xa, m, G6, rfl, IL, hw, by omega, z14.ok.narrow, dm6, mo, fun H15 s15 => ?_⟩
        have z15 := z14.step0 s15
        rw [hp]
        refine ⟨_, rfl, _, _, rfl, _, rfl, ite2 (fun _ => ?_) (fun h => absurd (decide_eq_true rfl) h)⟩
        exact ⟨.ref xa, rfl, xa, _, rfl, dp_of (dp_up dm6 z15.same), r1', r2', r3', r4', _, rfl, rfl, by rw [decide_eq_true rfl]; exact q _⟩
      · refine ⟨_, rfl, .ref xa, rfl, .ref ab, rfl, _, rfl, .ref xa, rfl, _, rfl, l, w, .ref xa, m, G6, rfl, IL, hw, by omega, z14.ok.narrow, dm6, mo, And.intro (fun w' e H15 G' b' z' eb' => ?_) (fun e H15 s15 => ?_)⟩
        · have z15 := z14.step0 z'.step
          refine ⟨_, rfl, _, _, rfl, rfl, _, rfl, l, .ref xa, .ref ab, .ref b', m, pl + 1, G6, by rw [hT]; rfl, IL, z15.ok.narrow, dm6, db6, mo, by omega, by rw [← hnx, e]; exact ⟨b', rfl, z'.same _ _ eb'⟩, fun H16 s16 => ⟨_, rfl, ?_⟩⟩
          have z16 := z15.step0 s16
          exact ⟨.ref xa, rfl, xa, _, rfl, dp_of (dp_up dm6 z16.same), r1', r2', r3', r4', _, rfl, rfl, by rw [decide_eq_true rfl]; exact q _⟩
        · have z15 := z14.step0 s15
          refine ⟨_, rfl, _, _, rfl, rfl, _, rfl, l, .ref xa, .ref ab, .str "refused", m, pl + 1, G6, by rw [hT]; rfl, IL, z15.ok.narrow, dm6, db6, mo, by omega, by rw [← hnx, e]; rfl, fun H16 s16 => ⟨_, rfl, ?_⟩⟩
          have z16 := z15.step0 s16
          exact ⟨.ref xa, rfl, xa, _, rfl, dp_of (dp_up dm6 z16.same), r1', r2', r3', r4', _, rfl, rfl, by rw [decide_eq_true rfl]; exact q _⟩) (fun _ => rest)⟩) (fun _ => show tNext _ _ _ from rest)⟩) ?_
  -- size
  have sl : (strOf l).length ≤ sizeLine := by rw [strOf_len]; exact sz (by omega)
  refine ⟨.ref pa, rfl, pa, 60, rfl, z13.pool, by decide, by decide, fun x14 H14 a14 c14 _ s14 po14 => ?_⟩
  have z14 := z13.stepS s14 po14
  have ht14 := ht13.pool s14 z13.pool
  refine ⟨.ref pa, rfl, pa, 60, rfl, z14.pool, by decide, by decide, fun x15 H15 a15 c15 _ s15 po15 => ⟨_, _, rfl, rfl, by show 3 ≤ sizeLine; decide, fun p16 np16 => ?_⟩⟩
  have z15 := z14.stepS s15 po15
  have ht15 := ht14.pool s15 z14.pool
  have z16 := z15.loc (o := .lst [.int x14, .int (100 + x15), .int 200]) np16
  have n16 : ¬ At pa p16 := z15.ok.ne np16
  have ht16 := ht15.up (Step.new (S := NoS) (o := .lst [.int x14, .int (100 + x15), .int 200]) np16).same
  refine ⟨.ref pa, rfl, pa, 3, rfl, z16.pool, by decide, by decide, fun x17 H17 a17 c17 _ s17 po17 => ?_⟩
  have z17 := z16.stepS s17 po17
  have ht17 := ht16.pool s17 z16.pool
  obtain ⟨sn, hsn, s200⟩ : ∃ sn : Nat, atI [V.int x14, V.int (100 + x15), V.int 200] x17 = some (.int (sn : Nat)) ∧ sn ≤ 200 := by
    obtain ⟨n14, rfl⟩ := Int.eq_ofNat_of_zero_le a14
    obtain ⟨n15, rfl⟩ := Int.eq_ofNat_of_zero_le a15
    have h : x17 = 0 ∨ x17 = 1 ∨ x17 = 2 := by omega
    rcases h with rfl | rfl | rfl
    · exact ⟨n14, rfl, by omega⟩
    · exact ⟨100 + n15, rfl, by omega⟩
    · exact ⟨200, rfl, by omega⟩
  refine ⟨p16, _, _, .int (sn : Nat), rfl, rfl, SqL.of (s17.own_stays n16 upd_same), hsn, ?_⟩
  -- word
  refine ⟨⟨_, rfl⟩, _, rfl, _, rfl, by omega, by omega, fun D18 nD18 => ?_⟩
  rw [Int.toNat_natCast]
  refine lc_draw (R := fun _ d => ∃ c, d = .str (strOf [c]) ∧ c ∈ l) walkR (by rw [lenR]; omega) z17.ok nD18 (fun _ _ => trivial) (fun i x H18 G18 N hx hi z18 fin => ?_) (fun H18 G18 ds z18 dp18 _ hl18 hR => ?_)
  · obtain ⟨_, rfl⟩ := rngI_at hx
    rw [lenR] at hi
    refine ⟨rfl, ?_⟩
    refine ⟨_, rfl, _, rfl, _, rfl, _, _, rfl, rfl, .inl ⟨by omega, by omega⟩, .ref pa, rfl, pa, 60, rfl, z18.pool, by decide, by decide, fun y H19 a19 c19 _ s19 po19 => ⟨_, _, rfl, rfl, .inl ⟨_, rfl, _, rfl, _, rfl, sl, _, _, rfl, rfl, by rw [strOf_len]; omega, ?_⟩⟩⟩
    obtain ⟨c, cl, hc⟩ := sign_of (l := l) (k := ((0 + (i : Int)) * (0 + (i : Int)) + y) % ((strOf l).length : Int)) (by rw [strOf_len]; exact Int.emod_nonneg _ (by omega)) (by rw [strOf_len]; exact Int.emod_lt_of_pos _ (by omega))
    exact ⟨_, _, c, rfl, rfl, sl, hc, fin _ H19 G18 (.str (strOf [c])) (z18.ok.fz.stepS s19 po19) (.str _) ⟨c, rfl, cl⟩⟩
  obtain ⟨cs, rfl, lc, hcs⟩ := data_of hR
  rw [hl18, lenR] at lc
  have eL : H18 D18 = some (.lst ((cs.map fun c => strOf [c]).map V.str)) := by
    have e : cs.map (fun c => PyData.str (strOf [c])) = (cs.map fun c => strOf [c]).map .str := by rw [List.map_map]; rfl
    rw [e] at dp18
    obtain ⟨a', ea, h⟩ := dS dp18
    cases ea
    exact z18.same _ _ h
  refine ⟨_, D18, cs.map fun c => strOf [c], rfl, rfl, .inl (SqL.of eL), by rw [sum_ones, lc]; show sn + _ * 0 ≤ _; omega, ?_⟩
  rw [txt_join]
  have z19 : Fz (At pa) H6 G6 H18 G6 := z17.stepS z18.step z18.ok.pools
  have ht19 := ht17.pool z18.step z17.pool
  clear z18 eL dp18 hR hl18 z16 z15 z14
  -- a word that begins as the told one
  refine (fun (rest : ∀ (H20 : Hp) (w : List Nat), Fz (At pa) H6 G6 H20 G6 → (∀ c ∈ w, c ∈ l) → w.length ≤ 200 → (_ : List (Option V) → Hp → Prop) [some (.ref a), some (.ref pa), some (.str (strOf l)), some (.ref xa), some (.str (DM m).shown), some (.ref ab), some (.int T), none, some (.int pl), some t, some (.int ch), some (.str (strOf w)), some (.int (sn : Nat)), none, none, none] H20) => ⟨.ref pa, rfl, pa, 3, rfl, z19.pool, by decide, by decide, fun x20 H20 a20 c20 _ s20 po20 => ⟨rfl, _, rfl, ite2 (fun _ => ⟨_, rfl, _, rfl, _, _, rfl, rfl, _, rfl, ite2 (fun h1 => by
      have z20 := z19.stepS s20 po20
      have ht20 := ht19.pool s20 z19.pool
      have lt : pl < cntS m 0 201 := by rw [hT]; exact of_decide_eq_true h1
      obtain ⟨w, hk⟩ := kth_lt (l := l) pl0 lt
      rw [hk] at ht20
      obtain ⟨b, et, eb⟩ := ht20
      obtain ⟨wl, hw, htk, hp⟩ := kth_some nd2 mo pl0 hk
      have tk : (w.take sn).length ≤ 200 := by rw [List.length_take]; omega
      have sw : (strOf w).length ≤ sizeLine := by rw [strOf_len]; exact sz (by omega)
      have sc : (strOf cs).length ≤ sizeLine := by rw [strOf_len]; exact sz (by omega)
      have stk : (strOf (w.take sn)).length ≤ sizeLine := by rw [strOf_len]; exact sz (by omega)
      refine ⟨t, rfl, b, _, 1, .str (strOf w), et, rfl, SqT.of eb, atI_nat (j := 1) rfl, _, rfl, _, rfl, _, rfl, sw, ?_⟩
      rw [cutP]
      refine ⟨_, rfl, t, rfl, b, _, 1, .str (strOf w), et, rfl, SqT.of eb, atI_nat (j := 1) rfl, _, rfl, _, rfl, _, rfl, sw, ?_⟩
      rw [cutP]
      refine ⟨_, rfl, stk, _, _, rfl, rfl, _, rfl, _, rfl, sc, ?_⟩
      rw [strOf_len, show (200 : Int) - ((w.take sn).length : Nat) = ((200 - (w.take sn).length : Nat) : Int) by omega, cutP]
      refine ⟨_, _, rfl, rfl, by rw [strOf_len, strOf_len]; exact sz (by rw [List.length_take, List.length_take]; omega), ?_⟩
      rw [strOf_app]
      exact rest _ (w.take sn ++ cs.take (200 - (w.take sn).length)) z20 (fun c hc => (List.mem_append.mp hc).elim (fun h => hw c (List.mem_of_mem_take h)) (fun h => hcs c (List.mem_of_mem_take h))) (by rw [List.length_append, List.length_take (i := 200 - _)]; omega))
      (fun _ => show tNext _ _ _ from rest H20 cs (z19.stepS s20 po20) hcs (by omega))⟩) (fun _ => show tNext _ _ _ from rest H20 cs (z19.stepS s20 po20) hcs (by omega))⟩⟩) ?_
  intro H20 w z20 hw wl
  have sw : (strOf w).length ≤ sizeLine := by rw [strOf_len]; exact sz (by omega)
  -- ahead
  refine ⟨_, rfl, .ref xa, rfl, .ref ab, rfl, _, rfl, l, w, .ref xa, .ref ab, m, 200, G6, rfl, IL, hw, by omega, by omega, z20.ok.narrow, dm6, db6, mo, fun H21 s21 => ?_⟩
  have z21 := z20.step0 s21
  -- is_in
  have rl := runW_lt mo w (s := 0) (by omega) hw
  obtain ⟨e, he⟩ := mo.at_end (s := ((runW l m 0 w : Nat) : Int)) (by omega) (by omega)
  have he' : m.ends[runW l m 0 w]? = some e := he
  have hte : e = takes l m w := by
    unfold takes
    rw [List.getD_eq_getElem?_getD, he']; rfl
  refine ⟨.ref xa, rfl, xa, _, 1, .ref xb, rfl, rfl, SqT.of (z21.same _ _ exa6), atI_nat (j := 1) rfl, _, rfl, .ref xa, rfl, _, rfl, l, .ref xa, w, m, rfl, IL, dp_up dm6 z21.same, mo, hw, xb, _, _, .bl e, rfl, rfl, SqL.of (z21.same _ _ exb6), atI_nat (getB he'), ?_⟩
  subst hte
  -- count_ahead
  refine ⟨_, rfl, .ref xa, rfl, _, rfl, l, w, .ref xa, m, G6, rfl, IL, hw, by omega, z21.ok.narrow, dm6, mo, fun H22 s22 => ?_⟩
  have z22 := z21.step0 s22
  refine ⟨_, rfl, _, _, rfl, _, rfl, iteNS' rfl ?_⟩
  -- place_of
  refine ⟨_, rfl, .ref xa, rfl, _, rfl, l, w, .ref xa, m, G6, rfl, IL, hw, by omega, z22.ok.narrow, dm6, mo, fun H23 s23 => ?_⟩
  have z23 := z22.step0 s23
  unfold plV
  have a0 := ahdW_nonneg (l := l) (m := m) (w := w)
  have hnx : nextW l m w = kthW l m (ahdW l m w + if takes l m w = true then 1 else 0) := rfl
  cases ht : takes l m w with
  | true =>
    rw [ht, if_pos rfl] at hnx
    rw [if_pos rfl]
    refine ⟨_, rfl, _, rfl, ?_⟩
    refine ⟨_, rfl, _, rfl, _, _, rfl, _, rfl, iteNS' rfl ?_⟩
    refine ⟨_, rfl, _, rfl, ?_⟩
    refine ⟨_, rfl, .ref xa, rfl, _, rfl, l, w, .ref xa, m, G6, rfl, IL, hw, by omega, z23.ok.narrow, dm6, mo, And.intro (fun w' e H15 G' b' z' eb' => ?_) (fun e H15 s15 => ?_)⟩
    · have z15 := z23.step0 z'.step
      refine ⟨_, rfl, .ref xa, rfl, .ref ab, rfl, .ref b', rfl, _, rfl, _, rfl, .inr ⟨_, rfl, _, _, rfl, rfl, _, rfl, l, .ref xa, .ref ab, .ref b', m, ahdW l m w + 1, G6, by rw [hT]; rfl, IL, z15.ok.narrow, dm6, db6, mo, by omega, by rw [← hnx, e]; exact ⟨b', rfl, z'.same _ _ eb'⟩, fun H16 s16 => ⟨_, rfl, ?_⟩⟩⟩
      have z16 := z15.step0 s16
      exact ⟨.ref xa, rfl, xa, _, rfl, dp_of (dp_up dm6 z16.same), r1', r2', r3', r4', _, rfl, rfl, by rw [decide_eq_true rfl]; exact q _⟩
    · have z15 := z23.step0 s15
      refine ⟨_, rfl, .ref xa, rfl, .ref ab, rfl, .str "refused", rfl, _, rfl, _, rfl, .inr ⟨_, rfl, _, _, rfl, rfl, _, rfl, l, .ref xa, .ref ab, .str "refused", m, ahdW l m w + 1, G6, by rw [hT]; rfl, IL, z15.ok.narrow, dm6, db6, mo, by omega, by rw [← hnx, e]; rfl, fun H16 s16 => ⟨_, rfl, ?_⟩⟩⟩
      have z16 := z15.step0 s16
      exact ⟨.ref xa, rfl, xa, _, rfl, dp_of (dp_up dm6 z16.same), r1', r2', r3', r4', _, rfl, rfl, by rw [decide_eq_true rfl]; exact q _⟩
  | false =>
    rw [ht, if_neg Bool.false_ne_true] at hnx
    rw [if_neg Bool.false_ne_true]
    refine ⟨_, rfl, _, rfl, ?_⟩
    refine ⟨_, rfl, _, rfl, ?_⟩
    refine ⟨_, rfl, rfl, _, rfl, ?_⟩
    refine ⟨_, rfl, .ref xa, rfl, _, rfl, l, w, .ref xa, m, G6, rfl, IL, hw, by omega, z23.ok.narrow, dm6, mo, And.intro (fun w' e H15 G' b' z' eb' => ?_) (fun e H15 s15 => ?_)⟩
    · have z15 := z23.step0 z'.step
      refine ⟨_, rfl, .ref xa, rfl, .ref ab, rfl, .ref b', rfl, _, rfl, _, rfl, .inr ⟨_, rfl, _, _, rfl, rfl, _, rfl, l, .ref xa, .ref ab, .ref b', m, ahdW l m w + 0, G6, by rw [hT]; rfl, IL, z15.ok.narrow, dm6, db6, mo, by omega, by rw [← hnx, e]; exact ⟨b', rfl, z'.same _ _ eb'⟩, fun H16 s16 => ⟨_, rfl, ?_⟩⟩⟩
      have z16 := z15.step0 s16
      exact ⟨.ref xa, rfl, xa, _, rfl, dp_of (dp_up dm6 z16.same), r1', r2', r3', r4', _, rfl, rfl, by rw [decide_eq_true rfl]; exact q _⟩
    · have z15 := z23.step0 s15
      refine ⟨_, rfl, .ref xa, rfl, .ref ab, rfl, .str "refused", rfl, _, rfl, _, rfl, .inr ⟨_, rfl, _, _, rfl, rfl, _, rfl, l, .ref xa, .ref ab, .str "refused", m, ahdW l m w + 0, G6, by rw [hT]; rfl, IL, z15.ok.narrow, dm6, db6, mo, by omega, by rw [← hnx, e]; rfl, fun H16 s16 => ⟨_, rfl, ?_⟩⟩⟩
      have z16 := z15.step0 s16
      exact ⟨.ref xa, rfl, xa, _, rfl, dp_of (dp_up dm6 z16.same), r1', r2', r3', r4', _, rfl, rfl, by rw [decide_eq_true rfl]; exact q _⟩
end
/-- a def stands at its name -/
def AtTop (K : PySem.W.Frag) (x : Str) (st : Stmt) : Prop := ∃ (f : Addr) (fd : FuncData), Fun K x x st f fd ∧ PySem.W.nsIn K mainGlobals x = some (some (.ref f))
theorem atTop {K : PySem.W.Frag} {x : Str} {st : Stmt} {f : Addr} {oc kV dc pm cd ct : Value} {od an : Option Addr} {sl : Array (Option Value)} (a : PySem.W.nsIn K mainGlobals x = some (some (.ref f)))
    (l : K.lookup f = some ⟨oc, od, .func (PySem.W.fnOf x x (defArgs st) (defBody st) (defScope st) .none kV dc pm an cd ct), sl⟩) (c : PySem.W.codeIn K cd x = true) (k : PySem.W.keepIn K (.ref f) = true) : AtTop K x st := ⟨f, _, fun_mk l c k, a⟩
theorem all_mk {l : PySem.W.OpenLaw} {w : World} {K : PySem.W.Frag} {h : Heap} {mg : Str → Option Value} {fa aHallError aBadWord aBadSize aBadNumber aBadMachine aTooMany aTooGreat aNotLeast aNoWord : Addr} {uMOST_SIGNS : Value} (X : K.In h) (G : h.Ns mainGlobals mg) (hfa : mg "law" = some (.ref fa))
    (A_places_of : AtTop K "places_of" s_places_of)
    (A_run_from : AtTop K "run_from" s_run_from)
    (A_run : AtTop K "run" s_run)
    (A_is_taken : AtTop K "is_taken" s_is_taken)
    (A_count_rows : AtTop K "count_rows" s_count_rows)
    (A_count_ahead : AtTop K "count_ahead" s_count_ahead)
    (A_place_of : AtTop K "place_of" s_place_of)
    (A_word_at : AtTop K "word_at" s_word_at)
    (A_kth : AtTop K "kth" s_kth)
    (A_next_word : AtTop K "next_word" s_next_word)
    (A_law_pool : AtTop K "_law_pool" s_law_pool)
    (A_law_stream : AtTop K "_law_stream" s_law_stream)
    (A_law_pick : AtTop K "_law_pick" s_law_pick)
    (A_law_letters : AtTop K "_law_letters" s_law_letters)
    (A_law_machine : AtTop K "_law_machine" s_law_machine)
    (A_law_blocks : AtTop K "_law_blocks" s_law_blocks)
    (A_law_moved : AtTop K "_law_moved" s_law_moved)
    (A_law_doubled : AtTop K "_law_doubled" s_law_doubled)
    (A_law_renamed : AtTop K "_law_renamed" s_law_renamed)
    (A_law_shaped : AtTop K "_law_shaped" s_law_shaped)
    (A_law_run : AtTop K "_law_run" s_law_run)
    (A_law_backs : AtTop K "_law_backs" s_law_backs)
    (A_law_rank : AtTop K "_law_rank" s_law_rank)
    (A_law_great : AtTop K "_law_great" s_law_great)
    (A_law_is_number : AtTop K "_law_is_number" s_law_is_number)
    (A_law_is_alone : AtTop K "_law_is_alone" s_law_is_alone)
    (A_law_kth : AtTop K "_law_kth" s_law_kth)
    (A_law_next : AtTop K "_law_next" s_law_next)
    (A_law_is_at : AtTop K "_law_is_at" s_law_is_at)
    (A_law : AtTop K "law" s_law)
    (z_ValueError : PySem.W.nsIn K mainGlobals "ValueError" = some none)
    (z_all : PySem.W.nsIn K mainGlobals "all" = some none)
    (z_bool : PySem.W.nsIn K mainGlobals "bool" = some none)
    (z_enumerate : PySem.W.nsIn K mainGlobals "enumerate" = some none)
    (z_int : PySem.W.nsIn K mainGlobals "int" = some none)
    (z_isinstance : PySem.W.nsIn K mainGlobals "isinstance" = some none)
    (z_len : PySem.W.nsIn K mainGlobals "len" = some none)
    (z_list : PySem.W.nsIn K mainGlobals "list" = some none)
    (z_max : PySem.W.nsIn K mainGlobals "max" = some none)
    (z_min : PySem.W.nsIn K mainGlobals "min" = some none)
    (z_range : PySem.W.nsIn K mainGlobals "range" = some none)
    (z_repr : PySem.W.nsIn K mainGlobals "repr" = some none)
    (z_str : PySem.W.nsIn K mainGlobals "str" = some none)
    (z_sum : PySem.W.nsIn K mainGlobals "sum" = some none)
    (z_tuple : PySem.W.nsIn K mainGlobals "tuple" = some none)
    (z_zip : PySem.W.nsIn K mainGlobals "zip" = some none)
    (y_MOST_SIGNS : PySem.W.nsIn K mainGlobals "MOST_SIGNS" = some (some uMOST_SIGNS))
    (x_MOST_SIGNS : ∃ t, uMOST_SIGNS = .int 200 t)
    (Ac : Cl0 K aHallError aBadWord aBadSize aBadNumber aBadMachine aTooMany aTooGreat aNotLeast aNoWord) :
    ∃ fd : FuncData, (∀ (s : Shared) (v : Value), BindsTo s fd ⟨[v], []⟩ [("script", v)]) ∧ ∀ base : Heap, K.In base → base.Ns mainGlobals mg → FnG l.prog w K mg base CX0 7 fa fd ["script"] (spLaw K) := by
  have T : Bt mg := ⟨PySem.W.mg_none_of X G z_ValueError, PySem.W.mg_none_of X G z_all, PySem.W.mg_none_of X G z_bool, PySem.W.mg_none_of X G z_enumerate, PySem.W.mg_none_of X G z_int, PySem.W.mg_none_of X G z_isinstance, PySem.W.mg_none_of X G z_len, PySem.W.mg_none_of X G z_list, PySem.W.mg_none_of X G z_max, PySem.W.mg_none_of X G z_min, PySem.W.mg_none_of X G z_range, PySem.W.mg_none_of X G z_repr, PySem.W.mg_none_of X G z_str, PySem.W.mg_none_of X G z_sum, PySem.W.mg_none_of X G z_tuple, PySem.W.mg_none_of X G z_zip, (let ⟨t, e⟩ := x_MOST_SIGNS; ⟨t, e ▸ PySem.W.mg_of X G y_MOST_SIGNS⟩)⟩
  have C := cl_mk X G Ac
  have Dplaces_of : ∀ base : Heap, DefG l.prog w K mg base CX0 1 "places_of" ["letters", "word"] (spPlacesOf) := by
    obtain ⟨f, fd, F, a⟩ := A_places_of
    exact fun base => ⟨f, fd, ok_places_of F T C , PySem.W.mg_of X G a, F.kp, F.binds (ps := ["letters", "word"]) fun _ _ _ _ _ _ us hl => match us, hl with | [_, _], _ => rfl⟩
  have Drun_from : ∀ base : Heap, DefG l.prog w K mg base CX0 2 "run_from" ["letters", "machine", "state", "word"] (spRunFrom) := by
    obtain ⟨f, fd, F, a⟩ := A_run_from
    exact fun base => ⟨f, fd, ok_run_from F T C (Dplaces_of base), PySem.W.mg_of X G a, F.kp, F.binds (ps := ["letters", "machine", "state", "word"]) fun _ _ _ _ _ _ us hl => match us, hl with | [_, _, _, _], _ => rfl⟩
  have Drun : ∀ base : Heap, DefG l.prog w K mg base CX0 3 "run" ["letters", "machine", "word"] (spRunO) := by
    obtain ⟨f, fd, F, a⟩ := A_run
    exact fun base => ⟨f, fd, ok_run F T C (Drun_from base), PySem.W.mg_of X G a, F.kp, F.binds (ps := ["letters", "machine", "word"]) fun _ _ _ _ _ _ us hl => match us, hl with | [_, _, _], _ => rfl⟩
  have Dis_taken : ∀ base : Heap, DefG l.prog w K mg base CX0 4 "is_taken" ["letters", "machine", "word"] (spTaken) := by
    obtain ⟨f, fd, F, a⟩ := A_is_taken
    exact fun base => ⟨f, fd, ok_is_taken F T C (Drun base), PySem.W.mg_of X G a, F.kp, F.binds (ps := ["letters", "machine", "word"]) fun _ _ _ _ _ _ us hl => match us, hl with | [_, _, _], _ => rfl⟩
  have Dcount_rows : ∀ base : Heap, DefG l.prog w K mg base CX0 1 "count_rows" ["machine", "length"] (spCountRows) := by
    obtain ⟨f, fd, F, a⟩ := A_count_rows
    exact fun base => ⟨f, fd, ok_count_rows F T C , PySem.W.mg_of X G a, F.kp, F.binds (ps := ["machine", "length"]) fun _ _ _ _ _ _ us hl => match us, hl with | [_, _], _ => rfl⟩
  have Dcount_ahead : ∀ base : Heap, DefG l.prog w K mg base CX0 2 "count_ahead" ["letters", "machine", "word"] (spAhead) := by
    obtain ⟨f, fd, F, a⟩ := A_count_ahead
    exact fun base => ⟨f, fd, ok_count_ahead F T C (Dcount_rows base) (Dplaces_of base), PySem.W.mg_of X G a, F.kp, F.binds (ps := ["letters", "machine", "word"]) fun _ _ _ _ _ _ us hl => match us, hl with | [_, _, _], _ => rfl⟩
  have Dplace_of : ∀ base : Heap, DefG l.prog w K mg base CX0 5 "place_of" ["letters", "machine", "word"] (spPlaceOf) := by
    obtain ⟨f, fd, F, a⟩ := A_place_of
    exact fun base => ⟨f, fd, ok_place_of F T C (Dcount_ahead base) (Dis_taken base), PySem.W.mg_of X G a, F.kp, F.binds (ps := ["letters", "machine", "word"]) fun _ _ _ _ _ _ us hl => match us, hl with | [_, _, _], _ => rfl⟩
  have Dword_at : ∀ base : Heap, DefG l.prog w K mg base CX0 1 "word_at" ["letters", "machine", "rows", "length", "place"] (spWordAt) := by
    obtain ⟨f, fd, F, a⟩ := A_word_at
    exact fun base => ⟨f, fd, ok_word_at F T C , PySem.W.mg_of X G a, F.kp, F.binds (ps := ["letters", "machine", "rows", "length", "place"]) fun _ _ _ _ _ _ us hl => match us, hl with | [_, _, _, _, _], _ => rfl⟩
  have Dkth : ∀ base : Heap, DefG l.prog w K mg base (L2.CX l.prog w) 2 "kth" ["letters", "machine", "place"] (spKth aNoWord) := by
    obtain ⟨f, fd, F, a⟩ := A_kth
    exact fun base => ⟨f, fd, ok_kth F T C (Dcount_rows base) (Dword_at base), PySem.W.mg_of X G a, F.kp, F.binds (ps := ["letters", "machine", "place"]) fun _ _ _ _ _ _ us hl => match us, hl with | [_, _, _], _ => rfl⟩
  have Dnext_word : ∀ base : Heap, DefG l.prog w K mg base (L2.CX l.prog w) 5 "next_word" ["letters", "machine", "word"] (spNext aNoWord) := by
    obtain ⟨f, fd, F, a⟩ := A_next_word
    exact fun base => ⟨f, fd, ok_next_word F T C (Dcount_ahead base) (Dis_taken base) (Dkth base), PySem.W.mg_of X G a, F.kp, F.binds (ps := ["letters", "machine", "word"]) fun _ _ _ _ _ _ us hl => match us, hl with | [_, _, _], _ => rfl⟩
  have D_law_pool : ∀ base : Heap, DefG l.prog w K mg base CX0 1 "_law_pool" ["script"] (spPool K) := by
    obtain ⟨f, fd, F, a⟩ := A_law_pool
    exact fun base => ⟨f, fd, ok_law_pool F T C , PySem.W.mg_of X G a, F.kp, F.binds (ps := ["script"]) fun _ _ _ _ _ _ us hl => match us, hl with | [_], _ => rfl⟩
  have D_law_stream : ∀ base : Heap, DefG l.prog w K mg base CX0 2 "_law_stream" ["script"] (spStream K) := by
    obtain ⟨f, fd, F, a⟩ := A_law_stream
    exact fun base => ⟨f, fd, ok_law_stream F T C (D_law_pool base), PySem.W.mg_of X G a, F.kp, F.binds (ps := ["script"]) fun _ _ _ _ _ _ us hl => match us, hl with | [_], _ => rfl⟩
  have D_law_pick : ∀ base : Heap, DefG l.prog w K mg base CX0 1 "_law_pick" ["pool", "many"] (spPick) := by
    obtain ⟨f, fd, F, a⟩ := A_law_pick
    exact fun base => ⟨f, fd, ok_law_pick F T C , PySem.W.mg_of X G a, F.kp, F.binds (ps := ["pool", "many"]) fun _ _ _ _ _ _ us hl => match us, hl with | [_, _], _ => rfl⟩
  have D_law_letters : ∀ base : Heap, DefG l.prog w K mg base CX0 2 "_law_letters" ["pool", "most"] (spLetters) := by
    obtain ⟨f, fd, F, a⟩ := A_law_letters
    exact fun base => ⟨f, fd, ok_law_letters F T C (D_law_pick base), PySem.W.mg_of X G a, F.kp, F.binds (ps := ["pool", "most"]) fun _ _ _ _ _ _ us hl => match us, hl with | [_, _], _ => rfl⟩
  have D_law_machine : ∀ base : Heap, DefG l.prog w K mg base CX0 2 "_law_machine" ["pool", "letters", "most"] (spMachine K) := by
    obtain ⟨f, fd, F, a⟩ := A_law_machine
    exact fun base => ⟨f, fd, ok_law_machine F T C (D_law_pick base), PySem.W.mg_of X G a, F.kp, F.binds (ps := ["pool", "letters", "most"]) fun _ _ _ _ _ _ us hl => match us, hl with | [_, _, _], _ => rfl⟩
  have D_law_blocks : ∀ base : Heap, DefG l.prog w K mg base CX0 2 "_law_blocks" ["pool", "letters", "blocks", "wide"] (spBlocks K) := by
    obtain ⟨f, fd, F, a⟩ := A_law_blocks
    exact fun base => ⟨f, fd, ok_law_blocks F T C (D_law_pick base), PySem.W.mg_of X G a, F.kp, F.binds (ps := ["pool", "letters", "blocks", "wide"]) fun _ _ _ _ _ _ us hl => match us, hl with | [_, _, _, _], _ => rfl⟩
  have D_law_moved : ∀ base : Heap, DefG l.prog w K mg base CX0 2 "_law_moved" ["pool", "machine"] (spMoved) := by
    obtain ⟨f, fd, F, a⟩ := A_law_moved
    exact fun base => ⟨f, fd, ok_law_moved F T C (D_law_pick base), PySem.W.mg_of X G a, F.kp, F.binds (ps := ["pool", "machine"]) fun _ _ _ _ _ _ us hl => match us, hl with | [_, _], _ => rfl⟩
  have D_law_doubled : ∀ base : Heap, DefG l.prog w K mg base CX0 2 "_law_doubled" ["pool", "machine"] (spDoubled) := by
    obtain ⟨f, fd, F, a⟩ := A_law_doubled
    exact fun base => ⟨f, fd, ok_law_doubled F T C (D_law_pick base), PySem.W.mg_of X G a, F.kp, F.binds (ps := ["pool", "machine"]) fun _ _ _ _ _ _ us hl => match us, hl with | [_, _], _ => rfl⟩
  have D_law_renamed : ∀ base : Heap, DefG l.prog w K mg base CX0 1 "_law_renamed" ["machine"] (spRenamed) := by
    obtain ⟨f, fd, F, a⟩ := A_law_renamed
    exact fun base => ⟨f, fd, ok_law_renamed F T C , PySem.W.mg_of X G a, F.kp, F.binds (ps := ["machine"]) fun _ _ _ _ _ _ us hl => match us, hl with | [_], _ => rfl⟩
  have D_law_shaped : ∀ base : Heap, DefG l.prog w K mg base CX0 3 "_law_shaped" ["pool", "letters"] (spShaped) := by
    obtain ⟨f, fd, F, a⟩ := A_law_shaped
    exact fun base => ⟨f, fd, ok_law_shaped F T C (D_law_blocks base) (D_law_doubled base) (D_law_machine base) (D_law_moved base) (D_law_pick base) (D_law_renamed base), PySem.W.mg_of X G a, F.kp, F.binds (ps := ["pool", "letters"]) fun _ _ _ _ _ _ us hl => match us, hl with | [_, _], _ => rfl⟩
  have D_law_run : ∀ base : Heap, DefG l.prog w K mg base CX0 1 "_law_run" ["letters", "machine", "word"] (spRun) := by
    obtain ⟨f, fd, F, a⟩ := A_law_run
    exact fun base => ⟨f, fd, ok_law_run F T C , PySem.W.mg_of X G a, F.kp, F.binds (ps := ["letters", "machine", "word"]) fun _ _ _ _ _ _ us hl => match us, hl with | [_, _, _], _ => rfl⟩
  have D_law_backs : ∀ base : Heap, DefG l.prog w K mg base CX0 1 "_law_backs" ["machine", "length"] (spBacks) := by
    obtain ⟨f, fd, F, a⟩ := A_law_backs
    exact fun base => ⟨f, fd, ok_law_backs F T C , PySem.W.mg_of X G a, F.kp, F.binds (ps := ["machine", "length"]) fun _ _ _ _ _ _ us hl => match us, hl with | [_, _], _ => rfl⟩
  have D_law_rank : ∀ base : Heap, DefG l.prog w K mg base CX0 1 "_law_rank" ["letters", "machine", "backs", "word"] (spRank) := by
    obtain ⟨f, fd, F, a⟩ := A_law_rank
    exact fun base => ⟨f, fd, ok_law_rank F T C , PySem.W.mg_of X G a, F.kp, F.binds (ps := ["letters", "machine", "backs", "word"]) fun _ _ _ _ _ _ us hl => match us, hl with | [_, _, _, _], _ => rfl⟩
  have D_law_great : ∀ base : Heap, DefG l.prog w K mg base CX0 2 "_law_great" ["pool", "digits", "bound"] (spGreatN) := by
    obtain ⟨f, fd, F, a⟩ := A_law_great
    exact fun base => ⟨f, fd, ok_law_great F T C (D_law_pick base), PySem.W.mg_of X G a, F.kp, F.binds (ps := ["pool", "digits", "bound"]) fun _ _ _ _ _ _ us hl => match us, hl with | [_, _, _], _ => rfl⟩
  have D_law_is_number : ∀ base : Heap, DefG l.prog w K mg base CX0 1 "_law_is_number" ["value", "due"] (spIsNum) := by
    obtain ⟨f, fd, F, a⟩ := A_law_is_number
    exact fun base => ⟨f, fd, ok_law_is_number F T C , PySem.W.mg_of X G a, F.kp, F.binds (ps := ["value", "due"]) fun _ _ _ _ _ _ us hl => match us, hl with | [_, _], _ => rfl⟩
  have D_law_is_alone : ∀ base : Heap, DefP l.prog w K mg base 1 "_law_is_alone" ["e"] (spAlone aNoWord) := by
    obtain ⟨f, fd, F, a⟩ := A_law_is_alone
    exact fun base => ⟨f, fd, ok_law_is_alone F T C , PySem.W.mg_of X G a, F.kp, F.binds (ps := ["e"]) fun _ _ _ _ _ _ us hl => match us, hl with | [_], _ => rfl⟩
  have D_law_kth : ∀ base : Heap, DefG l.prog w K mg base CX0 3 "_law_kth" ["letters", "machine", "place"] (spLKth) := by
    obtain ⟨f, fd, F, a⟩ := A_law_kth
    exact fun base => ⟨f, fd, ok_law_kth F T C (D_law_is_alone base) (Dkth base), PySem.W.mg_of X G a, F.kp, F.binds (ps := ["letters", "machine", "place"]) fun _ _ _ _ _ _ us hl => match us, hl with | [_, _, _], _ => rfl⟩
  have D_law_next : ∀ base : Heap, DefG l.prog w K mg base CX0 6 "_law_next" ["letters", "machine", "word"] (spLNext) := by
    obtain ⟨f, fd, F, a⟩ := A_law_next
    exact fun base => ⟨f, fd, ok_law_next F T C (D_law_is_alone base) (Dnext_word base), PySem.W.mg_of X G a, F.kp, F.binds (ps := ["letters", "machine", "word"]) fun _ _ _ _ _ _ us hl => match us, hl with | [_, _, _], _ => rfl⟩
  have D_law_is_at : ∀ base : Heap, DefG l.prog w K mg base CX0 2 "_law_is_at" ["letters", "machine", "backs", "told", "place", "total"] (spIsAt) := by
    obtain ⟨f, fd, F, a⟩ := A_law_is_at
    exact fun base => ⟨f, fd, ok_law_is_at F T C (D_law_rank base) (D_law_run base), PySem.W.mg_of X G a, F.kp, F.binds (ps := ["letters", "machine", "backs", "told", "place", "total"]) fun _ _ _ _ _ _ us hl => match us, hl with | [_, _, _, _, _, _], _ => rfl⟩
  obtain ⟨f, fd, F, a⟩ := A_law
  have e := hfa.symm.trans (PySem.W.mg_of X G a)
  cases e
  refine ⟨fd, fun s v => ?_, fun base _ _ => ok_law F T C (D_law_backs base) (D_law_great base) (D_law_is_at base) (D_law_is_number base) (D_law_kth base) (D_law_letters base) (D_law_next base) (D_law_pick base) (D_law_rank base) (D_law_run base) (D_law_shaped base) (D_law_stream base) (Dcount_ahead base) (Dplace_of base)⟩
  obtain ⟨oc, od, kV, doc, pm, an, cdv, ct, osl, rfl, _, _⟩ := F.ex
  exact .of_eq rfl
end Hw
open PySem PySem.W PyProof.Rows
set_option maxHeartbeats 0 in
theorem PySem.Challenge.cw_hallofwords_k27_whole_words_by_their_num_holds : PySem.Challenge.rw_hallofwords_k27_whole_words_by_their_num.Holds := by
  w_on; o_law; k_head; (case hw => w_witness2)
  k_fill
  refine Hw.law_end (l := PySem.Challenge.rw_hallofwords_k27_whole_words_by_their_num) (n := 63) (k := 7) (x := "script") (sp := fun K => Hw.spLaw K) rfl (by decide) rfl ⟨rfl, by decide, by decide⟩ (fun w h Y => PySem.W.kIn_of Y) ?F (fun K H a ns hl _ hS => Hw.law_pre hl hS)
  case F =>
    intro w mg fa h KX G hmg
    refine' Hw.all_mk KX G hmg ?a0 ?a1 ?a2 ?a3 ?a4 ?a5 ?a6 ?a7 ?a8 ?a9 ?a10 ?a11 ?a12 ?a13 ?a14 ?a15 ?a16 ?a17 ?a18 ?a19 ?a20 ?a21 ?a22 ?a23 ?a24 ?a25 ?a26 ?a27 ?a28 ?a29 ?z0 ?z1 ?z2 ?z3 ?z4 ?z5 ?z6 ?z7 ?z8 ?z9 ?z10 ?z11 ?z12 ?z13 ?z14 ?z15 ?y0 ?x0 ?cl
    (case a0 => (refine' Hw.atTop ?a ?l ?c ?k; (case a => k_is); (case l => k_is); (case c => k_is); (case k => k_is)))
    (case a1 => (refine' Hw.atTop ?a ?l ?c ?k; (case a => k_is); (case l => k_is); (case c => k_is); (case k => k_is)))
    (case a2 => (refine' Hw.atTop ?a ?l ?c ?k; (case a => k_is); (case l => k_is); (case c => k_is); (case k => k_is)))
    (case a3 => (refine' Hw.atTop ?a ?l ?c ?k; (case a => k_is); (case l => k_is); (case c => k_is); (case k => k_is)))
    (case a4 => (refine' Hw.atTop ?a ?l ?c ?k; (case a => k_is); (case l => k_is); (case c => k_is); (case k => k_is)))
    (case a5 => (refine' Hw.atTop ?a ?l ?c ?k; (case a => k_is); (case l => k_is); (case c => k_is); (case k => k_is)))
    (case a6 => (refine' Hw.atTop ?a ?l ?c ?k; (case a => k_is); (case l => k_is); (case c => k_is); (case k => k_is)))
    (case a7 => (refine' Hw.atTop ?a ?l ?c ?k; (case a => k_is); (case l => k_is); (case c => k_is); (case k => k_is)))
    (case a8 => (refine' Hw.atTop ?a ?l ?c ?k; (case a => k_is); (case l => k_is); (case c => k_is); (case k => k_is)))
    (case a9 => (refine' Hw.atTop ?a ?l ?c ?k; (case a => k_is); (case l => k_is); (case c => k_is); (case k => k_is)))
    (case a10 => (refine' Hw.atTop ?a ?l ?c ?k; (case a => k_is); (case l => k_is); (case c => k_is); (case k => k_is)))
    (case a11 => (refine' Hw.atTop ?a ?l ?c ?k; (case a => k_is); (case l => k_is); (case c => k_is); (case k => k_is)))
    (case a12 => (refine' Hw.atTop ?a ?l ?c ?k; (case a => k_is); (case l => k_is); (case c => k_is); (case k => k_is)))
    (case a13 => (refine' Hw.atTop ?a ?l ?c ?k; (case a => k_is); (case l => k_is); (case c => k_is); (case k => k_is)))
    (case a14 => (refine' Hw.atTop ?a ?l ?c ?k; (case a => k_is); (case l => k_is); (case c => k_is); (case k => k_is)))
    (case a15 => (refine' Hw.atTop ?a ?l ?c ?k; (case a => k_is); (case l => k_is); (case c => k_is); (case k => k_is)))
    (case a16 => (refine' Hw.atTop ?a ?l ?c ?k; (case a => k_is); (case l => k_is); (case c => k_is); (case k => k_is)))
    (case a17 => (refine' Hw.atTop ?a ?l ?c ?k; (case a => k_is); (case l => k_is); (case c => k_is); (case k => k_is)))
    (case a18 => (refine' Hw.atTop ?a ?l ?c ?k; (case a => k_is); (case l => k_is); (case c => k_is); (case k => k_is)))
    (case a19 => (refine' Hw.atTop ?a ?l ?c ?k; (case a => k_is); (case l => k_is); (case c => k_is); (case k => k_is)))
    (case a20 => (refine' Hw.atTop ?a ?l ?c ?k; (case a => k_is); (case l => k_is); (case c => k_is); (case k => k_is)))
    (case a21 => (refine' Hw.atTop ?a ?l ?c ?k; (case a => k_is); (case l => k_is); (case c => k_is); (case k => k_is)))
    (case a22 => (refine' Hw.atTop ?a ?l ?c ?k; (case a => k_is); (case l => k_is); (case c => k_is); (case k => k_is)))
    (case a23 => (refine' Hw.atTop ?a ?l ?c ?k; (case a => k_is); (case l => k_is); (case c => k_is); (case k => k_is)))
    (case a24 => (refine' Hw.atTop ?a ?l ?c ?k; (case a => k_is); (case l => k_is); (case c => k_is); (case k => k_is)))
    (case a25 => (refine' Hw.atTop ?a ?l ?c ?k; (case a => k_is); (case l => k_is); (case c => k_is); (case k => k_is)))
    (case a26 => (refine' Hw.atTop ?a ?l ?c ?k; (case a => k_is); (case l => k_is); (case c => k_is); (case k => k_is)))
    (case a27 => (refine' Hw.atTop ?a ?l ?c ?k; (case a => k_is); (case l => k_is); (case c => k_is); (case k => k_is)))
    (case a28 => (refine' Hw.atTop ?a ?l ?c ?k; (case a => k_is); (case l => k_is); (case c => k_is); (case k => k_is)))
    (case a29 => (refine' Hw.atTop ?a ?l ?c ?k; (case a => k_is); (case l => k_is); (case c => k_is); (case k => k_is)))
    (case z0 => k_is)
    (case z1 => k_is)
    (case z2 => k_is)
    (case z3 => k_is)
    (case z4 => k_is)
    (case z5 => k_is)
    (case z6 => k_is)
    (case z7 => k_is)
    (case z8 => k_is)
    (case z9 => k_is)
    (case z10 => k_is)
    (case z11 => k_is)
    (case z12 => k_is)
    (case z13 => k_is)
    (case z14 => k_is)
    (case z15 => k_is)
    (case y0 => k_is)
    (case x0 => exact ⟨_, rfl⟩)
    (case cl => (refine' ⟨?w0, ?w1, ?w2, ?w3, ?w4, ?w5, ?w6, ?w7, ?w8, ?w9, ?w10, ?w11, ?w12, ?w13, ?w14, ?w15, ?w16, ?w17, ?w18, ?w19, ?w20, ?w21, ?w22, ?w23, ?w24, ?w25, ?w26, ?w27, ?w28, ?w29, ?w30, ?w31, ?w32, ?w33, ?w34, ?w35, ?w36, ?w37, ?w38, ?w39, ?w40, ?w41, ?w42, ?w43, ?w44, ?w45, ?w46, ?w47, ?w48, ?w49, ?w50, ?w51, ?w52, ?w53, ?w54, ?w55, ?w56, ?w57, ?w58, ?w59, ?w60, ?w61, ?w62, ?w63, ?w64, ?w65, ?w66, ?w67, ?w68, ?w69, ?w70⟩; (case w0 => first | k_is | kit_is | k_exc); (case w1 => first | k_is | kit_is | k_exc); (case w2 => first | k_is | kit_is | k_exc); (case w3 => first | k_is | kit_is | k_exc); (case w4 => first | k_is | kit_is | k_exc); (case w5 => first | k_is | kit_is | k_exc); (case w6 => first | k_is | kit_is | k_exc); (case w7 => first | k_is | kit_is | k_exc); (case w8 => first | k_is | kit_is | k_exc); (case w9 => first | k_is | kit_is | k_exc); (case w10 => first | k_is | kit_is | k_exc); (case w11 => first | k_is | kit_is | k_exc); (case w12 => first | k_is | kit_is | k_exc); (case w13 => first | k_is | kit_is | k_exc); (case w14 => first | k_is | kit_is | k_exc); (case w15 => first | k_is | kit_is | k_exc); (case w16 => first | k_is | kit_is | k_exc); (case w17 => first | k_is | kit_is | k_exc); (case w18 => first | k_is | kit_is | k_exc); (case w19 => first | k_is | kit_is | k_exc); (case w20 => first | k_is | kit_is | k_exc); (case w21 => first | k_is | kit_is | k_exc); (case w22 => first | k_is | kit_is | k_exc); (case w23 => first | k_is | kit_is | k_exc); (case w24 => first | k_is | kit_is | k_exc); (case w25 => first | k_is | kit_is | k_exc); (case w26 => first | k_is | kit_is | k_exc); (case w27 => first | k_is | kit_is | k_exc); (case w28 => first | k_is | kit_is | k_exc); (case w29 => first | k_is | kit_is | k_exc); (case w30 => first | k_is | kit_is | k_exc); (case w31 => first | k_is | kit_is | k_exc); (case w32 => first | k_is | kit_is | k_exc); (case w33 => first | k_is | kit_is | k_exc); (case w34 => first | k_is | kit_is | k_exc); (case w35 => first | k_is | kit_is | k_exc); (case w36 => first | k_is | kit_is | k_exc); (case w37 => first | k_is | kit_is | k_exc); (case w38 => first | k_is | kit_is | k_exc); (case w39 => first | k_is | kit_is | k_exc); (case w40 => first | k_is | kit_is | k_exc); (case w41 => first | k_is | kit_is | k_exc); (case w42 => first | k_is | kit_is | k_exc); (case w43 => first | k_is | kit_is | k_exc); (case w44 => first | k_is | kit_is | k_exc); (case w45 => first | k_is | kit_is | k_exc); (case w46 => first | k_is | kit_is | k_exc); (case w47 => first | k_is | kit_is | k_exc); (case w48 => first | k_is | kit_is | k_exc); (case w49 => first | k_is | kit_is | k_exc); (case w50 => first | k_is | kit_is | k_exc); (case w51 => first | k_is | kit_is | k_exc); (case w52 => first | k_is | kit_is | k_exc); (case w53 => first | k_is | kit_is | k_exc); (case w54 => first | k_is | kit_is | k_exc); (case w55 => first | k_is | kit_is | k_exc); (case w56 => first | k_is | kit_is | k_exc); (case w57 => first | k_is | kit_is | k_exc); (case w58 => first | k_is | kit_is | k_exc); (case w59 => first | k_is | kit_is | k_exc); (case w60 => first | k_is | kit_is | k_exc); (case w61 => first | k_is | kit_is | k_exc); (case w62 => first | k_is | kit_is | k_exc); (case w63 => first | k_is | kit_is | k_exc); (case w64 => first | k_is | kit_is | k_exc); (case w65 => first | k_is | kit_is | k_exc); (case w66 => first | k_is | kit_is | k_exc); (case w67 => first | k_is | kit_is | k_exc); (case w68 => first | k_is | kit_is | k_exc); (case w69 => first | k_is | kit_is | k_exc); (case w70 => first | k_is | kit_is | k_exc)))
