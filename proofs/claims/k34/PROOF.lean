import PyProof.Rows.All
import Wide.All
import OpenK.AllK
import Wide.FinOn
import HandS.Base
import HandS.Call
import HandS.List
import HandS.Comp
import HandS.Ends
import HandS.Iter
import HandS.Text
import HandS.Words
import HandS.WordsList
import HandS.Replace
import HandS.IsInst
import HandS.Flow
import PyProof.ReprRoads
import HandS.Walk
import PyProof.ReprLen
import PyProof.Rows.StrDigits
import HandS.TupLe
import HandS.SortRule
import HandS.Dict
import HandS.Small
import PySem.Challenge.RW_hallofwords_k34_places_in_texts
set_option Elab.async false
set_option linter.all false
set_option maxRecDepth 100000
set_option maxHeartbeats 4000000
/-! a layer over the hand layer: defs that know that nothing is being shown (guards), deep data, frozen heaps -/
namespace Hw
open PySem PySem.Spec PyProof.Rows L2

/-- as the hand layer's FnOk, for callers around whom no repr runs -/
structure FnG (P : Program) (w : World) (K : PySem.W.Frag) (mg : Str → Option Value) (base : Heap) (CX : CXT) (k : Nat) (f : Addr) (fd : FuncData) (ps : List Str) (sp : Sp) : Prop where
  size : ∀ vs H Q E, sp vs H Q E → vs.length = ps.length
  go : ∀ (A : Around) (out : List Env) (z : Shared) (H : Hp) (ar : Args) (us : List Value) (vs : List V) (Q : VK) (E : XK), A.guards = some [] → Room k A →
    Env0 P w K mg base A out z H → BindsTo z fd ar (ps.zip us) → Vals vs us → sp vs H Q E → codeAny (model P w) A (.call (.ref f) ar) (CR CX out P w H z Q E) z
section
variable {P : Program} {w : World} {K : PySem.W.Frag} {mg : Str → Option Value} {base : Heap} {CX : CXT} {k j : Nat} {f : Addr} {fd : FuncData} {ps N : List Str} {sp sp' : Sp}
theorem FnG.ofOk (F : FnOk P w K mg base CX k f fd ps sp) : FnG P w K mg base CX k f fd ps sp :=
  ⟨F.len, fun A out z H ar us vs Q E _ => F.run A out z H ar us vs Q E⟩
theorem FnG.up (F : FnG P w K mg base CX j f fd ps sp) (h : j ≤ k) : FnG P w K mg base CX k f fd ps sp :=
  ⟨F.size, fun A out z H ar us vs Q E g r => F.go A out z H ar us vs Q E g (r.mono h)⟩
theorem FnG.weaker (F : FnG P w K mg base CX k f fd ps sp) (h : ∀ vs H Q E, sp' vs H Q E → sp vs H Q E) : FnG P w K mg base CX k f fd ps sp' :=
  ⟨fun vs H Q E q => F.size vs H Q E (h _ _ _ _ q), fun A out z H ar us vs Q E g r e b v q => F.go A out z H ar us vs Q E g r e b v (h _ _ _ _ q)⟩

/-- a def of the text keeps its promise, by its body -/
theorem FnG.body {x qual : Str} {st : Stmt} (F : Fun K x qual st f fd) (S : FnScope N ps (defScope st)) (sz : ∀ vs H Q E, sp vs H Q E → vs.length = ps.length)
    (bd : ∀ (cd : Value) (A : Around) (out : List Env) (z : Shared) (H : Hp) (vs : List V) (Q : VK) (E : XK), (A.deeper (envOfC qual (defScope st) z.heap.objs.size f cd)).guards = some [] →
      Room k (A.deeper (envOfC qual (defScope st) z.heap.objs.size f cd)) → sp vs H Q E →
      ∃ t, PSs (cxOf CX P w K mg base N qual (defScope st) f cd A out z H E) (defBody st) t ∧ t { nx := fun _ H' => Q .non H', rt := Q } (start N vs) H) : FnG P w K mg base CX (k + 1) f fd ps sp := by
  obtain ⟨oc, od, kV, dc, pm, an, cd, ct, sl, rfl, look, isC⟩ := F.ex
  refine ⟨sz, ?_⟩
  intro A out z H ar us vs Q E gd room en bi va pr
  have many := sz _ _ _ _ pr
  have stays : ∀ b o, base.get? b = some o → z.heap.get? b = some o := fun b o e => (en.bs b o e).1
  have inK : K.In z.heap := en.mod.kin.keeps stays
  have noL : z.heap.NoLimit := en.mod.nolimit.keeps stays
  have kinds : ∀ y ∈ ps.zip us, (defScope st).names.lookup y.1 = some .local ∨ ((defScope st).names.lookup y.1 = some .cell ∧ ((cellsFrom (z.heap.objs.size + 1) (defScope st).names []).lookup y.1).isSome = true) := by
    rintro ⟨n, v⟩ hy
    cases S.par n (List.of_mem_zip hy).1 with
    | inl q => exact .inl q
    | inr q => exact .inr ⟨q, PySem.W.cellsFrom_some _ _ _ (.inl q)⟩
  refine codeAny_call_function room.depth (inK _ _ look) rfl S.co S.gen rfl (PySem.W.codeRec_of inK isC) (bi _ _ _ _ ?_)
  refine wpAny_newFunctionEnv_cells S.kind kinds fun env e0 z1 c => ?_
  subst e0
  obtain ⟨t, ht, q⟩ := bd cd A out z H vs Q E gd (room.deeper _) pr
  have I := inv_start (CX := CX) (E := E) S room.hd en many va c
  refine ⟨noL.keeps c.toInCall.keep, codeAny_func (wpAny_mono (ht.run [] z1 _ H _ I q) (fun fl z2 r => ?_) fun _ _ r => r)⟩
  cases fl with
  | next =>
    obtain ⟨_, H2, J, q2⟩ := r
    exact ⟨.non, H2, J.os, J.bare, J.base, J.hok, rfl, q2⟩
  | ret u =>
    obtain ⟨v, _, H2, J, rv, q2⟩ := r
    exact ⟨v, H2, J.os, J.bare, J.base, J.hok, rv, q2⟩
  | brk => exact r.choose_spec.choose_spec.2.elim
  | cont => exact r.choose_spec.choose_spec.2.elim
/-- the same where no exception leaves -/
theorem FnG.calm {x qual : Str} {st : Stmt} (F : Fun K x qual st f fd) (S : FnScope N ps (defScope st)) (sz : ∀ vs H Q E, sp vs H Q E → vs.length = ps.length)
    (bd : ∀ (cd : Value) (A : Around) (out : List Env) (z : Shared) (H : Hp) (vs : List V) (Q : VK) (E : XK), (A.deeper (envOfC qual (defScope st) z.heap.objs.size f cd)).guards = some [] →
      Room k (A.deeper (envOfC qual (defScope st) z.heap.objs.size f cd)) → sp vs H Q E →
      ∃ t, PSs (cxOf CX0 P w K mg base N qual (defScope st) f cd A out z H E).nox (defBody st) t ∧ t { nx := fun _ H' => Q .non H', rt := Q } (start N vs) H) : FnG P w K mg base CX0 (k + 1) f fd ps sp :=
  FnG.body F S sz fun cd A out z H vs Q E g r q => let ⟨t, h, h2⟩ := bd cd A out z H vs Q E g r q; ⟨t, h.nox, h2⟩
end

/-- a def by its name: where it stands, what it promises, how it is bound -/
def DefG (P : Program) (w : World) (K : PySem.W.Frag) (mg : Str → Option Value) (base : Heap) (CX : CXT) (k : Nat) (x : Str) (ps : List Str) (sp : Sp) : Prop :=
  ∃ (f : Addr) (fd : FuncData), FnG P w K mg base CX k f fd ps sp ∧ mg x = some (.ref f) ∧ PySem.W.keepIn K (.ref f) = true ∧ Binds K fd ps []
theorem DefG.up {P : Program} {w : World} {K : PySem.W.Frag} {mg : Str → Option Value} {base : Heap} {CX : CXT} {k j : Nat} {x : Str} {ps : List Str} {sp : Sp} (D : DefG P w K mg base CX j x ps sp) (h : j ≤ k) : DefG P w K mg base CX k x ps sp :=
  let ⟨f, fd, F, r⟩ := D; ⟨f, fd, F.up h, r⟩
theorem DefG.weaker {P : Program} {w : World} {K : PySem.W.Frag} {mg : Str → Option Value} {base : Heap} {CX : CXT} {k : Nat} {x : Str} {ps : List Str} {sp sp' : Sp} (D : DefG P w K mg base CX k x ps sp) (h : ∀ vs H Q E, sp' vs H Q E → sp vs H Q E) : DefG P w K mg base CX k x ps sp' :=
  let ⟨f, fd, F, r⟩ := D; ⟨f, fd, F.weaker h, r⟩
section
variable {X : Cx} {CX : CXT} {k : Nat} {x : Str} {ps : List Str} {sp : Sp} {p pos : Pos} {e : Expr} {es : List Expr} {t : TA}
theorem go_call {f : Addr} {fd : FuncData} {pins : List (Addr × Obj)} {σ : L2.St} {H : Hp} {s : Shared} {Q : VK} {E : XK} {us : List Value} {vs : List V} (F : FnG X.prog X.w X.K X.mg X.base CX k f fd ps sp) (bi : Binds X.K fd ps []) (gd : X.A.guards = some []) (hr : Room k X.A)
    (out : ∀ e s', CX X.stack H s E e s' → X.xe e s') (I : Inv X pins σ H s) (va : Vals vs us) (q : sp vs H Q E) : wpAny (model X.prog X.w) X.A (call (.ref f) us) (EP X pins σ Q) X.xe s := by
  have len : us.length = ps.length := va.length ▸ F.size _ _ _ _ q
  have b := bi s us I.kIn (by rw [List.append_nil]; exact len)
  rw [List.append_nil] at b
  refine wpAny_call (codeAny_mono (F.go X.A X.stack s H _ us vs Q E gd hr I.env0 b va q) fun r s2 h => ?_)
  match r, h with
  | .error e, h => exact out e s2 h
  | .ok (.ret u), h => exact I.after h
  | .ok .next, h => exact h.elim
  | .ok .brk, h => exact h.elim
  | .ok .cont, h => exact h.elim
/-- f(e, ..) of a def that lets nothing out -/
theorem pe_fn (D : DefG X.prog X.w X.K X.mg X.base CX0 k x ps sp) (gd : X.A.guards = some []) (hr : Room k X.A) (ha : PA X (e :: es) t) (hg : Gl X x := by rfl) (hdb : (x == ("__debug__" : Str)) = false := by decide)
    (he : starEach (e :: es) X.env = (false, eval e X.env) :: starEach es X.env := by rfl) (hpl : (backTo pos (starEach es X.env)).any (·.1) = false := by rfl) : PE X (.Call (.Name x p) (e :: es) [] pos) (tCall sp [] E0 t) := by
  obtain ⟨f, fd, F, hm, kp, bi⟩ := D
  refine ⟨fun pins s σ H Q I q => wpAny_Call_Name_kw (ld_glob I hg hm ?_ hdb)⟩
  refine PySem.W.callWith_K (h₀ := X.base) I.ok.mod.kin kp (thn (ha.run pos pins s σ H _ I q) fun us s1 r => ?_) he hpl
  obtain ⟨vs, H1, J, va, q1⟩ := r
  rw [List.append_nil] at q1
  exact ⟨J.kIn, go_call F bi gd hr (fun _ _ z => z.elim) J va q1⟩
theorem pe_fn0 (D : DefG X.prog X.w X.K X.mg X.base CX0 k x ps sp) (gd : X.A.guards = some []) (hr : Room k X.A) (hg : Gl X x := by rfl) (hdb : (x == ("__debug__" : Str)) = false := by decide) : PE X (.Call (.Name x p) [] [] pos) (tCall sp [] E0 tNil) := by
  obtain ⟨f, fd, F, hm, kp, bi⟩ := D
  refine ⟨fun pins s σ H Q I q => wpAny_Call_Name_kw (ld_glob I hg hm ?_ hdb)⟩
  exact PySem.W.callWith_K0 I.kIn kp (go_call F bi gd hr (fun _ _ z => z.elim) I .nil q)
end

/-! ### repr of data -/
/-- what is read of a value of data: a leaf, or an object -/
theorem call_reprD {X : Cx} (gd : X.A.guards = some []) (hu : X.A.units + 200 < cLine) :
    CallR X (.builtin "repr") (fun xs H Q => ∃ a d, xs = [V.ref a] ∧ Dp X.K H (.ref a) d ∧ d.showable = true ∧ d.hasDict = false ∧ d.depth ≤ 100 ∧ d.shown.length ≤ sizeLine ∧ Q (.str d.shown) H) := by
  intro pins s σ H vs us Q I rv h
  obtain ⟨a, d, rfl, hd, h1, h2, h3, h4, q⟩ := h
  cases rv with
  | cons r rr =>
    cases rr
    have r' : _ = Value.ref a := r
    subst r'
    obtain ⟨as, rd⟩ := Dp.reads I d _ _ hd rfl
    refine repr_of_reads' rd h1 (fun z => by rw [h2] at z; cases z) gd (by omega) (fun _ _ e => e) (fun h' u tk kp => ?_) h4
    exact ⟨.str d.shown, H, I.kept (t' := tk) kp, ⟨u, rfl⟩, q⟩
theorem hu_rep {A : Around} {k : Nat} (hr : Room k A) : A.units + 200 < cLine := by have := hr.un; omega

/-! ### the rules that speak of the written part, it being named: a block's reading must not speak of the block -/
section
variable {X : Cx} (K : PySem.W.Frag)
theorem ixL (h : X.K = K := by rfl) : IxR X (rIxL K) := by subst h; exact ix_list
theorem ixT (h : X.K = K := by rfl) : IxR X (rIxT K) := by subst h; exact ix_tup
theorem slL (h : X.K = K := by rfl) : SlR X (rSlL K) := by subst h; exact sl_list
theorem slT (h : X.K = K := by rfl) : SlR X (rSlT K) := by subst h; exact sl_tup
theorem inQ (h : X.K = K := by rfl) : OpR X (compareOp .In) (rIn K false) := by subst h; exact op_in_seq
theorem notInQ (h : X.K = K := by rfl) : OpR X (compareOp .NotIn) (rIn K true) := by subst h; exact op_notIn_seq
theorem lenQ (h : X.K = K := by rfl) : CallR X (.builtin "len") (fun xs H Q => ∃ p ys, xs = [.ref p] ∧ (SqL K H p ys ∨ SqT K H p ys) ∧ Q (.int ys.length) H) := by subst h; exact call_len_seq
theorem listQ (h : X.K = K := by rfl) : CallR X (.type "list") (fun xs H Q => ∃ p ys, xs = [.ref p] ∧ (SqL K H p ys ∨ SqT K H p ys) ∧ ∀ l, H l = none → Q (.ref l) (upd H l (.lst ys))) := by subst h; exact call_list_of
theorem tupQ (h : X.K = K := by rfl) : CallR X (.type "tuple") (fun xs H Q => ∃ p ys, xs = [.ref p] ∧ ((SqL K H p ys ∧ ∀ l, H l = none → Q (.ref l) (upd H l (.tup ys))) ∨ (SqT K H p ys ∧ Q (.ref p) H))) := by subst h; exact call_tuple_of
theorem sumQ (hc : X.calm = true) (h : X.K = K := by rfl) : CallR X (.builtin "sum") (rSum K) := by subst h; exact cr_sum hc
theorem maxQ (hc : X.calm = true) (h : X.K = K := by rfl) : CallR X (.builtin "max") (rMax K) := by subst h; exact cr_max hc
theorem minQ (hc : X.calm = true) (h : X.K = K := by rfl) : CallR X (.builtin "min") (rMin K) := by subst h; exact cr_min hc
theorem anyQ (hc : X.calm = true) (h : X.K = K := by rfl) : CallR X (.builtin "any") (rAny K) := by subst h; exact cr_any hc
theorem allQ (hc : X.calm = true) (h : X.K = K := by rfl) : CallR X (.builtin "all") (rAll K) := by subst h; exact cr_all hc
theorem sortedQ (h : X.K = K := by rfl) : CallR X (.builtin "sorted") (rSorted K) := by subst h; exact cr_sorted
theorem isiQ (h : X.K = K := by rfl) : CallR X (.builtin "isinstance") (rIsi K) := by subst h; exact call_isi
variable {tg l e e2 : Expr} {tl : TE} {ta : TA} {p pos tpos apos : Pos} {elts es : List Expr} {kk k n : Nat} {t : TGs}
theorem piL (hl : PE X l tl) (h : X.K = K := by rfl) : PI X tg l (iList K tl) := by subst h; exact pi_list hl
theorem piT (hl : PE X l tl) (h : X.K = K := by rfl) : PI X tg l (iTup K tl) := by subst h; exact pi_tup hl
theorem piEnum (hg : Gl X "enumerate") (hm : X.mg "enumerate" = none) (ha : PA X [e] ta) (hs : starEach [e] X.env = [(false, eval e X.env)] := by rfl) (h : X.K = K := by rfl) :
    PI X (.Tuple elts kk tpos) (.Call (.Name "enumerate" p) [e] [] pos) (iEnum K ta) := by subst h; exact pi_enum hg hm ha hs
theorem piZip (hg : Gl X "zip") (hm : X.mg "zip" = none) (ha : PA X [e, e2] ta) (hs : starEach [e, e2] X.env = (false, eval e X.env) :: starEach [e2] X.env := by rfl)
    (hpl : (backTo pos (starEach [e2] X.env)).any (·.1) = false := by rfl) (h : X.K = K := by rfl) : PI X (.Tuple elts kk tpos) (.Call (.Name "zip" p) [e, e2] [] pos) (iZip K ta) := by subst h; exact pi_zip hg hm ha hs hpl
theorem piRev (hg : Gl X "reversed") (hm : X.mg "reversed" = none) (ha : PA X [e] ta) (hs : starEach [e] X.env = [(false, eval e X.env)] := by rfl) (h : X.K = K := by rfl) :
    PI X tg (.Call (.Name "reversed" p) [e] [] pos) (iRev K ta) := by subst h; exact pi_reversed hg hm ha hs
theorem gT (hc : X.calm = true) (hp : PGs X es t) (hn : (assignEach es X.env).length = n := by rfl) (hst : (assignEach es X.env).findIdx? (·.1) = none := by rfl) (h : X.K = K := by rfl) : PG X (.Tuple es k pos) (gTup K n t) := by
  subst h; exact pg_tup hc hp hn hst
theorem joinQ {o : Expr} {to te : TE} (ho : PE X o to) (he : PE X e te) (hs : starEach [e] X.env = [(false, eval e X.env)] := by rfl) (hb : attributeBase o "join" X.env (eval o X.env) = eval o X.env := by rfl) (hl : (apos.endLine == pos.line) = true := by rfl) (h : X.K = K := by rfl) :
    PE X (.Call (.Attribute o "join" apos) [e] [] pos) (tM1 (fun x xs H Q => ∃ a p, ∃ ys : List Str, x = .str a ∧ xs = [.ref p] ∧ (SqL K H p (ys.map V.str) ∨ SqT K H p (ys.map V.str)) ∧
      (ys.map (·.length)).sum + ys.length * a.length ≤ 16777216 ∧ Q (.str (Txt.join a ys)) H) to te) := by subst h; exact pe_join ho he hs hb hl
end
/-- text.index(sign), found -/
theorem pe_sindex {X : Cx} {o e : Expr} {to te : TE} {apos pos : Pos} (ho : PE X o to) (he : PE X e te) (hs : starEach [e] X.env = [(false, eval e X.env)] := by rfl) (hb : attributeBase o "index" X.env (eval o X.env) = eval o X.env := by rfl) (hl : (apos.endLine == pos.line) = true := by rfl) :
    PE X (.Call (.Attribute o "index" apos) [e] [] pos) (tM1 (fun x xs H Q => ∃ a b i rest, x = .str a ∧ xs = [.str b] ∧ Builtin.Str.occurrences a b 0 a.length 1 = i :: rest ∧ Q (.int (i : Nat)) H) to te) :=
  pe_m1 F.slot_str_index F.type_str_index mt_sindex ho he hs hb hl
end Hw

/-! heaps: what is frozen (G) beside what changes; deep data and their encodings -/
namespace Hw
open PySem PySem.Spec PyProof.Rows L2

/-! ### frozen parts -/
theorem same_new {G H : Hp} {p : Addr} {o : HO} (s : Same G H) (n : H p = none) : Same G (upd H p o) := fun b u e => by
  rw [upd_ne (ne_of_none (s b u e) n)]; exact s b u e
theorem same_mut {G H : Hp} {p : Addr} {o : HO} (s : Same G H) (n : G p = none) : Same G (upd H p o) := fun b u e => by
  rw [upd_ne (ne_of_none e n)]; exact s b u e
/-- what stands at p is frozen too -/
theorem same_add {G H : Hp} {p : Addr} {o : HO} (s : Same G H) (e : H p = some o) : Same (upd G p o) H := fun b u h => by
  by_cases hb : b = p
  · subst hb; rw [upd_same] at h; rw [e]; exact h
  · rw [upd_ne hb] at h; exact s b u h
theorem same_sub {G : Hp} {p : Addr} {o : HO} (n : G p = none) : Same G (upd G p o) := same_new (Same.refl G) n
theorem free_of {G H : Hp} {p : Addr} (s : Same G H) (n : H p = none) : G p = none := s.free n
/-- the heap without one object -/
def off (H : Hp) (a : Addr) : Hp := fun b => if b = a then none else H b
theorem off_same {H : Hp} {a : Addr} : Same (off H a) H := fun b u e => by
  unfold off at e
  by_cases h : b = a
  · rw [if_pos h] at e; cases e
  · rw [if_neg h] at e; exact e
theorem off_at {H : Hp} {a : Addr} : off H a a = none := by unfold off; exact if_pos rfl
theorem off_ne {H : Hp} {a b : Addr} (h : b ≠ a) : off H a b = H b := by unfold off; exact if_neg h
/-- all but the one object stands as it stood -/
def Keep (a : Addr) (H H' : Hp) : Prop := ∀ b o, b ≠ a → H b = some o → H' b = some o
theorem Keep.refl (a : Addr) (H : Hp) : Keep a H H := fun _ _ _ h => h
theorem Keep.trans {a : Addr} {H H1 H2 : Hp} (x : Keep a H H1) (y : Keep a H1 H2) : Keep a H H2 := fun b o n h => y b o n (x b o n h)
theorem Keep.same {a : Addr} {G H H' : Hp} (x : Keep a H H') (s : Same G H) (n : G a = none) : Same G H' := fun b o h => x b o (ne_of_none h n) (s b o h)
theorem Keep.of {a : Addr} {H H' : Hp} (s : Same (off H a) H') : Keep a H H' := fun b o n h => s b o (by rw [off_ne n]; exact h)
theorem Keep.upd {a : Addr} {H : Hp} {o : HO} : Keep a H (upd H a o) := fun b u n h => by rw [upd_ne n]; exact h
theorem same_off {a : Addr} {G H : Hp} (s : Same G H) (n : G a = none) : Same G (off H a) := fun b o h => by
  rw [off_ne (ne_of_none h n)]; exact s b o h
theorem keep_same {a : Addr} {H H' : Hp} (s : Same H H') : Keep a H H' := fun b o _ h => s b o h

/-! ### deep data: lists and tuples that are tracked, of leaves -/
mutual
inductive Dq (H : Hp) : V → PyData → Prop
  | non : Dq H .non .none
  | bl (b : Bool) : Dq H (.bl b) (.bool b)
  | int (i : Int) : Dq H (.int i) (.int i)
  | str (x : Str) : Dq H (.str x) (.str x)
  | lst {a : Addr} {xs : List V} {ds : List PyData} : H a = some (.lst xs) → DqAll H xs ds → Dq H (.ref a) (.list ds)
  | tup {a : Addr} {xs : List V} {ds : List PyData} : H a = some (.tup xs) → DqAll H xs ds → Dq H (.ref a) (.tuple ds)
inductive DqAll (H : Hp) : List V → List PyData → Prop
  | nil : DqAll H [] []
  | cons {v : V} {vs : List V} {d : PyData} {ds : List PyData} : Dq H v d → DqAll H vs ds → DqAll H (v :: vs) (d :: ds)
end
mutual
theorem Dq_mono {G H : Hp} (e : Same G H) : ∀ (d : PyData) (v : V), Dq G v d → Dq H v d
  | .none, _, h => by cases h; exact .non
  | .bool _, _, h => by cases h; exact .bl _
  | .int _, _, h => by cases h; exact .int _
  | .str _, _, h => by cases h; exact .str _
  | .list ds, _, h => by
    cases h with
    | lst hs ha => exact .lst (e _ _ hs) (DqAll_mono e ds _ ha)
  | .tuple ds, _, h => by
    cases h with
    | tup hs ha => exact .tup (e _ _ hs) (DqAll_mono e ds _ ha)
  | .dict _, _, h => by cases h
theorem DqAll_mono {G H : Hp} (e : Same G H) : ∀ (ds : List PyData) (vs : List V), DqAll G vs ds → DqAll H vs ds
  | [], _, h => by cases h; exact .nil
  | d :: ds, _, h => by
    cases h with
    | cons h1 h2 => exact .cons (Dq_mono e d _ h1) (DqAll_mono e ds _ h2)
end
mutual
theorem Dq_Dp {K : PySem.W.Frag} {H : Hp} : ∀ (d : PyData) (v : V), Dq H v d → Dp K H v d
  | .none, _, h => by cases h; exact .non
  | .bool _, _, h => by cases h; exact .bl _
  | .int _, _, h => by cases h; exact .int _
  | .str _, _, h => by cases h; exact .str _
  | .list ds, _, h => by
    cases h with
    | lst hs ha => exact .lst (SqL.of hs) (DqAll_Dp ds _ ha)
  | .tuple ds, _, h => by
    cases h with
    | tup hs ha => exact .tup (SqT.of hs) (DqAll_Dp ds _ ha)
  | .dict _, _, h => by cases h
theorem DqAll_Dp {K : PySem.W.Frag} {H : Hp} : ∀ (ds : List PyData) (vs : List V), DqAll H vs ds → DpAll K H vs ds
  | [], _, h => by cases h; exact .nil
  | d :: ds, _, h => by
    cases h with
    | cons h1 h2 => exact .cons (Dq_Dp d _ h1) (DqAll_Dp ds _ h2)
end
section
variable {G H : Hp} {v : V} {vs : List V} {d : PyData} {ds es : List PyData}
theorem dp_up (h : Dq G v d) (e : Same G H) : Dq H v d := Dq_mono e d v h
theorem dps_up (h : DqAll G vs ds) (e : Same G H) : DqAll H vs ds := DqAll_mono e ds vs h
theorem dp_of {K : PySem.W.Frag} (h : Dq G v d) : Dp K G v d := Dq_Dp d v h
theorem dp_list (h : Dq G v (.list ds)) : ∃ a xs, v = .ref a ∧ G a = some (.lst xs) ∧ DqAll G xs ds := by
  cases h with
  | lst hs ha => exact ⟨_, _, rfl, hs, ha⟩
theorem dp_tuple (h : Dq G v (.tuple ds)) : ∃ a xs, v = .ref a ∧ G a = some (.tup xs) ∧ DqAll G xs ds := by
  cases h with
  | tup hs ha => exact ⟨_, _, rfl, hs, ha⟩
theorem dp_int {i : Int} (h : Dq G v (.int i)) : v = .int i := by cases h; rfl
theorem dp_bool {b : Bool} (h : Dq G v (.bool b)) : v = .bl b := by cases h; rfl
theorem dp_str {x : Str} (h : Dq G v (.str x)) : v = .str x := by cases h; rfl
theorem dp_none (h : Dq G v .none) : v = .non := by cases h; rfl
theorem dps_len : ∀ {vs : List V} {ds : List PyData}, DqAll G vs ds → vs.length = ds.length
  | _, _, .nil => rfl
  | _, _, .cons _ h => by rw [List.length_cons, List.length_cons, dps_len h]
theorem dps_get : ∀ {vs : List V} {ds : List PyData} {i : Nat} {d : PyData}, DqAll G vs ds → ds[i]? = some d → ∃ v, vs[i]? = some v ∧ Dq G v d
  | _, _, _, _, .nil, e => by simp at e
  | _, _, 0, _, .cons h _, e => by simp at e; subst e; exact ⟨_, rfl, h⟩
  | _, _, i + 1, d, .cons _ h, e => by
    obtain ⟨v, h1, h2⟩ := dps_get (i := i) (d := d) h (by simpa using e)
    exact ⟨v, by simpa using h1, h2⟩
theorem dps_get' : ∀ {vs : List V} {ds : List PyData} {i : Nat} {v : V}, DqAll G vs ds → vs[i]? = some v → ∃ d, ds[i]? = some d ∧ Dq G v d
  | _, _, _, _, .nil, e => by simp at e
  | _, _, 0, _, .cons h _, e => by simp at e; subst e; exact ⟨_, rfl, h⟩
  | _, _, i + 1, v, .cons _ h, e => by
    obtain ⟨d, h1, h2⟩ := dps_get' (i := i) (v := v) h (by simpa using e)
    exact ⟨d, by simpa using h1, h2⟩
theorem dps_app : ∀ {vs ws : List V} {ds es : List PyData}, DqAll G vs ds → DqAll G ws es → DqAll G (vs ++ ws) (ds ++ es)
  | _, _, _, _, .nil, h => h
  | _, _, _, _, .cons a b, h => .cons a (dps_app b h)
theorem dps_snoc (h : DqAll G vs ds) (h1 : Dq G v d) : DqAll G (vs ++ [v]) (ds ++ [d]) := dps_app h (.cons h1 .nil)
theorem dps_ints : ∀ {vs : List V} {ns : List Int}, DqAll G vs (ns.map PyData.int) → vs = ns.map V.int
  | _, [], h => by cases h; rfl
  | _, n :: ns, h => by
    cases h with
    | cons h1 h2 => rw [dp_int h1, dps_ints h2]; rfl
theorem dps_bools : ∀ {vs : List V} {ns : List Bool}, DqAll G vs (ns.map PyData.bool) → vs = ns.map V.bl
  | _, [], h => by cases h; rfl
  | _, n :: ns, h => by
    cases h with
    | cons h1 h2 => rw [dp_bool h1, dps_bools h2]; rfl
theorem dps_strs : ∀ {vs : List V} {ns : List Str}, DqAll G vs (ns.map PyData.str) → vs = ns.map V.str
  | _, [], h => by cases h; rfl
  | _, n :: ns, h => by
    cases h with
    | cons h1 h2 => rw [dp_str h1, dps_strs h2]; rfl
theorem ints_dps : ∀ {ns : List Int}, DqAll G (ns.map V.int) (ns.map PyData.int)
  | [] => .nil
  | n :: _ => .cons (.int n) ints_dps
theorem bools_dps : ∀ {ns : List Bool}, DqAll G (ns.map V.bl) (ns.map PyData.bool)
  | [] => .nil
  | n :: _ => .cons (.bl n) bools_dps
theorem strs_dps : ∀ {ns : List Str}, DqAll G (ns.map V.str) (ns.map PyData.str)
  | [] => .nil
  | n :: _ => .cons (.str n) strs_dps
end
/-! encodings -/
abbrev DI (ns : List Int) : PyData := .list (ns.map .int)
abbrev DB (bs : List Bool) : PyData := .list (bs.map .bool)
abbrev DS (xs : List Str) : PyData := .list (xs.map .str)
abbrev DT (t : List (List Int)) : PyData := .list (t.map DI)
/-- a machine -/
structure Mach where
  tab : List (List Int)
  ends : List Bool
abbrev DM (m : Mach) : PyData := .tuple [DT m.tab, DB m.ends]
section
variable {G H : Hp} {v : V} {a : Addr}
theorem dI {ns : List Int} (h : Dq G v (DI ns)) : ∃ a, v = .ref a ∧ G a = some (.lst (ns.map V.int)) := by
  obtain ⟨a, xs, e, hs, ha⟩ := dp_list h
  exact ⟨a, e, dps_ints ha ▸ hs⟩
theorem dB {ns : List Bool} (h : Dq G v (DB ns)) : ∃ a, v = .ref a ∧ G a = some (.lst (ns.map V.bl)) := by
  obtain ⟨a, xs, e, hs, ha⟩ := dp_list h
  exact ⟨a, e, dps_bools ha ▸ hs⟩
theorem dS {ns : List Str} (h : Dq G v (DS ns)) : ∃ a, v = .ref a ∧ G a = some (.lst (ns.map V.str)) := by
  obtain ⟨a, xs, e, hs, ha⟩ := dp_list h
  exact ⟨a, e, dps_strs ha ▸ hs⟩
theorem Idp {ns : List Int} (h : G a = some (.lst (ns.map V.int))) : Dq G (.ref a) (DI ns) := .lst h ints_dps
theorem Bdp {ns : List Bool} (h : G a = some (.lst (ns.map V.bl))) : Dq G (.ref a) (DB ns) := .lst h bools_dps
theorem Sdp {ns : List Str} (h : G a = some (.lst (ns.map V.str))) : Dq G (.ref a) (DS ns) := .lst h strs_dps
/-- a pair's parts -/
theorem dP {d e : PyData} (h : Dq G v (.tuple [d, e])) : ∃ a x y, v = .ref a ∧ G a = some (.tup [x, y]) ∧ Dq G x d ∧ Dq G y e := by
  obtain ⟨a, xs, e, hs, ha⟩ := dp_tuple h
  cases ha with
  | cons h1 h2 =>
    cases h2 with
    | cons h3 h4 =>
      cases h4
      exact ⟨a, _, _, e, hs, h1, h3⟩
/-- a machine's two lists -/
theorem dM {m : Mach} (h : Dq G v (DM m)) : ∃ a x y, v = .ref a ∧ G a = some (.tup [x, y]) ∧ Dq G x (DT m.tab) ∧ Dq G y (DB m.ends) := dP h
theorem Mdp {m : Mach} {x y : V} (h : G a = some (.tup [x, y])) (h1 : Dq G x (DT m.tab)) (h2 : Dq G y (DB m.ends)) : Dq G (.ref a) (DM m) := .tup h (.cons h1 (.cons h2 .nil))
/-- a table's row -/
theorem dT_row {t : List (List Int)} {xs : List V} {i : Nat} {r : List Int} (ha : DqAll G xs (t.map DI)) (e : t[i]? = some r) : ∃ b, xs[i]? = some (.ref b) ∧ G b = some (.lst (r.map V.int)) := by
  obtain ⟨v, h1, h2⟩ := dps_get (i := i) (d := DI r) ha (by rw [List.getElem?_map, e]; rfl)
  obtain ⟨b, rfl, h3⟩ := dI h2
  exact ⟨b, h1, h3⟩
end
theorem getI {ns : List Int} {i : Nat} {n : Int} (h : ns[i]? = some n) : (ns.map V.int)[i]? = some (.int n) := by rw [List.getElem?_map, h]; rfl
theorem getB {ns : List Bool} {i : Nat} {n : Bool} (h : ns[i]? = some n) : (ns.map V.bl)[i]? = some (.bl n) := by rw [List.getElem?_map, h]; rfl
theorem getS {ns : List Str} {i : Nat} {n : Str} (h : ns[i]? = some n) : (ns.map V.str)[i]? = some (.str n) := by rw [List.getElem?_map, h]; rfl
/-- at an int that is a place -/
theorem atI_of {α : Type} {xs : List α} {k : Int} {v : α} (h0 : 0 ≤ k) (h : xs[k.toNat]? = some v) : atI xs k = some v := by
  have e : ((k.toNat : Nat) : Int) = k := Int.toNat_of_nonneg h0
  rw [← e]; exact atI_nat h
theorem ixN_of {n : Nat} {k : Int} (h0 : 0 ≤ k) (h : k < n) : ixN n k = some k.toNat := by
  unfold ixN; rw [if_pos h0, if_pos h]
theorem exists_at {α : Type} {xs : List α} {k : Int} (h0 : 0 ≤ k) (h : k < xs.length) : ∃ v, xs[k.toNat]? = some v := by
  have : k.toNat < xs.length := by omega
  exact ⟨xs[k.toNat], List.getElem?_eq_getElem this⟩

/-! ### the drawn numbers: a place, then numbers below 60 -/
def PoolOk (H : Hp) (pa : Addr) : Prop := ∃ (p0 : Int) (ps : List Int), H pa = some (.lst ((p0 :: ps).map V.int)) ∧ 300 ≤ ps.length ∧ ps.length ≤ 5000 ∧ 0 ≤ p0 ∧ ∀ x ∈ ps, 0 ≤ x ∧ x < 60
theorem PoolOk.keep {H H' : Hp} {pa : Addr} (h : PoolOk H pa) (e : H' pa = H pa) : PoolOk H' pa := by
  obtain ⟨p0, ps, h1, h2⟩ := h
  exact ⟨p0, ps, by rw [e]; exact h1, h2⟩
theorem PoolOk.new {H : Hp} {pa p : Addr} {o : HO} (h : PoolOk H pa) (n : H p = none) : PoolOk (upd H p o) pa := by
  refine h.keep (upd_ne ?_)
  obtain ⟨p0, ps, h1, h2⟩ := h
  exact ne_of_none h1 n
theorem PoolOk.other {H : Hp} {pa p : Addr} {o : HO} (h : PoolOk H pa) (n : p ≠ pa) : PoolOk (upd H p o) pa := h.keep (upd_ne n.symm)

/-! ### what may happen between two moments -/
/-- S: the objects that may change (the drawn numbers); the others stay, none goes -/
structure Step (S : Addr → Prop) (H H' : Hp) : Prop where
  keep : ∀ b o, ¬ S b → H b = some o → H' b = some o
  dom : ∀ b, H' b = none → H b = none
abbrev NoS : Addr → Prop := fun _ => False
abbrev At (pa : Addr) : Addr → Prop := fun b => b = pa
section
variable {S S' : Addr → Prop} {H H1 H2 G G1 G2 H0 G0 : Hp} {p : Addr} {o : HO}
theorem Step.refl (S : Addr → Prop) (H : Hp) : Step S H H := ⟨fun _ _ _ h => h, fun _ h => h⟩
theorem Step.trans (a : Step S H H1) (b : Step S H1 H2) : Step S H H2 := ⟨fun c o n h => b.keep c o n (a.keep c o n h), fun c h => a.dom c (b.dom c h)⟩
theorem Step.wide (a : Step NoS H H1) : Step S H H1 := ⟨fun c o _ h => a.keep c o (fun z => z) h, a.dom⟩
theorem Step.same (a : Step NoS H H1) : Same H H1 := fun c o h => a.keep c o (fun z => z) h
theorem Step.new (n : H p = none) : Step S H (upd H p o) := ⟨fun b u _ h => by rw [upd_ne (ne_of_none h n)]; exact h, fun b h => by
  by_cases e : b = p
  · subst e; exact n
  · rw [upd_ne e] at h; exact h⟩
theorem Step.mut (s : S p) (n : H p ≠ none) : Step S H (upd H p o) := ⟨fun b u nb h => by rw [upd_ne (by rintro rfl; exact nb s)]; exact h, fun b h => by
  by_cases e : b = p
  · subst e; rw [upd_same] at h; cases h
  · rw [upd_ne e] at h; exact h⟩
/-- an object of one's own changes -/
theorem Step.own (a : Step S H0 H) (n : H0 p = none) : Step S H0 (upd H p o) := ⟨fun b u nb h => by rw [upd_ne (ne_of_none h n)]; exact a.keep b u nb h, fun b h => by
  by_cases e : b = p
  · subst e; exact n
  · rw [upd_ne e] at h; exact a.dom b h⟩
theorem Step.free (a : Step S H H1) (n : H1 p = none) : H p = none := a.dom p n
theorem Step.there (a : Step S H H1) (n : H p ≠ none) : H1 p ≠ none := fun z => n (a.dom p z)

/-- the drawn numbers are in order -/
def Pools (S : Addr → Prop) (H : Hp) : Prop := ∀ b, S b → PoolOk H b
theorem Pools.none : Pools NoS H := fun _ z => z.elim
theorem Pools.at {pa : Addr} (h : PoolOk H pa) : Pools (At pa) H := fun b e => by rw [show b = pa from e]; exact h
theorem Pools.ok {pa : Addr} (h : Pools (At pa) H) : PoolOk H pa := h pa rfl
theorem PoolOk.some {pa : Addr} (h : PoolOk H pa) : H pa ≠ Option.none := by
  obtain ⟨_, _, e, _⟩ := h
  rw [e]; exact fun z => nomatch z
theorem Pools.new (h : Pools S H) (n : H p = Option.none) : Pools S (upd H p o) := fun b s => (h b s).new n
theorem Pools.other (h : Pools S H) (n : ¬ S p) : Pools S (upd H p o) := fun b s => (h b s).other (by rintro rfl; exact n s)
theorem Pools.step (h : Pools S H) (a : Step NoS H H1) : Pools S H1 := fun b s => by
  obtain ⟨p0, ps, e, r⟩ := h b s
  exact ⟨p0, ps, a.same _ _ e, r⟩

/-- G is frozen in H, away from the drawn numbers -/
structure Ok (S : Addr → Prop) (H G : Hp) : Prop where
  same : Same G H
  pools : Pools S H
  out : ∀ b, S b → G b = none
/-- the frozen part has grown by new objects alone -/
structure Grow (G H G' : Hp) : Prop where
  same : Same G G'
  free : ∀ b, G b = none → H b ≠ none → G' b = none
/-- from H0 with its frozen part G0 to H with its frozen part G -/
structure Fz (S : Addr → Prop) (H0 G0 H G : Hp) : Prop where
  step : Step S H0 H
  grow : Grow G0 H0 G
  ok : Ok S H G
theorem Ok.fz (h : Ok S H G) : Fz S H G H G := ⟨Step.refl _ _, ⟨Same.refl _, fun _ h _ => h⟩, h⟩
theorem Ok.narrow (h : Ok S H G) : Ok NoS H G := ⟨h.same, Pools.none, fun _ z => z.elim⟩
theorem Fz.same (h : Fz S H0 G0 H G) : Same G H := h.ok.same
theorem Fz.up (h : Fz S H0 G0 H G) : Same G0 G := h.grow.same
theorem Fz.trans (a : Fz S H0 G0 H1 G1) (b : Fz S H1 G1 H2 G2) : Fz S H0 G0 H2 G2 :=
  ⟨a.step.trans b.step, ⟨a.grow.same.trans b.grow.same, fun c h n => b.grow.free c (a.grow.free c h n) (a.step.there n)⟩, b.ok⟩
/-- behind a call of a def that draws nothing -/
theorem Fz.call (a : Fz S H0 G0 H1 G1) (b : Fz NoS H1 G1 H2 G2) : Fz S H0 G0 H2 G2 :=
  ⟨a.step.trans b.step.wide, ⟨a.grow.same.trans b.grow.same, fun c h n => b.grow.free c (a.grow.free c h n) (a.step.there n)⟩,
    ⟨b.ok.same, a.ok.pools.step b.step, fun c s => b.grow.free c (a.ok.out c s) (a.ok.pools c s).some⟩⟩
/-- behind a call that hands back no object -/
theorem Fz.stepS (a : Fz S H0 G0 H1 G1) (b : Step S H1 H2) (po : Pools S H2) : Fz S H0 G0 H2 G1 :=
  ⟨a.step.trans b, a.grow, ⟨fun c o h => b.keep c o (fun s => by rw [a.ok.out c s] at h; cases h) (a.ok.same c o h), po, a.ok.out⟩⟩
theorem Fz.step0 (a : Fz S H0 G0 H1 G1) (b : Step NoS H1 H2) : Fz S H0 G0 H2 G1 := a.stepS b.wide (a.ok.pools.step b)
/-- a new object, frozen at once -/
theorem Fz.new (a : Fz S H0 G0 H G) (n : H p = none) : Fz S H0 G0 (upd H p o) (upd G p o) :=
  ⟨a.step.trans (Step.new n), ⟨a.grow.same.trans (same_sub (free_of a.ok.same n)), fun c h m => by
    rw [upd_ne (by rintro rfl; exact m (a.step.dom c n))]; exact a.grow.free c h m⟩,
    ⟨same_add (same_new a.ok.same n) upd_same, a.ok.pools.new n, fun b s => by
      rw [upd_ne (by rintro rfl; exact (a.ok.pools b s).some n)]; exact a.ok.out b s⟩⟩
/-- a new object that will change -/
theorem Fz.loc (a : Fz S H0 G0 H G) (n : H p = none) : Fz S H0 G0 (upd H p o) G :=
  ⟨a.step.trans (Step.new n), a.grow, ⟨same_new a.ok.same n, a.ok.pools.new n, a.ok.out⟩⟩
/-- it changes -/
theorem Fz.put (a : Fz S H0 G0 H G) (n : H0 p = none) (g : G p = none) (s : ¬ S p) : Fz S H0 G0 (upd H p o) G :=
  ⟨a.step.own n, a.grow, ⟨same_mut a.ok.same g, a.ok.pools.other s, a.ok.out⟩⟩
/-- it changes no more -/
theorem Fz.fix (a : Fz S H0 G0 H G) (n : H0 p = none) (e : H p = some o) (s : ¬ S p) : Fz S H0 G0 H (upd G p o) := by
  refine ⟨a.step, ⟨fun b u h => ?_, fun c h m => ?_⟩, ⟨same_add a.ok.same e, a.ok.pools, fun b t => ?_⟩⟩
  · by_cases hb : b = p
    · subst hb
      have := a.ok.same _ _ (a.grow.same _ _ h)
      rw [e] at this
      rw [upd_same]; exact this
    · rw [upd_ne hb]; exact a.grow.same _ _ h
  · rw [upd_ne (by rintro rfl; exact m n)]; exact a.grow.free c h m
  · rw [upd_ne (by rintro rfl; exact s t)]; exact a.ok.out b t
/-- many own objects change no more -/
theorem Fz.fixAll (a : Fz S H0 G0 H G) (as : List Addr) (n : ∀ p ∈ as, H0 p = none) (s : ∀ p ∈ as, ¬ S p) : Fz S H0 G0 H (fun b => if b ∈ as then H b else G b) := by
  refine ⟨a.step, ⟨fun b u h => ?_, fun c h m => ?_⟩, ⟨fun b u h => ?_, a.ok.pools, fun b t => ?_⟩⟩
  · show (if b ∈ as then H b else G b) = some u
    by_cases hb : b ∈ as
    · rw [if_pos hb]; exact a.ok.same _ _ (a.grow.same b u h)
    · rw [if_neg hb]; exact a.grow.same b u h
  · show (if c ∈ as then H c else G c) = none
    rw [if_neg fun z => m (n c z)]; exact a.grow.free c h m
  · by_cases hb : b ∈ as
    · have h' : (if b ∈ as then H b else G b) = some u := h
      rw [if_pos hb] at h'; exact h'
    · have h' : (if b ∈ as then H b else G b) = some u := h
      rw [if_neg hb] at h'; exact a.ok.same b u h'
  · show (if b ∈ as then H b else G b) = none
    rw [if_neg fun z => s b z t]; exact a.ok.out b t
theorem Fz.pool {pa : Addr} (a : Fz (At pa) H0 G0 H G) : PoolOk H pa := a.ok.pools pa rfl
theorem Ok.pool {pa : Addr} (a : Ok (At pa) H G) : PoolOk H pa := a.pools pa rfl
/-- an own object is none of the drawn numbers -/
theorem Ok.ne (h : Ok S H G) (n : H p = none) : ¬ S p := fun s => (h.pools p s).some n
/-- an own object stays behind a step -/
theorem Step.own_stays {u : HO} (a : Step S H H1) (s : ¬ S p) (e : H p = some u) : H1 p = some u := a.keep _ _ s e
theorem Grow.out {u : HO} (a : Grow G H G1) (g : G p = none) (e : H p = some u) : G1 p = none := a.free _ g (by rw [e]; exact fun z => nomatch z)
end

/-! ### comprehensions -/
section
variable {J : It} {items : List V} {Gd : Hp → Prop} {g : TG} {tt : TT} {te : TE} {vs : List Nat} {σ : L2.St} {H1 : Hp} {D : Addr} {Qd : Hp → Prop}
/-- elements that change nothing -/
theorem lc_map (w : Walk J items.length Gd (YAt items)) (F : V → V) (p : V → Bool) (hz : items.length ≤ 100000) (hG : ∀ acc, Gd (upd H1 D (.lst acc)))
    (hs : ∀ (i : Nat) (x : V) (acc : List V) (N : Hp → Prop), items[i]? = some x → (p x = true → ∃ acc', upd H1 D (.lst acc) D = some (.lst acc') ∧ acc'.length < sizeLine ∧ N (upd (upd H1 D (.lst acc)) D (.lst (acc' ++ [F x])))) → (p x = false → N (upd H1 D (.lst acc))) →
      g x (wipe σ vs) (upd H1 D (.lst acc)) fun σ2 H2 => wipe σ2 vs = wipe σ vs ∧ tt σ2 H2 fun b H3 => if b = true then te σ2 H3 fun y H4 => ∃ acc, H4 D = some (.lst acc) ∧ acc.length < sizeLine ∧ N (upd H4 D (.lst (acc ++ [y]))) else N H3)
    (hd : Qd (upd H1 D (.lst ((items.filter p).map F)))) :
    ∃ W : Nat → Nat → Hp → Prop, (∃ m, W 0 m (upd H1 D (.lst []))) ∧ ∀ i m H, W i m H →
      (J.stop i H ∧ Qd H) ∨ (J.go i H ∧ ∃ Nx : Hp → Prop, (∀ H', Nx H' → ∃ m', m' < m ∧ W (i + 1) m' H') ∧ ∀ x H', J.yld i H x H' → g x (wipe σ vs) H' fun σ2 H2 => wipe σ2 vs = wipe σ vs ∧ tt σ2 H2 fun b H3 =>
        if b = true then te σ2 H3 fun y H4 => ∃ acc, H4 D = some (.lst acc) ∧ acc.length < sizeLine ∧ Nx (upd H4 D (.lst (acc ++ [y]))) else Nx H3) := by
  have len : ∀ i, (((items.take i).filter p).map F).length ≤ items.length := fun i => by
    rw [List.length_map]
    exact Nat.le_trans (List.length_filter_le _ _) (by rw [List.length_take]; omega)
  refine lc_it w (fun i H => H = upd H1 D (.lst (((items.take i).filter p).map F))) rfl (fun i H _ e => by rw [e]; exact hG _) (fun i x H H' hi e y => ?_) (fun H e => ?_)
  · obtain ⟨rfl, hx⟩ := y
    subst e
    have hsn : (items.take (i + 1)).filter p = (items.take i).filter p ++ (if p x = true then [x] else []) := by
      rw [List.take_add_one, hx, List.filter_append]
      show _ ++ List.filter p [x] = _
      unfold List.filter
      cases p x <;> rfl
    refine hs i x _ _ hx (fun hp => ⟨_, upd_same, Nat.lt_of_le_of_lt (Nat.le_trans (len i) hz) (by decide), ?_⟩) (fun hp => ?_)
    · show _ = upd H1 D _
      rw [upd_upd, hsn, if_pos hp, List.map_append]
      rfl
    · show _ = upd H1 D _
      rw [hsn, if_neg (by rw [hp]; exact Bool.false_ne_true), List.append_nil]
  · rw [e, List.take_of_length_le (Nat.le_refl _)]
    exact hd
/-- elements that may draw and make new data; R tells of the item at each place; the list may change later -/
theorem lc_drawU {S : Addr → Prop} {G1 : Hp} {R : Nat → PyData → Prop} (w : Walk J items.length Gd (YAt items)) (hz : items.length ≤ 100000) (ok : Ok S H1 G1) (nD : H1 D = none) (hG : ∀ H, Same G1 H → Gd H)
    (hs : ∀ (i : Nat) (x : V) (H G : Hp) (N : Hp → Prop), items[i]? = some x → i < items.length → Fz S H1 G1 H G → (∀ y H4 G4 d, Fz S H G H4 G4 → Dq G4 y d → R i d → ∃ acc, H4 D = some (.lst acc) ∧ acc.length < sizeLine ∧ N (upd H4 D (.lst (acc ++ [y])))) →
      g x (wipe σ vs) H fun σ2 H2 => wipe σ2 vs = wipe σ vs ∧ tt σ2 H2 fun b H3 => if b = true then te σ2 H3 fun y H4 => ∃ acc, H4 D = some (.lst acc) ∧ acc.length < sizeLine ∧ N (upd H4 D (.lst (acc ++ [y]))) else N H3)
    (hd : ∀ H G acc ds, Fz S H1 G1 H G → G D = none → H D = some (.lst acc) → DqAll G acc ds → ds.length = items.length → (∀ (i : Nat) d, ds[i]? = some d → R i d) → Qd H) :
    ∃ W : Nat → Nat → Hp → Prop, (∃ m, W 0 m (upd H1 D (.lst []))) ∧ ∀ i m H, W i m H →
      (J.stop i H ∧ Qd H) ∨ (J.go i H ∧ ∃ Nx : Hp → Prop, (∀ H', Nx H' → ∃ m', m' < m ∧ W (i + 1) m' H') ∧ ∀ x H', J.yld i H x H' → g x (wipe σ vs) H' fun σ2 H2 => wipe σ2 vs = wipe σ vs ∧ tt σ2 H2 fun b H3 =>
        if b = true then te σ2 H3 fun y H4 => ∃ acc, H4 D = some (.lst acc) ∧ acc.length < sizeLine ∧ Nx (upd H4 D (.lst (acc ++ [y]))) else Nx H3) := by
  have sD : ¬ S D := ok.ne nD
  refine lc_it w (fun i H => ∃ G acc ds, Fz S H1 G1 H G ∧ G D = none ∧ H D = some (.lst acc) ∧ DqAll G acc ds ∧ ds.length = i ∧ ∀ (j : Nat) d, ds[j]? = some d → R j d)
    ⟨G1, [], [], ok.fz.loc nD, free_of ok.same nD, upd_same, .nil, rfl, fun j d e => by simp at e⟩ (fun i H _ e => ?_) (fun i x H H' hi e y => ?_) (fun H e => ?_)
  · obtain ⟨G, _, _, z, _⟩ := e
    exact hG H (z.up.trans z.same)
  · obtain ⟨rfl, hx⟩ := y
    obtain ⟨G, acc, ds, z, gD, hD, dp, dl, hR⟩ := e
    refine hs i x H' G _ hx hi z fun y H4 G4 d z4 d4 r4 => ?_
    have hD4 : H4 D = some (.lst acc) := z4.step.own_stays sD hD
    have gD4 : G4 D = none := z4.grow.out gD hD
    have la := dps_len dp
    refine ⟨acc, hD4, Nat.lt_of_le_of_lt (show acc.length ≤ 100000 by omega) (by decide), G4, acc ++ [y], ds ++ [d], (z.trans z4).put nD gD4 sD, gD4, upd_same, dps_snoc (dps_up dp z4.up) d4, by rw [List.length_append, dl]; rfl, fun j e he => ?_⟩
    by_cases hj : j < ds.length
    · rw [List.getElem?_append_left hj] at he
      exact hR j e he
    · rw [List.getElem?_append_right (by omega)] at he
      have : j - ds.length = 0 := by
        cases h : j - ds.length with
        | zero => rfl
        | succ m => rw [h] at he; simp at he
      have hji : j = i := by omega
      subst hji
      rw [this] at he
      simp at he
      subst he
      exact r4
  · obtain ⟨G, acc, ds, z, gD, hD, dp, dl, hR⟩ := e
    exact hd H G acc ds z gD hD dp dl hR
/-- the same, the list frozen -/
theorem lc_draw {S : Addr → Prop} {G1 : Hp} {R : Nat → PyData → Prop} (w : Walk J items.length Gd (YAt items)) (hz : items.length ≤ 100000) (ok : Ok S H1 G1) (nD : H1 D = none) (hG : ∀ H, Same G1 H → Gd H)
    (hs : ∀ (i : Nat) (x : V) (H G : Hp) (N : Hp → Prop), items[i]? = some x → i < items.length → Fz S H1 G1 H G → (∀ y H4 G4 d, Fz S H G H4 G4 → Dq G4 y d → R i d → ∃ acc, H4 D = some (.lst acc) ∧ acc.length < sizeLine ∧ N (upd H4 D (.lst (acc ++ [y])))) →
      g x (wipe σ vs) H fun σ2 H2 => wipe σ2 vs = wipe σ vs ∧ tt σ2 H2 fun b H3 => if b = true then te σ2 H3 fun y H4 => ∃ acc, H4 D = some (.lst acc) ∧ acc.length < sizeLine ∧ N (upd H4 D (.lst (acc ++ [y]))) else N H3)
    (hd : ∀ H G ds, Fz S H1 G1 H G → Dq G (.ref D) (.list ds) → H D ≠ none → ds.length = items.length → (∀ (i : Nat) d, ds[i]? = some d → R i d) → Qd H) :
    ∃ W : Nat → Nat → Hp → Prop, (∃ m, W 0 m (upd H1 D (.lst []))) ∧ ∀ i m H, W i m H →
      (J.stop i H ∧ Qd H) ∨ (J.go i H ∧ ∃ Nx : Hp → Prop, (∀ H', Nx H' → ∃ m', m' < m ∧ W (i + 1) m' H') ∧ ∀ x H', J.yld i H x H' → g x (wipe σ vs) H' fun σ2 H2 => wipe σ2 vs = wipe σ vs ∧ tt σ2 H2 fun b H3 =>
        if b = true then te σ2 H3 fun y H4 => ∃ acc, H4 D = some (.lst acc) ∧ acc.length < sizeLine ∧ Nx (upd H4 D (.lst (acc ++ [y]))) else Nx H3) :=
  lc_drawU w hz ok nD hG hs fun H G acc ds z gD hD dp dl hR =>
    hd H _ ds (z.fix nD hD (ok.ne nD)) (.lst upd_same (dps_up dp (same_sub gD))) (by rw [hD]; exact fun z => nomatch z) dl hR
end
end Hw

/-! the end of a law row for a def that knows that nothing is being shown -/
namespace Hw
open PySem PySem.Spec PyProof.Rows L2

theorem enter_law {P : Program} {w : World} {K : PySem.W.Frag} {mg mb : Str → Option Value} {k : Nat} {fa a : Addr} {fd : FuncData} {x : Str} {sp : Sp} {z : Shared} {vs : List Value} {ns : List Int}
    (inK : K.In z.heap) (gl : z.heap.Ns mainGlobals mg) (bu : z.heap.Ns builtinsNs mb) (bb : ∀ x : Str, x ≠ "__name__" → mb x = bootBuiltins x) (nl : z.heap.NoLimit) (ge : z.gens = #[])
    (ob : z.heap.get? a = some { cls := .type "list", data := .seq vs.toArray }) (ia : IntsAre vs ns) (sl : ns.length ≤ sizeLine) (room : Room k callerA)
    (F : ∀ base : Heap, K.In base → base.Ns mainGlobals mg → FnG P w K mg base CX0 k fa fd [x] sp) (bi : ∀ (s : Shared) (u : Value), BindsTo s fd ⟨[u], []⟩ [(x, u)])
    (pr : ∀ H : Hp, Only H → SqL K H a (ns.map V.int) → sp [.ref a] H (fun v _ => v = .bl true) fun _ _ _ => False) :
    codeAny (model P w) callerA (.call (.ref fa) ⟨[.ref a], []⟩) (fun r y => r = .ok (.ret (.bool true)) ∧ OldK z.heap y.heap ∧ y.os = z.os ∧ AllBare y.gens) z := by
  have lv := ia.length
  -- the script's object, where it is none of the top's own
  let O : Obj := { cls := .type "list", data := .seq vs.toArray }
  have main : ∀ H : Hp, (∀ b, H b = none ∨ (b = a ∧ H b = some (.frz O (.lst (ns.map V.int))) ∧ K.lookup a = none)) → SqL K H a (ns.map V.int) → HOk P w H z.heap →
      codeAny (model P w) callerA (.call (.ref fa) ⟨[.ref a], []⟩) (fun r y => r = .ok (.ret (.bool true)) ∧ OldK z.heap y.heap ∧ y.os = z.os ∧ AllBare y.gens) z := by
    intro H only seq ok
    have onlyH : Only H := fun b => (only b).imp id fun q => ⟨O, ns.map V.int, q.2.1⟩
    have dict0 : ∀ {b : Addr} {o : Obj} {es : Array DictEntry} {n : Nat}, z.heap.get? b = some o → o.data = .dict es n → H b = none := by
      intro b o es n e d
      rcases only b with q | ⟨rfl, _, _⟩
      · exact q
      · rw [ob] at e
        cases e
        exact nomatch (d : Data.seq _ _ = Data.dict es n)
    have ns' : ∀ {b : Addr} {m : Str → Option Value}, z.heap.Ns b m → (hidT z.heap H).Ns b m := by
      rintro b m ⟨o, es, n, e, d, r⟩
      exact ⟨o, es, n, hidT_get e (dict0 e d), d, r⟩
    have inB : K.In (hidT z.heap H) := by
      intro b o e
      rcases only b with q | ⟨rfl, _, q⟩
      · exact hidT_get (inK b o e) q
      · rw [q] at e; cases e
    have md : Mod K mg (hidT z.heap H) := by
      obtain ⟨mc, c1, c2⟩ := nl
      exact ⟨inB, ns' gl, ⟨mb, ns' bu, bb⟩, ⟨mc, ns' c1, c2⟩⟩
    have en : Env0 P w K mg (hidT z.heap H) callerA [] z H :=
      { frames := rfl, mod := md, bs := fun b o e => of_hidT e, bsz := Nat.le_of_eq (hidT_size _ _), funs := trivial, frf := fun b hb => (List.not_mem_nil hb).elim, hok := ok, bare := .of_eq ge }
    have run := (F _ inB (ns' gl)).go callerA [] z H ⟨[.ref a], []⟩ [.ref a] [.ref a] _ _ rfl room en (bi z (.ref a)) (.cons rfl .nil) (pr H onlyH seq)
    refine codeAny_mono run fun r y h => ?_
    match r, h with
    | .error _, h => exact h.elim
    | .ok .next, h => exact h.elim
    | .ok .brk, h => exact h.elim
    | .ok .cont, h => exact h.elim
    | .ok (.ret u), ⟨v, H2, os, bare, un, ok2, rv, q⟩ =>
      have q1 : v = V.bl true := q
      rw [q1] at rv
      have q2 : u = Value.bool true := rv
      refine ⟨by rw [q2], OldK.of_keep fun b o e => ?_, os, bare⟩
      rcases only b with n | ⟨rfl, n, _⟩
      · exact un.keep b o e n (List.not_mem_nil) (List.not_mem_nil)
      · obtain ⟨g1, _⟩ := ok _ _ n
        obtain ⟨g2, _⟩ := ok2 _ _ (un.frzs _ _ _ n)
        rw [g1] at e
        rw [g2]; exact e
  rcases hk : K.lookup a with _ | o
  · refine main (fun b => if b = a then some (.frz O (.lst (ns.map V.int))) else none) (fun b => ?_) (.inl (.inr ⟨O, if_pos rfl⟩)) fun b u e => ?_
    · by_cases c : b = a
      · exact .inr ⟨c, if_pos c, hk⟩
      · exact .inl (if_neg c)
    · by_cases c : b = a
      · subst c
        have e' : some (HO.frz O (.lst (ns.map V.int))) = some u := (if_pos rfl).symm.trans e
        cases e'
        exact ⟨ob, by rw [List.length_map]; exact sl, vs, _, vals_ints ia, ob⟩
      · have e' := (if_neg c).symm.trans e
        cases e'
  · have oo := inK a o hk
    rw [ob] at oo
    cases oo
    exact main (fun _ => none) (fun _ => .inl rfl) (.inr ⟨_, vs.toArray, _, hk, rfl, rfl, rfl, by rw [List.size_toArray, lv]; exact sl, vals_ints ia⟩) fun _ _ e => nomatch (e : (none : Option HO) = _)

/-- what k_head leaves, from the law's promise -/
theorem law_end {l : PySem.W.OpenLaw} {n k : Nat} {q : Program} {loose : List Str} {XP : (Str → Option Value) → Heap → Prop} {YP : World → Heap → Prop} {d : DefRec} {K : Params → PySem.W.Frag} {sp : PySem.W.Frag → Sp} {x : Str}
    (most : l.most = some n) (small : n ≤ sizeLine) (nodef : d.params.defaults = []) (room : Room k callerA) (inK : ∀ (w : World) (h : Heap), YP w h → (K w.params).In h)
    (F : ∀ (w : World) (mg : Str → Option Value) (fa : Addr) (h : Heap), (K w.params).In h → h.Ns mainGlobals mg → mg d.name = some (.ref fa) →
      ∃ fd : FuncData, (∀ (s : Shared) (u : Value), BindsTo s fd ⟨[u], []⟩ [(x, u)]) ∧ ∀ base : Heap, (K w.params).In base → base.Ns mainGlobals mg → FnG l.prog w (K w.params) mg base CX0 k fa fd [x] (sp (K w.params)))
    (pr : ∀ (K : PySem.W.Frag) (H : Hp) (a : Addr) (ns : List Int), ns.length ≤ n → Only H → SqL K H a (ns.map V.int) → sp K [.ref a] H (fun v _ => v = .bl true) fun _ _ _ => False) :
    PySem.W.WalkO q loose XP YP l.row.toRowW d [] (fun f vs => PySem.call f vs) := by
  refine Att.attach_call most nodef fun w z0 z1 mg mb fa o pm cd dc a vs ns G Y h1 h2 h3 h4 h5 h6 h7 h8 => ?_
  obtain ⟨fd, bi, go⟩ := F w mg fa _ (inK w _ Y) G.T.g h4
  exact enter_law (inK w _ Y) G.T.g G.T.b G.T.builtins G.T.nolimit h8 h5 h6 (Nat.le_trans h7 small) room go bi (fun H c e => pr _ H a ns h7 c e)
end Hw

/-! the laws' own drawing: what the shared defs promise -/
namespace Hw
open PySem PySem.Spec PyProof.Rows L2
theorem small60 {x : Int} : 0 ≤ x % 60 ∧ x % 60 < 60 := ⟨Int.emod_nonneg _ (by decide), Int.emod_lt_of_pos _ (by decide)⟩
theorem all_snoc {α : Type} {p : α → Prop} {xs : List α} {x : α} (h : ∀ y ∈ xs, p y) (h1 : p x) : ∀ y ∈ xs ++ [x], p y := fun y hy => by
  rcases List.mem_append.mp hy with h2 | h2
  · exact h y h2
  · rw [List.mem_singleton.mp h2]; exact h1
theorem snoc2 {α : Type} {p : α → Prop} {xs : List α} {x y : α} (h : ∀ y ∈ xs, p y) (h1 : p x) (h2 : p y) : ∀ z ∈ xs ++ [x, y], p z := fun z hz => by
  rcases List.mem_append.mp hz with q | q
  · exact h z q
  · rcases List.mem_cons.mp q with q | q
    · rw [q]; exact h1
    · rw [List.mem_singleton.mp q]; exact h2
theorem sz {n : Nat} (h : n ≤ 100000) : n ≤ sizeLine := Nat.le_trans h (by decide)
theorem szl {n : Nat} (h : n ≤ 100000) : n < sizeLine := Nat.lt_of_le_of_lt h (by decide)
theorem one_more {H : Hp} {c : Addr} {ps : List Int} {x : Int} : upd H c (.lst (ps.map V.int ++ [.int x])) c = some (.lst ((ps ++ [x]).map V.int)) := by rw [upd_same, List.map_append]; rfl
theorem two_more {H : Hp} {c : Addr} {ps : List Int} {x y : Int} : upd H c (.lst (ps.map V.int ++ [.int x, .int y])) c = some (.lst ((ps ++ [x, y]).map V.int)) := by rw [upd_same, List.map_append]; rfl
/-- _law_pick: some number below many -/
def spPick : Sp := fun vs H Q _ => ∃ (pa : Addr) (n : Int), vs = [.ref pa, .int n] ∧ PoolOk H pa ∧ 1 ≤ n ∧ n < 2 ^ 30 ∧
  ∀ (k : Int) (H' : Hp), 0 ≤ k → k < n → k < 60 → Step (At pa) H H' → Pools (At pa) H' → Q (.int k) H'
/-- _law_pool: a new list of at least 300 numbers below 60 -/
def spPool (K : PySem.W.Frag) : Sp := fun vs H Q _ => ∃ (a : Addr) (ns : List Int), vs = [.ref a] ∧ SqL K H a (ns.map V.int) ∧ ns.length ≤ 63 ∧
  ∀ (H' : Hp) (p : Addr) (ps : List Int), Step NoS H H' → H p = none → H' p = some (.lst (ps.map V.int)) → 300 ≤ ps.length → ps.length ≤ 4500 → (∀ x ∈ ps, 0 ≤ x ∧ x < 60) → Q (.ref p) H'
/-- _law_stream: the same, a place ahead -/
def spStream (K : PySem.W.Frag) : Sp := fun vs H Q _ => ∃ (a : Addr) (ns : List Int), vs = [.ref a] ∧ SqL K H a (ns.map V.int) ∧ ns.length ≤ 63 ∧
  ∀ (H' : Hp) (p : Addr), Step NoS H H' → H p = none → PoolOk H' p → Q (.ref p) H'
/-- the letters of the alphabet, by their codes -/
def abc : List Nat := (List.range 26).map (97 + ·)
/-- a text of letters: its codes -/
def strOf (l : List Nat) : Str := ⟨l.toArray⟩
/-- letters: one to six different ones -/
structure IsLetters (l : List Nat) : Prop where
  pos : 0 < l.length
  six : l.length ≤ 6
  nodup : l.Nodup
  abc : ∀ c ∈ l, 97 ≤ c ∧ c < 123
/-- _law_letters -/
def spLetters : Sp := fun vs H Q _ => ∃ (pa : Addr) (n : Int), vs = [.ref pa, .int n] ∧ PoolOk H pa ∧ 1 ≤ n ∧ n ≤ 6 ∧
  ∀ (l : List Nat) (H' : Hp), IsLetters l → (l.length : Int) ≤ n → Step (At pa) H H' → Pools (At pa) H' → Q (.str (strOf l)) H'
/-! texts by their codes -/
theorem strOf_cps (l : List Nat) : (strOf l).cps.toList = l := by show l.toArray.toList = l; simp
theorem strOf_len (l : List Nat) : (strOf l).length = l.length := by show l.toArray.size = l.length; simp
theorem strOf_self (x : Str) : strOf x.cps.toList = x := by
  obtain ⟨c⟩ := x
  show (⟨c.toList.toArray⟩ : Str) = ⟨c⟩
  simp
theorem strOf_inj {a b : List Nat} (h : strOf a = strOf b) : a = b := by rw [← strOf_cps a, h, strOf_cps]
theorem one_sign (c : Nat) : (⟨#[c]⟩ : Str) = strOf [c] := rfl
theorem empty_str : ("" : Str) = strOf [] := by decide +kernel
theorem txt_join (l : List Nat) : Txt.join "" (l.map fun k => strOf [k]) = strOf l := by
  have h := PyProof.Rows.join_closes (sep := "") (sep' := ⟨#[]⟩) (ys := l.map fun k => strOf [k]) (by decide +kernel)
  rw [eq_of_beq h]
  exact PyProof.Rows.join_ones l
theorem sum_ones (l : List Nat) : ((l.map fun k => strOf [k]).map (·.length)).sum = l.length := by
  induction l with
  | nil => rfl
  | cons x r ih => rw [List.map_cons, List.map_cons, List.sum_cons, ih, List.length_cons]; show 1 + r.length = _; omega

/-! what is walked, by its items -/
abbrev rngI (lo : Int) (n : Nat) : List V := (List.range n).map fun i => V.int (lo + (i : Nat))
abbrev sgnI (l : List Nat) : List V := l.map fun c => V.str (strOf [c])
theorem rngI_at {lo : Int} {n i : Nat} {x : V} (h : (rngI lo n)[i]? = some x) : i < n ∧ x = .int (lo + i) := by
  rw [List.getElem?_map] at h
  by_cases hi : i < n
  · rw [List.getElem?_range hi] at h
    exact ⟨hi, (Option.some.inj h).symm⟩
  · rw [List.getElem?_eq_none (by rw [List.length_range]; omega)] at h
    cases h
theorem sgnI_at {l : List Nat} {i : Nat} {x : V} (h : (sgnI l)[i]? = some x) : ∃ c, l[i]? = some c ∧ x = .str (strOf [c]) := by
  rw [List.getElem?_map] at h
  cases e : l[i]? with
  | none => rw [e] at h; cases h
  | some c => rw [e] at h; exact ⟨c, rfl, (Option.some.inj h).symm⟩
theorem walkR {lo : Int} {n : Nat} : Walk (Itr lo n) (rngI lo n).length (fun _ => True) (YAt (rngI lo n)) := by
  have l : (rngI lo n).length = n := by rw [List.length_map, List.length_range]
  rw [l]
  refine walk_range.mono (fun _ h => h) fun i H x H' hi _ y => ?_
  obtain ⟨rfl, rfl⟩ := y
  refine ⟨rfl, ?_⟩
  rw [List.getElem?_map, List.getElem?_range hi]
  rfl
theorem walkS {l : List Nat} : Walk (Its (strOf l)) (sgnI l).length (fun _ => True) (YAt (sgnI l)) := by
  have e : (sgnI l).length = (strOf l).cps.size := by rw [List.length_map]; exact (strOf_len l).symm
  rw [e]
  refine walk_str.mono (fun _ h => h) fun i H x H' hi _ y => ?_
  obtain ⟨rfl, c, h1, rfl⟩ := y
  refine ⟨rfl, ?_⟩
  have h2 : l[i]? = some c := by rw [← h1]; show _ = l.toArray[i]?; simp
  rw [List.getElem?_map, h2]
  rfl
theorem lenR {lo : Int} {n : Nat} : (rngI lo n).length = n := by rw [List.length_map, List.length_range]
theorem lenS {l : List Nat} : (sgnI l).length = l.length := List.length_map ..

/-! drawn machines -/
theorem data_of {α : Type} {f : α → PyData} {P : α → Prop} : ∀ {ds : List PyData}, (∀ (i : Nat) d, ds[i]? = some d → ∃ a, d = f a ∧ P a) → ∃ as : List α, ds = as.map f ∧ as.length = ds.length ∧ ∀ a ∈ as, P a
  | [], _ => ⟨[], rfl, rfl, fun _ z => nomatch z⟩
  | d :: ds, h => by
    obtain ⟨a, e, pa⟩ := h 0 d rfl
    obtain ⟨as, e2, l2, h2⟩ := data_of (ds := ds) fun i x hx => h (i + 1) x hx
    refine ⟨a :: as, by rw [e, e2]; rfl, by rw [List.length_cons, List.length_cons, l2], fun b hb => ?_⟩
    rcases List.mem_cons.mp hb with rfl | hb
    · exact pa
    · exact h2 b hb
/-- a machine over so many letters: states below their number -/
structure MachOk (k : Nat) (m : Mach) : Prop where
  ends : m.ends.length = m.tab.length
  pos : 1 ≤ m.tab.length
  most : m.tab.length ≤ 60
  row : ∀ r ∈ m.tab, r.length = k
  tgt : ∀ r ∈ m.tab, ∀ t ∈ r, 0 ≤ t ∧ t < m.tab.length
/-- a drawn machine of at most n states -/
def DrawM (K : PySem.W.Frag) (Q : VK) (pa : Addr) (H G : Hp) (l : List Nat) (n : Nat) : Prop :=
  ∀ (H' G' : Hp) (r : V) (m : Mach), Fz (At pa) H G H' G' → Dq G' r (DM m) → MachOk l.length m → m.tab.length ≤ n → Q r H'
def spMachine (K : PySem.W.Frag) : Sp := fun vs H Q _ => ∃ (pa : Addr) (l : List Nat) (n : Nat) (G : Hp), vs = [.ref pa, .str (strOf l), .int (n : Nat)] ∧ IsLetters l ∧ 1 ≤ n ∧ n ≤ 60 ∧ Ok (At pa) H G ∧ DrawM K Q pa H G l n
def spBlocks (K : PySem.W.Frag) : Sp := fun vs H Q _ => ∃ (pa : Addr) (l : List Nat) (nb nw : Int) (G : Hp), vs = [.ref pa, .str (strOf l), .int nb, .int nw] ∧ IsLetters l ∧ 1 ≤ nb ∧ nb ≤ 60 ∧ 1 ≤ nw ∧ nw ≤ 59 ∧ Ok (At pa) H G ∧ DrawM K Q pa H G l 60
theorem sum_pos_take : ∀ {ss : List Int} {i : Nat} {x : Int}, (∀ y ∈ ss, 1 ≤ y) → ss[i]? = some x → (ss.take i).sum + x ≤ ss.sum ∧ 0 ≤ (ss.take i).sum
  | [], _, _, _, h => by simp at h
  | y :: r, 0, x, hp, h => by
    have e : y = x := Option.some.inj h
    subst e
    have h2 : 0 ≤ r.sum := by
      clear h
      induction r with
      | nil => exact Int.le_refl 0
      | cons z q ih =>
        rw [List.sum_cons]
        have h1 := ih fun w hw => hp w (by rcases List.mem_cons.mp hw with rfl | hw; exact List.mem_cons_self; exact List.mem_cons_of_mem _ (List.mem_cons_of_mem _ hw))
        have := hp z (List.mem_cons_of_mem _ List.mem_cons_self)
        omega
    rw [List.take_zero, List.sum_cons]
    show (0 : Int) + y ≤ _ ∧ _
    exact ⟨by omega, Int.le_refl 0⟩
  | y :: r, i + 1, x, hp, h => by
    have ih := sum_pos_take (ss := r) (i := i) (x := x) (fun w hw => hp w (List.mem_cons_of_mem _ hw)) (by simpa using h)
    have := hp y List.mem_cons_self
    rw [List.take_succ_cons, List.sum_cons, List.sum_cons]
    omega
theorem sum_take_succ {ss : List Int} {i : Nat} {x : Int} (h : ss[i]? = some x) : (ss.take (i + 1)).sum = (ss.take i).sum + x := by
  rw [List.take_add_one, h, List.sum_append]
  show _ + (x + 0) = _
  omega
theorem map_set_int {ns : List Int} {j : Nat} {x : Int} : (ns.map V.int).set j (.int x) = (ns.set j x).map V.int := by rw [List.map_set]
/-- some machine over k letters comes back -/
def ToM (S : Addr → Prop) (Q : VK) (H G : Hp) (k : Nat) : Prop := ∀ (H' G' : Hp) (r : V) (m : Mach), Fz S H G H' G' → Dq G' r (DM m) → MachOk k m → Q r H'
def spRenamed : Sp := fun vs H Q _ => ∃ (v : V) (m : Mach) (k : Nat) (G : Hp), vs = [v] ∧ Ok NoS H G ∧ Dq G v (DM m) ∧ MachOk k m ∧ k ≤ 6 ∧ ToM NoS Q H G k
/-- _law_moved, _law_doubled -/
def spMoved : Sp := fun vs H Q _ => ∃ (pa : Addr) (v : V) (m : Mach) (k : Nat) (G : Hp), vs = [.ref pa, v] ∧ Ok (At pa) H G ∧ Dq G v (DM m) ∧ MachOk k m ∧ 1 ≤ k ∧ k ≤ 6 ∧ ToM (At pa) Q H G k
def spDoubled : Sp := fun vs H Q _ => ∃ (pa : Addr) (v : V) (m : Mach) (k : Nat) (G : Hp), vs = [.ref pa, v] ∧ Ok (At pa) H G ∧ Dq G v (DM m) ∧ MachOk k m ∧ k ≤ 6 ∧ m.tab.length ≤ 30 ∧ ToM (At pa) Q H G k
def spShaped : Sp := fun vs H Q _ => ∃ (pa : Addr) (l : List Nat) (G : Hp), vs = [.ref pa, .str (strOf l)] ∧ IsLetters l ∧ Ok (At pa) H G ∧ ToM (At pa) Q H G l.length
theorem MachOk.at_row {k : Nat} {m : Mach} (mo : MachOk k m) {s : Int} (h0 : 0 ≤ s) (h : s < m.tab.length) : ∃ r, m.tab[s.toNat]? = some r ∧ r.length = k ∧ ∀ t ∈ r, 0 ≤ t ∧ t < m.tab.length := by
  obtain ⟨r, e⟩ := exists_at h0 h
  have hr := List.mem_of_getElem? e
  exact ⟨r, e, mo.row r hr, mo.tgt r hr⟩
theorem MachOk.at_end {k : Nat} {m : Mach} (mo : MachOk k m) {s : Int} (h0 : 0 ≤ s) (h : s < m.tab.length) : ∃ b, m.ends[s.toNat]? = some b := exists_at h0 (by rw [mo.ends]; exact h)
theorem intsAt {ns : List Int} {i : Nat} {x : V} (h : (ns.map V.int)[i]? = some x) : ∃ n, ns[i]? = some n ∧ x = .int n := by
  rw [List.getElem?_map] at h
  cases e : ns[i]? with
  | none => rw [e] at h; cases h
  | some n => rw [e] at h; exact ⟨n, rfl, (Option.some.inj h).symm⟩
theorem filter_all {α : Type} {xs : List α} : xs.filter (fun _ => true) = xs := List.filter_eq_self.mpr fun _ _ => rfl
/-- rows at told places -/
theorem dqs_refs {G : Hp} : ∀ {as : List Addr} {t : List (List Int)}, as.length = t.length → (∀ (j : Nat) a, as[j]? = some a → ∃ r, t[j]? = some r ∧ G a = some (.lst (r.map V.int))) → DqAll G (as.map V.ref) (t.map DI)
  | [], [], _, _ => .nil
  | [], _ :: _, h, _ => by simp at h
  | _ :: _, [], h, _ => by simp at h
  | a :: as, r :: t, h, hh => by
    obtain ⟨r', e, ha⟩ := hh 0 a rfl
    have : r = r' := Option.some.inj e
    subst this
    exact .cons (Idp ha) (dqs_refs (by simpa using h) fun j b hb => hh (j + 1) b hb)
theorem nodup_at {α : Type} : ∀ {l : List α} (_ : l.Nodup) {i j : Nat} {x : α} (_ : l[i]? = some x) (_ : l[j]? = some x), i = j
  | [], _, _, _, _, h, _ => by simp at h
  | a :: l, nd, 0, 0, _, _, _ => rfl
  | a :: l, nd, 0, j + 1, x, h1, h2 => by
    have e : a = x := Option.some.inj h1
    rw [e] at nd
    exact absurd (List.mem_of_getElem? (show l[j]? = some x from h2)) (List.nodup_cons.mp nd).1
  | a :: l, nd, i + 1, 0, x, h1, h2 => by
    have e : a = x := Option.some.inj h2
    rw [e] at nd
    exact absurd (List.mem_of_getElem? (show l[i]? = some x from h1)) (List.nodup_cons.mp nd).1
  | a :: l, nd, i + 1, j + 1, x, h1, h2 => by
    have := nodup_at (l := l) (List.nodup_cons.mp nd).2 (i := i) (j := j) (x := x) h1 h2
    omega

/-! where a sign stands -/
theorem idx_of {c : Nat} : ∀ {l : List Nat} {i : Nat}, l[i]? = some c → (∀ k, k < i → l[k]? ≠ some c) → l.idxOf c = i
  | [], _, h, _ => by simp at h
  | a :: l, 0, h, _ => by
    have e : a = c := Option.some.inj h
    rw [e, List.idxOf_cons_self]
  | a :: l, i + 1, h, hn => by
    have ne : a ≠ c := fun e => hn 0 (Nat.succ_pos _) (by rw [e]; rfl)
    rw [List.idxOf_cons, beq_false_of_ne ne, cond_false, idx_of (l := l) (i := i) h fun k hk => hn (k + 1) (by omega)]
theorem sign_at {l : List Nat} {c : Nat} (h : c ∈ l) : ∃ rest, Builtin.Str.occurrences (strOf l) (strOf [c]) 0 (strOf l).length 1 = l.idxOf c :: rest := by
  have hs : ∀ i, (i + (strOf [c]).length ≤ (strOf l).length ∧ Builtin.Str.subAt (strOf l) (strOf [c]) i = true) ↔ l[i]? = some c := fun i => by
    have := StrLaws.subAt_one (strOf l) c i
    rw [strOf_cps] at this
    exact this
  rcases StrLaws.occ_head (strOf l) (strOf [c]) 1 (Nat.le_refl 1) with ⟨_, hn⟩ | ⟨i, r, e, ha, hn⟩
  · obtain ⟨i, hi⟩ := List.getElem?_of_mem h
    exact absurd ((hs i).mpr hi) (hn i)
  · refine ⟨r, ?_⟩
    rw [e, idx_of ((hs i).mp ha) fun k hk z => hn k hk ((hs k).mpr z)]

/-! the law -/
def spLaw (K : PySem.W.Frag) : Sp := fun vs H Q _ => ∃ (a : Addr) (ns : List Int), vs = [.ref a] ∧ SqL K H a (ns.map V.int) ∧ ns.length ≤ 63 ∧ ∀ H', Q (.bl true) H'
theorem law_pre {K : PySem.W.Frag} {H : Hp} {a : Addr} {ns : List Int} (hl : ns.length ≤ 63) (hS : SqL K H a (ns.map V.int)) : spLaw K [.ref a] H (fun v _ => v = .bl true) fun _ _ _ => False :=
  ⟨a, ns, rfl, hS, hl, fun _ => rfl⟩
theorem cut_to {xs : List V} {k : Nat} : cutV xs none (some (k : Int)) = xs.take k := by
  unfold cutV
  rw [HT.sIx_none, show HT.sIx xs.length xs.length (some (k : Int)) = min k xs.length from HT.sIx_nat xs.length xs.length k, List.drop_zero, Nat.sub_zero]
  by_cases h : k ≤ xs.length
  · rw [Nat.min_eq_left h]
  · rw [Nat.min_eq_right (by omega), List.take_length, List.take_of_length_le (by omega)]
theorem exists_max : ∀ {ns : List Int}, 0 < ns.length → ∃ m, m ∈ ns ∧ ∀ y ∈ ns, y ≤ m
  | [x], _ => ⟨x, List.mem_cons_self, fun y hy => by rw [List.mem_singleton.mp hy]; exact Int.le_refl _⟩
  | x :: y :: r, _ => by
    obtain ⟨m, hm, h⟩ := exists_max (ns := y :: r) (by simp)
    by_cases c : x ≤ m
    · exact ⟨m, List.mem_cons_of_mem _ hm, fun z hz => (List.mem_cons.mp hz).elim (fun e => e ▸ c) (h z)⟩
    · exact ⟨x, List.mem_cons_self, fun z hz => (List.mem_cons.mp hz).elim (fun e => e ▸ Int.le_refl _) fun q => by have := h z q; omega⟩
theorem iteNS' {c A B : Prop} [Decidable c] (hc : c) (h : B) : if (!decide c) = true then A else B := iteNS hc h
end Hw

/-! data that may be shown: their depth and the length of their text -/
namespace Hw
open PySem PySem.Spec PyProof.Rows L2
structure Sh (d : PyData) (k n : Nat) : Prop where
  show_ : d.showable = true
  nod : d.hasDict = false
  deep : d.depth ≤ k
  size : d.shown.length ≤ n
theorem Sh.mono {d : PyData} {k n k' n' : Nat} (h : Sh d k n) (hk : k ≤ k') (hn : n ≤ n') : Sh d k' n' := ⟨h.show_, h.nod, Nat.le_trans h.deep hk, Nat.le_trans h.size hn⟩
theorem sh_int {i : Int} {b : Nat} (h : i.natAbs ≤ b) (hb : b < 2 ^ 250) : Sh (.int i) 0 (b + 2) where
  show_ := by
    rw [PyData.showable]
    refine decide_eq_true ?_
    by_cases h0 : i.natAbs = 0
    · rw [h0]; decide
    · have := (Nat.log2_lt h0).mpr (Nat.lt_of_le_of_lt h hb)
      omega
  nod := by rw [PyData.hasDict]
  deep := by rw [PyData.depth]; exact Nat.le_refl 0
  size := by
    rw [PyData.shown]
    have := PyProof.Rows.len_str_of_int i
    omega
theorem sh_bool {b : Bool} : Sh (.bool b) 0 5 where
  show_ := by rw [PyData.showable]
  nod := by rw [PyData.hasDict]
  deep := by rw [PyData.depth]; exact Nat.le_refl 0
  size := by rw [PyData.shown]; cases b <;> decide +kernel
theorem sh_none : Sh .none 0 5 where
  show_ := by rw [PyData.showable]
  nod := by rw [PyData.hasDict]
  deep := by rw [PyData.depth]; exact Nat.le_refl 0
  size := by rw [PyData.shown]; decide +kernel
theorem sh_str {l : List Nat} (h : ∀ c ∈ l, c < 16 ^ 8) : Sh (.str (strOf l)) 0 (10 * l.length + 2) where
  show_ := by rw [PyData.showable]
  nod := by rw [PyData.hasDict]
  deep := by rw [PyData.depth]; exact Nat.le_refl 0
  size := by
    rw [PyData.shown]
    have := StrLaws.reprText_len (strOf l) (by rw [strOf_cps]; exact h)
    rw [strOf_len] at this
    exact this
theorem sh_all {k n : Nat} : ∀ {ds : List PyData}, (∀ d ∈ ds, Sh d k n) → PyData.showableAll ds = true ∧ PyData.hasDictAll ds = false ∧ PyData.depthAll ds ≤ k ∧ ((PyData.shownAll ds).map (·.length)).sum ≤ ds.length * n ∧ (PyData.shownAll ds).length = ds.length
  | [], _ => by
    refine ⟨by rw [PyData.showableAll], by rw [PyData.hasDictAll], by rw [PyData.depthAll]; omega, ?_, ?_⟩
    · rw [PyData.shownAll]; exact Nat.zero_le _
    · rw [PyData.shownAll]; rfl
  | d :: ds, h => by
    obtain ⟨h1, h2, h3, h4, h5⟩ := sh_all (ds := ds) fun e he => h e (List.mem_cons_of_mem _ he)
    have hd := h d List.mem_cons_self
    refine ⟨by rw [PyData.showableAll, hd.show_, h1]; rfl, by rw [PyData.hasDictAll, hd.nod, h2]; rfl, by rw [PyData.depthAll]; exact Nat.max_le.mpr ⟨hd.deep, h3⟩, ?_, ?_⟩
    · rw [PyData.shownAll, List.map_cons, List.sum_cons, List.length_cons, Nat.add_mul, Nat.one_mul]
      have := hd.size
      omega
    · rw [PyData.shownAll, List.length_cons, List.length_cons, h5]
theorem sh_list {k n : Nat} {ds : List PyData} (h : ∀ d ∈ ds, Sh d k n) : Sh (.list ds) (k + 1) (ds.length * (n + 2) + 3) := by
  obtain ⟨h1, h2, h3, h4, h5⟩ := sh_all h
  refine ⟨by rw [PyData.showable]; exact h1, by rw [PyData.hasDict]; exact h2, by rw [PyData.depth]; omega, ?_⟩
  rw [PyData.shown]
  have := listText_len_le (PyData.shownAll ds)
  rw [h5] at this
  rw [Nat.mul_add]
  omega
theorem sh_tuple {k n : Nat} {ds : List PyData} (h : ∀ d ∈ ds, Sh d k n) : Sh (.tuple ds) (k + 1) (ds.length * (n + 2) + 3) := by
  obtain ⟨h1, h2, h3, h4, h5⟩ := sh_all h
  refine ⟨by rw [PyData.showable]; exact h1, by rw [PyData.hasDict]; exact h2, by rw [PyData.depth]; omega, ?_⟩
  rw [PyData.shown]
  have := tupleText_len_le (PyData.shownAll ds)
  rw [h5] at this
  rw [Nat.mul_add]
  omega
/-- a machine -/
theorem sh_mach {k : Nat} {m : Mach} (mo : MachOk k m) (h6 : k ≤ 6) : Sh (DM m) 3 60000 := by
  have rows : ∀ d ∈ m.tab.map DI, Sh d 1 400 := fun d hd => by
    obtain ⟨r, hr, rfl⟩ := List.mem_map.mp hd
    have := sh_list (ds := r.map PyData.int) (k := 0) (n := 62) fun e he => by
      obtain ⟨t, ht, rfl⟩ := List.mem_map.mp he
      have := mo.tgt r hr t ht
      have := mo.most
      exact (sh_int (b := 60) (by omega) (by decide)).mono (Nat.le_refl _) (Nat.le_refl _)
    refine this.mono (Nat.le_refl _) ?_
    rw [List.length_map, mo.row r hr]
    omega
  have tab := sh_list rows
  have ends := sh_list (ds := m.ends.map PyData.bool) (k := 0) (n := 5) fun e he => by
    obtain ⟨t, _, rfl⟩ := List.mem_map.mp he
    exact sh_bool
  rw [List.length_map] at tab ends
  have h1 := mo.most
  have h2 := mo.ends
  have all : ∀ d ∈ [DT m.tab, DB m.ends], Sh d 2 25000 := fun d hd => by
    rcases List.mem_cons.mp hd with rfl | hd
    · exact tab.mono (Nat.le_refl _) (by omega)
    · rw [List.mem_singleton.mp hd]
      exact ends.mono (by decide) (by omega)
  refine (sh_tuple all).mono (Nat.le_refl _) ?_
  show 2 * (25000 + 2) + 3 ≤ 60000
  decide
/-- what repr asks of a value of data -/
theorem repr_ok {d : PyData} {k n : Nat} (h : Sh d k n) (hk : k ≤ 100) (hn : n ≤ 16000000) : d.showable = true ∧ d.hasDict = false ∧ d.depth ≤ 100 ∧ d.shown.length ≤ sizeLine :=
  ⟨h.show_, h.nod, Nat.le_trans h.deep hk, Nat.le_trans (Nat.le_trans h.size hn) (by decide)⟩
end Hw

/-! the numbers of words of a machine -/
namespace Hw
open PySem PySem.Spec PyProof.Rows L2
/-- the number of words of n signs from s to ends -/
def cnt (m : Mach) : Nat → Nat → Int
  | 0, s => if m.ends.getD s false = true then 1 else 0
  | n + 1, s => ((m.tab.getD s []).map fun t => cnt m n t.toNat).sum
theorem cnt_succ {m : Mach} {n s : Nat} : cnt m (n + 1) s = ((m.tab.getD s []).map fun t => cnt m n t.toNat).sum := rfl
theorem cnt_zero {m : Mach} {s : Nat} : cnt m 0 s = if m.ends.getD s false = true then 1 else 0 := rfl
def rowOf (m : Mach) (n : Nat) : List Int := (List.range m.tab.length).map (cnt m n)
def rowsOf (m : Mach) (n : Nat) : List (List Int) := (List.range (n + 1)).map (rowOf m)
def uptoOf (m : Mach) (n : Nat) : Int := ((List.range (n + 1)).map fun i => cnt m i 0).sum
theorem rowOf_len {m : Mach} {n : Nat} : (rowOf m n).length = m.tab.length := by unfold rowOf; rw [List.length_map, List.length_range]
theorem rowOf_at {m : Mach} {n s : Nat} (h : s < m.tab.length) : (rowOf m n)[s]? = some (cnt m n s) := by
  unfold rowOf; rw [List.getElem?_map, List.getElem?_range h]; rfl
theorem rowsOf_len {m : Mach} {n : Nat} : (rowsOf m n).length = n + 1 := by unfold rowsOf; rw [List.length_map, List.length_range]
theorem rowsOf_at {m : Mach} {n i : Nat} (h : i ≤ n) : (rowsOf m n)[i]? = some (rowOf m i) := by
  unfold rowsOf; rw [List.getElem?_map, List.getElem?_range (by omega)]; rfl
theorem rowsOf_succ {m : Mach} {n : Nat} : rowsOf m (n + 1) = rowsOf m n ++ [rowOf m (n + 1)] := by
  unfold rowsOf; rw [List.range_succ, List.map_append]; rfl
/-- the next row, item by item -/
theorem row_is {m : Mach} {n : Nat} {ds : List PyData} (hl : ds.length = m.tab.length) (h : ∀ (i : Nat) d, ds[i]? = some d → d = .int (cnt m n i)) : ds = (rowOf m n).map .int := by
  refine List.ext_getElem? fun i => ?_
  by_cases hi : i < m.tab.length
  · have e1 : ds[i]? = some ds[i] := List.getElem?_eq_getElem (by omega)
    rw [List.getElem?_map, rowOf_at hi, e1, h i _ e1]; rfl
  · rw [List.getElem?_eq_none (by omega), List.getElem?_eq_none (by rw [List.length_map, rowOf_len]; omega)]
def spCountRows : Sp := fun vs H Q _ => ∃ (v : V) (n : Nat) (m : Mach) (k : Nat) (G : Hp), vs = [v, .int (n : Nat)] ∧ Ok NoS H G ∧ Dq G v (DM m) ∧ MachOk k m ∧ k ≤ 6 ∧ n ≤ 300 ∧
  ∀ (H' G' : Hp) (r : V), Fz NoS H G H' G' → Dq G' r (DT (rowsOf m n)) → Q r H'
/-- count(letters, machine, length), upto -/
def spNum (f : Mach → Nat → Int) : Sp := fun vs H Q _ => ∃ (l v : V) (n : Nat) (m : Mach) (k : Nat) (G : Hp), vs = [l, v, .int (n : Nat)] ∧ Ok NoS H G ∧ Dq G v (DM m) ∧ MachOk k m ∧ k ≤ 6 ∧ n ≤ 300 ∧
  ∀ (H' : Hp), Step NoS H H' → Q (.int (f m n)) H'
def spIsNum : Sp := fun vs H Q _ => ∃ (a b : Int), vs = [.int a, .int b] ∧ Q (.bl (decide (a = b))) H

/-! the law's own words -/
/-- the words of j signs, in the order of the law -/
def layer (l : List Nat) : Nat → List (List Nat)
  | 0 => [[]]
  | j + 1 => (layer l j).flatMap fun w => l.map fun c => w ++ [c]
def wordsUpto (l : List Nat) (n : Nat) : List (List Nat) := (List.range (n + 1)).flatMap (layer l)
theorem layer_len {l : List Nat} : ∀ {j : Nat} {w : List Nat}, w ∈ layer l j → w.length = j
  | 0, w, h => by
    have : w = [] := List.mem_singleton.mp h
    rw [this]; rfl
  | j + 1, w, h => by
    obtain ⟨v, hv, hw⟩ := List.mem_flatMap.mp h
    obtain ⟨c, _, rfl⟩ := List.mem_map.mp hw
    rw [List.length_append, layer_len hv]; rfl
theorem layer_mem {l : List Nat} : ∀ {j : Nat} {w : List Nat}, w ∈ layer l j → ∀ c ∈ w, c ∈ l
  | 0, w, h => by
    have : w = [] := List.mem_singleton.mp h
    rw [this]; exact fun _ z => nomatch z
  | j + 1, w, h => by
    obtain ⟨v, hv, hw⟩ := List.mem_flatMap.mp h
    obtain ⟨c, hc, rfl⟩ := List.mem_map.mp hw
    intro d hd
    rcases List.mem_append.mp hd with h | h
    · exact layer_mem hv d h
    · rw [List.mem_singleton.mp h]; exact hc
theorem flatMap_len {α β : Type} {f : α → List β} {k : Nat} : ∀ {l : List α}, (∀ x ∈ l, (f x).length = k) → (l.flatMap f).length = l.length * k
  | [], _ => by simp
  | x :: r, h => by
    rw [List.flatMap_cons, List.length_append, h x List.mem_cons_self, flatMap_len fun y hy => h y (List.mem_cons_of_mem _ hy), List.length_cons, Nat.add_mul, Nat.one_mul, Nat.add_comm]
theorem layer_size {l : List Nat} : ∀ {j : Nat}, (layer l j).length = l.length ^ j
  | 0 => rfl
  | j + 1 => by
    show ((layer l j).flatMap fun w => l.map fun c => w ++ [c]).length = _
    rw [flatMap_len (k := l.length) (fun w _ => List.length_map ..), layer_size, Nat.pow_succ]
theorem words_succ {l : List Nat} {n : Nat} : wordsUpto l (n + 1) = wordsUpto l n ++ layer l (n + 1) := by
  unfold wordsUpto
  rw [List.range_succ, List.flatMap_append, List.flatMap_cons, List.flatMap_nil, List.append_nil]
/-- the numbers of words over so many letters that the law asks for -/
theorem sizes_small : ∀ k < 7, ∀ n < 9, (k ≤ 1 ∧ n ≤ 7) ∨ (k ≤ 2 ∧ n ≤ 4) ∨ (k ≤ 3 ∧ n ≤ 3) ∨ n ≤ 2 → ((List.range (n + 1)).map (k ^ ·)).sum ≤ 200 := by decide +kernel
theorem words_size {l : List Nat} {n : Nat} : (wordsUpto l n).length = ((List.range (n + 1)).map (l.length ^ ·)).sum := by
  induction n with
  | zero => rfl
  | succ n ih =>
    rw [words_succ, List.length_append, ih, layer_size, List.range_succ (n := n + 1), List.map_append, List.sum_append]
    rfl
/-- the state behind a word -/
def step1 (l : List Nat) (m : Mach) (s : Nat) (c : Nat) : Nat := (((m.tab.getD s []).getD (l.idxOf c) 0)).toNat
def runW (l : List Nat) (m : Mach) (s : Nat) (w : List Nat) : Nat := w.foldl (step1 l m) s
theorem runW_snoc {l : List Nat} {m : Mach} {s : Nat} {w : List Nat} {c : Nat} : runW l m s (w ++ [c]) = step1 l m (runW l m s w) c := by
  unfold runW; rw [List.foldl_append]; rfl
theorem idx_lt {l : List Nat} {c : Nat} (h : c ∈ l) : l.idxOf c < l.length := List.idxOf_lt_length_iff.mpr h
theorem step1_ok {l : List Nat} {m : Mach} (mo : MachOk l.length m) {s c : Nat} (hs : s < m.tab.length) (hc : c ∈ l) :
    ∃ r, m.tab[s]? = some r ∧ r[l.idxOf c]? = some ((step1 l m s c : Nat) : Int) ∧ step1 l m s c < m.tab.length := by
  obtain ⟨r, hr, rl, rt⟩ := mo.at_row (s := (s : Int)) (by omega) (by omega)
  have hr' : m.tab[s]? = some r := hr
  have hi := idx_lt hc
  have e : r[l.idxOf c]? = some r[l.idxOf c] := List.getElem?_eq_getElem (by omega)
  have := rt _ (List.mem_of_getElem? e)
  have es : step1 l m s c = (r[l.idxOf c]'(by omega)).toNat := by
    unfold step1
    simp only [List.getD_eq_getElem?_getD, hr', e, Option.getD_some]
  refine ⟨r, hr', ?_, ?_⟩
  · rw [es, e]; congr 1; omega
  · rw [es]; omega
theorem runW_lt {l : List Nat} {m : Mach} (mo : MachOk l.length m) : ∀ (w : List Nat) {s : Nat}, s < m.tab.length → (∀ c ∈ w, c ∈ l) → runW l m s w < m.tab.length
  | [], s, h, _ => h
  | c :: w, s, h, hw => by
    obtain ⟨_, _, _, h2⟩ := step1_ok mo h (hw c List.mem_cons_self)
    exact runW_lt mo w h2 fun d hd => hw d (List.mem_cons_of_mem _ hd)
/-- _law_words(letters, n) -/
def spWords : Sp := fun vs H Q _ => ∃ (l : List Nat) (n : Nat) (G : Hp), vs = [.str (strOf l), .int (n : Nat)] ∧ Ok NoS H G ∧ (wordsUpto l n).length ≤ 1000 ∧ l.length ≤ 6 ∧ n ≤ 100 ∧
  ∀ (H' G' : Hp) (r : V), Fz NoS H G H' G' → Dq G' r (DS ((wordsUpto l n).map strOf)) → Q r H'
/-- _law_run(letters, machine, word) -/
def spRun : Sp := fun vs H Q _ => ∃ (l : List Nat) (v : V) (w : List Nat) (m : Mach), vs = [.str (strOf l), v, .str (strOf w)] ∧ IsLetters l ∧ Dq H v (DM m) ∧ MachOk l.length m ∧ (∀ c ∈ w, c ∈ l) ∧
  Q (.int (runW l m 0 w : Nat)) H
theorem strOf_app (a b : List Nat) : strOf a ++ strOf b = strOf (a ++ b) := by
  apply congrArg Str.mk
  apply Array.toList_inj.mp
  show ((strOf a).cps ++ (strOf b).cps).toList = _
  rw [Array.toList_append, strOf_cps, strOf_cps]
abbrev SV (xs : List (List Nat)) : List V := (xs.map strOf).map V.str
theorem SV_app {a b : List (List Nat)} : SV a ++ SV b = SV (a ++ b) := by unfold SV; rw [List.map_append, List.map_append]
theorem SV_at {xs : List (List Nat)} {i : Nat} {x : V} (h : (SV xs)[i]? = some x) : ∃ w, xs[i]? = some w ∧ x = .str (strOf w) := by
  unfold SV at h
  rw [List.map_map, List.getElem?_map] at h
  cases e : xs[i]? with
  | none => rw [e] at h; cases h
  | some w => rw [e] at h; exact ⟨w, rfl, (Option.some.inj h).symm⟩
theorem SV_len {xs : List (List Nat)} : (SV xs).length = xs.length := by unfold SV; rw [List.length_map, List.length_map]
theorem layer_le {l : List Nat} {j n : Nat} (h : j ≤ n) : (layer l j).length ≤ (wordsUpto l n).length := by
  induction n with
  | zero =>
    have : j = 0 := by omega
    subst this
    exact Nat.le_refl _
  | succ n ih =>
    rw [words_succ, List.length_append]
    by_cases hj : j = n + 1
    · rw [hj]; omega
    · have := ih (by omega); omega
theorem words_le {l : List Nat} {j n : Nat} (h : j ≤ n) : (wordsUpto l j).length ≤ (wordsUpto l n).length := by
  induction n with
  | zero =>
    have : j = 0 := by omega
    subst this
    exact Nat.le_refl _
  | succ n ih =>
    by_cases hj : j = n + 1
    · rw [hj]; omega
    · have := ih (by omega)
      rw [words_succ, List.length_append]; omega
theorem part_le {l : List Nat} {j u : Nat} : (((layer l j).take u).flatMap fun w => l.map fun c => w ++ [c]).length ≤ (layer l (j + 1)).length := by
  rw [flatMap_len (k := l.length) (fun _ _ => List.length_map ..), List.length_take]
  show _ ≤ ((layer l j).flatMap fun w => l.map fun c => w ++ [c]).length
  rw [flatMap_len (k := l.length) (fun _ _ => List.length_map ..)]
  exact Nat.mul_le_mul_right _ (Nat.min_le_right _ _)
theorem flat_take {α β : Type} {f : α → List β} {l : List α} {u : Nat} {x : α} (h : l[u]? = some x) : (l.take (u + 1)).flatMap f = (l.take u).flatMap f ++ f x := by
  rw [List.take_add_one, h, List.flatMap_append]
  show _ ++ List.flatMap f [x] = _
  rw [List.flatMap_cons, List.flatMap_nil, List.append_nil]

/-! ### the mathematics: three ways to count -/
theorem sum_flat {α β : Type} {g : α → List β} {h : β → Int} : ∀ {L : List α}, ((L.flatMap g).map h).sum = (L.map fun w => ((g w).map h).sum).sum
  | [] => rfl
  | w :: L => by rw [List.flatMap_cons, List.map_append, List.sum_append, List.map_cons, List.sum_cons, sum_flat]
theorem sum_congr {α : Type} {f g : α → Int} : ∀ {L : List α}, (∀ x ∈ L, f x = g x) → (L.map f).sum = (L.map g).sum := fun {L} h => by rw [List.map_congr_left h]
theorem sum_zero {α : Type} {f : α → Int} {L : List α} (h : ∀ x ∈ L, f x = 0) : (L.map f).sum = 0 := by
  induction L with
  | nil => rfl
  | cons x r ih => rw [List.map_cons, List.sum_cons, h x List.mem_cons_self, ih fun y hy => h y (List.mem_cons_of_mem _ hy)]; rfl
/-- one step towards ends -/
def Tf (m : Mach) (f : Nat → Int) (s : Nat) : Int := ((m.tab.getD s []).map fun t => f t.toNat).sum
def pw (m : Mach) : Nat → (Nat → Int) → Nat → Int
  | 0, f => f
  | n + 1, f => pw m n (Tf m f)
theorem pw_cnt {m : Mach} : ∀ {n k : Nat}, pw m n (cnt m k) = cnt m (n + k)
  | 0, k => by rw [Nat.zero_add]; rfl
  | n + 1, k => by
    show pw m n (Tf m (cnt m k)) = _
    have : Tf m (cnt m k) = cnt m (k + 1) := by funext s; rw [cnt_succ]; rfl
    rw [this, pw_cnt, show n + (k + 1) = n + 1 + k by omega]
theorem row_signs {l : List Nat} {r : List Int} (nd : l.Nodup) (hl : r.length = l.length) : (l.map fun c => r.getD (l.idxOf c) 0) = r := by
  refine List.ext_getElem? fun i => ?_
  by_cases hi : i < l.length
  · have e : l[i]? = some l[i] := List.getElem?_eq_getElem hi
    have ix : l.idxOf l[i] = i := idx_of e fun k hk z => absurd (nodup_at nd z e) (by omega)
    rw [List.getElem?_map, e, Option.map_some, ix, List.getD_eq_getElem?_getD, List.getElem?_eq_getElem (by omega : i < r.length), Option.getD_some]
  · rw [List.getElem?_eq_none (by rw [List.length_map]; omega), List.getElem?_eq_none (by omega)]
theorem Tf_signs {l : List Nat} {m : Mach} (nd : l.Nodup) (mo : MachOk l.length m) {f : Nat → Int} {s : Nat} (hs : s < m.tab.length) : (l.map fun c => f (step1 l m s c)).sum = Tf m f s := by
  obtain ⟨r, hr, rl, _⟩ := mo.at_row (s := (s : Int)) (by omega) (by omega)
  have hr' : m.tab[s]? = some r := hr
  unfold Tf step1
  simp only [List.getD_eq_getElem?_getD, hr', Option.getD_some]
  have := row_signs nd rl
  simp only [List.getD_eq_getElem?_getD] at this
  conv => rhs; rw [← this]
  rw [List.map_map]
  rfl
theorem layer_sum {l : List Nat} {m : Mach} (nd : l.Nodup) (mo : MachOk l.length m) : ∀ {j : Nat} {f : Nat → Int}, ((layer l j).map fun w => f (runW l m 0 w)).sum = pw m j f 0
  | 0, f => by show f 0 + 0 = f 0; omega
  | j + 1, f => by
    show ((((layer l j).flatMap fun w => l.map fun c => w ++ [c])).map fun w => f (runW l m 0 w)).sum = pw m j (Tf m f) 0
    rw [sum_flat, ← layer_sum nd mo]
    refine sum_congr fun w hw => ?_
    rw [List.map_map]
    have := Tf_signs nd mo (f := f) (s := runW l m 0 w) (runW_lt mo w (by have := mo.pos; omega) (layer_mem hw))
    rw [← this]
    refine sum_congr fun c _ => ?_
    show f (runW l m 0 (w ++ [c])) = _
    rw [runW_snoc]
/-- whether the machine takes the word -/
def takes (l : List Nat) (m : Mach) (w : List Nat) : Bool := m.ends.getD (runW l m 0 w) false
def takenLens (l : List Nat) (m : Mach) (n : Nat) : List Int := ((wordsUpto l n).filter (takes l m)).map fun w => (w.length : Int)
theorem taken_succ {l : List Nat} {m : Mach} {n : Nat} : takenLens l m (n + 1) = takenLens l m n ++ ((layer l (n + 1)).filter (takes l m)).map fun w => (w.length : Int) := by
  unfold takenLens; rw [words_succ, List.filter_append, List.map_append]
theorem filter_len {α : Type} {p : α → Bool} : ∀ {L : List α}, ((L.filter p).length : Int) = (L.map fun w => if p w = true then (1 : Int) else 0).sum
  | [] => rfl
  | w :: L => by
    rw [List.map_cons, List.sum_cons, ← filter_len]
    cases h : p w with
    | true => rw [List.filter_cons_of_pos h, List.length_cons, if_pos rfl]; omega
    | false => rw [List.filter_cons_of_neg (by rw [h]; exact Bool.false_ne_true), if_neg Bool.false_ne_true]; omega
theorem filter_sum {α : Type} {p : α → Bool} {g : α → Int} : ∀ {L : List α}, ((L.filter p).map g).sum = (L.map fun w => g w * if p w = true then (1 : Int) else 0).sum
  | [] => rfl
  | w :: L => by
    rw [List.map_cons, List.sum_cons, ← filter_sum]
    cases h : p w with
    | true => rw [List.filter_cons_of_pos h, List.map_cons, List.sum_cons, if_pos rfl, Int.mul_one]
    | false => rw [List.filter_cons_of_neg (by rw [h]; exact Bool.false_ne_true), if_neg Bool.false_ne_true, Int.mul_zero, Int.zero_add]
theorem layer_taken {l : List Nat} {m : Mach} (nd : l.Nodup) (mo : MachOk l.length m) {j : Nat} : (((layer l j).filter (takes l m)).length : Int) = cnt m j 0 := by
  rw [filter_len]
  have := layer_sum nd mo (j := j) (f := cnt m 0)
  rw [pw_cnt, Nat.add_zero] at this
  rw [← this]
  refine sum_congr fun w _ => ?_
  rw [cnt_zero]
  rfl
theorem lens_layer {l : List Nat} {m : Mach} {j : Nat} {q : Int → Bool} : ((((layer l j).filter (takes l m)).map fun w => (w.length : Int)).filter q).length = if q j = true then ((layer l j).filter (takes l m)).length else 0 := by
  have h : ∀ x ∈ ((layer l j).filter (takes l m)).map fun w => (w.length : Int), x = (j : Int) := fun x hx => by
    obtain ⟨w, hw, rfl⟩ := List.mem_map.mp hx
    rw [layer_len (List.mem_filter.mp hw).1]
  generalize hL : ((layer l j).filter (takes l m)).map (fun w => (w.length : Int)) = L at h
  have hl : ((layer l j).filter (takes l m)).length = L.length := by rw [← hL, List.length_map]
  rw [hl]
  by_cases c : q j = true
  · rw [if_pos c, List.filter_eq_self.mpr fun x hx => by rw [h x hx]; exact c]
  · rw [if_neg c, List.filter_eq_nil_iff.mpr fun x hx => by rw [h x hx]; exact c]; rfl
theorem num_eq {l : List Nat} {m : Mach} (nd : l.Nodup) (mo : MachOk l.length m) {j : Nat} : ∀ {n : Nat}, (((takenLens l m n).filter fun x => decide (x = (j : Int))).length : Int) = if j ≤ n then cnt m j 0 else 0
  | 0 => by
    have h := lens_layer (l := l) (m := m) (j := 0) (q := fun x => decide (x = (j : Int)))
    have e : takenLens l m 0 = ((layer l 0).filter (takes l m)).map fun w => (w.length : Int) := by
      unfold takenLens
      rw [show wordsUpto l 0 = layer l 0 from by unfold wordsUpto; rfl]
    rw [e, h]
    by_cases c : j = 0
    · subst c
      rw [if_pos (by decide), if_pos (Nat.le_refl 0)]
      exact layer_taken nd mo
    · rw [if_neg (by simpa using fun z => c (by omega)), if_neg (by omega)]; rfl
  | n + 1 => by
    rw [taken_succ, List.filter_append, List.length_append, lens_layer]
    have ih := num_eq nd mo (j := j) (n := n)
    have lt := layer_taken nd mo (j := n + 1)
    by_cases c : j = n + 1
    · subst c
      rw [if_neg (by omega)] at ih
      rw [if_pos (decide_eq_true rfl), if_pos (Nat.le_refl _)]
      omega
    · rw [if_neg (show ¬ decide (((n + 1 : Nat) : Int) = (j : Int)) = true by simpa using fun z => c (by omega))]
      by_cases c2 : j ≤ n
      · rw [if_pos c2] at ih; rw [if_pos (by omega)]; omega
      · rw [if_neg c2] at ih; rw [if_neg (by omega)]; omega
theorem upto_succ {m : Mach} {n : Nat} : uptoOf m (n + 1) = uptoOf m n + cnt m (n + 1) 0 := by
  unfold uptoOf
  rw [List.range_succ (n := n + 1), List.map_append, List.sum_append]
  show _ + (cnt m (n + 1) 0 + 0) = _
  omega
theorem num_le {l : List Nat} {m : Mach} (nd : l.Nodup) (mo : MachOk l.length m) {j : Nat} : ∀ {n : Nat}, (((takenLens l m n).filter fun x => decide (x ≤ (j : Int))).length : Int) = uptoOf m (min j n)
  | 0 => by
    have h := lens_layer (l := l) (m := m) (j := 0) (q := fun x => decide (x ≤ (j : Int)))
    have e : takenLens l m 0 = ((layer l 0).filter (takes l m)).map fun w => (w.length : Int) := by
      unfold takenLens
      rw [show wordsUpto l 0 = layer l 0 from by unfold wordsUpto; rfl]
    rw [e, h, if_pos (by simp), Nat.min_zero, layer_taken nd mo]
    show _ = cnt m 0 0 + 0
    omega
  | n + 1 => by
    rw [taken_succ, List.filter_append, List.length_append, lens_layer]
    have ih := num_le nd mo (j := j) (n := n)
    have lt := layer_taken nd mo (j := n + 1)
    by_cases c : n + 1 ≤ j
    · rw [if_pos (decide_eq_true (by omega))]
      rw [show min j n = n by omega] at ih
      rw [show min j (n + 1) = n + 1 by omega, upto_succ]
      omega
    · rw [if_neg (show ¬ decide (((n + 1 : Nat) : Int) ≤ (j : Int)) = true by simpa using by omega)]
      rw [show min j (n + 1) = min j n by omega]
      omega
/-! forwards -/
def dot (n : Nat) (row : List Int) (f : Nat → Int) : Int := ((List.range n).map fun s => row.getD s 0 * f s).sum
theorem sum_range_one {g h : Nat → Int} {t : Nat} : ∀ {n : Nat}, t < n → (∀ s, s ≠ t → h s = g s) → ((List.range n).map h).sum = ((List.range n).map g).sum + (h t - g t)
  | 0, ht, _ => by omega
  | n + 1, ht, hh => by
    rw [List.range_succ, List.map_append, List.map_append, List.sum_append, List.sum_append]
    show _ + (h n + 0) = _ + (g n + 0) + _
    by_cases c : t = n
    · subst c
      have : ((List.range t).map h).sum = ((List.range t).map g).sum := sum_congr fun s hs => hh s (by have := List.mem_range.mp hs; omega)
      omega
    · have := sum_range_one (n := n) (by omega) hh
      rw [hh n (Ne.symm c)]
      omega
theorem getD_set {row : List Int} {t s : Nat} {v : Int} (ht : t < row.length) : (row.set t v).getD s 0 = if s = t then v else row.getD s 0 := by
  rw [List.getD_eq_getElem?_getD, List.getD_eq_getElem?_getD]
  by_cases c : s = t
  · subst c
    rw [List.getElem?_set_self ht, if_pos rfl]; rfl
  · rw [List.getElem?_set_ne (Ne.symm c), if_neg c]
theorem dot_set {n : Nat} {row : List Int} {t : Nat} {v : Int} {f : Nat → Int} (hl : row.length = n) (ht : t < n) : dot n (row.set t (row.getD t 0 + v)) f = dot n row f + v * f t := by
  unfold dot
  rw [sum_range_one (t := t) ht (g := fun s => row.getD s 0 * f s) fun s hs => by
    show (row.set t _).getD s 0 * f s = row.getD s 0 * f s
    rw [getD_set (by omega), if_neg hs]]
  show _ + ((row.set t _).getD t 0 * f t - row.getD t 0 * f t) = _
  rw [getD_set (by omega), if_pos rfl, Int.add_mul]
  omega
theorem dot_zero {n : Nat} {f : Nat → Int} {row : List Int} (h : ∀ x ∈ row, x = 0) : dot n row f = 0 := by
  refine sum_zero fun s _ => ?_
  rw [List.getD_eq_getElem?_getD]
  cases e : row[s]? with
  | none => exact Int.zero_mul _
  | some x => rw [h x (List.mem_of_getElem? e)]; exact Int.zero_mul _
/-- the row of the law: how many words lead to each state -/
structure FwdOk (m : Mach) (n : Nat) (row : List Int) : Prop where
  len : row.length = m.tab.length
  nn : ∀ x ∈ row, 0 ≤ x
  is : ∀ f, dot m.tab.length row f = pw m n f 0
/-- _law_counts(machine, n) -/
def countsOf (m : Mach) (n : Nat) : List Int := (List.range (n + 1)).map fun i => cnt m i 0
def spCounts : Sp := fun vs H Q _ => ∃ (v : V) (n : Nat) (m : Mach) (k : Nat) (G : Hp), vs = [v, .int (n : Nat)] ∧ Ok NoS H G ∧ Dq G v (DM m) ∧ MachOk k m ∧ k ≤ 6 ∧ n ≤ 300 ∧
  ∀ (H' G' : Hp) (r : V), Fz NoS H G H' G' → Dq G' r (DI (countsOf m n)) → Q r H'
end Hw

/-! the greatest places of a text -/
namespace Hw
open PySem PySem.Spec PyProof.Rows L2
/-! ### tuples, >= -/
def rGeT (K : PySem.W.Frag) : R2 := fun x y H Q => ∃ (a b : Addr) (ns ms : List Int), x = .ref a ∧ y = .ref b ∧ SqT K H a (ns.map V.int) ∧ SqT K H b (ms.map V.int) ∧
  Q (.bl (Ob.lexAt (fun j => decide (ns.getD j 0 = ms.getD j 0)) (fun j => decide (ms.getD j 0 ≤ ns.getD j 0)) (decide (ms.length ≤ ns.length)) 0 (min ns.length ms.length))) H
theorem op_geT {X : Cx} (hu : X.A.units < cLine) : OpR X (compareOp .GtE) (rGeT X.K) := by
  intro pins s σ H x y v u Q I rx ry h
  obtain ⟨a, b, ns, ms, rfl, rfl, ha, hb, q⟩ := h
  cases rx
  cases ry
  obtain ⟨its, r1, p1, _⟩ := I.tuple ha
  obtain ⟨its2, r2, p2, _⟩ := I.tuple hb
  have i1 : IntsAre its ns := Vals.ints r1
  have i2 : IntsAre its2 ms := Vals.ints r2
  have e1 : its.toArray.size = ns.length := by rw [List.size_toArray]; exact i1.length
  have e2 : its2.toArray.size = ms.length := by rw [List.size_toArray]; exact i2.length
  have at1 : ∀ j (h1 : j < its.toArray.size), ∃ t, its.toArray[j] = .int (ns.getD j 0) t := fun j h1 => PyProof.Rows.IntsAre.int_at i1 _ _ (by simp at h1; simp [h1])
  have at2 : ∀ j (h1 : j < its2.toArray.size), ∃ t, its2.toArray[j] = .int (ms.getD j 0) t := fun j h1 => PyProof.Rows.IntsAre.int_at i2 _ _ (by simp at h1; simp [h1])
  have R := Ob.RcOp.tuples_ge (A := X.A) (s := s) (e := fun j => decide (ns.getD j 0 = ms.getD j 0)) (r := fun j => decide (ms.getD j 0 ≤ ns.getD j 0)) p1 p2 hu (fun j h1 h2 => by
    obtain ⟨t, et⟩ := at1 j h1
    obtain ⟨t', et'⟩ := at2 j h2
    rw [et, et']
    have z : (ns.getD j 0 == ms.getD j 0) = decide (ns.getD j 0 = ms.getD j 0) := by
      by_cases q : ns.getD j 0 = ms.getD j 0
      · rw [decide_eq_true q]; exact beq_iff_eq.mpr q
      · rw [decide_eq_false q]; exact beq_eq_false_iff_ne.mpr q
    rw [← z]
    exact SeqAt.EqAt.int_int _ _ _ _) (fun j h1 h2 _ => by
    obtain ⟨t, et⟩ := at1 j h1
    obtain ⟨t', et'⟩ := at2 j h2
    rw [et, et']
    exact Ob.RcOp.ge_int _ _ _ _)
  rw [e1, e2] at R
  have z : wpAny (model X.prog X.w) X.A (compareOp .GtE (.ref a) (.ref b)) (EP X pins σ Q) X.xe s := R X.prog X.w X.xe (EP X pins σ Q) ⟨.bl _, H, I, rfl, q⟩
  exact z
theorem geT {X : Cx} (K : PySem.W.Frag) (hu : X.A.units + 64 < cLine) (h : X.K = K := by rfl) : OpR X (compareOp .GtE) (rGeT K) := by subst h; exact op_geT (by omega)

/-! ### the farthest end -/
abbrev Pl := List (Nat × Nat)
abbrev DPl (ps : Pl) : PyData := .list (ps.map fun p => .tuple [.int (p.1 : Nat), .int (p.2 : Nat)])
/-- the state behind k signs from b on -/
def stA (l : List Nat) (m : Mach) (t : List Nat) (b k : Nat) : Nat := runW l m 0 ((t.drop b).take k)
def isEnd (m : Mach) (s : Nat) : Bool := m.ends.getD s false
def farK (l : List Nat) (m : Mach) (t : List Nat) (b : Nat) : Nat → Option Nat
  | 0 => if isEnd m 0 = true then some b else none
  | k + 1 => if isEnd m (stA l m t b (k + 1)) = true then some (b + k + 1) else farK l m t b k
def farO (l : List Nat) (m : Mach) (t : List Nat) (b : Nat) : Option Nat := farK l m t b (t.length - b)
def vO : Option Nat → V
  | none => .non
  | some e => .int (e : Nat)
def iO : Option Nat → Int
  | none => -1
  | some e => (e : Nat)
theorem farK_bound {l : List Nat} {m : Mach} {t : List Nat} {b : Nat} : ∀ {k e : Nat}, farK l m t b k = some e → b ≤ e ∧ e ≤ b + k
  | 0, e, h => by
    unfold farK at h
    split at h
    · cases h; omega
    · cases h
  | k + 1, e, h => by
    unfold farK at h
    split at h
    · cases h; omega
    · have := farK_bound h; omega
theorem farO_bound {l : List Nat} {m : Mach} {t : List Nat} {b e : Nat} (hb : b ≤ t.length) (h : farO l m t b = some e) : b ≤ e ∧ e ≤ t.length := by
  have := farK_bound h
  omega
theorem stA_zero {l : List Nat} {m : Mach} {t : List Nat} {b : Nat} : stA l m t b 0 = 0 := by unfold stA; rw [List.take_zero]; rfl
theorem stA_succ {l : List Nat} {m : Mach} {t : List Nat} {b k c : Nat} (h : t[b + k]? = some c) : stA l m t b (k + 1) = step1 l m (stA l m t b k) c := by
  unfold stA
  rw [List.take_add_one, List.getElem?_drop, h]
  exact runW_snoc
theorem stA_lt {l : List Nat} {m : Mach} (mo : MachOk l.length m) {t : List Nat} (ht : ∀ c ∈ t, c ∈ l) {b k : Nat} : stA l m t b k < m.tab.length :=
  runW_lt mo _ (by have := mo.pos; omega) fun c hc => ht c (List.mem_of_mem_drop (List.mem_of_mem_take hc))
theorem isEnd_at {m : Mach} {s : Nat} {e : Bool} (h : m.ends[s]? = some e) : isEnd m s = e := by
  unfold isEnd; rw [List.getD_eq_getElem?_getD, h]; rfl

/-! ### the places -/
def free1 (ps : Pl) (b : Nat) : Bool := match ps.getLast? with
  | none => true
  | some p => decide (p.2 < b)
def gstep (f : Option Nat) (b : Nat) (s : Pl × Nat) : Pl × Nat :=
  if b < s.2 then s else match f with
  | none => s
  | some e => if b < e then (s.1 ++ [(b, e)], e) else if free1 s.1 b = true then (s.1 ++ [(b, b)], s.2) else s
def gr (fr : Nat → Option Nat) : Nat → Pl × Nat
  | 0 => ([], 0)
  | b + 1 => gstep (fr b) b (gr fr b)
theorem gstep_held {f : Option Nat} {b : Nat} {s : Pl × Nat} (h : b < s.2) : gstep f b s = s := by unfold gstep; rw [if_pos h]
theorem gstep_none {b : Nat} {s : Pl × Nat} (h : ¬ b < s.2) : gstep none b s = s := by unfold gstep; rw [if_neg h]
theorem gstep_go {b e : Nat} {s : Pl × Nat} (h : ¬ b < s.2) (h2 : b < e) : gstep (some e) b s = (s.1 ++ [(b, e)], e) := by
  unfold gstep; rw [if_neg h]; exact if_pos h2
theorem gstep_free {b : Nat} {s : Pl × Nat} (h : ¬ b < s.2) (h2 : free1 s.1 b = true) : gstep (some b) b s = (s.1 ++ [(b, b)], s.2) := by
  unfold gstep; rw [if_neg h]
  show (if b < b then _ else _) = _
  rw [if_neg (Nat.lt_irrefl b), if_pos h2]
theorem gstep_full {b : Nat} {s : Pl × Nat} (h : ¬ b < s.2) (h2 : ¬ free1 s.1 b = true) : gstep (some b) b s = s := by
  unfold gstep; rw [if_neg h]
  show (if b < b then _ else _) = _
  rw [if_neg (Nat.lt_irrefl b), if_neg h2]
structure GI (fr : Nat → Option Nat) (n b : Nat) (s : Pl × Nat) : Prop where
  pw : s.1.Pairwise fun p q => p.2 ≤ q.1 ∧ p.1 < q.1
  each : ∀ p ∈ s.1, p.1 < b ∧ p.1 ≤ p.2 ∧ p.2 ≤ n ∧ (p.2 ≤ s.2 ∨ p.2 < b)
  cov : ∀ x < b, ∀ e, fr x = some e → x < e → ∃ p ∈ s.1, p.1 ≤ x ∧ x < p.2
  hld : b < s.2 → ∃ p ∈ s.1, p.2 = s.2
  size : s.1.length ≤ b
  most : s.2 ≤ n
theorem GI.snoc {fr : Nat → Option Nat} {n b e : Nat} {s : Pl × Nat} (g : GI fr n b s) (h : ¬ b < s.2) (he : b ≤ e) (hn : e ≤ n) (hcov : ∀ e', fr b = some e' → b < e' → b < e) (h2 : Nat) (hh : e ≤ h2 ∨ e < b + 1) (h3 : s.2 ≤ h2) (h4 : b + 1 < h2 → e = h2) (h5 : h2 ≤ n) : GI fr n (b + 1) (s.1 ++ [(b, e)], h2) where
  pw := by
    refine List.pairwise_append.mpr ⟨g.pw, List.pairwise_singleton _ _, fun p hp q hq => ?_⟩
    rw [List.mem_singleton.mp hq]
    obtain ⟨a1, a2, a3, a4⟩ := g.each p hp
    show p.2 ≤ b ∧ p.1 < b
    omega
  each := fun p hp => by
    rcases List.mem_append.mp hp with hp | hp
    · obtain ⟨a1, a2, a3, a4⟩ := g.each p hp
      show p.1 < b + 1 ∧ p.1 ≤ p.2 ∧ p.2 ≤ n ∧ (p.2 ≤ h2 ∨ p.2 < b + 1)
      omega
    · rw [List.mem_singleton.mp hp]
      show b < b + 1 ∧ b ≤ e ∧ e ≤ n ∧ (e ≤ h2 ∨ e < b + 1)
      omega
  cov := fun x hx e' he' hl => by
    by_cases hxb : x = b
    · subst hxb
      exact ⟨(x, e), List.mem_append_right _ List.mem_cons_self, Nat.le_refl _, hcov e' he' hl⟩
    · obtain ⟨p, hp, h⟩ := g.cov x (by omega) e' he' hl
      exact ⟨p, List.mem_append_left _ hp, h⟩
  hld := fun hb => ⟨(b, e), List.mem_append_right _ List.mem_cons_self, h4 hb⟩
  size := by
    rw [List.length_append]
    have := g.size
    show s.1.length + 1 ≤ b + 1
    omega
  most := h5
theorem GI.same {fr : Nat → Option Nat} {n b : Nat} {s : Pl × Nat} (g : GI fr n b s) (hcov : ∀ e', fr b = some e' → b < e' → ∃ p ∈ s.1, p.1 ≤ b ∧ b < p.2) : GI fr n (b + 1) s where
  pw := g.pw
  each := fun p hp => by
    obtain ⟨a1, a2, a3, a4⟩ := g.each p hp
    omega
  cov := fun x hx e' he' hl => by
    by_cases hxb : x = b
    · subst hxb; exact hcov e' he' hl
    · exact g.cov x (by omega) e' he' hl
  hld := fun hb => g.hld (by omega)
  size := by have := g.size; omega
  most := g.most
theorem gr_ok {fr : Nat → Option Nat} {n : Nat} (hf : ∀ b ≤ n, ∀ e, fr b = some e → b ≤ e ∧ e ≤ n) : ∀ b ≤ n + 1, GI fr n b (gr fr b)
  | 0, _ => ⟨.nil, fun _ h => (nomatch h), fun _ h => (by omega), fun h => absurd h (Nat.lt_irrefl 0), Nat.le_refl 0, Nat.zero_le n⟩
  | b + 1, hb => by
    have g := gr_ok hf b (by omega)
    show GI fr n (b + 1) (gstep (fr b) b (gr fr b))
    unfold gstep
    by_cases h : b < (gr fr b).2
    · rw [if_pos h]
      refine g.same fun e' _ _ => ?_
      obtain ⟨p, hp, e⟩ := g.hld h
      have := g.each p hp
      exact ⟨p, hp, by omega, by omega⟩
    rw [if_neg h]
    cases hfb : fr b with
    | none => exact g.same fun e' he' => by rw [hfb] at he'; cases he'
    | some e =>
      have := hf b (by omega) e hfb
      have hm := g.most
      show GI fr n (b + 1) (if b < e then _ else _)
      by_cases h2 : b < e
      · rw [if_pos h2]
        exact g.snoc h (by omega) (by omega) (fun _ _ _ => h2) e (.inl (Nat.le_refl _)) (by omega) (fun _ => rfl) (by omega)
      rw [if_neg h2]
      have hc : ∀ e', fr b = some e' → b < e' → False := fun e' he' hl => by rw [hfb] at he'; cases he'; omega
      by_cases h3 : free1 (gr fr b).1 b = true
      · rw [if_pos h3]
        exact g.snoc h (Nat.le_refl b) (by omega) (fun e' a1 a2 => (hc e' a1 a2).elim) _ (.inr (Nat.lt_succ_self b)) (Nat.le_refl _) (fun z => by omega) hm
      · rw [if_neg h3]
        exact g.same fun e' a1 a2 => (hc e' a1 a2).elim
/-- behind a place the signs that are held are passed -/
theorem gr_skip {fr : Nat → Option Nat} {a : Nat} : ∀ (k : Nat), a + k ≤ (gr fr a).2 → gr fr (a + k) = gr fr a
  | 0, _ => rfl
  | k + 1, h => by
    have ih := gr_skip (fr := fr) (a := a) k (by omega)
    show gstep (fr (a + k)) (a + k) (gr fr (a + k)) = _
    rw [ih]
    unfold gstep
    rw [if_pos (by omega)]
/-- the program's turns -/
structure GP (fr : Nat → Option Nat) (n at_ : Nat) (last : Option Nat) (ps : Pl) : Prop where
  is : (gr fr at_).1 = ps
  held : (gr fr at_).2 ≤ at_
  most : at_ ≤ n + 1
  old : ∀ x, last = some x → x ≤ at_
  here : last = some at_ ↔ ∃ p, ps.getLast? = some p ∧ p.2 = at_
theorem GP.zero {fr : Nat → Option Nat} {n : Nat} : GP fr n 0 none [] := ⟨rfl, Nat.le_refl _, by omega, fun _ h => (nomatch h), ⟨fun h => (nomatch h), fun ⟨_, h, _⟩ => (nomatch h)⟩⟩
theorem GP.go {fr : Nat → Option Nat} {n a e : Nat} {last : Option Nat} {ps : Pl} (hf : ∀ b ≤ n, ∀ e, fr b = some e → b ≤ e ∧ e ≤ n) (g : GP fr n a last ps) (ha : a ≤ n) (h : fr a = some e) (hl : a < e) : GP fr n e (some e) (ps ++ [(a, e)]) := by
  have he := (hf a ha e h).2
  have s1 : gr fr (a + 1) = (ps ++ [(a, e)], e) := by
    show gstep (fr a) a (gr fr a) = _
    unfold gstep
    have := g.held
    rw [if_neg (by omega), h]
    show (if a < e then _ else _) = _
    rw [if_pos hl, g.is]
  have s2 : gr fr e = (ps ++ [(a, e)], e) := by
    have := gr_skip (fr := fr) (a := a + 1) (e - (a + 1)) (by rw [s1]; show a + 1 + (e - (a + 1)) ≤ e; omega)
    rw [show a + 1 + (e - (a + 1)) = e by omega] at this
    rw [this, s1]
  exact ⟨by rw [s2], by rw [s2]; exact Nat.le_refl _, by omega, fun x hx => by cases hx; exact Nat.le_refl _, fun _ => ⟨(a, e), by rw [List.getLast?_append]; rfl, rfl⟩, fun _ => rfl⟩
theorem GP.stay {fr : Nat → Option Nat} {n a : Nat} {last : Option Nat} {ps ps' : Pl} (hf : ∀ b ≤ n, ∀ e, fr b = some e → b ≤ e ∧ e ≤ n) (g : GP fr n a last ps) (ha : a ≤ n)
    (h : gr fr (a + 1) = (ps', (gr fr a).2)) : GP fr n (a + 1) last ps' := by
  have G := gr_ok hf (a + 1) (by omega)
  have hh := g.held
  rw [h] at G
  refine ⟨by rw [h], by rw [h]; show (gr fr a).2 ≤ a + 1; omega, by omega, fun x hx => by have := g.old x hx; omega, fun hx => ?_, fun ⟨p, hp, e⟩ => ?_⟩
  · have := g.old _ hx; omega
  · have := G.each p (List.mem_of_getLast? hp)
    have h2 : p.2 ≤ (gr fr a).2 ∨ p.2 < a + 1 := this.2.2.2
    omega
theorem GP.free {fr : Nat → Option Nat} {n a : Nat} {last : Option Nat} {ps : Pl} (hf : ∀ b ≤ n, ∀ e, fr b = some e → b ≤ e ∧ e ≤ n) (g : GP fr n a last ps) (ha : a ≤ n) : free1 ps a = true ↔ last ≠ some a := by
  have G := gr_ok hf a (by omega)
  have hh := g.held
  rw [Ne, g.here]
  unfold free1
  cases e : ps.getLast? with
  | none => exact ⟨fun _ ⟨_, h, _⟩ => (nomatch h), fun _ => rfl⟩
  | some p =>
    have hp := List.mem_of_getLast? e
    rw [← g.is] at hp
    have := G.each p hp
    show decide (p.2 < a) = true ↔ _
    rw [decide_eq_true_iff]
    constructor
    · rintro h ⟨q, hq, e2⟩
      cases hq; omega
    · intro h
      have : p.2 ≠ a := fun e2 => h ⟨p, rfl, e2⟩
      omega
theorem GP.push {fr : Nat → Option Nat} {n a : Nat} {last : Option Nat} {ps : Pl} (hf : ∀ b ≤ n, ∀ e, fr b = some e → b ≤ e ∧ e ≤ n) (g : GP fr n a last ps) (ha : a ≤ n) (h : fr a = some a) (hl : last ≠ some a) : GP fr n (a + 1) last (ps ++ [(a, a)]) := by
  refine g.stay hf ha ?_
  show gstep (fr a) a (gr fr a) = _
  unfold gstep
  have := g.held
  rw [if_neg (by omega), h]
  show (if a < a then _ else _) = _
  rw [if_neg (Nat.lt_irrefl a), g.is, if_pos ((g.free hf ha).mpr hl)]
theorem GP.pass {fr : Nat → Option Nat} {n a : Nat} {last : Option Nat} {ps : Pl} (hf : ∀ b ≤ n, ∀ e, fr b = some e → b ≤ e ∧ e ≤ n) (g : GP fr n a last ps) (ha : a ≤ n) (h : fr a = none ∨ (fr a = some a ∧ last = some a)) : GP fr n (a + 1) last ps := by
  refine g.stay hf ha ?_
  show gstep (fr a) a (gr fr a) = _
  unfold gstep
  have := g.held
  rw [if_neg (by omega)]
  rcases h with h | ⟨h, h2⟩
  · rw [h]
    show gr fr a = _
    rw [← g.is]
  · rw [h]
    show (if a < a then _ else _) = _
    have : ¬ free1 ps a = true := fun z => (g.free hf ha).mp z h2
    rw [if_neg (Nat.lt_irrefl a), g.is, if_neg this, ← g.is]
def grAll (l : List Nat) (m : Mach) (t : List Nat) : Pl := (gr (farO l m t) (t.length + 1)).1
theorem gr_all {l : List Nat} {m : Mach} {t : List Nat} : GI (farO l m t) t.length (t.length + 1) (gr (farO l m t) (t.length + 1)) := gr_ok (fun _ hb _ h => farO_bound hb h) _ (Nat.le_refl _)
theorem GP.fin {l : List Nat} {m : Mach} {t : List Nat} {a : Nat} {last : Option Nat} {ps : Pl} (g : GP (farO l m t) t.length a last ps) (h : ¬ a ≤ t.length) : ps = grAll l m t := by
  have := g.most
  have e : a = t.length + 1 := by omega
  subst e
  exact g.is.symm

/-! ### put in -/
def subst1 (t by_ : List Nat) : Nat → Pl → List Nat
  | a, [] => t.drop a
  | a, p :: r => (t.drop a).take (p.1 - a) ++ by_ ++ subst1 t by_ p.2 r
theorem subst1_len {t by_ : List Nat} : ∀ {ps : Pl} {a : Nat}, (subst1 t by_ a ps).length ≤ (t.length + by_.length) * ps.length + t.length
  | [], a => by unfold subst1; rw [List.length_drop]; simp
  | p :: r, a => by
    have := subst1_len (t := t) (by_ := by_) (ps := r) (a := p.2)
    unfold subst1
    rw [List.length_append, List.length_append, List.length_take, List.length_drop, List.length_cons, Nat.mul_add, Nat.mul_one]
    omega
/-- from the back -/
structure PI2 (t by_ : List Nat) (ps : Pl) (i : Nat) (found : List Nat) : Prop where
  is : ∀ a, (∀ p, ps[i]? = some p → a ≤ p.1) → found = t.take a ++ subst1 t by_ a (ps.drop i)
theorem PI2.fin {t by_ : List Nat} {ps : Pl} {found : List Nat} (h : PI2 t by_ ps 0 found) : found = subst1 t by_ 0 ps := by
  have := h.is 0 fun _ _ => Nat.zero_le _
  rw [List.take_zero, List.drop_zero, List.nil_append] at this
  exact this
theorem PI2.start {t by_ : List Nat} {ps : Pl} : PI2 t by_ ps ps.length t := ⟨fun a _ => by
  rw [List.drop_length]
  show t = t.take a ++ t.drop a
  rw [List.take_append_drop]⟩
theorem PI2.step {t by_ : List Nat} {ps : Pl} {i : Nat} {found : List Nat} {p : Nat × Nat} (hp : ps[i]? = some p) (pw : ps.Pairwise fun p q => p.2 ≤ q.1 ∧ p.1 < q.1) (h1 : p.1 ≤ p.2) (h2 : p.2 ≤ t.length) (h : PI2 t by_ ps (i + 1) found) :
    PI2 t by_ ps i (found.take p.1 ++ by_ ++ found.drop p.2) := by
  have hi := (List.getElem?_eq_some_iff.mp hp)
  obtain ⟨hi, ei⟩ := hi
  have hf := h.is p.2 fun q hq => by
    obtain ⟨hj, ej⟩ := List.getElem?_eq_some_iff.mp hq
    have := List.pairwise_iff_getElem.mp pw i (i + 1) hi hj (Nat.lt_succ_self i)
    rw [ei, ej] at this
    exact this.1
  have l2 : (t.take p.2).length = p.2 := by rw [List.length_take]; omega
  refine ⟨fun a ha => ?_⟩
  have hap := ha p hp
  have e1 : found.take p.1 = t.take p.1 := by
    rw [hf, List.take_append_of_le_length (by omega), List.take_take, Nat.min_eq_left h1]
  have e2 : found.drop p.2 = subst1 t by_ p.2 (ps.drop (i + 1)) := by
    rw [hf, List.drop_append_of_le_length (by omega), List.drop_of_length_le (by omega), List.nil_append]
  rw [e1, e2, List.drop_eq_getElem_cons hi, ei]
  show _ = t.take a ++ ((t.drop a).take (p.1 - a) ++ by_ ++ subst1 t by_ p.2 (ps.drop (i + 1)))
  rw [← List.append_assoc, ← List.append_assoc]
  congr 2
  have := List.take_append_drop a (t.take p.1)
  rw [← this, List.take_take, Nat.min_eq_left hap, List.drop_take]
theorem cutAB {t : List Nat} {a b : Nat} (h : a ≤ t.length) : cutS (strOf t) (some (a : Int)) (some (b : Int)) = strOf ((t.drop a).take (b - a)) := by
  unfold cutS
  rw [strOf_cps, strOf_len, show HT.sIx t.length 0 (some (a : Int)) = min a t.length from HT.sIx_nat t.length 0 a, show HT.sIx t.length t.length (some (b : Int)) = min b t.length from HT.sIx_nat t.length t.length b, Nat.min_eq_left h]
  show strOf _ = strOf _
  congr 1
  by_cases hb : b ≤ t.length
  · rw [Nat.min_eq_left hb]
  · rw [Nat.min_eq_right (by omega), List.take_of_length_le (by rw [List.length_drop]; omega), List.take_of_length_le (by rw [List.length_drop]; omega)]
theorem cutA {t : List Nat} {a : Nat} (h : a ≤ t.length) : cutS (strOf t) (some (a : Int)) none = strOf (t.drop a) := by
  unfold cutS
  rw [strOf_cps, strOf_len, show HT.sIx t.length 0 (some (a : Int)) = min a t.length from HT.sIx_nat t.length 0 a, HT.sIx_none, Nat.min_eq_left h]
  show strOf _ = strOf _
  rw [List.take_of_length_le (by rw [List.length_drop]; omega)]
theorem cutB {t : List Nat} {b : Nat} : cutS (strOf t) none (some (b : Int)) = strOf (t.take b) := by
  unfold cutS
  rw [strOf_cps, strOf_len, show HT.sIx t.length t.length (some (b : Int)) = min b t.length from HT.sIx_nat t.length t.length b, HT.sIx_none, List.drop_zero, Nat.sub_zero]
  show strOf _ = strOf _
  by_cases hb : b ≤ t.length
  · rw [Nat.min_eq_left hb]
  · rw [Nat.min_eq_right (by omega), List.take_of_length_le (by omega), List.take_of_length_le (by omega)]

theorem sign_in {l : List Nat} {k : Int} (h0 : 0 ≤ k) (h : k < l.length) : ∃ c, c ∈ l ∧ atI (strOf l).cps.toList k = some c := by
  obtain ⟨c, hc⟩ := exists_at (xs := l) h0 h
  exact ⟨c, List.mem_of_getElem? hc, by rw [strOf_cps]; exact atI_of h0 hc⟩

/-! ### comparing lists of places -/
theorem lay_pl : ∀ ps : Pl, PyData.canLayAll0 (ps.map fun p => .tuple [.int (p.1 : Nat), .int (p.2 : Nat)]) = true ∧ PyData.depthAll (ps.map fun p => .tuple [.int (p.1 : Nat), .int (p.2 : Nat)]) ≤ 1
  | [] => ⟨by rw [List.map_nil, PyData.canLayAll0], by rw [List.map_nil, PyData.depthAll]; omega⟩
  | p :: ps => by
    obtain ⟨h1, h2⟩ := lay_pl ps
    rw [List.map_cons]
    refine ⟨?_, ?_⟩
    · rw [PyData.canLayAll0, h1]; simp [PyData.canLay0, PyData.canLayAll0]
    · rw [PyData.depthAll]
      refine Nat.max_le.mpr ⟨?_, h2⟩
      simp [PyData.depth, PyData.depthAll]
theorem shaped_pl (ps : Pl) : SeqAt.shaped (DPl ps) = true := by
  obtain ⟨h1, h2⟩ := lay_pl ps
  unfold SeqAt.shaped
  rw [Bool.and_eq_true_iff]
  refine ⟨by rw [PyData.canLay0]; exact h1, decide_eq_true ?_⟩
  rw [PyData.depth]; omega
theorem eqv_pl_nil : ∀ ps : Pl, PyData.eqv (DPl ps) (.list []) = ps.isEmpty
  | [] => by simp [PyData.eqv, PyData.eqvAll]
  | p :: ps => by simp [PyData.eqv, PyData.eqvAll]
theorem eqv_pl (ps : Pl) : PyData.eqv (DPl ps) (DPl ps) = true := by
  refine SeqAt.eqv_refl _ ?_
  rw [PyData.canLay0]; exact (lay_pl ps).1

/-! ### what the defs promise -/
/-- text: letters alone -/
def IsText (l t : List Nat) : Prop := t.length ≤ 200 ∧ ∀ c ∈ t, c ∈ l
def spLongest : Sp := fun vs H Q _ => ∃ (l t : List Nat) (v : V) (m : Mach) (b : Nat), vs = [.str (strOf l), v, .str (strOf t), .int (b : Nat)] ∧ IsLetters l ∧ Dq H v (DM m) ∧ MachOk l.length m ∧ IsText l t ∧ b ≤ t.length ∧
  Q (vO (farO l m t b)) H
/-- pairs at p, the list new and one's own -/
def Own (Q : VK) (H G : Hp) (ps : Pl) : Prop := ∀ (H' G' : Hp) (p : Addr) (xs : List V), Fz NoS H G H' G' → H p = none → G' p = none → H' p = some (.lst xs) → DqAll G' xs (ps.map fun p => .tuple [.int (p.1 : Nat), .int (p.2 : Nat)]) → Q (.ref p) H'
def spGreatest : Sp := fun vs H Q _ => ∃ (l t : List Nat) (v : V) (m : Mach) (G : Hp), vs = [.str (strOf l), v, .str (strOf t)] ∧ IsLetters l ∧ Ok NoS H G ∧ Dq G v (DM m) ∧ MachOk l.length m ∧ IsText l t ∧
  Own Q H G (grAll l m t)
def spReplaced : Sp := fun vs H Q _ => ∃ (l t b : List Nat) (v : V) (m : Mach) (G : Hp), vs = [.str (strOf l), v, .str (strOf t), .str (strOf b)] ∧ IsLetters l ∧ Ok NoS H G ∧ Dq G v (DM m) ∧ MachOk l.length m ∧ IsText l t ∧ b.length ≤ 200 ∧
  ∀ H', Step NoS H H' → Q (.str (strOf (subst1 t b 0 (grAll l m t)))) H'
def spRow : Sp := fun vs H Q _ => ∃ (pa : Addr) (n k : Nat), vs = [.ref pa, .int (n : Nat), .int (k : Nat)] ∧ PoolOk H pa ∧ n ≤ 5000 ∧ 1 ≤ k ∧ k ≤ 60 ∧
  ∀ (H' : Hp) (p : Addr) (ns : List Int), Step (At pa) H H' → Pools (At pa) H' → H p = none → H' p = some (.lst (ns.map V.int)) → ns.length = n → (∀ x ∈ ns, 0 ≤ x ∧ x < k) → Q (.ref p) H'
def spText : Sp := fun vs H Q _ => ∃ (pa : Addr) (l : List Nat) (n : Nat), vs = [.ref pa, .str (strOf l), .int (n : Nat)] ∧ PoolOk H pa ∧ IsLetters l ∧ n ≤ 5000 ∧
  ∀ (t : List Nat) (H' : Hp), Step (At pa) H H' → Pools (At pa) H' → t.length = n → (∀ c ∈ t, c ∈ l) → Q (.str (strOf t)) H'
def spChain : Sp := fun vs H Q _ => ∃ (l w : List Nat) (G : Hp), vs = [.str (strOf l), .str (strOf w)] ∧ IsLetters l ∧ (∀ c ∈ w, c ∈ l) ∧ w.length ≤ 50 ∧ Ok NoS H G ∧ ToM NoS Q H G l.length
def spRing : Sp := fun vs H Q _ => ∃ (l : List Nat) (n : Nat) (e : Int) (G : Hp), vs = [.str (strOf l), .int (n : Nat), .int e] ∧ IsLetters l ∧ 1 ≤ n ∧ n ≤ 60 ∧ Ok NoS H G ∧ ToM NoS Q H G l.length
def spShape : Sp := fun vs H Q _ => ∃ (pa : Addr) (l : List Nat) (n : Nat) (G : Hp), vs = [.ref pa, .str (strOf l), .int (n : Nat)] ∧ IsLetters l ∧ 2 ≤ n ∧ n ≤ 40 ∧ Ok (At pa) H G ∧ ToM (At pa) Q H G l.length
def spGreatM : Sp := fun vs H Q _ => ∃ (pa : Addr) (l : List Nat) (n : Nat) (G : Hp), vs = [.ref pa, .str (strOf l), .int (n : Nat)] ∧ IsLetters l ∧ 1 ≤ n ∧ n ≤ 60 ∧ Ok (At pa) H G ∧ ToM (At pa) Q H G l.length
def spIsPlaces (K : PySem.W.Frag) : Sp := fun vs H Q _ => ∃ (v : V) (ps : Pl), vs = [v] ∧ Dq H v (DPl ps) ∧ ∀ H', Step NoS H H' → Q (.bl true) H'
def farL (l : List Nat) (m : Mach) (t : List Nat) : List Int := (List.range (t.length + 1)).map fun b => iO (farO l m t b)
def spFarthest : Sp := fun vs H Q _ => ∃ (l t : List Nat) (v : V) (m : Mach) (G : Hp), vs = [.str (strOf l), v, .str (strOf t)] ∧ IsLetters l ∧ Ok NoS H G ∧ Dq G v (DM m) ∧ MachOk l.length m ∧ IsText l t ∧
  ∀ (H' G' : Hp) (r : V), Fz NoS H G H' G' → Dq G' r (DI (farL l m t)) → Q r H'
def spLGreatest : Sp := fun vs H Q _ => ∃ (l t : List Nat) (v : V) (m : Mach) (G : Hp), vs = [v] ∧ Ok NoS H G ∧ Dq G v (DI (farL l m t)) ∧ t.length ≤ 200 ∧
  ∀ (H' G' : Hp) (r : V), Fz NoS H G H' G' → Dq G' r (DPl (grAll l m t)) → Q r H'
def spPutIn : Sp := fun vs H Q _ => ∃ (l t b : List Nat) (v : V) (m : Mach), vs = [.str (strOf t), v, .str (strOf b)] ∧ Dq H v (DPl (grAll l m t)) ∧ t.length ≤ 200 ∧ b.length ≤ 200 ∧
  Q (.str (strOf (subst1 t b 0 (grAll l m t)))) H
def spCovered : Sp := fun vs H Q _ => ∃ (l t : List Nat) (v u : V) (m : Mach) (G : Hp), vs = [v, u] ∧ Ok NoS H G ∧ Dq G v (DI (farL l m t)) ∧ Dq G u (DPl (grAll l m t)) ∧ t.length ≤ 200 ∧
  ∀ H', Step NoS H H' → Q (.bl true) H'
end Hw

/-! all places of a text; their number -/
namespace Hw
open PySem PySem.Spec PyProof.Rows L2
theorem hu1 {A : Around} (h : A.units + 64 < cLine) : A.units + 1 < cLine := by omega
theorem sortedPO {X : Cx} (K : PySem.W.Frag) (h : X.K = K := by rfl) : CallR X (.builtin "sorted") (rSortedPO K) := by subst h; exact cr_sortedPO
/-- text.count(sign) -/
theorem pe_scount {X : Cx} {o e : Expr} {to te : TE} {apos pos : Pos} (ho : PE X o to) (he : PE X e te) (hs : starEach [e] X.env = [(false, eval e X.env)] := by rfl) (hb : attributeBase o "count" X.env (eval o X.env) = eval o X.env := by rfl) (hl : (apos.endLine == pos.line) = true := by rfl) :
    PE X (.Call (.Attribute o "count" apos) [e] [] pos) (tM1 (fun x xs H Q => ∃ a b, x = .str a ∧ xs = [.str b] ∧ Q (.int (Txt.count a b)) H) to te) :=
  pe_m1 F.slot_str_count F.type_str_count mt_count ho he hs hb hl

/-! ### the states at an end -/
def SL (l : List Nat) (m : Mach) (t : List Nat) (e : Nat) : List Nat := (List.range (e + 1)).map fun b => stA l m t b (e - b)
theorem SL_len {l : List Nat} {m : Mach} {t : List Nat} {e : Nat} : (SL l m t e).length = e + 1 := by unfold SL; rw [List.length_map, List.length_range]
theorem SL_zero {l : List Nat} {m : Mach} {t : List Nat} : SL l m t 0 = [0] := by
  show [stA l m t 0 0] = [0]
  rw [stA_zero]
theorem SL_succ {l : List Nat} {m : Mach} {t : List Nat} {e c : Nat} (h : t[e]? = some c) : SL l m t (e + 1) = (SL l m t e).map (fun s => step1 l m s c) ++ [0] := by
  unfold SL
  rw [List.range_succ (n := e + 1), List.map_append, List.map_map]
  congr 1
  · refine List.map_congr_left fun b hb => ?_
    have hb' := List.mem_range.mp hb
    show stA l m t b (e + 1 - b) = step1 l m (stA l m t b (e - b)) c
    rw [show e + 1 - b = (e - b) + 1 by omega]
    exact stA_succ (by rw [show b + (e - b) = e by omega]; exact h)
  · show [stA l m t (e + 1) (e + 1 - (e + 1))] = [0]
    rw [Nat.sub_self, stA_zero]
theorem SL_at {l : List Nat} {m : Mach} {t : List Nat} {e b : Nat} (h : b ≤ e) : (SL l m t e)[b]? = some (stA l m t b (e - b)) := by
  unfold SL; rw [List.getElem?_map, List.getElem?_range (by omega)]; rfl
theorem SL_lt {l : List Nat} {m : Mach} (mo : MachOk l.length m) {t : List Nat} (ht : ∀ c ∈ t, c ∈ l) {e : Nat} : ∀ s ∈ SL l m t e, s < m.tab.length := fun s hs => by
  obtain ⟨b, _, rfl⟩ := List.mem_map.mp hs
  exact stA_lt mo ht
/-! ### their number -/
def cE (l : List Nat) (m : Mach) (t : List Nat) (e : Nat) : Nat := (SL l m t e).countP (isEnd m)
def cU (l : List Nat) (m : Mach) (t : List Nat) (e : Nat) : Nat := ((List.range (e + 1)).map (cE l m t)).sum
def cntP (l : List Nat) (m : Mach) (t : List Nat) : Nat := cU l m t t.length
theorem cU_zero {l : List Nat} {m : Mach} {t : List Nat} : cU l m t 0 = if isEnd m 0 = true then 1 else 0 := by
  show cE l m t 0 + 0 = _
  unfold cE
  rw [SL_zero, List.countP_cons, List.countP_nil]
  split <;> rfl
theorem cU_succ {l : List Nat} {m : Mach} {t : List Nat} {e : Nat} : cU l m t (e + 1) = cU l m t e + cE l m t (e + 1) := by
  unfold cU
  rw [List.range_succ (n := e + 1), List.map_append, List.sum_append]
  rfl
/-! ### all of them, in order -/
def plE (l : List Nat) (m : Mach) (t : List Nat) (e : Nat) : Pl := ((List.range (e + 1)).filter fun b => isEnd m (stA l m t b (e - b))).map fun b => (b, e)
def plU (l : List Nat) (m : Mach) (t : List Nat) (e : Nat) : Pl := (List.range e).flatMap (plE l m t)
def plAll (l : List Nat) (m : Mach) (t : List Nat) : Pl := plU l m t (t.length + 1)
theorem plE_len {l : List Nat} {m : Mach} {t : List Nat} {e : Nat} : (plE l m t e).length = cE l m t e := by
  unfold plE cE SL
  rw [List.length_map, List.countP_map, List.countP_eq_length_filter]
  rfl
theorem plU_succ {l : List Nat} {m : Mach} {t : List Nat} {e : Nat} : plU l m t (e + 1) = plU l m t e ++ plE l m t e := by
  unfold plU
  rw [List.range_succ, List.flatMap_append, List.flatMap_cons, List.flatMap_nil, List.append_nil]
theorem plU_len {l : List Nat} {m : Mach} {t : List Nat} : ∀ e, (plU l m t (e + 1)).length = cU l m t e
  | 0 => by
    rw [plU_succ, List.length_append, plE_len]
    show 0 + cE l m t 0 = cE l m t 0 + 0
    omega
  | e + 1 => by rw [plU_succ, List.length_append, plE_len, plU_len e, cU_succ]
theorem plAll_len {l : List Nat} {m : Mach} {t : List Nat} : (plAll l m t).length = cntP l m t := plU_len _
theorem cE_le {l : List Nat} {m : Mach} {t : List Nat} {e : Nat} : cE l m t e ≤ e + 1 := by
  unfold cE
  have := List.countP_le_length (p := isEnd m) (l := SL l m t e)
  rw [SL_len] at this
  exact this
theorem cU_le {l : List Nat} {m : Mach} {t : List Nat} : ∀ e, cU l m t e ≤ (e + 1) * (e + 1)
  | 0 => by rw [cU_zero]; split <;> decide
  | e + 1 => by
    have := cU_le (l := l) (m := m) (t := t) e
    have h2 := cE_le (l := l) (m := m) (t := t) (e := e + 1)
    rw [cU_succ]
    have e1 : (e + 1 + 1) * (e + 1 + 1) = (e + 1) * (e + 1) + 2 * (e + 1) + 1 := by
      rw [Nat.add_mul, Nat.mul_add]; omega
    omega
theorem mem_plE {l : List Nat} {m : Mach} {t : List Nat} {e : Nat} {p : Nat × Nat} : p ∈ plE l m t e ↔ p.2 = e ∧ p.1 ≤ e ∧ isEnd m (stA l m t p.1 (e - p.1)) = true := by
  unfold plE
  constructor
  · intro h
    obtain ⟨b, hb, rfl⟩ := List.mem_map.mp h
    obtain ⟨h1, h2⟩ := List.mem_filter.mp hb
    have := List.mem_range.mp h1
    exact ⟨rfl, by show b ≤ e; omega, h2⟩
  · rintro ⟨h1, h2, h3⟩
    obtain ⟨b, e'⟩ := p
    have h1 : e' = e := h1
    subst h1
    exact List.mem_map.mpr ⟨b, List.mem_filter.mpr ⟨List.mem_range.mpr (by have : b ≤ e' := h2; omega), h3⟩, rfl⟩
theorem mem_plAll {l : List Nat} {m : Mach} {t : List Nat} {p : Nat × Nat} : p ∈ plAll l m t ↔ p.1 ≤ p.2 ∧ p.2 ≤ t.length ∧ isEnd m (stA l m t p.1 (p.2 - p.1)) = true := by
  unfold plAll plU
  rw [List.mem_flatMap]
  constructor
  · rintro ⟨e, he, hp⟩
    obtain ⟨h1, h2, h3⟩ := mem_plE.mp hp
    have := List.mem_range.mp he
    subst h1
    exact ⟨h2, by omega, h3⟩
  · rintro ⟨h1, h2, h3⟩
    exact ⟨p.2, List.mem_range.mpr (by omega), mem_plE.mpr ⟨rfl, h1, h3⟩⟩
/-- before: by the end, then by the begin -/
def ltE (p q : Nat × Nat) : Prop := p.2 < q.2 ∨ (p.2 = q.2 ∧ p.1 < q.1)
theorem plAll_sorted {l : List Nat} {m : Mach} {t : List Nat} : (plAll l m t).Pairwise ltE := by
  unfold plAll plU
  refine List.pairwise_flatMap.mpr ⟨fun e _ => ?_, ?_⟩
  · unfold plE
    refine List.pairwise_map.mpr ?_
    refine List.Pairwise.imp (R := fun a b : Nat => a < b) (fun h => .inr ⟨rfl, h⟩) ?_
    exact (List.pairwise_lt_range).filter _
  · refine List.Pairwise.imp (R := fun a b : Nat => a < b) (fun {a b} h x hx y hy => ?_) List.pairwise_lt_range
    have h1 := (mem_plE.mp hx).1
    have h2 := (mem_plE.mp hy).1
    exact .inl (by omega)
/-- the same, as the law finds them: by begin -/
def fdB (l : List Nat) (m : Mach) (t : List Nat) (b k : Nat) : Pl := ((List.range k).filter fun i => isEnd m (stA l m t b i)).map fun i => (b + i, b)
def fdU (l : List Nat) (m : Mach) (t : List Nat) (b : Nat) : Pl := (List.range b).flatMap fun b => fdB l m t b (t.length + 1 - b)
def fdAll (l : List Nat) (m : Mach) (t : List Nat) : Pl := fdU l m t (t.length + 1)
theorem fdU_succ {l : List Nat} {m : Mach} {t : List Nat} {b : Nat} : fdU l m t (b + 1) = fdU l m t b ++ fdB l m t b (t.length + 1 - b) := by
  unfold fdU
  rw [List.range_succ, List.flatMap_append, List.flatMap_cons, List.flatMap_nil, List.append_nil]
theorem fdB_succ {l : List Nat} {m : Mach} {t : List Nat} {b k : Nat} : fdB l m t b (k + 1) = fdB l m t b k ++ if isEnd m (stA l m t b k) = true then [(b + k, b)] else [] := by
  unfold fdB
  rw [List.range_succ, List.filter_append, List.map_append]
  congr 1
  rw [List.filter_cons, List.filter_nil]
  split <;> rfl
theorem mem_fdB {l : List Nat} {m : Mach} {t : List Nat} {b k : Nat} {p : Nat × Nat} : p ∈ fdB l m t b k ↔ p.2 = b ∧ b ≤ p.1 ∧ p.1 < b + k ∧ isEnd m (stA l m t b (p.1 - b)) = true := by
  unfold fdB
  constructor
  · intro h
    obtain ⟨i, hi, rfl⟩ := List.mem_map.mp h
    obtain ⟨h1, h2⟩ := List.mem_filter.mp hi
    have := List.mem_range.mp h1
    exact ⟨rfl, by show b ≤ b + i; omega, by show b + i < b + k; omega, by show isEnd m (stA l m t b (b + i - b)) = true; rw [Nat.add_sub_cancel_left]; exact h2⟩
  · rintro ⟨h1, h2, h3, h4⟩
    obtain ⟨e, b'⟩ := p
    have h1 : b' = b := h1
    subst h1
    exact List.mem_map.mpr ⟨e - b', List.mem_filter.mpr ⟨List.mem_range.mpr (by have : b' ≤ e := h2; have : e < b' + k := h3; omega), h4⟩, by have : b' ≤ e := h2; show (b' + (e - b'), b') = (e, b'); rw [Nat.add_sub_cancel' this]⟩
theorem mem_fdAll {l : List Nat} {m : Mach} {t : List Nat} {p : Nat × Nat} : p ∈ fdAll l m t ↔ p.2 ≤ p.1 ∧ p.1 ≤ t.length ∧ isEnd m (stA l m t p.2 (p.1 - p.2)) = true := by
  unfold fdAll fdU
  rw [List.mem_flatMap]
  constructor
  · rintro ⟨b, hb, hp⟩
    obtain ⟨h1, h2, h3, h4⟩ := mem_fdB.mp hp
    have := List.mem_range.mp hb
    subst h1
    exact ⟨h2, by omega, h4⟩
  · rintro ⟨h1, h2, h3⟩
    exact ⟨p.2, List.mem_range.mpr (by omega), mem_fdB.mpr ⟨rfl, h1, by omega, h3⟩⟩
theorem fdAll_nodup {l : List Nat} {m : Mach} {t : List Nat} : (fdAll l m t).Nodup := by
  unfold fdAll fdU List.Nodup
  refine List.pairwise_flatMap.mpr ⟨fun b _ => ?_, ?_⟩
  · unfold fdB
    refine List.pairwise_map.mpr ?_
    refine List.Pairwise.imp (R := fun a b : Nat => a < b) (fun h z => ?_) ((List.pairwise_lt_range).filter _)
    have := congrArg Prod.fst z
    have : b + _ = b + _ := this
    omega
  · refine List.Pairwise.imp (R := fun a b : Nat => a < b) (fun {a b} h x hx y hy z => ?_) List.pairwise_lt_range
    have h1 := (mem_fdB.mp hx).1
    have h2 := (mem_fdB.mp hy).1
    rw [z] at h1
    omega
theorem ltE_ne {p q : Nat × Nat} (h : ltE p q) : p ≠ q := fun e => by subst e; rcases h with h | ⟨_, h⟩ <;> omega
theorem fd_perm {l : List Nat} {m : Mach} {t : List Nat} : ((fdAll l m t).map fun p => (p.2, p.1)).Perm (plAll l m t) := by
  refine (List.perm_ext_iff_of_nodup ?_ (plAll_sorted.imp ltE_ne)).mpr fun p => ?_
  · refine List.pairwise_map.mpr (fdAll_nodup.imp fun h z => h ?_)
    have h1 := congrArg Prod.fst z
    have h2 := congrArg Prod.snd z
    exact Prod.ext h2 h1
  · rw [mem_plAll]
    constructor
    · intro h
      obtain ⟨x, hx, rfl⟩ := List.mem_map.mp h
      exact mem_fdAll.mp hx
    · intro h
      exact List.mem_map.mpr ⟨(p.2, p.1), mem_fdAll.mpr h, rfl⟩
/-- there is just one sorted order -/
theorem sorted_is {l : List Nat} {m : Mach} {t : List Nat} {ps : Pl} (hp : ps.Perm (fdAll l m t)) (hs : ps.Pairwise fun p q => ¬ (q.1 < p.1 ∨ (q.1 = p.1 ∧ q.2 < p.2))) : (ps.map fun p => (p.2, p.1)) = plAll l m t := by
  refine List.Perm.eq_of_pairwise (le := fun p q => ¬ ltE q p) (fun a b _ _ h1 h2 => ?_) ?_ ?_ ((hp.map _).trans fd_perm)
  · obtain ⟨a1, a2⟩ := a
    obtain ⟨b1, b2⟩ := b
    unfold ltE at h1 h2
    have h1' : ¬ (b2 < a2 ∨ (b2 = a2 ∧ b1 < a1)) := h1
    have h2' : ¬ (a2 < b2 ∨ (a2 = b2 ∧ a1 < b1)) := h2
    have e1 : a2 = b2 := by omega
    have e2 : a1 = b1 := by omega
    rw [e1, e2]
  · exact List.pairwise_map.mpr hs
  · refine plAll_sorted.imp fun {p q} h z => ?_
    unfold ltE at h z
    omega
/-! ### sums over states -/
def wS (f : Nat → Int) (xs : List Nat) : Int := (xs.map f).sum
theorem wS_app {f : Nat → Int} {xs ys : List Nat} : wS f (xs ++ ys) = wS f xs + wS f ys := by unfold wS; rw [List.map_append, List.sum_append]
theorem wS_map {f : Nat → Int} {g : Nat → Nat} {xs : List Nat} : wS f (xs.map g) = wS (fun s => f (g s)) xs := by unfold wS; rw [List.map_map]; rfl
def oneIf (m : Mach) (s : Nat) : Int := if isEnd m s = true then 1 else 0
theorem wS_count {m : Mach} : ∀ xs : List Nat, wS (oneIf m) xs = (xs.countP (isEnd m) : Nat)
  | [] => rfl
  | x :: xs => by
    show oneIf m x + wS (oneIf m) xs = _
    rw [wS_count xs, List.countP_cons]
    unfold oneIf
    split <;> omega
theorem wS_succ {l : List Nat} {m : Mach} {t : List Nat} {e c : Nat} {f : Nat → Int} (h : t[e]? = some c) : wS f (SL l m t (e + 1)) = f 0 + wS (fun s => f (step1 l m s c)) (SL l m t e) := by
  rw [SL_succ h, wS_app, wS_map]
  show _ + (f 0 + 0) = _
  omega
/-! ### what the defs promise -/
def IsTextN (l t : List Nat) (n : Nat) : Prop := t.length ≤ n ∧ ∀ c ∈ t, c ∈ l
def rowsSL (l : List Nat) (m : Mach) (t : List Nat) (e : Nat) : List (List Int) := (List.range e).map fun e => (SL l m t e).map fun s => ((s : Nat) : Int)
def spStepped : Sp := fun vs H Q _ => ∃ (l t : List Nat) (v : V) (m : Mach) (G : Hp), vs = [.str (strOf l), v, .str (strOf t)] ∧ IsLetters l ∧ Ok NoS H G ∧ Dq G v (DM m) ∧ MachOk l.length m ∧ IsTextN l t 200 ∧
  ∀ (H' G' : Hp) (r : V), Fz NoS H G H' G' → Dq G' r (DT (rowsSL l m t (t.length + 1))) → Q r H'
def spAllPlaces : Sp := fun vs H Q _ => ∃ (l t : List Nat) (v : V) (m : Mach) (G : Hp), vs = [.str (strOf l), v, .str (strOf t)] ∧ IsLetters l ∧ Ok NoS H G ∧ Dq G v (DM m) ∧ MachOk l.length m ∧ IsTextN l t 200 ∧
  Own Q H G (plAll l m t)
def spCountP : Sp := fun vs H Q _ => ∃ (l t : List Nat) (v : V) (m : Mach) (G : Hp), vs = [.str (strOf l), v, .str (strOf t)] ∧ IsLetters l ∧ Ok NoS H G ∧ Dq G v (DM m) ∧ MachOk l.length m ∧ IsTextN l t 5000 ∧
  ∀ H', Step NoS H H' → Q (.int (cntP l m t : Nat)) H'
def spLPlaces : Sp := fun vs H Q _ => ∃ (l t : List Nat) (v : V) (m : Mach) (G : Hp), vs = [.str (strOf l), v, .str (strOf t)] ∧ IsLetters l ∧ Ok NoS H G ∧ Dq G v (DM m) ∧ MachOk l.length m ∧ IsTextN l t 200 ∧
  ∀ (H' G' : Hp) (r : V), Fz NoS H G H' G' → Dq G' r (DPl (plAll l m t)) → Q r H'
def spCounted : Sp := spCountP
theorem dps_snoc_inv {G : Hp} {d : PyData} : ∀ {ds : List PyData} {xs : List V}, DqAll G xs (ds ++ [d]) → ∃ ys v, xs = ys ++ [v] ∧ DqAll G ys ds ∧ Dq G v d
  | [], xs, h => by
    cases h with
    | cons h1 h2 => cases h2; exact ⟨[], _, rfl, .nil, h1⟩
  | e :: ds, xs, h => by
    cases h with
    | cons h1 h2 =>
      obtain ⟨ys, v, rfl, a, b⟩ := dps_snoc_inv (ds := ds) h2
      exact ⟨_ :: ys, v, rfl, .cons h1 a, b⟩
theorem rowsSL_succ {l : List Nat} {m : Mach} {t : List Nat} {e : Nat} : rowsSL l m t (e + 1) = rowsSL l m t e ++ [(SL l m t e).map fun s => ((s : Nat) : Int)] := by
  unfold rowsSL; rw [List.range_succ, List.map_append]; rfl
end Hw
namespace Hw
open PySem PySem.Spec PyProof.Rows L2
/-! ### a dict of counts -/
abbrev Cs := List (Nat × Int)
def dK (ns : Cs) : List (Key × V) := ns.map fun p => (.inl (p.1 : Int), .int p.2)
def getN : Cs → Nat → Int
  | [], _ => 0
  | p :: r, k => if p.1 = k then p.2 else getN r k
def putN : Cs → Nat → Int → Cs
  | [], k, v => [(k, v)]
  | p :: r, k, v => if p.1 = k then (p.1, v) :: r else p :: putN r k v
def wN (f : Nat → Int) (ns : Cs) : Int := (ns.map fun p => p.2 * f p.1).sum
theorem valV_dK (k : Nat) : ∀ ns : Cs, (valV (dK ns) (.inl (k : Int))).getD (.int 0) = .int (getN ns k)
  | [] => rfl
  | p :: r => by
    by_cases h : p.1 = k
    · have e : valV (dK (p :: r)) (.inl (k : Int)) = some (.int p.2) := valV_pos (p := ((.inl (p.1 : Int) : Key), V.int p.2)) (r := dK r) (by rw [h])
      rw [e, getN, if_pos h]; rfl
    · have e : valV (dK (p :: r)) (.inl (k : Int)) = valV (dK r) (.inl (k : Int)) := valV_neg (p := ((.inl (p.1 : Int) : Key), V.int p.2)) (r := dK r) (fun z => h (by
        have z : (Sum.inl (p.1 : Int) : Key) = .inl (k : Int) := z
        have := Sum.inl.inj z
        omega))
      rw [e, valV_dK k r, getN, if_neg h]
theorem key_eq {a b : Nat} : ((.inl (a : Int) : Key) = .inl (b : Int)) ↔ a = b := ⟨fun z => by have := Sum.inl.inj z; omega, fun e => by rw [e]⟩
theorem map_out {k : Nat} {v : Int} : ∀ {ns : Cs}, k ∉ ns.map Prod.fst → (dK ns).map (fun kv => if kv.1 = (.inl (k : Int) : Key) then (kv.1, V.int v) else kv) = dK ns
  | [], _ => rfl
  | p :: r, h => by
    rw [List.map_cons, List.mem_cons, not_or] at h
    show (if (.inl (p.1 : Int) : Key) = .inl (k : Int) then _ else _) :: _ = _
    rw [if_neg (fun z => h.1 (key_eq.mp z).symm)]
    exact congrArg _ (map_out h.2)
theorem map_in {k : Nat} {v : Int} : ∀ {ns : Cs}, (ns.map Prod.fst).Nodup → k ∈ ns.map Prod.fst → (dK ns).map (fun kv => if kv.1 = (.inl (k : Int) : Key) then (kv.1, V.int v) else kv) = dK (putN ns k v)
  | [], _, h => nomatch h
  | p :: r, nd, h => by
    rw [List.map_cons] at nd h
    obtain ⟨n1, n2⟩ := List.nodup_cons.mp nd
    show (if (.inl (p.1 : Int) : Key) = .inl (k : Int) then _ else _) :: _ = _
    by_cases e : p.1 = k
    · rw [if_pos (key_eq.mpr e), putN, if_pos e]
      rw [e] at n1
      exact congrArg _ (map_out n1)
    · rw [if_neg (fun z => e (key_eq.mp z)), putN, if_neg e]
      refine congrArg _ (map_in n2 ?_)
      rcases List.mem_cons.mp h with h | h
      · exact absurd h.symm e
      · exact h
theorem app_out {k : Nat} {v : Int} : ∀ {ns : Cs}, k ∉ ns.map Prod.fst → dK ns ++ [(.inl (k : Int), .int v)] = dK (putN ns k v)
  | [], _ => rfl
  | p :: r, h => by
    rw [List.map_cons, List.mem_cons, not_or] at h
    rw [putN, if_neg (fun z => h.1 z.symm)]
    exact congrArg _ (app_out h.2)
theorem any_dK {k : Nat} {ns : Cs} : ((dK ns).any fun kv => decide (kv.1 = (.inl (k : Int) : Key))) = true ↔ k ∈ ns.map Prod.fst := by
  rw [List.any_eq_true]
  constructor
  · rintro ⟨x, hx, h⟩
    obtain ⟨p, hp, rfl⟩ := List.mem_map.mp hx
    have := key_eq.mp (of_decide_eq_true h)
    exact List.mem_map.mpr ⟨p, hp, this⟩
  · intro h
    obtain ⟨p, hp, e⟩ := List.mem_map.mp h
    exact ⟨_, List.mem_map.mpr ⟨p, hp, rfl⟩, decide_eq_true (key_eq.mpr e)⟩
theorem putK_dK {ns : Cs} {k : Nat} {v : Int} (nd : (ns.map Prod.fst).Nodup) : putK (dK ns) (.inl (k : Int)) (.int v) = dK (putN ns k v) := by
  unfold putK
  by_cases h : k ∈ ns.map Prod.fst
  · rw [if_pos (any_dK.mpr h)]; exact map_in nd h
  · rw [if_neg (fun z => h (any_dK.mp z))]; exact app_out h
theorem wN_put {f : Nat → Int} {k : Nat} {c : Int} : ∀ ns : Cs, wN f (putN ns k (getN ns k + c)) = wN f ns + c * f k
  | [] => by
    show (0 + c) * f k + 0 = 0 + c * f k
    rw [Int.zero_add, Int.zero_add, Int.add_zero]
  | p :: r => by
    have ih := wN_put (f := f) (k := k) (c := c) r
    by_cases e : p.1 = k
    · rw [putN, if_pos e, getN, if_pos e]
      show (p.2 + c) * f p.1 + wN f r = p.2 * f p.1 + wN f r + c * f k
      rw [Int.add_mul, e]; omega
    · rw [putN, if_neg e, getN, if_neg e]
      show p.2 * f p.1 + wN f (putN r k (getN r k + c)) = p.2 * f p.1 + wN f r + c * f k
      rw [ih]; omega
theorem mem_put {k : Nat} {v : Int} : ∀ {ns : Cs} {x : Nat}, x ∈ (putN ns k v).map Prod.fst → x = k ∨ x ∈ ns.map Prod.fst
  | [], x, h => .inl (List.mem_singleton.mp h)
  | p :: r, x, h => by
    rw [putN] at h
    split at h
    · exact .inr h
    · rw [List.map_cons] at h
      rcases List.mem_cons.mp h with h | h
      · exact .inr (by rw [List.map_cons, h]; exact List.mem_cons_self)
      · rcases mem_put h with h | h
        · exact .inl h
        · exact .inr (by rw [List.map_cons]; exact List.mem_cons_of_mem _ h)
theorem nodup_put {k : Nat} {v : Int} : ∀ {ns : Cs}, (ns.map Prod.fst).Nodup → ((putN ns k v).map Prod.fst).Nodup
  | [], _ => List.nodup_cons.mpr ⟨List.not_mem_nil, List.nodup_nil⟩
  | p :: r, h => by
    rw [putN]
    by_cases e : p.1 = k
    · rw [if_pos e]; exact h
    · rw [if_neg e]
      rw [List.map_cons] at h ⊢
      obtain ⟨h1, h2⟩ := List.nodup_cons.mp h
      refine List.nodup_cons.mpr ⟨fun z => ?_, nodup_put h2⟩
      rcases mem_put z with z | z
      · exact e z
      · exact h1 z
theorem len_put {k : Nat} {v : Int} : ∀ {ns : Cs}, (putN ns k v).length ≤ ns.length + 1
  | [] => Nat.le_refl _
  | p :: r => by
    rw [putN]
    split
    · show r.length + 1 ≤ r.length + 1 + 1; omega
    · have := len_put (k := k) (v := v) (ns := r)
      show (putN r k v).length + 1 ≤ r.length + 1 + 1; omega
theorem wN_take {f : Nat → Int} {ns : Cs} {i : Nat} {p : Nat × Int} (h : ns[i]? = some p) : wN f (ns.take (i + 1)) = wN f (ns.take i) + p.2 * f p.1 := by
  unfold wN
  rw [List.take_add_one, h, List.map_append, List.sum_append]
  show _ + (p.2 * f p.1 + 0) = _
  omega
theorem wN_ends {m : Mach} : ∀ ns : Cs, ((ns.filter fun p => isEnd m p.1).map Prod.snd).sum = wN (oneIf m) ns
  | [] => rfl
  | p :: r => by
    have ih := wN_ends (m := m) r
    show _ = p.2 * oneIf m p.1 + wN (oneIf m) r
    rw [← ih, List.filter_cons]
    unfold oneIf
    by_cases h : isEnd m p.1 = true
    · rw [if_pos h, if_pos h, Int.mul_one]; rfl
    · rw [if_neg h, if_neg h, Int.mul_zero, Int.zero_add]
end Hw
namespace Hw
theorem fdB_len {l : List Nat} {m : Mach} {t : List Nat} {b k : Nat} : (fdB l m t b k).length ≤ k := by
  unfold fdB
  rw [List.length_map]
  exact Nat.le_trans (List.length_filter_le _ _) (by rw [List.length_range]; exact Nat.le_refl _)
theorem fdU_len {l : List Nat} {m : Mach} {t : List Nat} (h : t.length ≤ 200) : ∀ b, (fdU l m t b).length ≤ b * 201
  | 0 => Nat.zero_le _
  | b + 1 => by
    rw [fdU_succ, List.length_append]
    have h1 := fdU_len (l := l) (m := m) h b
    have h2 := fdB_len (l := l) (m := m) (t := t) (b := b) (k := t.length + 1 - b)
    rw [Nat.add_mul]
    omega
end Hw
namespace Hw
/-! ### counts in a list -/
def wL (f : Nat → Int) : List Int → Int
  | [] => 0
  | c :: r => c * f 0 + wL (fun i => f (i + 1)) r
theorem wL_set : ∀ {cs : List Int} {f : Nat → Int} {k : Nat} {v c : Int}, cs[k]? = some v → wL f (cs.set k (v + c)) = wL f cs + c * f k
  | [], _, _, _, _, h => by simp at h
  | x :: r, f, 0, v, c, h => by
    have e : x = v := Option.some.inj h
    subst e
    show (x + c) * f 0 + wL _ r = x * f 0 + wL _ r + c * f 0
    rw [Int.add_mul]; omega
  | x :: r, f, k + 1, v, c, h => by
    have ih := wL_set (cs := r) (f := fun i => f (i + 1)) (k := k) (v := v) (c := c) h
    show x * f 0 + wL _ (r.set k (v + c)) = x * f 0 + wL _ r + c * f (k + 1)
    rw [ih]; omega
theorem wL_take : ∀ {cs : List Int} {f : Nat → Int} {j : Nat} {v : Int}, cs[j]? = some v → wL f (cs.take (j + 1)) = wL f (cs.take j) + v * f j
  | [], _, _, _, h => by simp at h
  | x :: r, f, 0, v, h => by
    have e : x = v := Option.some.inj h
    subst e
    show x * f 0 + 0 = 0 + x * f 0
    omega
  | x :: r, f, j + 1, v, h => by
    have ih := wL_take (cs := r) (f := fun i => f (i + 1)) (j := j) (v := v) h
    show x * f 0 + wL _ (r.take (j + 1)) = x * f 0 + wL _ (r.take j) + v * f (j + 1)
    rw [ih]; omega
theorem wL_zero : ∀ {k : Nat} {f : Nat → Int}, wL f (List.replicate k 0) = 0
  | 0, _ => rfl
  | k + 1, f => by
    show 0 * f 0 + wL _ (List.replicate k 0) = 0
    rw [wL_zero, Int.zero_mul]; rfl
def initL (M : Nat) : List Int := (List.range M).map fun i => if i = 0 then 1 else 0
theorem initL_len {M : Nat} : (initL M).length = M := by unfold initL; rw [List.length_map, List.length_range]
theorem wL_init {M : Nat} {f : Nat → Int} (h : 1 ≤ M) : wL f (initL M) = f 0 := by
  obtain ⟨k, rfl⟩ : ∃ k, M = k + 1 := ⟨M - 1, by omega⟩
  have e : initL (k + 1) = 1 :: List.replicate k 0 := by
    unfold initL
    rw [List.range_succ_eq_map, List.map_cons, List.map_map]
    show (1 : Int) :: _ = _
    congr 1
    refine Eq.trans (List.map_congr_left (g := fun _ => (0 : Int)) fun i _ => ?_) (by rw [List.map_const', List.length_range])
    show (if i + 1 = 0 then (1 : Int) else 0) = 0
    rw [if_neg (by omega)]
  rw [e]
  show 1 * f 0 + wL _ (List.replicate k 0) = f 0
  rw [wL_zero]; omega
theorem sum_ends {m : Mach} {cs : List Int} : ∀ n, n ≤ cs.length → (((List.range n).filter (isEnd m)).map fun i => cs.getD i 0).sum = wL (oneIf m) (cs.take n)
  | 0, _ => rfl
  | n + 1, h => by
    have ih := sum_ends (m := m) (cs := cs) n (by omega)
    have e : cs[n]? = some cs[n] := List.getElem?_eq_getElem (by omega)
    rw [wL_take e, ← ih, List.range_succ, List.filter_append, List.map_append, List.sum_append]
    congr 1
    rw [List.filter_cons, List.filter_nil]
    have eg : cs.getD n 0 = cs[n] := by rw [List.getD_eq_getElem?_getD, e]; rfl
    unfold oneIf
    by_cases hh : isEnd m n = true
    · rw [if_pos hh, if_pos hh]
      show cs.getD n 0 + 0 = cs[n] * 1
      rw [eg]; omega
    · rw [if_neg hh, if_neg hh]
      show (0 : Int) = cs[n] * 0
      omega
end Hw
namespace Hw
open PySem PySem.Spec PyProof.Rows L2
/-! ### the long texts -/
theorem two_c {n c u : Nat} (h : 2 * u = (n + 1) * (n + 2)) : ((n : Int) + 1) * ((n : Int) + 2) / 2 = (u : Nat) := by
  have h2 : ((2 * u : Nat) : Int) = (((n + 1) * (n + 2) : Nat) : Int) := by rw [h]
  rw [Int.natCast_mul, Int.natCast_mul] at h2
  have e : ((n : Int) + 1) * ((n : Int) + 2) = 2 * (u : Int) := h2.symm
  rw [e]; omega
def everyM (k : Nat) : Mach := ⟨[List.replicate k 0], [true]⟩
theorem every_ok {k : Nat} : MachOk k (everyM k) := ⟨rfl, Nat.le_refl 1, by show 1 ≤ 60; decide, fun r hr => by rw [List.mem_singleton.mp hr, List.length_replicate], fun r hr t ht => by
  rw [List.mem_singleton.mp hr] at ht
  have := List.eq_of_mem_replicate ht
  show 0 ≤ t ∧ t < 1
  omega⟩
theorem every_cE {l t : List Nat} (ht : ∀ c ∈ t, c ∈ l) {e : Nat} : cE l (everyM l.length) t e = e + 1 := by
  unfold cE
  rw [List.countP_eq_length.mpr, SL_len]
  intro s hs
  have h := SL_lt every_ok ht s hs
  have h' : s < 1 := h
  have : s = 0 := by omega
  rw [this]; rfl
theorem every_cU {l t : List Nat} (ht : ∀ c ∈ t, c ∈ l) : ∀ e, 2 * cU l (everyM l.length) t e = (e + 1) * (e + 2)
  | 0 => by
    have := every_cE ht (e := 0)
    show 2 * (cE l (everyM l.length) t 0 + 0) = 2
    omega
  | e + 1 => by
    have ih := every_cU ht e
    rw [cU_succ, every_cE ht, Nat.mul_add, ih]
    have h1 : (e + 1 + 1) * (e + 1 + 2) = (e + 1) * (e + 2) + 2 * (e + 2) := by
      rw [show (e + 1 + 1) * (e + 1 + 2) = (e + 2) * (e + 3) from rfl, show (e + 1) * (e + 2) + 2 * (e + 2) = (e + 1 + 2) * (e + 2) by rw [Nat.add_mul (e + 1) 2], Nat.mul_comm]
    rw [h1]
/-- the chain of one sign -/
def oneM (l : List Nat) (x : Nat) : Mach := ⟨[(List.replicate l.length 2).set (l.idxOf x) 1, List.replicate l.length 2, List.replicate l.length 2], [false, true, false]⟩
theorem one_step {l : List Nat} {x c : Nat} (hx : x ∈ l) (hc : c ∈ l) : step1 l (oneM l x) 0 c = (if c = x then 1 else 2) ∧ step1 l (oneM l x) 1 c = 2 ∧ step1 l (oneM l x) 2 c = 2 := by
  have h1 := idx_lt hx
  have h2 := idx_lt hc
  refine ⟨?_, ?_, ?_⟩
  · unfold step1
    show ((((List.replicate l.length (2 : Int)).set (l.idxOf x) 1).getD (l.idxOf c) 0)).toNat = _
    rw [List.getD_eq_getElem?_getD]
    by_cases e : c = x
    · subst e
      rw [List.getElem?_set_self (by rw [List.length_replicate]; exact h2), if_pos rfl]; rfl
    · have ne : l.idxOf x ≠ l.idxOf c := fun z => e (by
        have a1 := List.getElem_idxOf h1
        have a2 := List.getElem_idxOf h2
        simp only [z] at a1
        exact a2.symm.trans a1)
      rw [List.getElem?_set_ne ne, List.getElem?_replicate, if_pos h2, if_neg e]; rfl
  · unfold step1
    show (((List.replicate l.length (2 : Int)).getD (l.idxOf c) 0)).toNat = 2
    rw [List.getD_eq_getElem?_getD, List.getElem?_replicate, if_pos h2]; rfl
  · unfold step1
    show (((List.replicate l.length (2 : Int)).getD (l.idxOf c) 0)).toNat = 2
    rw [List.getD_eq_getElem?_getD, List.getElem?_replicate, if_pos h2]; rfl
theorem one_ok {l : List Nat} {x : Nat} : MachOk l.length (oneM l x) := ⟨rfl, by show 1 ≤ 3; decide, by show 3 ≤ 60; decide, fun r hr => by
  rcases List.mem_cons.mp hr with rfl | hr
  · rw [List.length_set, List.length_replicate]
  · rcases List.mem_cons.mp hr with rfl | hr
    · rw [List.length_replicate]
    · rw [List.mem_singleton.mp hr, List.length_replicate], fun r hr t ht => by
  have h2 : ∀ t ∈ List.replicate l.length (2 : Int), t = 2 := fun t h => List.eq_of_mem_replicate h
  show 0 ≤ t ∧ t < 3
  rcases List.mem_cons.mp hr with rfl | hr
  · rcases List.mem_or_eq_of_mem_set ht with h | h
    · have := h2 t h; omega
    · omega
  · rcases List.mem_cons.mp hr with rfl | hr
    · have := h2 t ht; omega
    · rw [List.mem_singleton.mp hr] at ht
      have := h2 t ht; omega⟩
theorem one_c0 {l t : List Nat} {x : Nat} (hx : x ∈ l) (ht : ∀ c ∈ t, c ∈ l) : ∀ e, e ≤ t.length → (SL l (oneM l x) t e).count 0 = 1
  | 0, _ => by rw [SL_zero]; rfl
  | e + 1, h => by
    have hc : t[e]? = some t[e] := List.getElem?_eq_getElem (by omega)
    have cl := ht _ (List.mem_of_getElem? hc)
    rw [SL_succ hc, List.count_append]
    have : ((SL l (oneM l x) t e).map fun s => step1 l (oneM l x) s t[e]).count 0 = 0 := by
      refine List.count_eq_zero.mpr fun hm => ?_
      obtain ⟨s, hs, e0⟩ := List.mem_map.mp hm
      have slt : s < 3 := SL_lt one_ok ht s hs
      obtain ⟨a0, a1, a2⟩ := one_step hx cl
      have hs3 : s = 0 ∨ s = 1 ∨ s = 2 := by omega
      rcases hs3 with rfl | rfl | rfl
      · rw [a0] at e0; split at e0 <;> omega
      · rw [a1] at e0; omega
      · rw [a2] at e0; omega
    rw [this]; rfl
theorem cnt_split {l : List Nat} {x c : Nat} (hx : x ∈ l) (hc : c ∈ l) : ∀ xs : List Nat, (∀ s ∈ xs, s < 3) → (xs.map fun s => step1 l (oneM l x) s c).countP (isEnd (oneM l x)) = if c = x then xs.count 0 else 0
  | [], _ => by split <;> rfl
  | s :: xs, h => by
    have ih := cnt_split hx hc xs fun y hy => h y (List.mem_cons_of_mem _ hy)
    have slt := h s List.mem_cons_self
    obtain ⟨a0, a1, a2⟩ := one_step hx hc
    rw [List.map_cons, List.countP_cons, ih, List.count_cons]
    have hs3 : s = 0 ∨ s = 1 ∨ s = 2 := by omega
    have e1 : isEnd (oneM l x) 1 = true := rfl
    have e2 : isEnd (oneM l x) 2 = false := rfl
    rcases hs3 with rfl | rfl | rfl
    · rw [a0]
      by_cases e : c = x
      · rw [if_pos e, if_pos e, if_pos e, if_pos e1]; rfl
      · rw [if_neg e, if_neg e, if_neg e, e2]; rfl
    · rw [a1, e2]
      split <;> rfl
    · rw [a2, e2]
      split <;> rfl
theorem one_cU {l t : List Nat} {x : Nat} (hx : x ∈ l) (ht : ∀ c ∈ t, c ∈ l) : ∀ e, e ≤ t.length → cU l (oneM l x) t e = (t.take e).count x
  | 0, _ => by rw [cU_zero, List.take_zero]; rfl
  | e + 1, h => by
    have hc : t[e]? = some t[e] := List.getElem?_eq_getElem (by omega)
    have cl := ht _ (List.mem_of_getElem? hc)
    rw [cU_succ, one_cU hx ht e (by omega), List.take_add_one, hc, List.count_append]
    congr 1
    unfold cE
    rw [SL_succ hc, List.countP_append, cnt_split hx cl _ (fun s hs => SL_lt one_ok ht s hs), one_c0 hx ht e (by omega)]
    show _ + 0 = List.count x [t[e]]
    by_cases e' : t[e] = x
    · rw [if_pos e', e']; simp
    · rw [if_neg e']; simp [e']
theorem txt_count (t : List Nat) (x : Nat) : Txt.count (strOf t) (strOf [x]) = (t.count x : Nat) := by
  show Txt.count (strOf t) ⟨#[x]⟩ = _
  rw [PyProof.Rows.count_is, strOf_cps]
  show PyProof.Rows.cnt x t = _
  induction t with
  | nil => rfl
  | cons a r ih =>
    rw [PyProof.Rows.cnt_cons, ih, List.count_cons]
    by_cases e : a = x
    · rw [if_pos e, if_pos (by rw [e]; exact beq_self_eq_true x)]; omega
    · rw [if_neg e, if_neg (by rw [beq_iff_eq]; exact e)]; omega
end Hw
namespace Hw
open PySem PySem.Spec PyProof.Rows L2
def chainRow (l w : List Nat) (p : Nat) : List Int := match w[p]? with
  | some c => (List.replicate l.length ((w.length : Int) + 1)).set (l.idxOf c) ((p : Int) + 1)
  | none => List.replicate l.length ((w.length : Int) + 1)
def spLong : Sp := fun vs H Q _ => ∃ (pa : Addr) (l : List Nat) (G : Hp), vs = [.ref pa, .str (strOf l)] ∧ IsLetters l ∧ Ok (At pa) H G ∧
  ∀ H', Step (At pa) H H' → Pools (At pa) H' → Q (.bl true) H'
/-- the chain of one sign alone is told -/
def spChain1 : Sp := fun vs H Q _ => ∃ (l w : List Nat) (G : Hp), vs = [.str (strOf l), .str (strOf w)] ∧ IsLetters l ∧ (∀ c ∈ w, c ∈ l) ∧ w.length ≤ 50 ∧ Ok NoS H G ∧
  ∀ (H' G' : Hp) (r : V) (m : Mach), Fz NoS H G H' G' → Dq G' r (DM m) → MachOk l.length m → (∀ x, w = [x] → m = oneM l x) → Q r H'
end Hw
namespace Hw
open PySem PySem.Spec PyProof.Rows L2
def topS (i : Nat) : Stmt := PySem.Challenge.pw_hallofwords_k34_places_in_texts.main.body.getD i (.Pass ⟨0, 0, 0, 0⟩)
/-- the built-in names stand as they are -/
structure Bt (mg : Str → Option Value) : Prop where
  m_all : mg "all" = none
  m_bool : mg "bool" = none
  m_enumerate : mg "enumerate" = none
  m_int : mg "int" = none
  m_isinstance : mg "isinstance" = none
  m_len : mg "len" = none
  m_list : mg "list" = none
  m_min : mg "min" = none
  m_range : mg "range" = none
  m_repr : mg "repr" = none
  m_sorted : mg "sorted" = none
  m_sum : mg "sum" = none
  m_tuple : mg "tuple" = none
abbrev s_stepped : Stmt := topS 1
abbrev s_all_places : Stmt := topS 2
abbrev s_count_places : Stmt := topS 3
abbrev s_law_pool : Stmt := topS 5
abbrev s_law_stream : Stmt := topS 6
abbrev s_law_pick : Stmt := topS 7
abbrev s_law_letters : Stmt := topS 8
abbrev s_law_row : Stmt := topS 9
abbrev s_law_text : Stmt := topS 10
abbrev s_law_machine : Stmt := topS 11
abbrev s_law_great : Stmt := topS 12
abbrev s_law_chain : Stmt := topS 13
abbrev s_law_ring : Stmt := topS 14
abbrev s_law_shape : Stmt := topS 15
abbrev s_law_is_places : Stmt := topS 16
abbrev s_law_places : Stmt := topS 17
abbrev s_law_counted : Stmt := topS 18
abbrev s_law_is_count : Stmt := topS 19
abbrev s_law_long : Stmt := topS 20
abbrev s_law : Stmt := topS 21
section
variable {P : Program} {w : World} {K : PySem.W.Frag} {mg : Str → Option Value} {base : Heap}
theorem sc_stepped : FnScope ["letters", "machine", "text", "table", "rows", "sign", "place", "state"] ["letters", "machine", "text"] (defScope s_stepped) := ⟨rfl, rfl, rfl, by decide +kernel, rfl, by decide +kernel, by decide +kernel⟩
theorem ok_stepped {f : Addr} {fd : FuncData} (F : Fun K "stepped" "stepped" s_stepped f fd) (T : Bt mg)  : FnG P w K mg base CX0 1 f fd ["letters", "machine", "text"] (spStepped) := by
  refine FnG.calm F sc_stepped (fun vs H Q E h => by first | (obtain ⟨_, rfl, _⟩ := h; rfl) | (obtain ⟨_, _, rfl, _⟩ := h; rfl) | (obtain ⟨_, _, _, rfl, _⟩ := h; rfl) | (obtain ⟨_, _, _, _, rfl, _⟩ := h; rfl) | (obtain ⟨_, _, _, _, _, rfl, _⟩ := h; rfl) | (obtain ⟨_, _, _, _, _, _, rfl, _⟩ := h; rfl) | (obtain ⟨_, _, _, _, _, _, _, rfl, _⟩ := h; rfl) | (obtain ⟨_, _, _, _, _, _, _, _, rfl, _⟩ := h; rfl)) (fun cd A out z H vs Q E hg hr h => ?_)
  have nd := sc_stepped.nd
  obtain ⟨l, t, v, m, G, rfl, IL, ok, dm, mo, ⟨tl, ht⟩, q⟩ := h
  obtain ⟨a, x, y, rfl, ea, dt, de⟩ := dM dm
  obtain ⟨tb, txs, rfl, eb, hx⟩ := dp_list dt
  have st : (strOf t).length ≤ sizeLine := by rw [strOf_len]; exact sz (by omega)
  refine ⟨_, (pss_cons (ps_set (i := 3) nd rfl (by first | exact Or.inl rfl | exact Or.inr rfl) (pe_ix (ixT K) (pv 1) pe_int (fun _ _ => rfl)))
    (pss_cons (ps_set (i := 4) nd rfl (by first | exact Or.inl rfl | exact Or.inr rfl) (pe_lst (pa_cons (pe_lst (pa_cons pe_int pa_nil)) pa_nil)))
    (pss_cons (ps_for PassesOwn.never rfl (pi_str (pv 2)) (pg_name (i := 5) nd rfl (by first | exact Or.inl rfl | exact Or.inr rfl))
    (pss_cons (ps_set (i := 6) nd rfl (by first | exact Or.inl rfl | exact Or.inr rfl) (pe_sindex (pv 0) (pv 5)))
      (pss_one (ps_expr (pe_bm PySem.F.plainAttrs_list PySem.F.slot_list_append PySem.F.type_list_append mt_append (pv 4) (pa_cons (pe_op op_cat (pe_lc (own := [("state", 7)]) (tt := tYes) (g := gName 7) rfl nd (piL K (pe_ix (ixL K) (pv 4) (pe_un un_neg pe_int) (fun _ _ => rfl))) (blkOk_by (by kernel_rfl)) (fun _ _ _ _ _ => (pg_name (i := 7) nd rfl (by first | exact Or.inl rfl | exact Or.inr rfl))) (fun _ _ _ _ _ => pts_nil) (fun _ _ _ _ _ => (pe_ix (ixL K) (pe_ix (ixL K) (pv 3) (pv 7) (fun _ _ => rfl)) (pv 6) (fun _ _ => rfl)))) (pe_lst (pa_cons pe_int pa_nil))) pa_nil))))))
    (pss_one (ps_ret (pv 4)))))), ?_⟩
  refine ⟨.ref a, rfl, a, _, 0, .ref tb, rfl, rfl, SqT.of (ok.same _ _ ea), atI_nat (j := 0) rfl, ?_⟩
  refine ⟨by show 1 ≤ sizeLine; decide, fun p0 n0 => ?_⟩
  have z0 := ok.fz.new (o := .lst [.int 0]) n0
  have e0 : upd G p0 (.lst [.int 0]) p0 = some (.lst [.int 0]) := upd_same
  refine ⟨by show 1 ≤ sizeLine; decide, fun D nD => ?_⟩
  have nD0 := z0.step.free nD
  have z1 := z0.loc (o := .lst [.ref p0]) nD
  have gD := free_of z0.same nD
  refine ⟨_, rfl, _, rfl, ?_⟩
  refine for_it (walkS (l := t)) (fun i σ H1 => ∃ (G1 : Hp) (xs : List V) (y5 y6 : Option V), σ = [some (.str (strOf l)), some (.ref a), some (.str (strOf t)), some (.ref tb), some (.ref D), y5, y6, none] ∧ Fz NoS H G H1 G1 ∧ G1 D = none ∧ H1 D = some (.lst xs) ∧ DqAll G1 xs ((rowsSL l m t (i + 1)).map DI))
    ⟨_, _, none, none, rfl, z1, gD, upd_same, .cons (.lst e0 (.cons (by show Dq _ (.int 0) (.int ((stA l m t 0 0 : Nat) : Int)); rw [stA_zero]; exact .int 0) .nil)) .nil⟩ (fun _ _ _ _ _ => trivial) (fun i x σ H1 H1' hi hP hy => ?_) (fun σ H1 hP => ?_)
  · obtain ⟨rfl, hcx⟩ := hy
    obtain ⟨G1, xs, y5, y6, rfl, z, gD, hD, dx⟩ := hP
    obtain ⟨c, hc, rfl⟩ := sgnI_at hcx
    have cl := ht c (List.mem_of_getElem? hc)
    obtain ⟨rest, ho⟩ := sign_at cl
    have hi' : i < t.length := by rw [lenS] at hi; exact hi
    have lxs : xs.length ≤ 300 := by
      have := dps_len dx
      rw [List.length_map] at this
      unfold rowsSL at this
      rw [List.length_map, List.length_range] at this
      omega
    have dx0 := dx
    rw [rowsSL_succ, List.map_append] at dx
    obtain ⟨ys, w, rfl, dys, dw⟩ := dps_snoc_inv (ds := (rowsSL l m t i).map DI) (d := DI ((SL l m t i).map fun s => ((s : Nat) : Int))) dx
    obtain ⟨wa, rfl, ew⟩ := dI dw
    refine ⟨_, rfl, ⟨_, rfl⟩, _, rfl, _, _, _, rest, rfl, rfl, ho, ?_⟩
    refine ⟨.ref D, rfl, .inl ⟨rfl, _, SqL.of hD⟩, .ref D, rfl, _, rfl, D, _, _, .ref wa, rfl, rfl, SqL.of hD, atI_last _ _, wa, rfl, ⟨_, SqL.of (z.same _ _ ew)⟩, fun Dc nc => ?_⟩
    have lsl : (((SL l m t i).map fun s => ((s : Nat) : Int)).map V.int).length = i + 1 := by rw [List.length_map, List.length_map, SL_len]
    have wc : wa ≠ Dc := ne_of_none (z.same _ _ ew) nc
    have eb1 := z.same _ _ (z.up _ _ eb)
    refine lc_map (walk_list (xs := ((SL l m t i).map fun s => ((s : Nat) : Int)).map V.int)) (fun x => match x with | .int s => .int ((step1 l m s.toNat c : Nat)) | _ => .non) (fun _ => true) (by rw [lsl]; omega) (fun acc => SqL.of (by rw [upd_ne wc]; exact z.same _ _ ew)) (fun j x acc N hx2 fin _ => ?_) ?_
    · obtain ⟨n, hn, rfl⟩ := intsAt hx2
      rw [List.getElem?_map] at hn
      obtain ⟨s, hs, rfl⟩ := Option.map_eq_some_iff.mp hn
      have slt := SL_lt mo ht s (List.mem_of_getElem? hs)
      obtain ⟨r, hr, hrc, _⟩ := step1_ok mo slt cl
      obtain ⟨rb, e1, e2⟩ := dT_row hx hr
      have er := z.same _ _ (z.up _ _ e2)
      refine ⟨rfl, ?_⟩
      exact ⟨.ref tb, rfl, _, rfl, tb, _, _, .ref rb, rfl, rfl, SqL.of (by rw [upd_ne (ne_of_none eb1 nc)]; exact eb1), atI_nat e1, _, rfl, rb, _, _, _, rfl, rfl, SqL.of (by rw [upd_ne (ne_of_none er nc)]; exact er), atI_nat (getI hrc), fin rfl⟩
    have em : ((((SL l m t i).map fun s => ((s : Nat) : Int)).map V.int).filter fun _ => true).map (fun x => match x with | .int s => V.int ((step1 l m s.toNat c : Nat)) | _ => V.non) = ((SL l m t i).map fun s => ((step1 l m s c : Nat) : Int)).map V.int := by
      rw [filter_all, List.map_map, List.map_map, List.map_map]; rfl
    rw [em]
    have zc := z.loc (o := .lst (((SL l m t i).map fun s => ((step1 l m s c : Nat) : Int)).map V.int)) nc
    have dD : D ≠ Dc := ne_of_none hD nc
    refine ⟨by show 1 ≤ sizeLine; decide, fun pq nq => ?_⟩
    have cq : Dc ≠ pq := ne_of_none upd_same nq
    have zq := zc.loc (o := .lst [.int 0]) nq
    have hDq : upd (upd H1' Dc (.lst (((SL l m t i).map fun s => ((step1 l m s c : Nat) : Int)).map V.int))) pq (.lst [.int 0]) D = some (.lst (ys ++ [.ref wa])) := by
      rw [upd_ne (ne_of_none (by rw [upd_ne dD]; exact hD) nq), upd_ne dD]; exact hD
    refine ⟨Dc, pq, _, _, rfl, rfl, by rw [upd_ne cq]; exact upd_same, upd_same, sz (by rw [List.length_map, List.length_map, SL_len]; show i + 1 + 1 ≤ _; omega), fun pn npn => ?_⟩
    have er : (((SL l m t i).map fun s => ((step1 l m s c : Nat) : Int)).map V.int) ++ [V.int 0] = ((SL l m t (i + 1)).map fun s => ((s : Nat) : Int)).map V.int := by
      rw [SL_succ hc, List.map_append, List.map_append, List.map_map, List.map_map, List.map_map]; rfl
    rw [er]
    generalize upd (upd H1' Dc _) pq (.lst [.int 0]) = H2 at zq hDq npn ⊢
    have zn := zq.new (o := .lst (((SL l m t (i + 1)).map fun s => ((s : Nat) : Int)).map V.int)) npn
    have dn : D ≠ pn := ne_of_none hDq npn
    refine ⟨D, _, _, rfl, rfl, by rw [upd_ne dn]; exact hDq, szl (by omega), ?_⟩
    refine ⟨_, _, _, _, rfl, zn.put nD0 (by rw [upd_ne dn]; exact gD) (fun z => z), by rw [upd_ne dn]; exact gD, upd_same, ?_⟩
    rw [rowsSL_succ, List.map_append]
    exact dps_snoc (dps_up dx0 (same_sub (free_of zq.same npn))) (Idp upd_same)
  · obtain ⟨G1, xs, y5, y6, rfl, z, gD, hD, dx⟩ := hP
    rw [lenS] at dx
    exact ⟨_, rfl, q H1 _ _ (z.fix nD0 hD (fun z => z)) (.lst upd_same (dps_up dx (same_sub gD)))⟩
theorem sc_all_places : FnScope ["letters", "machine", "text", "ends", "found", "end", "states", "begin", "state"] ["letters", "machine", "text"] (defScope s_all_places) := ⟨rfl, rfl, rfl, by decide +kernel, rfl, by decide +kernel, by decide +kernel⟩
theorem ok_all_places {f : Addr} {fd : FuncData} (F : Fun K "all_places" "all_places" s_all_places f fd) (T : Bt mg) (Dstepped : DefG P w K mg base CX0 1 "stepped" ["letters", "machine", "text"] (spStepped)) : FnG P w K mg base CX0 2 f fd ["letters", "machine", "text"] (spAllPlaces) := by
  refine FnG.calm F sc_all_places (fun vs H Q E h => by first | (obtain ⟨_, rfl, _⟩ := h; rfl) | (obtain ⟨_, _, rfl, _⟩ := h; rfl) | (obtain ⟨_, _, _, rfl, _⟩ := h; rfl) | (obtain ⟨_, _, _, _, rfl, _⟩ := h; rfl) | (obtain ⟨_, _, _, _, _, rfl, _⟩ := h; rfl) | (obtain ⟨_, _, _, _, _, _, rfl, _⟩ := h; rfl) | (obtain ⟨_, _, _, _, _, _, _, rfl, _⟩ := h; rfl) | (obtain ⟨_, _, _, _, _, _, _, _, rfl, _⟩ := h; rfl)) (fun cd A out z H vs Q E hg hr h => ?_)
  have nd := sc_all_places.nd
  obtain ⟨l, t, v, m, G, rfl, IL, ok, dm, mo, ⟨tl, ht⟩, q⟩ := h
  obtain ⟨a, x, y, rfl, ea, dt, de⟩ := dM dm
  obtain ⟨eb2, rfl, ee⟩ := dB de
  refine ⟨_, (pss_cons (ps_set (i := 3) nd rfl (by first | exact Or.inl rfl | exact Or.inr rfl) (pe_ix (ixT K) (pv 1) pe_int (fun _ _ => rfl)))
    (pss_cons (ps_set (i := 4) nd rfl (by first | exact Or.inl rfl | exact Or.inr rfl) (pe_lst pa_nil))
    (pss_cons (ps_for PassesOwn.never rfl (piEnum K (by rfl) T.m_enumerate (pa_cons (pe_fn Dstepped hg (hr.mono (by decide)) (pa_cons (pv 0) (pa_cons (pv 1) (pa_cons (pv 2) pa_nil)))) pa_nil)) (gT K (n := 2) rfl (pgs_cons (pg_name (i := 5) nd rfl (by first | exact Or.inl rfl | exact Or.inr rfl)) (pgs_cons (pg_name (i := 6) nd rfl (by first | exact Or.inl rfl | exact Or.inr rfl)) pgs_nil)))
    (pss_one (ps_expr (pe_bm PySem.F.plainAttrs_list PySem.F.slot_list_extend PySem.F.type_list_extend mt_extend (pv 4) (pa_cons (pe_lc (own := [("begin", 7), ("state", 8)]) (g := (gTup K 2 (gCons (gName 7) (gCons (gName 8) gNil)))) rfl nd (piEnum K (by rfl) T.m_enumerate (pa_cons (pv 6) pa_nil)) (blkOk_by (by kernel_rfl)) (fun _ _ _ _ _ => (gT K (n := 2) rfl (pgs_cons (pg_name (i := 7) nd rfl (by first | exact Or.inl rfl | exact Or.inr rfl)) (pgs_cons (pg_name (i := 8) nd rfl (by first | exact Or.inl rfl | exact Or.inr rfl)) pgs_nil)))) (fun _ _ _ _ _ => pts_one (pt_val (pe_ix (ixL K) (pv 3) (pv 8) (fun _ _ => rfl)))) (fun _ _ _ _ _ => (pe_tup (pa_cons (pv 7) (pa_cons (pv 5) pa_nil))))) pa_nil)))))
    (pss_one (ps_ret (pv 4)))))), ?_⟩
  refine ⟨.ref a, rfl, a, _, 1, .ref eb2, rfl, rfl, SqT.of (ok.same _ _ ea), atI_nat (j := 1) rfl, ?_⟩
  refine ⟨Nat.zero_le _, fun D nD => ?_⟩
  have z1 := ok.fz.loc (o := .lst []) nD
  have gD := free_of ok.same nD
  have hD1 : upd H D (.lst []) D = some (.lst []) := upd_same
  generalize upd H D (.lst []) = H1 at z1 hD1
  refine ⟨_, rfl, .ref a, rfl, _, rfl, l, t, .ref a, m, G, rfl, IL, z1.ok, dm, mo, ⟨tl, ht⟩, fun H2 G2 r z2 dr => ?_⟩
  have hD2 := z2.step.own_stays (fun z => z) hD1
  have gD2 := z2.grow.out gD hD1
  have z2 := z1.trans z2
  obtain ⟨ra, rxs, rfl, era, drx⟩ := dp_list dr
  have lrx : rxs.length = t.length + 1 := by rw [dps_len drx, List.length_map]; unfold rowsSL; rw [List.length_map, List.length_range]
  refine ⟨ra, rxs, rfl, SqL.of (z2.same _ _ era), ?_⟩
  refine for_it (walk_enum (xs := rxs)) (fun i σ H3 => ∃ (G3 : Hp) (xs : List V) (y5 y6 : Option V), σ = [some (.str (strOf l)), some (.ref a), some (.str (strOf t)), some (.ref eb2), some (.ref D), y5, y6, none, none] ∧ Fz NoS H G H3 G3 ∧ Same G2 G3 ∧ G3 D = none ∧ H3 D = some (.lst xs) ∧ DqAll G3 xs ((plU l m t i).map fun p => .tuple [.int (p.1 : Nat), .int (p.2 : Nat)]))
    ⟨G2, [], none, none, rfl, z2, Same.refl _, gD2, hD2, .nil⟩ (fun i σ H3 _ hP => ?_) (fun i x σ H3 H3' hi hP hy => ?_) (fun σ H3 hP => ?_)
  · obtain ⟨G3, xs, y5, y6, rfl, z, s3, _⟩ := hP
    exact SqL.of (z.same _ _ (s3 _ _ era))
  · obtain ⟨T, xi, x, rfl, nT, rfl, hxi, hx⟩ := hy
    cases Option.some.inj hxi
    obtain ⟨G3, xs, y5, y6, rfl, z, s3, gD3, hD3, dx⟩ := hP
    rw [lrx] at hi
    obtain ⟨d, hd, dd⟩ := dps_get' drx hx
    have hd2 : d = DI ((SL l m t i).map fun s => ((s : Nat) : Int)) := by
      unfold rowsSL at hd
      rw [List.getElem?_map, List.getElem?_map, List.getElem?_range hi] at hd
      exact (Option.some.inj hd).symm
    subst hd2
    obtain ⟨ri, rfl, eri⟩ := dI dd
    have zT := z.loc (o := .tup [.int (i : Nat), .ref ri]) nT
    have hDT : upd H3 T (.tup [.int (i : Nat), .ref ri]) D = some (.lst xs) := by rw [upd_ne (ne_of_none hD3 nT)]; exact hD3
    refine ⟨T, _, rfl, SqT.of upd_same, rfl, _, _, rfl, _, _, rfl, rfl, ?_⟩
    generalize upd H3 T (.tup [.int (i : Nat), .ref ri]) = H4 at zT hDT
    have eri4 := zT.same _ _ (s3 _ _ eri)
    refine ⟨.ref D, rfl, .inl ⟨rfl, _, SqL.of hDT⟩, .ref ri, rfl, ri, _, rfl, SqL.of eri4, fun Dc nc => ?_⟩
    have gc : G3 Dc = none := free_of zT.same nc
    have lsl : (((SL l m t i).map fun s => ((s : Nat) : Int)).map V.int).length = i + 1 := by rw [List.length_map, List.length_map, SL_len]
    refine lc_it (walk_enum (xs := ((SL l m t i).map fun s => ((s : Nat) : Int)).map V.int)) (fun j H5 => ∃ (G5 : Hp) (acc : List V), Fz NoS H4 G3 H5 G5 ∧ G5 Dc = none ∧ H5 Dc = some (.lst acc) ∧ DqAll G5 acc ((((List.range j).filter fun b => isEnd m (stA l m t b (i - b))).map fun b => (b, i)).map fun p => .tuple [.int (p.1 : Nat), .int (p.2 : Nat)]))
      ⟨G3, [], zT.ok.fz.loc nc, gc, upd_same, .nil⟩ (fun j H5 _ hP => ?_) (fun j x H5 H5' hj hP hy => ?_) (fun H5 hP => ?_)
    · obtain ⟨G5, acc, z5, _⟩ := hP
      exact SqL.of (z5.same _ _ (z5.up _ _ (s3 _ _ eri)))
    · obtain ⟨T2, xj, xs2, rfl, nT2, rfl, hxj, hxs⟩ := hy
      cases Option.some.inj hxj
      obtain ⟨G5, acc, z5, g5, h5, d5⟩ := hP
      rw [lsl] at hj
      obtain ⟨n, hn, rfl⟩ := intsAt hxs
      rw [List.getElem?_map, SL_at (show j ≤ i by omega)] at hn
      have hn' := (Option.some.inj hn).symm
      subst hn'
      have z6 := z5.loc (o := .tup [.int (j : Nat), .int ((stA l m t j (i - j) : Nat) : Int)]) nT2
      have h6 : upd H5 T2 (.tup [.int (j : Nat), .int ((stA l m t j (i - j) : Nat) : Int)]) Dc = some (.lst acc) := by rw [upd_ne (ne_of_none h5 nT2)]; exact h5
      refine ⟨T2, _, rfl, SqT.of upd_same, rfl, _, _, rfl, _, _, rfl, rfl, rfl, ?_⟩
      generalize upd H5 T2 (.tup [.int (j : Nat), .int ((stA l m t j (i - j) : Nat) : Int)]) = H6 at z6 h6
      have slt := stA_lt mo ht (b := j) (k := i - j)
      obtain ⟨e, he⟩ := mo.at_end (s := ((stA l m t j (i - j) : Nat) : Int)) (by omega) (by omega)
      have he' : m.ends[stA l m t j (i - j)]? = some e := he
      have lacc : acc.length ≤ 300 := by
        have := dps_len d5
        rw [List.length_map, List.length_map] at this
        have h2 := List.length_filter_le (fun b => isEnd m (stA l m t b (i - b))) (List.range j)
        rw [List.length_range] at h2
        omega
      have ee6 := z6.same _ _ (z6.up _ _ (s3 _ _ (z2.up _ _ ee)))
      refine ⟨.ref eb2, rfl, _, rfl, eb2, _, _, .bl e, rfl, rfl, SqL.of ee6, atI_nat (getB he'), e, rfl, ite2 (fun h => ?_) (fun h => ?_)⟩
      · refine ⟨_, rfl, _, rfl, by show 2 ≤ sizeLine; decide, fun tp nt => ?_⟩
        have z7 := z6.new (o := .tup [.int (j : Nat), .int (i : Nat)]) nt
        have ct : Dc ≠ tp := ne_of_none h6 nt
        refine ⟨acc, by rw [upd_ne ct]; exact h6, szl (by omega), _, acc ++ [.ref tp], z7.put nc (by rw [upd_ne ct]; exact g5) (fun z => z), by rw [upd_ne ct]; exact g5, upd_same, ?_⟩
        rw [List.range_succ, List.filter_append, List.filter_cons, if_pos (show isEnd m (stA l m t j (i - j)) = true by rw [isEnd_at he']; exact h), List.filter_nil, List.map_append, List.map_append]
        exact dps_snoc (dps_up d5 (same_sub (free_of z6.same nt))) (.tup upd_same (.cons (.int _) (.cons (.int _) .nil)))
      · refine ⟨G5, acc, z6, g5, h6, ?_⟩
        rw [List.range_succ, List.filter_append, List.filter_cons, if_neg (show ¬ isEnd m (stA l m t j (i - j)) = true by rw [isEnd_at he']; exact h), List.filter_nil, List.append_nil]
        exact d5
    · obtain ⟨G5, acc, z5, g5, h5, d5⟩ := hP
      rw [lsl] at d5
      have hD5 := z5.step.own_stays (fun z => z) hDT
      have gD5 := z5.grow.out gD3 hDT
      have lxs : xs.length = (plU l m t i).length := by rw [dps_len dx, List.length_map]
      have lacc : acc.length = (plE l m t i).length := by rw [dps_len d5, List.length_map]; rfl
      have hsum : xs.length + acc.length ≤ 100000 := by
        have h1 := plU_len (l := l) (m := m) (t := t) i
        rw [plU_succ, List.length_append] at h1
        have h2 := cU_le (l := l) (m := m) (t := t) i
        have h3 : (i + 1) * (i + 1) ≤ 201 * 201 := Nat.mul_le_mul (by omega) (by omega)
        omega
      refine ⟨D, Dc, xs, acc, rfl, rfl, hD5, h5, sz hsum, ?_⟩
      refine ⟨G5, _, _, _, rfl, (zT.trans z5).put nD gD5 (fun z => z), s3.trans z5.up, gD5, upd_same, ?_⟩
      rw [plU_succ, List.map_append]
      exact dps_app (dps_up dx z5.up) d5
  · obtain ⟨G3, xs, y5, y6, rfl, z, s3, gD3, hD3, dx⟩ := hP
    rw [lrx] at dx
    exact ⟨_, rfl, q H3 _ _ xs z nD gD3 hD3 dx⟩
theorem sc_count_places : FnScope ["letters", "machine", "text", "table", "ends", "counts", "many", "sign", "place", "behind", "state", "count", "target"] ["letters", "machine", "text"] (defScope s_count_places) := ⟨rfl, rfl, rfl, by decide +kernel, rfl, by decide +kernel, by decide +kernel⟩
-- pre
/-- the counts stand in a dict -/
structure CI (l : List Nat) (m : Mach) (t : List Nat) (e : Nat) (ns : Cs) : Prop where
  nd : (ns.map Prod.fst).Nodup
  lt : ∀ p ∈ ns, p.1 < m.tab.length
  len : ns.length ≤ e + 1
  sum : ∀ f, wN f ns = wS f (SL l m t e)
/-- the next ones, so far -/
structure CJ (l : List Nat) (m : Mach) (c : Nat) (ns : Cs) (j : Nat) (ms : Cs) : Prop where
  nd : (ms.map Prod.fst).Nodup
  lt : ∀ p ∈ ms, p.1 < m.tab.length
  len : ms.length ≤ j + 1
  sum : ∀ f, wN f ms = f 0 + wN (fun s => f (step1 l m s c)) (ns.take j)
theorem CJ.zero {l : List Nat} {m : Mach} {c : Nat} {ns : Cs} (h : 1 ≤ m.tab.length) : CJ l m c ns 0 [(0, 1)] :=
  ⟨List.nodup_cons.mpr ⟨List.not_mem_nil, List.nodup_nil⟩, fun p hp => by rw [List.mem_singleton.mp hp]; exact h, Nat.le_refl _, fun f => by
    show 1 * f 0 + 0 = f 0 + 0
    rw [Int.one_mul]⟩
theorem CI.zero {l : List Nat} {m : Mach} {t : List Nat} (h : 1 ≤ m.tab.length) : CI l m t 0 [(0, 1)] :=
  ⟨List.nodup_cons.mpr ⟨List.not_mem_nil, List.nodup_nil⟩, fun p hp => by rw [List.mem_singleton.mp hp]; exact h, Nat.le_refl _, fun f => by
    rw [SL_zero]
    show 1 * f 0 + 0 = f 0 + 0
    rw [Int.one_mul]⟩
theorem CJ.step {l : List Nat} {m : Mach} {c : Nat} {ns ms : Cs} {j : Nat} {p : Nat × Int} (h : CJ l m c ns j ms) (hp : ns[j]? = some p) (hl : step1 l m p.1 c < m.tab.length) : CJ l m c ns (j + 1) (putN ms (step1 l m p.1 c) (getN ms (step1 l m p.1 c) + p.2)) :=
  ⟨nodup_put h.nd, fun x hx => by
    rcases mem_put (List.mem_map.mpr ⟨x, hx, rfl⟩) with e | e
    · rw [e]; exact hl
    · obtain ⟨y, hy, e⟩ := List.mem_map.mp e
      rw [← e]; exact h.lt y hy, by have := h.len; have := len_put (ns := ms) (k := step1 l m p.1 c) (v := getN ms (step1 l m p.1 c) + p.2); omega, fun f => by
    rw [wN_put, h.sum, wN_take hp]; omega⟩
theorem CJ.fin {l : List Nat} {m : Mach} {t : List Nat} {c e : Nat} {ns ms : Cs} (h : CJ l m c ns ns.length ms) (i : CI l m t e ns) (hc : t[e]? = some c) : CI l m t (e + 1) ms :=
  ⟨h.nd, h.lt, by have := h.len; have := i.len; omega, fun f => by
    rw [h.sum, List.take_length, i.sum, wS_succ hc]⟩
theorem dK_at {ns : Cs} {i : Nat} : (dK ns)[i]?.map (fun kv => kV kv.1) = ns[i]?.map (fun p => V.int (p.1 : Int)) ∧ (dK ns)[i]?.map Prod.snd = ns[i]?.map (fun p => V.int p.2) := by
  unfold dK
  rw [List.getElem?_map]
  cases ns[i]? with
  | none => exact ⟨rfl, rfl⟩
  | some p => exact ⟨rfl, rfl⟩
theorem ok_count_places {f : Addr} {fd : FuncData} (F : Fun K "count_places" "count_places" s_count_places f fd) (T : Bt mg)  : FnG P w K mg base CX0 1 f fd ["letters", "machine", "text"] (spCountP) := by
  refine FnG.calm F sc_count_places (fun vs H Q E h => by first | (obtain ⟨_, rfl, _⟩ := h; rfl) | (obtain ⟨_, _, rfl, _⟩ := h; rfl) | (obtain ⟨_, _, _, rfl, _⟩ := h; rfl) | (obtain ⟨_, _, _, _, rfl, _⟩ := h; rfl) | (obtain ⟨_, _, _, _, _, rfl, _⟩ := h; rfl) | (obtain ⟨_, _, _, _, _, _, rfl, _⟩ := h; rfl) | (obtain ⟨_, _, _, _, _, _, _, rfl, _⟩ := h; rfl) | (obtain ⟨_, _, _, _, _, _, _, _, rfl, _⟩ := h; rfl)) (fun cd A out z H vs Q E hg hr h => ?_)
  have nd := sc_count_places.nd
  obtain ⟨l, t, v, m, G, rfl, IL, ok, dm, mo, ⟨tl, ht⟩, q⟩ := h
  obtain ⟨a, x, y, rfl, ea, dt, de⟩ := dM dm
  obtain ⟨tb, txs, rfl, eb, hx⟩ := dp_list dt
  obtain ⟨eb2, rfl, ee⟩ := dB de
  have n1 := mo.pos
  obtain ⟨e0, he0⟩ := mo.at_end (s := 0) (by omega) (by omega)
  have he0' : m.ends[0]? = some e0 := he0
  refine ⟨_, (pss_cons (ps_asg (pv 1) (gT K (n := 2) rfl (pgs_cons (pg_name (i := 3) nd rfl (by first | exact Or.inl rfl | exact Or.inr rfl)) (pgs_cons (pg_name (i := 4) nd rfl (by first | exact Or.inl rfl | exact Or.inr rfl)) pgs_nil))))
    (pss_cons (ps_set (i := 5) nd rfl (by first | exact Or.inl rfl | exact Or.inr rfl) (pe_disp (pps_cons pe_int pe_int pps_nil) rfl rfl (fun z => nomatch z) (Nat.le_of_ble_eq_true rfl)))
    (pss_cons (ps_set (i := 6) nd rfl (by first | exact Or.inl rfl | exact Or.inr rfl) (pe_callTy call_int1 (by rfl) T.m_int (by decide +kernel) (pa_cons (pe_ix (ixL K) (pv 4) pe_int (fun _ _ => rfl)) pa_nil)))
    (pss_cons (ps_for PassesOwn.never rfl (pi_str (pv 2)) (pg_name (i := 7) nd rfl (by first | exact Or.inl rfl | exact Or.inr rfl))
    (pss_cons (ps_set (i := 8) nd rfl (by first | exact Or.inl rfl | exact Or.inr rfl) (pe_sindex (pv 0) (pv 7)))
      (pss_cons (ps_set (i := 9) nd rfl (by first | exact Or.inl rfl | exact Or.inr rfl) (pe_disp (pps_cons pe_int pe_int pps_nil) rfl rfl (fun z => nomatch z) (Nat.le_of_ble_eq_true rfl)))
      (pss_cons (ps_lock (ps_for PassesOwn.never rfl (pi_items (pv 5)) (gT K (n := 2) rfl (pgs_cons (pg_name (i := 10) nd rfl (by first | exact Or.inl rfl | exact Or.inr rfl)) (pgs_cons (pg_name (i := 11) nd rfl (by first | exact Or.inl rfl | exact Or.inr rfl)) pgs_nil)))
      (pss_cons (ps_set (i := 12) nd rfl (by first | exact Or.inl rfl | exact Or.inr rfl) (pe_ix (ixL K) (pe_ix (ixL K) (pv 3) (pv 10) (fun _ _ => rfl)) (pv 8) (fun _ _ => rfl)))
        (pss_one (ps_asg (pe_op op_add (pe_dget2 (hu1 hr.units) (pv 9) (pv 12) pe_int ⟨rfl, rfl, rfl, rfl⟩) (pv 11)) (pg_sub (pv 9) (pv 12) (set_dict (hu1 hr.units))))))))
      (pss_cons (ps_set (i := 5) nd rfl (by first | exact Or.inl rfl | exact Or.inr rfl) (pv 9))
      (pss_one (ps_aug (i := 6) nd rfl (by first | exact Or.inl rfl | exact Or.inr rfl) (pe_callB (sumQ K rfl) (by rfl) T.m_sum (by decide +kernel) (pa_cons (pe_lock (pe_lc (own := [("state", 10), ("count", 11)]) (g := (gTup K 2 (gCons (gName 10) (gCons (gName 11) gNil)))) rfl nd (pi_items (pv 5)) (blkOk_by (by kernel_rfl)) (fun _ _ _ _ _ => (gT K (n := 2) rfl (pgs_cons (pg_name (i := 10) nd rfl (by first | exact Or.inl rfl | exact Or.inr rfl)) (pgs_cons (pg_name (i := 11) nd rfl (by first | exact Or.inl rfl | exact Or.inr rfl)) pgs_nil)))) (fun _ _ _ _ _ => pts_one (pt_val (pe_ix (ixL K) (pv 4) (pv 10) (fun _ _ => rfl)))) (fun _ _ _ _ _ => (pv 11)))) pa_nil)) ip_add)))))))
    (pss_one (ps_ret (pv 6))))))), ?_⟩
  refine ⟨.ref a, rfl, a, _, rfl, SqT.of (ok.same _ _ ea), rfl, _, _, rfl, _, _, rfl, rfl, ?_⟩
  refine fun d0 nd0 => ⟨upd_same, [(.inl 0, .int 1)], rfl, by show 1 ≤ 15; decide, ?_⟩
  rw [upd_upd]
  have z0 := ok.fz.loc (o := .dK (mergeK [] [(.inl 0, .int 1)])) nd0
  refine ⟨.ref eb2, rfl, eb2, _, 0, .bl e0, rfl, rfl, SqL.of (z0.same _ _ ee), atI_nat (j := 0) (getB he0'), .inr ⟨e0, rfl, ?_⟩⟩
  have hd0 : upd H d0 (.dK (mergeK [] [(.inl 0, .int 1)])) d0 = some (.dK (dK [(0, 1)])) := upd_same
  generalize upd H d0 (.dK (mergeK [] [(.inl 0, .int 1)])) = H1 at z0 hd0
  have w0 : (if e0 = true then (1 : Int) else 0) = ((cU l m t 0 : Nat) : Int) := by
    rw [cU_zero, isEnd_at he0']; cases e0 <;> rfl
  rw [w0]
  refine ⟨_, rfl, _, rfl, ?_⟩
  refine for_it (walkS (l := t)) (fun i σ H1 => ∃ (dc : Addr) (ns : Cs) (y7 y8 y9 y10 y11 y12 : Option V), σ = [some (.str (strOf l)), some (.ref a), some (.str (strOf t)), some (.ref tb), some (.ref eb2), some (.ref dc), some (.int (cU l m t i : Nat)), y7, y8, y9, y10, y11, y12] ∧ Fz NoS H G H1 G ∧ H dc = none ∧ H1 dc = some (.dK (dK ns)) ∧ CI l m t i ns)
    ⟨d0, _, none, none, none, none, none, none, rfl, z0, nd0, hd0, CI.zero n1⟩ (fun _ _ _ _ _ => trivial) (fun i x σ H1 H1' hi hP hy => ?_) (fun σ H1 hP => ?_)
  · obtain ⟨rfl, hcx⟩ := hy
    obtain ⟨dc, ns, y7, y8, y9, y10, y11, y12, rfl, z, ndc, hdc, ci⟩ := hP
    obtain ⟨c, hc, rfl⟩ := sgnI_at hcx
    have cl := ht c (List.mem_of_getElem? hc)
    obtain ⟨rest, ho⟩ := sign_at cl
    have hi' : i < t.length := by rw [lenS] at hi; exact hi
    refine ⟨_, rfl, ⟨_, rfl⟩, _, rfl, _, _, _, rest, rfl, rfl, ho, ?_⟩
    refine fun db ndb => ⟨upd_same, [(.inl 0, .int 1)], rfl, by show 1 ≤ 15; decide, ?_⟩
    rw [upd_upd]
    have z1 := z.loc (o := .dK (mergeK [] [(.inl 0, .int 1)])) ndb
    have cb : dc ≠ db := ne_of_none hdc ndb
    have ndb0 := z.step.free ndb
    have hdb : upd H1' db (.dK (mergeK [] [(.inl 0, .int 1)])) db = some (.dK (dK [(0, 1)])) := upd_same
    have hdc1 : upd H1' db (.dK (mergeK [] [(.inl 0, .int 1)])) dc = some (.dK (dK ns)) := by rw [upd_ne cb]; exact hdc
    generalize upd H1' db (.dK (mergeK [] [(.inl 0, .int 1)])) = H2 at z1 hdb hdc1
    have gdc : G dc = none := free_of ok.same ndc
    have gdb : G db = none := free_of ok.same ndb0
    refine ⟨dc, _, hdc1, True.intro, fun od => ?_⟩
    have z2 := z1.put (o := .frz od (.dK (dK ns))) ndc gdc (fun z => z)
    refine ⟨.ref dc, rfl, dc, od, _, rfl, upd_same, ?_⟩
    have lns : (dK ns).length = ns.length := List.length_map ..
    refine for_it (walk_items (kvs := dK ns)) (fun j σ H5 => ∃ (ms : Cs) (y10 y11 y12 : Option V), σ = [some (.str (strOf l)), some (.ref a), some (.str (strOf t)), some (.ref tb), some (.ref eb2), some (.ref dc), some (.int (cU l m t i : Nat)), some (.str (strOf [c])), some (.int (l.idxOf c : Nat)), some (.ref db), y10, y11, y12] ∧ Fz NoS H G H5 G ∧ H5 dc = some (.frz od (.dK (dK ns))) ∧ H5 db = some (.dK (dK ms)) ∧ CJ l m c ns j ms)
      ⟨_, y10, y11, y12, rfl, z2, upd_same, by rw [upd_ne cb.symm]; exact hdb, CJ.zero n1⟩ (fun j σ H5 _ hP => ?_) (fun j x σ H5 H5' hj hP hy => ?_) (fun σ H5 hP => ?_)
    · obtain ⟨ms, y10, y11, y12, rfl, z5, h5, _⟩ := hP
      exact h5
    · obtain ⟨T, xk, xv, rfl, nT, rfl, hk, hv⟩ := hy
      obtain ⟨ms, y10, y11, y12, rfl, z5, hdc5, hdb5, cj⟩ := hP
      rw [lns] at hj
      obtain ⟨p, hp⟩ : ∃ p, ns[j]? = some p := ⟨_, List.getElem?_eq_getElem hj⟩
      have hk' := dK_at.1.symm.trans hk
      have hv' := dK_at.2.symm.trans hv
      rw [hp] at hk' hv'
      cases Option.some.inj hk'
      cases Option.some.inj hv'
      have z6 := z5.loc (o := .tup [.int (p.1 : Int), .int p.2]) nT
      have hdc6 : upd H5 T (.tup [.int (p.1 : Int), .int p.2]) dc = some (.frz od (.dK (dK ns))) := by rw [upd_ne (ne_of_none hdc5 nT)]; exact hdc5
      have hdb6 : upd H5 T (.tup [.int (p.1 : Int), .int p.2]) db = some (.dK (dK ms)) := by rw [upd_ne (ne_of_none hdb5 nT)]; exact hdb5
      refine ⟨T, _, rfl, SqT.of upd_same, rfl, _, _, rfl, _, _, rfl, rfl, ?_⟩
      generalize upd H5 T (.tup [.int (p.1 : Int), .int p.2]) = H6 at z6 hdc6 hdb6
      have slt := ci.lt p (List.mem_of_getElem? hp)
      obtain ⟨r, hr, hrc, hl⟩ := step1_ok mo slt cl
      obtain ⟨rb, e1, e2⟩ := dT_row hx hr
      refine ⟨.ref tb, rfl, _, rfl, tb, _, _, .ref rb, rfl, rfl, SqL.of (z6.same _ _ eb), atI_nat e1, _, rfl, rb, _, _, _, rfl, rfl, SqL.of (z6.same _ _ e2), atI_nat (getI hrc), ?_⟩
      refine ⟨.ref db, rfl, db, rfl, .inl ⟨dK ms, .inl hdb6⟩, _, rfl, _, DGet.k hdb6 (k := .inl ((step1 l m p.1 c : Nat) : Int)), ?_⟩
      rw [valV_dK]
      refine ⟨_, rfl, _, _, rfl, rfl, .ref db, rfl, _, rfl, db, _, rfl, DPut.k hdb6 (k := .inl ((step1 l m p.1 c : Nat) : Int)) (szl (by have := cj.len; have := ci.len; unfold dK; rw [List.length_map]; omega)), ?_⟩
      rw [putK_dK cj.nd]
      exact ⟨_, _, _, _, rfl, z6.put ndb0 gdb (fun z => z), by rw [upd_ne cb]; exact hdc6, upd_same, cj.step hp hl⟩
    · obtain ⟨ms, y10, y11, y12, rfl, z5, hdc5, hdb5, cj⟩ := hP
      rw [lns] at cj
      refine ⟨hdc5, ?_⟩
      have z6 := z5.put (o := .dK (dK ns)) ndc gdc (fun z => z)
      have hdb6 : upd H5 dc (.dK (dK ns)) db = some (.dK (dK ms)) := by rw [upd_ne cb.symm]; exact hdb5
      generalize upd H5 dc (.dK (dK ns)) = H6 at z6 hdb6
      have ci2 := cj.fin ci hc
      refine ⟨_, rfl, _, rfl, ?_⟩
      refine ⟨db, _, hdb6, True.intro, fun od2 => ⟨.ref db, rfl, db, od2, _, rfl, upd_same, fun Dc nc => ?_⟩⟩
      have z7 := z6.put (o := .frz od2 (.dK (dK ms))) ndb0 gdb (fun z => z)
      have hdb7 : upd H6 db (.frz od2 (.dK (dK ms))) db = some (.frz od2 (.dK (dK ms))) := upd_same
      generalize upd H6 db (.frz od2 (.dK (dK ms))) = H7 at z7 hdb7 nc
      have bc : db ≠ Dc := ne_of_none hdb7 nc
      have nc0 := z7.step.free nc
      have lms : (dK ms).length = ms.length := List.length_map ..
      refine lc_it (walk_items (kvs := dK ms)) (fun j H8 => Fz NoS H G H8 G ∧ H8 db = some (.frz od2 (.dK (dK ms))) ∧ H8 Dc = some (.lst ((((ms.take j).filter fun p => isEnd m p.1).map Prod.snd).map V.int)))
        ⟨z7.loc nc, by rw [upd_ne bc]; exact hdb7, upd_same⟩ (fun j H8 _ hP => hP.2.1) (fun j x H8 H8' hj hP hy => ?_) (fun H8 hP => ?_)
      · obtain ⟨T, xk, xv, rfl, nT, rfl, hk, hv⟩ := hy
        obtain ⟨z8, hdb8, hDc⟩ := hP
        rw [lms] at hj
        obtain ⟨p, hp⟩ : ∃ p, ms[j]? = some p := ⟨_, List.getElem?_eq_getElem hj⟩
        have hk' := dK_at.1.symm.trans hk
        have hv' := dK_at.2.symm.trans hv
        rw [hp] at hk' hv'
        cases Option.some.inj hk'
        cases Option.some.inj hv'
        have z9 := z8.loc (o := .tup [.int (p.1 : Int), .int p.2]) nT
        have hdb9 : upd H8 T (.tup [.int (p.1 : Int), .int p.2]) db = some (.frz od2 (.dK (dK ms))) := by rw [upd_ne (ne_of_none hdb8 nT)]; exact hdb8
        have hDc9 : upd H8 T (.tup [.int (p.1 : Int), .int p.2]) Dc = some (.lst ((((ms.take j).filter fun p => isEnd m p.1).map Prod.snd).map V.int)) := by rw [upd_ne (ne_of_none hDc nT)]; exact hDc
        refine ⟨T, _, rfl, SqT.of upd_same, rfl, _, _, rfl, _, _, rfl, rfl, rfl, ?_⟩
        generalize upd H8 T (.tup [.int (p.1 : Int), .int p.2]) = H9 at z9 hdb9 hDc9
        have slt := ci2.lt p (List.mem_of_getElem? hp)
        obtain ⟨e, he⟩ := mo.at_end (s := (p.1 : Int)) (by omega) (by omega)
        have he' : m.ends[p.1]? = some e := he
        have lacc : (((ms.take j).filter fun p => isEnd m p.1).map Prod.snd).length ≤ 6000 := by
          rw [List.length_map]
          have h1 := List.length_filter_le (fun p : Nat × Int => isEnd m p.1) (ms.take j)
          rw [List.length_take] at h1
          have := ci2.len
          omega
        refine ⟨.ref eb2, rfl, _, rfl, eb2, _, _, .bl e, rfl, rfl, SqL.of (z9.same _ _ ee), atI_nat (getB he'), e, rfl, ite2 (fun h => ?_) (fun h => ?_)⟩
        · refine ⟨_, rfl, _, hDc9, szl (by rw [List.length_map]; omega), z9.put nc0 (free_of ok.same nc0) (fun z => z), by rw [upd_ne bc]; exact hdb9, ?_⟩
          rw [upd_same, List.take_add_one, hp, List.filter_append, List.map_append, List.map_append]
          show _ = some (HO.lst (_ ++ ((List.filter (fun p => isEnd m p.1) [p]).map Prod.snd).map V.int))
          rw [List.filter_cons, if_pos (show isEnd m p.1 = true by rw [isEnd_at he']; exact h)]
          rfl
        · refine ⟨z9, hdb9, ?_⟩
          rw [hDc9, List.take_add_one, hp, List.filter_append, List.map_append, List.map_append]
          show _ = some (HO.lst (_ ++ ((List.filter (fun p => isEnd m p.1) [p]).map Prod.snd).map V.int))
          rw [List.filter_cons, if_neg (show ¬ isEnd m p.1 = true by rw [isEnd_at he']; exact h)]
          show _ = some (HO.lst (_ ++ []))
          rw [List.append_nil]
      · obtain ⟨z8, hdb8, hDc⟩ := hP
        rw [lms, List.take_length] at hDc
        refine ⟨hdb8, ?_⟩
        have z9 := z8.put (o := .dK (dK ms)) ndb0 gdb (fun z => z)
        have cD : Dc ≠ db := bc.symm
        refine ⟨Dc, _, rfl, SqL.of (by rw [upd_ne cD]; exact hDc), _, _, rfl, rfl, ?_⟩
        rw [wN_ends, ci2.sum, wS_count]
        refine ⟨db, ms, some (.str (strOf [c])), some (.int (l.idxOf c : Nat)), some (.ref db), y10, y11, y12, ?_, z9, ndb0, upd_same, ci2⟩
        rw [cU_succ, show ((cU l m t i + cE l m t (i + 1) : Nat) : Int) = (cU l m t i : Int) + ((SL l m t (i + 1)).countP (isEnd m) : Nat) by unfold cE; omega]
        rfl
  · obtain ⟨dc, ns, y7, y8, y9, y10, y11, y12, rfl, z, _⟩ := hP
    rw [lenS]
    exact ⟨_, rfl, q H1 z.step⟩
theorem sc_law_pool : FnScope ["script", "pool", "state", "k", "cell", "step", "one", "two"] ["script"] (defScope s_law_pool) := ⟨rfl, rfl, rfl, by decide +kernel, rfl, by decide +kernel, by decide +kernel⟩
theorem ok_law_pool {f : Addr} {fd : FuncData} (F : Fun K "_law_pool" "_law_pool" s_law_pool f fd) (T : Bt mg)  : FnG P w K mg base CX0 1 f fd ["script"] (spPool K) := by
  refine FnG.calm F sc_law_pool (fun vs H Q E h => by first | (obtain ⟨_, rfl, _⟩ := h; rfl) | (obtain ⟨_, _, rfl, _⟩ := h; rfl) | (obtain ⟨_, _, _, rfl, _⟩ := h; rfl) | (obtain ⟨_, _, _, _, rfl, _⟩ := h; rfl) | (obtain ⟨_, _, _, _, _, rfl, _⟩ := h; rfl) | (obtain ⟨_, _, _, _, _, _, rfl, _⟩ := h; rfl) | (obtain ⟨_, _, _, _, _, _, _, rfl, _⟩ := h; rfl) | (obtain ⟨_, _, _, _, _, _, _, _, rfl, _⟩ := h; rfl)) (fun cd A out z H vs Q E hg hr h => ?_)
  have nd := sc_law_pool.nd
  obtain ⟨a, ns, rfl, hS, hl, q⟩ := h
  refine ⟨_, (pss_cons (ps_set (i := 1) nd rfl (by first | exact Or.inl rfl | exact Or.inr rfl) (pe_lst pa_nil))
    (pss_cons (ps_set (i := 2) nd rfl (by first | exact Or.inl rfl | exact Or.inr rfl) pe_int)
    (pss_cons (ps_for PassesOwn.never rfl (pi_range1 (by rfl) T.m_range (pa_cons (pe_callB (call_min2 rfl) (by rfl) T.m_min (by decide +kernel) (pa_cons (pe_callB (lenQ K) (by rfl) T.m_len PySem.boot_len (pa_cons (pv 0) pa_nil)) (pa_cons pe_int pa_nil))) pa_nil)) (pg_name (i := 3) nd rfl (by first | exact Or.inl rfl | exact Or.inr rfl))
    (pss_cons (ps_set (i := 4) nd rfl (by first | exact Or.inl rfl | exact Or.inr rfl) (pe_ix (ixL K) (pv 0) (pv 3) (fun _ _ => rfl)))
      (pss_cons (ps_set (i := 2) nd rfl (by first | exact Or.inl rfl | exact Or.inr rfl) (pe_op op_mod (pe_callTy call_int1 (by rfl) T.m_int (by decide +kernel) (pa_cons (pe_op op_add (pe_op op_add (pe_op op_mul (pv 2) pe_int) (pe_op op_mul (pv 4) pe_int)) (pv 3)) pa_nil)) pe_int))
      (pss_one (ps_if (pt_cmpR op_ge (pv 4) (pe_op op_pow pe_int pe_int) (nomark _)) (pss_one (ps_for PassesOwn.never rfl (pi_range1 (by rfl) T.m_range (pa_cons pe_int pa_nil)) (pg_name (i := 5) nd rfl (by first | exact Or.inl rfl | exact Or.inr rfl))
        (pss_cons (ps_if (pt_cmpR op_eq (pv 4) pe_int (nomark _)) (pss_one ps_break) pss_nil)
          (pss_cons (ps_expr (pe_bm PySem.F.plainAttrs_list PySem.F.slot_list_append PySem.F.type_list_append mt_append (pv 1) (pa_cons (pe_op op_mod (pe_callTy call_int1 (by rfl) T.m_int (by decide +kernel) (pa_cons (pv 4) pa_nil)) pe_int) pa_nil)))
          (pss_one (ps_set (i := 4) nd rfl (by first | exact Or.inl rfl | exact Or.inr rfl) (pe_op op_fdiv (pv 4) pe_int))))))) (pss_cons (ps_set (i := 6) nd rfl (by first | exact Or.inl rfl | exact Or.inr rfl) (pe_op op_mod (pe_callTy call_int1 (by rfl) T.m_int (by decide +kernel) (pa_cons (pe_op op_add (pe_op op_add (pe_op op_mul (pv 4) pe_int) (pe_op op_mul (pv 3) pe_int)) pe_int) pa_nil)) pe_int))
        (pss_cons (ps_set (i := 7) nd rfl (by first | exact Or.inl rfl | exact Or.inr rfl) (pe_op op_mod (pe_callTy call_int1 (by rfl) T.m_int (by decide +kernel) (pa_cons (pe_op op_add (pe_op op_add (pe_op op_mul (pv 6) pe_int) (pe_op op_mul (pv 4) pe_int)) (pv 3)) pa_nil)) pe_int))
        (pss_one (ps_set (i := 1) nd rfl (by first | exact Or.inl rfl | exact Or.inr rfl) (pe_op op_cat (pv 1) (pe_lst (pa_cons (pe_op op_mod (pe_callTy call_int1 (by rfl) T.m_int (by decide +kernel) (pa_cons (pe_op op_fdiv (pv 6) pe_int) pa_nil)) pe_int) (pa_cons (pe_op op_mod (pe_callTy call_int1 (by rfl) T.m_int (by decide +kernel) (pa_cons (pv 7) pa_nil)) pe_int) pa_nil)))))))))))))
    (pss_cons (ps_for PassesOwn.never rfl (pi_range1 (by rfl) T.m_range (pa_cons pe_int pa_nil)) (pg_name (i := 5) nd rfl (by first | exact Or.inl rfl | exact Or.inr rfl))
    (pss_cons (ps_set (i := 2) nd rfl (by first | exact Or.inl rfl | exact Or.inr rfl) (pe_op op_mod (pe_callTy call_int1 (by rfl) T.m_int (by decide +kernel) (pa_cons (pe_op op_add (pe_op op_mul (pv 2) pe_int) pe_int) pa_nil)) pe_int))
      (pss_one (ps_expr (pe_bm PySem.F.plainAttrs_list PySem.F.slot_list_append PySem.F.type_list_append mt_append (pv 1) (pa_cons (pe_op op_mod (pe_callTy call_int1 (by rfl) T.m_int (by decide +kernel) (pa_cons (pe_op op_fdiv (pv 2) pe_int) pa_nil)) pe_int) pa_nil))))))
    (pss_one (ps_ret (pv 1))))))), ?_⟩
  refine ⟨Nat.zero_le _, fun p0 n0 => ?_⟩
  refine ⟨.ref a, rfl, a, _, rfl, .inl ((same_new (Same.refl H) n0).seq hS), _, _, rfl, _, rfl, ?_, ?_, ?_⟩
  · split <;> omega
  · split <;> omega
  refine for_range (lo := 0) (fun i σ H1 => ∃ (p : Addr) (ps : List Int) (st : Int) (y3 y4 y5 y6 y7 : Option V), σ = [some (.ref a), some (.ref p), some (.int st), y3, y4, y5, y6, y7] ∧ Step NoS H H1 ∧ H p = none ∧ H1 p = some (.lst (ps.map V.int)) ∧ ps.length ≤ 60 * i ∧ ∀ x ∈ ps, 0 ≤ x ∧ x < 60)
    ⟨p0, [], 17, none, none, none, none, none, rfl, Step.new n0, n0, upd_same, Nat.le_refl _, fun _ z => nomatch z⟩ (fun i σ H1 hi hp => ?_) (fun σ H1 hp => ?_)
  · obtain ⟨p, ps, st, y3, y4, y5, y6, y7, rfl, sm, fp, hp, lp, bp⟩ := hp
    have hi' : (0 + (i : Int)) < ns.length := by
      rw [List.length_map] at hi
      split at hi <;> omega
    have hi63 : i < 63 := by
      rw [List.length_map] at hi
      split at hi <;> omega
    obtain ⟨cell, hc⟩ := exists_at (xs := ns) (show (0 : Int) ≤ 0 + (i : Int) by omega) hi'
    -- cell = script[k]
    refine ⟨.ref a, rfl, _, rfl, a, _, _, .int cell, rfl, rfl, sm.same.seq hS, atI_of (by omega) (getI hc), ?_⟩
    -- state = ..
    refine ⟨_, rfl, _, _, rfl, rfl, .inr ⟨by decide, by decide⟩, _, rfl, _, _, rfl, rfl, .inr ⟨by decide, by decide⟩, _, _, rfl, rfl, _, rfl, _, _, rfl, rfl, .inl ⟨_, rfl, _, _, rfl, rfl, by omega, ?_⟩⟩
    -- if cell >= 10 ** 18
    refine ⟨_, rfl, _, _, rfl, rfl, ⟨by decide, by decide, by decide⟩, _, _, rfl, rfl, _, rfl, ite2 (fun _ => ?_) (fun _ => ?_)⟩
    · refine ⟨60, rfl, by decide, by decide, ?_⟩
      refine for_range (lo := 0) (n := 60) (fun j σ H2 => ∃ (ps : List Int) (st c : Int) (y5 : Option V), σ = [some (.ref a), some (.ref p), some (.int st), some (.int (0 + (i : Int))), some (.int c), y5, y6, y7] ∧ Step NoS H H2 ∧ H2 p = some (.lst (ps.map V.int)) ∧ ps.length ≤ 60 * i + j ∧ ∀ x ∈ ps, 0 ≤ x ∧ x < 60)
        ⟨ps, _, cell, y5, rfl, sm, hp, lp, bp⟩ (fun j σ H2 hj hq => ?_) (fun σ H2 hq => ?_)
      · obtain ⟨ps, st, c, y5, rfl, sm, hp, lp, bp⟩ := hq
        refine ⟨_, rfl, rfl, _, rfl, ite2 (fun _ => ?_) (fun _ => ?_)⟩
        · exact ⟨p, ps, st, _, _, _, _, _, rfl, sm, fp, hp, by omega, bp⟩
        · refine ⟨.ref p, rfl, .inl ⟨rfl, _, SqL.of hp⟩, _, rfl, .inl ⟨_, rfl, _, _, rfl, rfl, by omega, p, _, _, rfl, rfl, hp, szl (by rw [List.length_map]; omega), ?_⟩⟩
          refine ⟨_, rfl, _, _, rfl, rfl, ⟨by decide, by decide⟩, ps ++ [c % 60], st, _, _, rfl, sm.own fp, ?_, ?_, all_snoc bp small60⟩
          · rw [upd_same, List.map_append]; rfl
          · rw [List.length_append]; show ps.length + 1 ≤ _; omega
      · obtain ⟨ps, st, c, y5, rfl, sm, hp, lp, bp⟩ := hq
        exact ⟨p, ps, st, _, _, _, _, _, rfl, sm, fp, hp, by omega, bp⟩
    · -- one, two
      refine ⟨_, rfl, _, _, rfl, rfl, .inr ⟨by decide, by decide⟩, _, rfl, _, _, rfl, rfl, .inr ⟨by decide, by decide⟩, _, _, rfl, rfl, _, _, rfl, rfl, .inl ⟨_, rfl, _, _, rfl, rfl, by omega, ?_⟩⟩
      refine ⟨_, rfl, _, _, rfl, rfl, .inr ⟨by decide, by decide⟩, _, rfl, _, _, rfl, rfl, .inr ⟨by decide, by decide⟩, _, _, rfl, rfl, _, rfl, _, _, rfl, rfl, .inl ⟨_, rfl, _, _, rfl, rfl, by omega, ?_⟩⟩
      refine ⟨.ref p, rfl, _, rfl, _, _, rfl, rfl, ⟨by decide, by decide⟩, .inl ⟨_, rfl, _, _, rfl, rfl, by omega, _, rfl, .inl ⟨_, rfl, _, _, rfl, rfl, by omega, by show 2 ≤ sizeLine; decide, fun b nb => ?_⟩⟩⟩
      have hpb : p ≠ b := ne_of_none hp nb
      refine ⟨p, b, _, _, rfl, rfl, (by rw [upd_ne hpb]; exact hp), upd_same, sz (by rw [List.length_map]; show ps.length + 2 ≤ _; omega), fun c nc => ?_⟩
      have nc1 : H1 c = none := by
        by_cases e : c = b
        · rw [e]; exact nb
        · rw [upd_ne e] at nc; exact nc
      refine ⟨c, ps ++ [_, _], _, _, _, _, _, _, rfl, (sm.trans (Step.new nb)).trans (Step.new nc), sm.free nc1, two_more, ?_, snoc2 bp small60 small60⟩
      rw [List.length_append]; show ps.length + 2 ≤ _; omega
  · obtain ⟨p, ps, st, y3, y4, y5, y6, y7, rfl, sm, fp, hp, lp, bp⟩ := hp
    have hk : ps.length ≤ 3780 := by
      refine Nat.le_trans lp ?_
      rw [List.length_map]
      split <;> omega
    refine ⟨300, rfl, by decide, by decide, ?_⟩
    refine for_range (lo := 0) (n := 300) (fun j σ H2 => ∃ (ps : List Int) (st : Int) (y5 : Option V), σ = [some (.ref a), some (.ref p), some (.int st), y3, y4, y5, y6, y7] ∧ Step NoS H H2 ∧ H2 p = some (.lst (ps.map V.int)) ∧ j ≤ ps.length ∧ ps.length ≤ 3780 + j ∧ ∀ x ∈ ps, 0 ≤ x ∧ x < 60)
      ⟨ps, st, y5, rfl, sm, hp, Nat.zero_le _, by omega, bp⟩ (fun j σ H2 hj hq => ?_) (fun σ H2 hq => ?_)
    · obtain ⟨ps, st, y5, rfl, sm, hp, lp1, lp2, bp⟩ := hq
      refine ⟨_, rfl, _, _, rfl, rfl, .inr ⟨by decide, by decide⟩, _, _, rfl, rfl, .inl ⟨_, rfl, _, _, rfl, rfl, by omega, ?_⟩⟩
      refine ⟨.ref p, rfl, .inl ⟨rfl, _, SqL.of hp⟩, _, rfl, _, _, rfl, rfl, ⟨by decide, by decide⟩, .inl ⟨_, rfl, _, _, rfl, rfl, by omega, p, _, _, rfl, rfl, hp, szl (by rw [List.length_map]; omega), ?_⟩⟩
      refine ⟨ps ++ [_], _, _, rfl, sm.own fp, one_more, ?_, ?_, all_snoc bp small60⟩
      · rw [List.length_append]; show _ ≤ ps.length + 1; omega
      · rw [List.length_append]; show ps.length + 1 ≤ _; omega
    · obtain ⟨ps, st, y5, rfl, sm, hp, lp1, lp2, bp⟩ := hq
      exact ⟨.ref p, rfl, q H2 p ps sm fp hp lp1 (by omega) bp⟩
theorem sc_law_stream : FnScope ["script"] ["script"] (defScope s_law_stream) := ⟨rfl, rfl, rfl, by decide +kernel, rfl, by decide +kernel, by decide +kernel⟩
theorem ok_law_stream {f : Addr} {fd : FuncData} (F : Fun K "_law_stream" "_law_stream" s_law_stream f fd) (T : Bt mg) (D_law_pool : DefG P w K mg base CX0 1 "_law_pool" ["script"] (spPool K)) : FnG P w K mg base CX0 2 f fd ["script"] (spStream K) := by
  refine FnG.calm F sc_law_stream (fun vs H Q E h => by first | (obtain ⟨_, rfl, _⟩ := h; rfl) | (obtain ⟨_, _, rfl, _⟩ := h; rfl) | (obtain ⟨_, _, _, rfl, _⟩ := h; rfl) | (obtain ⟨_, _, _, _, rfl, _⟩ := h; rfl) | (obtain ⟨_, _, _, _, _, rfl, _⟩ := h; rfl) | (obtain ⟨_, _, _, _, _, _, rfl, _⟩ := h; rfl) | (obtain ⟨_, _, _, _, _, _, _, rfl, _⟩ := h; rfl) | (obtain ⟨_, _, _, _, _, _, _, _, rfl, _⟩ := h; rfl)) (fun cd A out z H vs Q E hg hr h => ?_)
  have nd := sc_law_stream.nd
  obtain ⟨a, ns, rfl, hS, hl, q⟩ := h
  refine ⟨_, (pss_one (ps_ret (pe_op op_cat (pe_lst (pa_cons pe_int pa_nil)) (pe_fn D_law_pool hg (hr.mono (by decide)) (pa_cons (pv 0) pa_nil))))), ?_⟩
  refine ⟨by show 1 ≤ sizeLine; decide, fun b nb => ?_⟩
  have s1 : Step NoS H (upd H b (.lst [.int 0])) := Step.new nb
  refine ⟨.ref a, rfl, a, ns, rfl, s1.same.seq hS, hl, fun H2 p ps s2 np hp l1 l2 hb => ?_⟩
  refine ⟨b, p, _, _, rfl, rfl, s2.same _ _ upd_same, hp, sz (by rw [List.length_map]; show 1 + ps.length ≤ _; omega), fun c nc => ?_⟩
  exact q _ c ((s1.trans s2).trans (Step.new nc)) ((s1.trans s2).free nc) ⟨0, ps, upd_same, l1, by omega, by decide, hb⟩
theorem sc_law_pick : FnScope ["pool", "many"] ["pool", "many"] (defScope s_law_pick) := ⟨rfl, rfl, rfl, by decide +kernel, rfl, by decide +kernel, by decide +kernel⟩
theorem ok_law_pick {f : Addr} {fd : FuncData} (F : Fun K "_law_pick" "_law_pick" s_law_pick f fd) (T : Bt mg)  : FnG P w K mg base CX0 1 f fd ["pool", "many"] (spPick) := by
  refine FnG.calm F sc_law_pick (fun vs H Q E h => by first | (obtain ⟨_, rfl, _⟩ := h; rfl) | (obtain ⟨_, _, rfl, _⟩ := h; rfl) | (obtain ⟨_, _, _, rfl, _⟩ := h; rfl) | (obtain ⟨_, _, _, _, rfl, _⟩ := h; rfl) | (obtain ⟨_, _, _, _, _, rfl, _⟩ := h; rfl) | (obtain ⟨_, _, _, _, _, _, rfl, _⟩ := h; rfl) | (obtain ⟨_, _, _, _, _, _, _, rfl, _⟩ := h; rfl) | (obtain ⟨_, _, _, _, _, _, _, _, rfl, _⟩ := h; rfl)) (fun cd A out z H vs Q E hg hr h => ?_)
  have nd := sc_law_pick.nd
  obtain ⟨pa, n, rfl, ⟨p0, ps, hp, l1, l2, h0, hb⟩, n1, n2, q⟩ := h
  refine ⟨_, (pss_cons (ps_asg (pe_op op_add pe_int (pe_op op_mod (pe_callTy call_int1 (by rfl) T.m_int (by decide +kernel) (pa_cons (pe_ix (ixL K) (pv 0) pe_int (fun _ _ => rfl)) pa_nil)) (pe_op op_sub (pe_callB (lenQ K) (by rfl) T.m_len PySem.boot_len (pa_cons (pv 0) pa_nil)) pe_int))) (pg_sub (pv 0) pe_int set_list))
    (pss_one (ps_ret (pe_op op_mod (pe_callTy call_int1 (by rfl) T.m_int (by decide +kernel) (pa_cons (pe_ix (ixL K) (pv 0) (pe_ix (ixL K) (pv 0) pe_int (fun _ _ => rfl)) (fun _ _ => rfl)) pa_nil)) (pv 1))))), ?_⟩
  have ll : (((p0 :: ps).map V.int).length : Int) - 1 = ps.length := by rw [List.length_map, List.length_cons]; omega
  refine ⟨.ref pa, rfl, pa, _, 0, .int p0, rfl, rfl, SqL.of hp, atI_nat (j := 0) rfl, .inl ⟨_, rfl, .ref pa, rfl, pa, _, rfl, .inl (SqL.of hp), _, _, rfl, rfl, _, _, rfl, rfl, (by rw [ll]; omega), _, _, rfl, rfl, .ref pa, rfl, pa, _, 0, 0, rfl, rfl, hp, ixN_of (k := 0) (by omega) (by rw [List.length_map, List.length_cons]; omega), ?_⟩⟩
  rw [ll]
  have hm1 : 0 ≤ p0 % (ps.length : Int) := Int.emod_nonneg _ (by omega)
  have hm2 : p0 % (ps.length : Int) < ps.length := Int.emod_lt_of_pos _ (by omega)
  obtain ⟨v, hv⟩ := exists_at (xs := ps) hm1 hm2
  have hv2 : ((((p0 :: ps).map V.int).set 0 (.int (1 + p0 % (ps.length : Int)))))[(1 + p0 % (ps.length : Int)).toNat]? = some (.int v) := by
    rw [show (1 + p0 % (ps.length : Int)).toNat = (p0 % (ps.length : Int)).toNat + 1 by omega]
    exact getI hv
  have hvb := hb v (List.mem_of_getElem? hv)
  refine ⟨.ref pa, rfl, .ref pa, rfl, pa, _, 0, .int (1 + p0 % (ps.length : Int)), rfl, rfl, SqL.of upd_same, atI_nat (j := 0) rfl, pa, _, _, .int v, rfl, rfl, SqL.of upd_same, atI_of (by omega) hv2, .inl ⟨_, rfl, _, rfl, _, _, rfl, rfl, by omega, ?_⟩⟩
  refine q _ _ (Int.emod_nonneg _ (by omega)) (Int.emod_lt_of_pos _ (by omega)) ?_ (Step.mut rfl (by rw [hp]; exact fun z => nomatch z)) (Pools.at ⟨_, ps, by rw [upd_same]; rfl, l1, l2, by omega, hb⟩)
  by_cases c : v < n
  · rw [Int.emod_eq_of_lt hvb.1 c]; exact hvb.2
  · have := Int.emod_lt_of_pos v (show (0 : Int) < n by omega)
    omega
theorem sc_law_letters : FnScope ["pool", "most", "many", "signs", "at", "step", "k"] ["pool", "most"] (defScope s_law_letters) := ⟨rfl, rfl, rfl, by decide +kernel, rfl, by decide +kernel, by decide +kernel⟩
-- pre
theorem pick6 {k : Int} (h0 : 0 ≤ k) (h1 : k < 6) : ∃ s : Nat, s ∈ [1, 3, 5, 7, 9, 11] ∧ atI [V.int 1, V.int 3, V.int 5, V.int 7, V.int 9, V.int 11] k = some (.int (s : Nat)) := by
  have h : k = 0 ∨ k = 1 ∨ k = 2 ∨ k = 3 ∨ k = 4 ∨ k = 5 := by omega
  rcases h with rfl | rfl | rfl | rfl | rfl | rfl
  · exact ⟨1, by decide, rfl⟩
  · exact ⟨3, by decide, rfl⟩
  · exact ⟨5, by decide, rfl⟩
  · exact ⟨7, by decide, rfl⟩
  · exact ⟨9, by decide, rfl⟩
  · exact ⟨11, by decide, rfl⟩
def drawnSigns (at_ st m : Nat) : List Nat := (List.range m).map fun k => 97 + (at_ + st * k) % 26
theorem drawn_nodup : ∀ a < 26, ∀ s ∈ [1, 3, 5, 7, 9, 11], ∀ m < 7, (drawnSigns a s m).Nodup := by decide +kernel
theorem drawn_letters {a s m : Nat} (ha : a < 26) (hs : s ∈ [1, 3, 5, 7, 9, 11]) (h1 : 1 ≤ m) (h6 : m ≤ 6) : IsLetters (drawnSigns a s m) where
  pos := by unfold drawnSigns; rw [List.length_map, List.length_range]; omega
  six := by unfold drawnSigns; rw [List.length_map, List.length_range]; omega
  nodup := drawn_nodup a ha s hs m (by omega)
  abc := fun c hc => by
    unfold drawnSigns at hc
    obtain ⟨k, _, rfl⟩ := List.mem_map.mp hc
    have := Nat.mod_lt (a + s * k) (show 26 > 0 by decide)
    omega
theorem abc_at : ∀ j < 26, ("abcdefghijklmnopqrstuvwxyz" : Str).cps.toList[j]? = some (97 + j) := by decide +kernel
theorem ok_law_letters {f : Addr} {fd : FuncData} (F : Fun K "_law_letters" "_law_letters" s_law_letters f fd) (T : Bt mg) (D_law_pick : DefG P w K mg base CX0 1 "_law_pick" ["pool", "many"] (spPick)) : FnG P w K mg base CX0 2 f fd ["pool", "most"] (spLetters) := by
  refine FnG.calm F sc_law_letters (fun vs H Q E h => by first | (obtain ⟨_, rfl, _⟩ := h; rfl) | (obtain ⟨_, _, rfl, _⟩ := h; rfl) | (obtain ⟨_, _, _, rfl, _⟩ := h; rfl) | (obtain ⟨_, _, _, _, rfl, _⟩ := h; rfl) | (obtain ⟨_, _, _, _, _, rfl, _⟩ := h; rfl) | (obtain ⟨_, _, _, _, _, _, rfl, _⟩ := h; rfl) | (obtain ⟨_, _, _, _, _, _, _, rfl, _⟩ := h; rfl) | (obtain ⟨_, _, _, _, _, _, _, _, rfl, _⟩ := h; rfl)) (fun cd A out z H vs Q E hg hr h => ?_)
  have nd := sc_law_letters.nd
  obtain ⟨pa, n, rfl, po, n1, n6, q⟩ := h
  refine ⟨_, (pss_cons (ps_set (i := 2) nd rfl (by first | exact Or.inl rfl | exact Or.inr rfl) (pe_op op_add pe_int (pe_fn D_law_pick hg (hr.mono (by decide)) (pa_cons (pv 0) (pa_cons (pv 1) pa_nil)))))
    (pss_cons (ps_set (i := 3) nd rfl (by first | exact Or.inl rfl | exact Or.inr rfl) pe_str)
    (pss_cons (ps_asg (pe_tup (pa_cons (pe_fn D_law_pick hg (hr.mono (by decide)) (pa_cons (pv 0) (pa_cons pe_int pa_nil))) (pa_cons (pe_ix (ixL K) (pe_lst (pa_cons pe_int (pa_cons pe_int (pa_cons pe_int (pa_cons pe_int (pa_cons pe_int (pa_cons pe_int pa_nil))))))) (pe_fn D_law_pick hg (hr.mono (by decide)) (pa_cons (pv 0) (pa_cons pe_int pa_nil))) (fun _ _ => rfl)) pa_nil))) (gT K (n := 2) rfl (pgs_cons (pg_name (i := 4) nd rfl (by first | exact Or.inl rfl | exact Or.inr rfl)) (pgs_cons (pg_name (i := 5) nd rfl (by first | exact Or.inl rfl | exact Or.inr rfl)) pgs_nil))))
    (pss_one (ps_ret (joinQ K pe_str (pe_lc (own := [("k", 6)]) (tt := tYes) (g := gName 6) rfl nd (pi_range1 (by rfl) T.m_range (pa_cons (pv 2) pa_nil)) (blkOk_by (by kernel_rfl)) (fun _ _ _ _ _ => (pg_name (i := 6) nd rfl (by first | exact Or.inl rfl | exact Or.inr rfl))) (fun _ _ _ _ _ => pts_nil) (fun _ _ _ _ _ => (pe_ix ix_str (pv 3) (pe_op op_mod (pe_callTy call_int1 (by rfl) T.m_int (by decide +kernel) (pa_cons (pe_op op_add (pv 4) (pe_op op_mul (pv 5) (pv 6))) pa_nil)) pe_int) (fun _ _ => rfl)))))))))), ?_⟩
  refine ⟨.ref pa, rfl, .int n, rfl, pa, n, rfl, po, n1, by omega, fun k1 H1 a1 b1 _ s1 po1 => ⟨_, _, rfl, rfl, ?_⟩⟩
  refine ⟨.ref pa, rfl, pa, 26, rfl, po1.ok, by decide, by decide, fun k2 H2 a2 b2 _ s2 po2 => ?_⟩
  refine ⟨by show 6 ≤ sizeLine; decide, fun p np => ?_⟩
  have hpp : p ≠ pa := fun e => po2.ok.some (e ▸ np)
  refine ⟨.ref pa, rfl, pa, 6, rfl, po2.ok.new np, by decide, by decide, fun k3 H3 a3 b3 _ s3 po3 => ?_⟩
  obtain ⟨st, hst, hat⟩ := pick6 a3 b3
  refine ⟨p, _, _, _, rfl, rfl, SqL.of (s3.keep _ _ hpp upd_same), hat, by show 2 ≤ sizeLine; decide, fun t nt => ?_⟩
  refine ⟨t, _, rfl, SqT.of upd_same, rfl, _, _, rfl, _, _, rfl, rfl, ?_⟩
  have po4 := Pools.new (o := .tup [.int k2, .int (st : Nat)]) po3 nt
  have s4 : Step (At pa) H (upd H3 t (.tup [.int k2, .int (st : Nat)])) := ((s1.trans s2).trans (Step.new np)).trans (s3.trans (Step.new nt))
  generalize upd H3 t (.tup [.int k2, .int (st : Nat)]) = H4 at po4 s4
  obtain ⟨ka, rfl⟩ := Int.eq_ofNat_of_zero_le a2
  obtain ⟨m, hm⟩ : ∃ m : Nat, 1 + k1 = (m : Int) := Int.eq_ofNat_of_zero_le (by omega)
  have hm6 : m ≤ 6 := by omega
  have hka : ka < 26 := by omega
  have LL := drawn_letters hka hst (show 1 ≤ m by omega) hm6
  refine ⟨⟨_, rfl⟩, _, rfl, _, rfl, (by show -(2 ^ 62) ≤ 1 + k1; omega), (by show 1 + k1 < 2 ^ 62; omega), fun D nD => ?_⟩
  have hn : (1 + k1).toNat = m := by omega
  refine lc_range (lo := 0) (n := (1 + k1).toNat) (fun i H' => H' = upd H4 D (.lst (((drawnSigns ka st m).take i).map fun c => V.str (strOf [c])))) (by rw [List.take_zero]; rfl) (fun i H' hi e => ?_) (fun H' e => ?_)
  · subst e
    have hi' : i < m := by omega
    have hlt := Nat.mod_lt (ka + st * i) (show 26 > 0 by decide)
    refine ⟨rfl, ?_⟩
    refine ⟨_, rfl, _, rfl, _, rfl, _, rfl, _, _, rfl, rfl, .inr ⟨by omega, by omega⟩, _, _, rfl, rfl, .inl ⟨_, rfl, _, _, rfl, rfl, by omega, _, _, 97 + (ka + st * i) % 26, rfl, rfl, by decide +kernel, ?_, ?_⟩⟩
    · have e : ((ka : Int) + (st : Int) * (0 + (i : Int))) % 26 = (((ka + st * i) % 26 : Nat) : Int) := by
        rw [Int.zero_add]; push_cast; rfl
      show atI _ (((ka : Int) + (st : Int) * (0 + (i : Int))) % 26) = _
      rw [e]
      exact atI_nat (abc_at _ hlt)
    · refine ⟨_, upd_same, szl (by rw [List.length_map, List.length_take]; omega), ?_⟩
      rw [upd_upd, List.take_add_one, show (drawnSigns ka st m)[i]? = some (97 + (ka + st * i) % 26) by
        unfold drawnSigns; rw [List.getElem?_map, List.getElem?_range hi']; rfl, List.map_append]
      rfl
  · subst e
    have hl : (drawnSigns ka st m).length = m := by unfold drawnSigns; rw [List.length_map, List.length_range]
    rw [hn, List.take_of_length_le (by omega)]
    refine ⟨_, D, (drawnSigns ka st m).map fun c => strOf [c], rfl, rfl, .inl (SqL.of (by rw [upd_same, List.map_map]; rfl)), ?_, ?_⟩
    · rw [sum_ones, List.length_map, hl]
      show m + m * 0 ≤ _
      omega
    · rw [txt_join]
      exact q _ _ LL (by rw [hl]; omega) (s4.trans (Step.new nD)) (po4.new nD)
theorem sc_law_row : FnScope ["pool", "count", "many", "state", "k", "found"] ["pool", "count", "many"] (defScope s_law_row) := ⟨rfl, rfl, rfl, by decide +kernel, rfl, by decide +kernel, by decide +kernel⟩
theorem ok_law_row {f : Addr} {fd : FuncData} (F : Fun K "_law_row" "_law_row" s_law_row f fd) (T : Bt mg) (D_law_pick : DefG P w K mg base CX0 1 "_law_pick" ["pool", "many"] (spPick)) : FnG P w K mg base CX0 2 f fd ["pool", "count", "many"] (spRow) := by
  refine FnG.calm F sc_law_row (fun vs H Q E h => by first | (obtain ⟨_, rfl, _⟩ := h; rfl) | (obtain ⟨_, _, rfl, _⟩ := h; rfl) | (obtain ⟨_, _, _, rfl, _⟩ := h; rfl) | (obtain ⟨_, _, _, _, rfl, _⟩ := h; rfl) | (obtain ⟨_, _, _, _, _, rfl, _⟩ := h; rfl) | (obtain ⟨_, _, _, _, _, _, rfl, _⟩ := h; rfl) | (obtain ⟨_, _, _, _, _, _, _, rfl, _⟩ := h; rfl) | (obtain ⟨_, _, _, _, _, _, _, _, rfl, _⟩ := h; rfl)) (fun cd A out z H vs Q E hg hr h => ?_)
  have nd := sc_law_row.nd
  obtain ⟨pa, n, k, rfl, po, hn, k1, k60, q⟩ := h
  refine ⟨_, (pss_cons (ps_set (i := 3) nd rfl (by first | exact Or.inl rfl | exact Or.inr rfl) pe_int)
    (pss_cons (ps_for PassesOwn.never rfl (pi_range1 (by rfl) T.m_range (pa_cons pe_int pa_nil)) (pg_name (i := 4) nd rfl (by first | exact Or.inl rfl | exact Or.inr rfl))
    (pss_one (ps_set (i := 3) nd rfl (by first | exact Or.inl rfl | exact Or.inr rfl) (pe_op op_add (pe_op op_mul (pv 3) pe_int) (pe_fn D_law_pick hg (hr.mono (by decide)) (pa_cons (pv 0) (pa_cons pe_int pa_nil)))))))
    (pss_cons (ps_set (i := 5) nd rfl (by first | exact Or.inl rfl | exact Or.inr rfl) (pe_lst pa_nil))
    (pss_cons (ps_for PassesOwn.never rfl (pi_range1 (by rfl) T.m_range (pa_cons (pv 1) pa_nil)) (pg_name (i := 4) nd rfl (by first | exact Or.inl rfl | exact Or.inr rfl))
    (pss_cons (ps_set (i := 3) nd rfl (by first | exact Or.inl rfl | exact Or.inr rfl) (pe_op op_mod (pe_callTy call_int1 (by rfl) T.m_int (by decide +kernel) (pa_cons (pe_op op_add (pe_op op_mul (pv 3) pe_int) pe_int) pa_nil)) pe_int))
      (pss_one (ps_expr (pe_bm PySem.F.plainAttrs_list PySem.F.slot_list_append PySem.F.type_list_append mt_append (pv 5) (pa_cons (pe_op op_mod (pe_callTy call_int1 (by rfl) T.m_int (by decide +kernel) (pa_cons (pe_op op_fdiv (pv 3) pe_int) pa_nil)) (pv 2)) pa_nil))))))
    (pss_one (ps_ret (pv 5))))))), ?_⟩
  refine ⟨4, rfl, by decide, by decide, ?_⟩
  refine for_range (lo := 0) (n := 4) (fun i σ H1 => ∃ (st : Int) (y4 : Option V), σ = [some (.ref pa), some (.int (n : Nat)), some (.int (k : Nat)), some (.int st), y4, none] ∧ Step (At pa) H H1 ∧ Pools (At pa) H1)
    ⟨7, none, rfl, Step.refl _ _, Pools.at po⟩ (fun i σ H1 hi hP => ?_) (fun σ H1 hP => ?_)
  · obtain ⟨st, y4, rfl, s1, po1⟩ := hP
    refine ⟨_, rfl, _, _, rfl, rfl, .inr ⟨by decide, by decide⟩, .ref pa, rfl, pa, 60, rfl, po1.ok, by decide, by decide, fun c H2 a2 c2 _ s2 po2 => ?_⟩
    exact ⟨_, _, rfl, rfl, _, _, rfl, s1.trans s2, po2⟩
  obtain ⟨st, y4, rfl, s1, po1⟩ := hP
  refine ⟨Nat.zero_le _, fun D nD => ?_⟩
  have sD : ¬ At pa D := fun e => po1.ok.some ((show D = pa from e) ▸ nD)
  have s2 := s1.trans (Step.new (o := .lst []) nD)
  have po2 := po1.new (o := .lst []) nD
  have fD := s1.free nD
  refine ⟨_, rfl, _, rfl, by omega, by omega, ?_⟩
  refine for_range (lo := 0) (n := ((n : Nat) : Int).toNat) (fun i σ H1 => ∃ (st : Int) (y4 : Option V) (ns : List Int), σ = [some (.ref pa), some (.int (n : Nat)), some (.int (k : Nat)), some (.int st), y4, some (.ref D)] ∧ Step (At pa) H H1 ∧ Pools (At pa) H1 ∧
      H1 D = some (.lst (ns.map V.int)) ∧ ns.length = i ∧ ∀ x ∈ ns, 0 ≤ x ∧ x < k)
    ⟨st, y4, [], rfl, s2, po2, upd_same, rfl, fun _ z => nomatch z⟩ (fun i σ H1 hi hP => ?_) (fun σ H1 hP => ?_)
  · obtain ⟨st, y4, ns, rfl, s3, po3, hD, ln, bn⟩ := hP
    have hi' : i < n := by omega
    refine ⟨_, rfl, _, _, rfl, rfl, .inr ⟨by decide, by decide⟩, _, _, rfl, rfl, .inl ⟨_, rfl, _, _, rfl, rfl, by omega, ?_⟩⟩
    refine ⟨.ref D, rfl, .inl ⟨rfl, _, SqL.of hD⟩, _, rfl, _, _, rfl, rfl, ⟨by decide, by decide⟩, .inl ⟨_, rfl, _, rfl, _, _, rfl, rfl, by omega, D, _, _, rfl, rfl, hD, szl (by rw [List.length_map]; omega), ?_⟩⟩
    refine ⟨_, _, ns ++ [_], rfl, s3.own fD, po3.other sD, one_more, ?_, all_snoc bn ⟨Int.emod_nonneg _ (by omega), Int.emod_lt_of_pos _ (by omega)⟩⟩
    rw [List.length_append, ln]; rfl
  · obtain ⟨st, y4, ns, rfl, s3, po3, hD, ln, bn⟩ := hP
    exact ⟨_, rfl, q H1 D ns s3 po3 fD hD (by omega) bn⟩
theorem sc_law_text : FnScope ["pool", "letters", "length", "k", "row"] ["pool", "letters", "length"] (defScope s_law_text) := ⟨rfl, rfl, rfl, by decide +kernel, rfl, by decide +kernel, by decide +kernel⟩
-- pre
abbrev noH : Hp := fun _ => none
theorem okNo {H : Hp} {pa : Addr} (po : Pools (At pa) H) : Ok (At pa) H noH := ⟨fun _ _ h => (nomatch h), po, fun _ _ => rfl⟩
theorem okOne {H : Hp} {pa p : Addr} {o : HO} (po : Pools (At pa) H) (h : H p = some o) (n : p ≠ pa) : Ok (At pa) H (upd noH p o) := ⟨same_add (okNo po).same h, po, fun b e => by
  rw [show b = pa from e, upd_ne n.symm]⟩
theorem ok_law_text {f : Addr} {fd : FuncData} (F : Fun K "_law_text" "_law_text" s_law_text f fd) (T : Bt mg) (D_law_pick : DefG P w K mg base CX0 1 "_law_pick" ["pool", "many"] (spPick)) (D_law_row : DefG P w K mg base CX0 2 "_law_row" ["pool", "count", "many"] (spRow)) : FnG P w K mg base CX0 3 f fd ["pool", "letters", "length"] (spText) := by
  refine FnG.calm F sc_law_text (fun vs H Q E h => by first | (obtain ⟨_, rfl, _⟩ := h; rfl) | (obtain ⟨_, _, rfl, _⟩ := h; rfl) | (obtain ⟨_, _, _, rfl, _⟩ := h; rfl) | (obtain ⟨_, _, _, _, rfl, _⟩ := h; rfl) | (obtain ⟨_, _, _, _, _, rfl, _⟩ := h; rfl) | (obtain ⟨_, _, _, _, _, _, rfl, _⟩ := h; rfl) | (obtain ⟨_, _, _, _, _, _, _, rfl, _⟩ := h; rfl) | (obtain ⟨_, _, _, _, _, _, _, _, rfl, _⟩ := h; rfl)) (fun cd A out z H vs Q E hg hr h => ?_)
  have nd := sc_law_text.nd
  obtain ⟨pa, l, n, rfl, po, IL, hn, q⟩ := h
  have l6 := IL.six
  have l1 := IL.pos
  have sl : (strOf l).length ≤ sizeLine := by rw [strOf_len]; exact sz (by omega)
  have el : ∀ ds : List PyData, (∀ (i : Nat) d, ds[i]? = some d → ∃ c, d = .str (strOf [c]) ∧ c ∈ l) → ∃ cs : List Nat, ds = cs.map (fun c => .str (strOf [c])) ∧ cs.length = ds.length ∧ ∀ c ∈ cs, c ∈ l := fun ds h => data_of h
  have fin : ∀ (H' G' : Hp) (D : Addr) (cs : List Nat), Same G' H' → Dq G' (.ref D) (.list (cs.map fun c => .str (strOf [c]))) → H' D = some (.lst ((cs.map fun c => strOf [c]).map V.str)) := fun H' G' D cs s d => by
    have e : cs.map (fun c => PyData.str (strOf [c])) = (cs.map fun c => strOf [c]).map .str := by rw [List.map_map]; rfl
    rw [e] at d
    obtain ⟨a, ea, h⟩ := dS d
    cases ea
    exact s _ _ h
  have jn : ∀ (cs : List Nat), cs.length = n → ((cs.map fun c => strOf [c]).map (·.length)).sum + (cs.map fun c => strOf [c]).length * 0 ≤ 16777216 := fun cs h => by
    rw [sum_ones, h]; omega
  refine ⟨_, (pss_cons (ps_if (pt_cmpR op_lt (pv 2) pe_int (nomark _)) (pss_one (ps_ret (joinQ K pe_str (pe_lc (own := [("k", 3)]) (tt := tYes) (g := gName 3) rfl nd (pi_range1 (by rfl) T.m_range (pa_cons (pv 2) pa_nil)) (blkOk_by (by kernel_rfl)) (fun _ _ _ _ _ => (pg_name (i := 3) nd rfl (by first | exact Or.inl rfl | exact Or.inr rfl))) (fun _ _ _ _ _ => pts_nil) (fun _ _ _ _ _ => (pe_ix ix_str (pv 1) (pe_fn D_law_pick hg (hr.mono (by decide)) (pa_cons (pv 0) (pa_cons (pe_callB call_len_str (by rfl) T.m_len PySem.boot_len (pa_cons (pv 1) pa_nil)) pa_nil))) (fun _ _ => rfl))))))) pss_nil)
    (pss_cons (ps_set (i := 4) nd rfl (by first | exact Or.inl rfl | exact Or.inr rfl) (pe_fn D_law_row hg (hr.mono (by decide)) (pa_cons (pv 0) (pa_cons (pv 2) (pa_cons (pe_callB call_len_str (by rfl) T.m_len PySem.boot_len (pa_cons (pv 1) pa_nil)) pa_nil)))))
    (pss_cons (ps_if (pt_cmpR op_eq (pe_fn D_law_pick hg (hr.mono (by decide)) (pa_cons (pv 0) (pa_cons pe_int pa_nil))) pe_int (nomark _)) (pss_one (ps_set (i := 4) nd rfl (by first | exact Or.inl rfl | exact Or.inr rfl) (pe_lc (own := [("k", 3)]) (tt := tYes) (g := gName 3) rfl nd (pi_range1 (by rfl) T.m_range (pa_cons (pv 2) pa_nil)) (blkOk_by (by kernel_rfl)) (fun _ _ _ _ _ => (pg_name (i := 3) nd rfl (by first | exact Or.inl rfl | exact Or.inr rfl))) (fun _ _ _ _ _ => pts_nil) (fun _ _ _ _ _ => (pe_ix (ixL K) (pv 4) (pe_callTy call_int1 (by rfl) T.m_int (by decide +kernel) (pa_cons (pe_op op_fdiv (pv 3) pe_int) pa_nil)) (fun _ _ => rfl)))))) pss_nil)
    (pss_one (ps_ret (joinQ K pe_str (pe_lc (own := [("k", 3)]) (tt := tYes) (g := gName 3) rfl nd (piL K (pv 4)) (blkOk_by (by kernel_rfl)) (fun _ _ _ _ _ => (pg_name (i := 3) nd rfl (by first | exact Or.inl rfl | exact Or.inr rfl))) (fun _ _ _ _ _ => pts_nil) (fun _ _ _ _ _ => (pe_ix ix_str (pv 1) (pv 3) (fun _ _ => rfl)))))))))), ?_⟩
  refine ⟨_, rfl, _, _, rfl, rfl, _, rfl, ite2 (fun hc => ?_) (fun hc => ?_)⟩
  · refine ⟨⟨_, rfl⟩, _, rfl, _, rfl, by omega, by omega, fun D nD => ?_⟩
    refine lc_draw (R := fun _ d => ∃ c, d = .str (strOf [c]) ∧ c ∈ l) walkR (by rw [lenR]; omega) (okNo (Pools.at po)) nD (fun _ _ => trivial) (fun i x H2 G2 N hx hi z2 fn => ?_) (fun H2 G2 ds z2 dp2 _ hl hR => ?_)
    · refine ⟨rfl, ?_⟩
      refine ⟨_, rfl, .ref pa, rfl, _, rfl, _, rfl, sl, ?_⟩
      rw [strOf_len]
      refine ⟨pa, _, rfl, z2.pool, by omega, by omega, fun k1 H3 a1 c1 _ s3 po3 => ?_⟩
      obtain ⟨c, cl, hc⟩ := sign_in a1 c1
      exact ⟨_, _, c, rfl, rfl, sl, hc, fn _ H3 G2 (.str (strOf [c])) (z2.ok.fz.stepS s3 po3) (.str _) ⟨c, rfl, cl⟩⟩
    · obtain ⟨cs, rfl, lc, hcs⟩ := el _ hR
      rw [hl, lenR] at lc
      have lc' : cs.length = n := by omega
      refine ⟨_, D, cs.map fun c => strOf [c], rfl, rfl, .inl (SqL.of (fin _ _ _ _ z2.same dp2)), jn cs lc', ?_⟩
      rw [txt_join]
      exact q _ _ z2.step z2.ok.pools lc' hcs
  · refine ⟨.ref pa, rfl, _, rfl, _, rfl, _, rfl, sl, ?_⟩
    rw [strOf_len]
    refine ⟨pa, n, l.length, rfl, po, by omega, by omega, by omega, fun H1 p ns s1 po1 np hp ln bn => ?_⟩
    have npa : p ≠ pa := fun e => po.some (e ▸ np)
    refine (fun (rest : ∀ (H3 : Hp) (p : Addr) (ns : List Int), Step (At pa) H H3 → Pools (At pa) H3 → p ≠ pa → H3 p = some (.lst (ns.map V.int)) → ns.length = n → (∀ x ∈ ns, 0 ≤ x ∧ x < (l.length : Int)) → (_ : List (Option V) → Hp → Prop) [some (.ref pa), some (.str (strOf l)), some (.int (n : Nat)), none, some (.ref p)] H3) =>
      ⟨.ref pa, rfl, pa, 3, rfl, po1.ok, by decide, by decide, fun k2 H2 a2 c2 _ s2 po2 => ⟨rfl, _, rfl, ite2
        (fun _ => ⟨_, rfl, _, rfl, by omega, by omega, fun D nD => by
          have ok2 := okOne po2 (s2.own_stays (show ¬ At pa p from npa) hp) npa
          refine lc_draw (R := fun _ d => ∃ x : Int, d = .int x ∧ (0 ≤ x ∧ x < (l.length : Int))) walkR (by rw [lenR]; omega) ok2 nD (fun _ _ => trivial) (fun i x H2 G2 N hx hi z2 fn => ?_) (fun H2 G2 ds z2 dp2 _ hl hR => ?_)
          · obtain ⟨hi2, rfl⟩ := rngI_at hx
            refine ⟨rfl, ?_⟩
            have hp2 := z2.same _ _ (z2.up _ _ (show upd noH p (.lst (ns.map V.int)) p = _ from upd_same))
            obtain ⟨y, hy⟩ := exists_at (xs := ns) (k := ((0 : Int) + i) / 9) (by omega) (by omega)
            refine ⟨.ref p, rfl, _, rfl, _, _, rfl, rfl, ⟨by decide, by decide⟩, .inl ⟨_, rfl, p, _, _, .int y, rfl, rfl, SqL.of hp2, atI_of (by omega) (getI hy), ?_⟩⟩
            exact fn _ _ _ (.int y) z2.ok.fz (.int y) ⟨y, rfl, bn y (List.mem_of_getElem? hy)⟩
          · obtain ⟨xs, rfl, lx, bx⟩ := data_of hR
            rw [hl, lenR] at lx
            obtain ⟨a, ea, ha⟩ := dI dp2
            cases ea
            exact rest _ D xs ((s1.trans s2).trans z2.step) z2.ok.pools (fun e => by have := ok2.pool.some; rw [← e] at this; exact this nD) (z2.same _ _ ha) (by omega) bx⟩)
        (fun _ => rest H2 p ns (s1.trans s2) po2 npa (s2.own_stays (show ¬ At pa p from npa) hp) ln bn)⟩⟩) ?_
    intro H3 p ns s3 po3 npa hp ln bn
    have ok3 := okOne po3 hp npa
    refine ⟨⟨_, rfl⟩, .ref p, rfl, p, rfl, ⟨_, SqL.of hp⟩, fun D nD => ?_⟩
    refine lc_draw (R := fun _ d => ∃ c, d = .str (strOf [c]) ∧ c ∈ l) (walk_list (xs := ns.map V.int)) (by rw [List.length_map]; omega) ok3 nD (fun H s => SqL.of (s _ _ upd_same)) (fun i x H2 G2 N hx hi z2 fn => ?_) (fun H2 G2 ds z2 dp2 _ hl hR => ?_)
    · obtain ⟨y, hy, rfl⟩ := intsAt hx
      have by_ := bn y (List.mem_of_getElem? hy)
      obtain ⟨c, cl, hc⟩ := sign_in by_.1 by_.2
      refine ⟨rfl, ?_⟩
      exact ⟨_, rfl, _, rfl, _, _, c, rfl, rfl, sl, hc, fn _ H2 G2 (.str (strOf [c])) z2.ok.fz (.str _) ⟨c, rfl, cl⟩⟩
    · obtain ⟨cs, rfl, lc, hcs⟩ := el _ hR
      rw [hl, List.length_map] at lc
      have lc' : cs.length = n := by omega
      refine ⟨_, D, cs.map fun c => strOf [c], rfl, rfl, .inl (SqL.of (fin _ _ _ _ z2.same dp2)), jn cs lc', ?_⟩
      rw [txt_join]
      exact q _ _ (s3.trans z2.step) z2.ok.pools lc' hcs
theorem sc_law_machine : FnScope ["pool", "letters", "most", "many", "table", "sign", "state"] ["pool", "letters", "most"] (defScope s_law_machine) := ⟨rfl, rfl, rfl, by decide +kernel, rfl, by decide +kernel, by decide +kernel⟩
theorem ok_law_machine {f : Addr} {fd : FuncData} (F : Fun K "_law_machine" "_law_machine" s_law_machine f fd) (T : Bt mg) (D_law_pick : DefG P w K mg base CX0 1 "_law_pick" ["pool", "many"] (spPick)) : FnG P w K mg base CX0 2 f fd ["pool", "letters", "most"] (spMachine K) := by
  refine FnG.calm F sc_law_machine (fun vs H Q E h => by first | (obtain ⟨_, rfl, _⟩ := h; rfl) | (obtain ⟨_, _, rfl, _⟩ := h; rfl) | (obtain ⟨_, _, _, rfl, _⟩ := h; rfl) | (obtain ⟨_, _, _, _, rfl, _⟩ := h; rfl) | (obtain ⟨_, _, _, _, _, rfl, _⟩ := h; rfl) | (obtain ⟨_, _, _, _, _, _, rfl, _⟩ := h; rfl) | (obtain ⟨_, _, _, _, _, _, _, rfl, _⟩ := h; rfl) | (obtain ⟨_, _, _, _, _, _, _, _, rfl, _⟩ := h; rfl)) (fun cd A out z H vs Q E hg hr h => ?_)
  have nd := sc_law_machine.nd
  obtain ⟨pa, l, n, G, rfl, IL, n1, n60, ok, q⟩ := h
  have l6 := IL.six
  refine ⟨_, (pss_cons (ps_set (i := 3) nd rfl (by first | exact Or.inl rfl | exact Or.inr rfl) (pe_op op_add pe_int (pe_fn D_law_pick hg (hr.mono (by decide)) (pa_cons (pv 0) (pa_cons (pv 2) pa_nil)))))
    (pss_cons (ps_setLc (i := 4) (own := [("state", 6)]) (tt := tYes) (g := gName 6) rfl nd rfl rfl (sw_true rfl rfl rfl (by decide +kernel)) (pi_range1 (by rfl) T.m_range (pa_cons (pv 3) pa_nil)) (blkOk_by (by kernel_rfl)) (fun _ _ _ _ _ => (pg_name (i := 6) nd rfl (by first | exact Or.inl rfl | exact Or.inr rfl))) (fun _ _ _ _ _ => pts_nil) (fun _ _ _ _ _ => (pe_lc (own := [("sign", 5)]) (tt := tYes) (g := gName 5) rfl nd (pi_str (pv 1)) (blkOk_by (by kernel_rfl)) (fun _ _ _ _ _ => (pg_name (i := 5) nd rfl (by first | exact Or.inl rfl | exact Or.inr rfl))) (fun _ _ _ _ _ => pts_nil) (fun _ _ _ _ _ => (pe_fn D_law_pick hg (hr.mono (by decide)) (pa_cons (pv 0) (pa_cons (pv 3) pa_nil)))))))
    (pss_one (ps_ret (pe_tup (pa_cons (pv 4) (pa_cons (pe_lc (own := [("state", 6)]) (tt := tYes) (g := gName 6) rfl nd (pi_range1 (by rfl) T.m_range (pa_cons (pv 3) pa_nil)) (blkOk_by (by kernel_rfl)) (fun _ _ _ _ _ => (pg_name (i := 6) nd rfl (by first | exact Or.inl rfl | exact Or.inr rfl))) (fun _ _ _ _ _ => pts_nil) (fun _ _ _ _ _ => (pe_cmpR op_eq (pe_fn D_law_pick hg (hr.mono (by decide)) (pa_cons (pv 0) (pa_cons pe_int pa_nil))) pe_int (nomark _)))) pa_nil))))))), ?_⟩
  refine ⟨.ref pa, rfl, _, rfl, pa, n, rfl, ok.pool, by omega, by omega, fun k1 H1 a1 b1 _ s1 po1 => ⟨_, _, rfl, rfl, ?_⟩⟩
  have z1 := ok.fz.stepS s1 po1
  obtain ⟨m, hm⟩ : ∃ m : Nat, 1 + k1 = (m : Int) := Int.eq_ofNat_of_zero_le (by omega)
  have m1 : 1 ≤ m := by omega
  have mn : m ≤ n := by omega
  have tn : (1 + k1).toNat = m := by omega
  -- the table
  refine ⟨_, rfl, _, rfl, by show -(2 ^ 62) ≤ 1 + k1; omega, by show 1 + k1 < 2 ^ 62; omega, fun D nD => ?_⟩
  rw [tn]
  refine lc_draw (R := fun _ d => ∃ r : List Int, d = DI r ∧ (r.length = l.length ∧ ∀ t ∈ r, 0 ≤ t ∧ t < m)) walkR (by rw [lenR]; omega) z1.ok nD (fun _ _ => trivial) (fun i x H2 G2 N hx hi z2 fin => ?_) (fun H2 G2 ds z2 dp2 _ hl hR => ?_)
  · refine ⟨rfl, ?_⟩
    refine ⟨_, rfl, _, rfl, fun D2 nD2 => ?_⟩
    refine lc_draw (R := fun _ d => ∃ k : Int, d = .int k ∧ (0 ≤ k ∧ k < m)) walkS (by rw [lenS]; omega) z2.ok nD2 (fun _ _ => trivial) (fun j y H3 G3 N3 hy hj z3 fin3 => ?_) (fun H3 G3 ds z3 dp3 _ hl hR => ?_)
    · refine ⟨rfl, ?_⟩
      refine ⟨.ref pa, rfl, _, rfl, pa, 1 + k1, rfl, z3.pool, by omega, by omega, fun k H4 a b _ s4 po4 => ?_⟩
      exact fin3 _ H4 G3 (.int k) (z3.ok.fz.stepS s4 po4) (.int k) ⟨k, rfl, a, by omega⟩
    · obtain ⟨r, rfl, e2, e3⟩ := data_of hR
      exact fin _ H3 G3 (DI r) z3 dp3 ⟨r, rfl, by rw [e2, hl, lenS], e3⟩
  obtain ⟨t, rfl, tl, hrow⟩ := data_of hR
  rw [hl, lenR] at tl
  -- the ends
  refine ⟨_, rfl, _, rfl, _, rfl, by show -(2 ^ 62) ≤ 1 + k1; omega, by show 1 + k1 < 2 ^ 62; omega, fun D3 nD3 => ?_⟩
  rw [tn]
  refine lc_draw (R := fun _ d => ∃ b : Bool, d = .bool b ∧ True) walkR (by rw [lenR]; omega) z2.ok nD3 (fun _ _ => trivial) (fun i x H4 G4 N hx hi z4 fin => ?_) (fun H4 G4 ds z4 dp4 _ hl hR => ?_)
  · refine ⟨rfl, ?_⟩
    refine ⟨.ref pa, rfl, pa, 3, rfl, z4.pool, by decide, by decide, fun k H5 a b _ s5 po5 => ?_⟩
    refine ⟨rfl, ?_⟩
    exact fin _ H5 G4 (.bool _) (z4.ok.fz.stepS s5 po5) (.bl _) ⟨_, rfl, trivial⟩
  obtain ⟨es, rfl, el, _⟩ := data_of hR
  rw [hl, lenR] at el
  refine ⟨by show 2 ≤ sizeLine; decide, fun t0 nt => ?_⟩
  have z5 := z4.ok.fz.new (o := .tup [.ref D, .ref D3]) nt
  have sG := same_sub (o := .tup [.ref D, .ref D3]) (free_of z4.same nt)
  exact q _ _ _ ⟨t, es⟩ (((z1.trans z2).trans z4).trans z5) (Mdp upd_same (dp_up dp2 (z4.up.trans sG)) (dp_up dp4 sG)) ⟨by rw [el, tl], by rw [tl]; exact m1, by rw [tl]; omega, fun r hr => (hrow r hr).1, fun r hr x hx => by rw [tl]; exact (hrow r hr).2 x hx⟩ (by show t.length ≤ n; omega)
theorem sc_law_great : FnScope ["pool", "letters", "many", "table", "state", "one"] ["pool", "letters", "many"] (defScope s_law_great) := ⟨rfl, rfl, rfl, by decide +kernel, rfl, by decide +kernel, by decide +kernel⟩
theorem ok_law_great {f : Addr} {fd : FuncData} (F : Fun K "_law_great" "_law_great" s_law_great f fd) (T : Bt mg) (D_law_row : DefG P w K mg base CX0 2 "_law_row" ["pool", "count", "many"] (spRow)) : FnG P w K mg base CX0 3 f fd ["pool", "letters", "many"] (spGreatM) := by
  refine FnG.calm F sc_law_great (fun vs H Q E h => by first | (obtain ⟨_, rfl, _⟩ := h; rfl) | (obtain ⟨_, _, rfl, _⟩ := h; rfl) | (obtain ⟨_, _, _, rfl, _⟩ := h; rfl) | (obtain ⟨_, _, _, _, rfl, _⟩ := h; rfl) | (obtain ⟨_, _, _, _, _, rfl, _⟩ := h; rfl) | (obtain ⟨_, _, _, _, _, _, rfl, _⟩ := h; rfl) | (obtain ⟨_, _, _, _, _, _, _, rfl, _⟩ := h; rfl) | (obtain ⟨_, _, _, _, _, _, _, _, rfl, _⟩ := h; rfl)) (fun cd A out z H vs Q E hg hr h => ?_)
  have nd := sc_law_great.nd
  obtain ⟨pa, l, n, G, rfl, IL, n1, n60, ok, q⟩ := h
  have l6 := IL.six
  have l1 := IL.pos
  refine ⟨_, (pss_cons (ps_setLc (i := 3) (own := [("state", 4)]) (tt := tYes) (g := gName 4) rfl nd rfl rfl (sw_true rfl rfl rfl (by decide +kernel)) (pi_range1 (by rfl) T.m_range (pa_cons (pv 2) pa_nil)) (blkOk_by (by kernel_rfl)) (fun _ _ _ _ _ => (pg_name (i := 4) nd rfl (by first | exact Or.inl rfl | exact Or.inr rfl))) (fun _ _ _ _ _ => pts_nil) (fun _ _ _ _ _ => (pe_fn D_law_row hg (hr.mono (by decide)) (pa_cons (pv 0) (pa_cons (pe_callB call_len_str (by rfl) T.m_len PySem.boot_len (pa_cons (pv 1) pa_nil)) (pa_cons (pv 2) pa_nil))))))
    (pss_one (ps_ret (pe_tup (pa_cons (pv 3) (pa_cons (pe_lc (own := [("one", 5)]) (tt := tYes) (g := gName 5) rfl nd (piL K (pe_fn D_law_row hg (hr.mono (by decide)) (pa_cons (pv 0) (pa_cons (pv 2) (pa_cons pe_int pa_nil))))) (blkOk_by (by kernel_rfl)) (fun _ _ _ _ _ => (pg_name (i := 5) nd rfl (by first | exact Or.inl rfl | exact Or.inr rfl))) (fun _ _ _ _ _ => pts_nil) (fun _ _ _ _ _ => (pe_cmpR op_eq (pv 5) pe_int (nomark _)))) pa_nil)))))), ?_⟩
  refine ⟨_, rfl, _, rfl, by omega, by omega, fun D nD => ?_⟩
  refine lc_draw (R := fun _ d => ∃ r : List Int, d = DI r ∧ (r.length = l.length ∧ ∀ t ∈ r, 0 ≤ t ∧ t < n)) walkR (by rw [lenR]; omega) ok nD (fun _ _ => trivial) (fun i x H2 G2 N hx hi z2 fin => ?_) (fun H2 G2 ds z2 dp2 _ hl hR => ?_)
  · refine ⟨rfl, ?_⟩
    refine ⟨.ref pa, rfl, _, rfl, _, rfl, by rw [strOf_len]; exact sz (by omega), _, rfl, ?_⟩
    rw [strOf_len]
    refine ⟨pa, l.length, n, rfl, z2.pool, by omega, n1, n60, fun H3 p ns s3 po3 np hp ln bn => ?_⟩
    have z3 := z2.ok.fz.stepS s3 po3
    exact fin _ H3 _ (DI ns) (z3.fix np hp (z2.ok.ne np)) (Idp upd_same) ⟨ns, rfl, ln, bn⟩
  obtain ⟨t, rfl, tl, hrow⟩ := data_of hR
  rw [hl, lenR] at tl
  refine ⟨_, rfl, .ref pa, rfl, _, rfl, pa, n, 4, rfl, z2.pool, by omega, by decide, by decide, fun H3 p ns s3 po3 np hp ln bn => ?_⟩
  have z3 := (z2.stepS s3 po3).fix (z2.step.free np) hp (z2.ok.ne np)
  have ep : upd G2 p (.lst (ns.map V.int)) p = some (.lst (ns.map V.int)) := upd_same
  have dp3 := dp_up dp2 (same_sub (o := .lst (ns.map V.int)) (free_of z2.same np))
  generalize upd G2 p (.lst (ns.map V.int)) = G3 at z3 ep dp3
  refine ⟨p, rfl, ⟨_, SqL.of hp⟩, fun D3 nD3 => ?_⟩
  refine lc_draw (R := fun _ d => ∃ b : Bool, d = .bool b ∧ True) (walk_list (xs := ns.map V.int)) (by rw [List.length_map]; omega) z3.ok nD3 (fun H s => SqL.of (s _ _ ep)) (fun i x H4 G4 N hx hi z4 fin => ?_) (fun H4 G4 ds z4 dp4 _ hl hR => ?_)
  · obtain ⟨y, hy, rfl⟩ := intsAt hx
    refine ⟨rfl, ?_⟩
    exact ⟨_, rfl, rfl, fin _ H4 G4 (.bool _) z4.ok.fz (.bl _) ⟨_, rfl, trivial⟩⟩
  obtain ⟨es, rfl, el, _⟩ := data_of hR
  rw [hl, List.length_map] at el
  refine ⟨by show 2 ≤ sizeLine; decide, fun t0 nt => ?_⟩
  have z5 := z4.ok.fz.new (o := .tup [.ref D, .ref D3]) nt
  have sG := same_sub (o := .tup [.ref D, .ref D3]) (free_of z4.same nt)
  exact q _ _ _ ⟨t, es⟩ ((z3.trans z4).trans z5) (Mdp upd_same (dp_up dp3 (z4.up.trans sG)) (dp_up dp4 sG)) ⟨by show es.length = t.length; omega, by show 1 ≤ t.length; omega, by show t.length ≤ 60; omega, fun r hr => (hrow r hr).1, fun r hr x hx => by have := (hrow r hr).2 x hx; show 0 ≤ x ∧ x < (t.length : Int); omega⟩
theorem sc_law_chain : FnScope ["letters", "word", "many", "table", "sign", "state", "place"] ["letters", "word"] (defScope s_law_chain) := ⟨rfl, rfl, rfl, by decide +kernel, rfl, by decide +kernel, by decide +kernel⟩
-- pre
def rowAt (l w : List Nat) (i j : Nat) : List Int := if j < i then chainRow l w j else List.replicate l.length ((w.length : Int) + 1)
theorem rep_ok {k : Nat} {w : List Nat} : (List.replicate k ((w.length : Int) + 1)).length = k ∧ ∀ t ∈ List.replicate k ((w.length : Int) + 1), 0 ≤ t ∧ t < (w.length + 2 : Nat) :=
  ⟨List.length_replicate, fun t ht => by have := List.eq_of_mem_replicate ht; omega⟩
theorem rowAt_ok {l w : List Nat} {i j : Nat} : (rowAt l w i j).length = l.length ∧ ∀ t ∈ rowAt l w i j, 0 ≤ t ∧ t < (w.length + 2 : Nat) := by
  unfold rowAt
  split
  · unfold chainRow
    cases e : w[j]? with
    | none => exact rep_ok
    | some c =>
      have hj := (List.getElem?_eq_some_iff.mp e).1
      refine ⟨by show (List.set _ _ _).length = _; rw [List.length_set]; exact rep_ok.1, fun t ht => ?_⟩
      rcases List.mem_or_eq_of_mem_set ht with h | h
      · exact rep_ok.2 t h
      · omega
  · exact rep_ok
/-- the rows so far: lists of one's own -/
structure ChI (H G : Hp) (D : Addr) (l w : List Nat) (i : Nat) (H2 : Hp) (as : List Addr) : Prop where
  z : Fz NoS H G H2 G
  at_ : H2 D = some (.lst (as.map V.ref))
  nd : as.Nodup
  rows : ∀ (j : Nat) p, as[j]? = some p → H2 p = some (.lst ((rowAt l w i j).map V.int)) ∧ H p = none ∧ p ≠ D
theorem ok_law_chain {f : Addr} {fd : FuncData} (F : Fun K "_law_chain" "_law_chain" s_law_chain f fd) (T : Bt mg)  : FnG P w K mg base CX0 1 f fd ["letters", "word"] (spChain1) := by
  refine FnG.calm F sc_law_chain (fun vs H Q E h => by first | (obtain ⟨_, rfl, _⟩ := h; rfl) | (obtain ⟨_, _, rfl, _⟩ := h; rfl) | (obtain ⟨_, _, _, rfl, _⟩ := h; rfl) | (obtain ⟨_, _, _, _, rfl, _⟩ := h; rfl) | (obtain ⟨_, _, _, _, _, rfl, _⟩ := h; rfl) | (obtain ⟨_, _, _, _, _, _, rfl, _⟩ := h; rfl) | (obtain ⟨_, _, _, _, _, _, _, rfl, _⟩ := h; rfl) | (obtain ⟨_, _, _, _, _, _, _, _, rfl, _⟩ := h; rfl)) (fun cd A out z H vs Q E hg hr h => ?_)
  have nd := sc_law_chain.nd
  obtain ⟨l, w, G, rfl, IL, hw, w50, ok, q⟩ := h
  have l6 := IL.six
  have l1 := IL.pos
  have sw : (strOf w).length ≤ sizeLine := by rw [strOf_len]; exact sz (by omega)
  refine ⟨_, (pss_cons (ps_set (i := 2) nd rfl (by first | exact Or.inl rfl | exact Or.inr rfl) (pe_op op_add (pe_callB call_len_str (by rfl) T.m_len PySem.boot_len (pa_cons (pv 1) pa_nil)) pe_int))
    (pss_cons (ps_setLc (i := 3) (own := [("state", 5)]) (tt := tYes) (g := gName 5) rfl nd rfl rfl (sw_true rfl rfl rfl (by decide +kernel)) (pi_range1 (by rfl) T.m_range (pa_cons (pv 2) pa_nil)) (blkOk_by (by kernel_rfl)) (fun _ _ _ _ _ => (pg_name (i := 5) nd rfl (by first | exact Or.inl rfl | exact Or.inr rfl))) (fun _ _ _ _ _ => pts_nil) (fun _ _ _ _ _ => (pe_lc (own := [("sign", 4)]) (tt := tYes) (g := gName 4) rfl nd (pi_str (pv 0)) (blkOk_by (by kernel_rfl)) (fun _ _ _ _ _ => (pg_name (i := 4) nd rfl (by first | exact Or.inl rfl | exact Or.inr rfl))) (fun _ _ _ _ _ => pts_nil) (fun _ _ _ _ _ => (pe_op op_sub (pv 2) pe_int)))))
    (pss_cons (ps_for PassesOwn.never rfl (pi_range1 (by rfl) T.m_range (pa_cons (pe_callB call_len_str (by rfl) T.m_len PySem.boot_len (pa_cons (pv 1) pa_nil)) pa_nil)) (pg_name (i := 6) nd rfl (by first | exact Or.inl rfl | exact Or.inr rfl))
    (pss_one (ps_asg (pe_op op_add (pv 6) pe_int) (pg_sub (pe_ix (ixL K) (pv 3) (pv 6) (fun _ _ => rfl)) (pe_sindex (pv 0) (pe_ix ix_str (pv 1) (pv 6) (fun _ _ => rfl))) set_list))))
    (pss_one (ps_ret (pe_tup (pa_cons (pv 3) (pa_cons (pe_lc (own := [("state", 5)]) (tt := tYes) (g := gName 5) rfl nd (pi_range1 (by rfl) T.m_range (pa_cons (pv 2) pa_nil)) (blkOk_by (by kernel_rfl)) (fun _ _ _ _ _ => (pg_name (i := 5) nd rfl (by first | exact Or.inl rfl | exact Or.inr rfl))) (fun _ _ _ _ _ => pts_nil) (fun _ _ _ _ _ => (pe_cmpR op_eq (pv 5) (pe_callB call_len_str (by rfl) T.m_len PySem.boot_len (pa_cons (pv 1) pa_nil)) (nomark _)))) pa_nil)))))))), ?_⟩
  refine ⟨_, rfl, _, rfl, sw, _, _, rfl, rfl, ?_⟩
  rw [strOf_len]
  refine ⟨_, rfl, _, rfl, by omega, by omega, fun D nD => ?_⟩
  have gD := free_of ok.same nD
  have hn : ((w.length : Int) + 2).toNat = w.length + 2 := by omega
  rw [hn]
  refine lc_it walkR (fun i H2 => ∃ as : List Addr, ChI H G D l w 0 H2 as ∧ as.length = i)
    ⟨[], ⟨ok.fz.loc nD, upd_same, List.nodup_nil, fun j p h => by simp at h⟩, rfl⟩ (fun i H2 _ e => trivial) (fun i y H2 H2' hi e hy => ?_) (fun H2 e => ?_)
  · obtain ⟨rfl, hy⟩ := hy
    obtain ⟨as, ch, la⟩ := e
    rw [lenR] at hi
    refine ⟨rfl, ?_⟩
    refine ⟨_, rfl, _, rfl, fun p np => ?_⟩
    refine lc_map walkS (fun _ => .int ((w.length : Int) + 2 - 1)) (fun _ => true) (by rw [lenS]; omega) (fun _ => trivial) (fun j x acc N hx fin _ => ?_) ?_
    · exact ⟨rfl, _, rfl, _, _, rfl, rfl, fin rfl⟩
    have er : ((sgnI l).filter fun _ => true).map (fun _ => V.int ((w.length : Int) + 2 - 1)) = (List.replicate l.length ((w.length : Int) + 1)).map V.int := by
      rw [filter_all, List.map_map, List.map_replicate, show ((w.length : Int) + 2 - 1) = (w.length : Int) + 1 by omega]
      exact List.map_const' ..
    rw [er]
    have hpD : p ≠ D := (ne_of_none ch.at_ np).symm
    have pnew : ∀ (j : Nat) p', as[j]? = some p' → p' ≠ p := fun j p' hj e => by
      have := (ch.rows j p' hj).1
      rw [e, np] at this; cases this
    refine ⟨as.map V.ref, by rw [upd_ne hpD.symm]; exact ch.at_, szl (by rw [List.length_map]; omega), as ++ [p], ⟨(ch.z.loc np).put nD gD (fun z => z), by rw [upd_same, List.map_append]; rfl, ?_, fun j p' hp' => ?_⟩, by rw [List.length_append, la]; rfl⟩
    · rw [List.nodup_append]
      refine ⟨ch.nd, List.nodup_cons.mpr ⟨List.not_mem_nil, List.nodup_nil⟩, fun u hu v hv e => ?_⟩
      rw [List.mem_singleton.mp hv] at e
      obtain ⟨j, hj⟩ := List.getElem?_of_mem hu
      exact pnew j u hj e
    · by_cases hlt : j < as.length
      · rw [List.getElem?_append_left hlt] at hp'
        obtain ⟨h1, h4, h5⟩ := ch.rows j p' hp'
        exact ⟨by rw [upd_ne h5, upd_ne (pnew j p' hp')]; exact h1, h4, h5⟩
      · rw [List.getElem?_append_right (by omega)] at hp'
        have hj0 : j - as.length = 0 := by
          cases h : j - as.length with
          | zero => rfl
          | succ w => rw [h] at hp'; simp at hp'
        rw [hj0] at hp'
        cases Option.some.inj hp'
        exact ⟨by rw [upd_ne hpD]; exact upd_same, ch.z.step.free np, hpD⟩
  obtain ⟨as, ch, la⟩ := e
  rw [lenR] at la
  refine ⟨_, rfl, _, rfl, sw, _, rfl, ?_⟩
  rw [strOf_len]
  refine ⟨by omega, by omega, ?_⟩
  refine for_range (lo := 0) (fun i σ H3 => ∃ y6 : Option V, σ = [some (.str (strOf l)), some (.str (strOf w)), some (.int ((w.length : Int) + 2)), some (.ref D), none, none, y6] ∧ ChI H G D l w i H3 as)
    ⟨none, rfl, ch⟩ (fun i σ H3 hi hP => ?_) (fun σ H3 hP => ?_)
  · obtain ⟨y6, rfl, ch⟩ := hP
    have hi' : i < w.length := by omega
    obtain ⟨c, hc⟩ : ∃ c, w[i]? = some c := ⟨_, List.getElem?_eq_getElem hi'⟩
    have cl := hw c (List.mem_of_getElem? hc)
    obtain ⟨rest, ho⟩ := sign_at cl
    obtain ⟨pr, hpr⟩ : ∃ pr, as[i]? = some pr := ⟨_, List.getElem?_eq_getElem (by omega)⟩
    obtain ⟨h1, h4, h5⟩ := ch.rows i pr hpr
    have il := idx_lt cl
    refine ⟨_, rfl, _, _, rfl, rfl, .ref D, rfl, _, rfl, D, _, _, .ref pr, rfl, rfl, SqL.of ch.at_, by rw [Int.zero_add]; exact atI_nat (by rw [List.getElem?_map, hpr]; rfl), _, rfl, ⟨_, rfl⟩, _, rfl, _, rfl, _, _, c, rfl, rfl, sw, by rw [strOf_cps, Int.zero_add]; exact atI_nat hc, _, _, _, rest, rfl, rfl, ho, pr, _, _, _, rfl, rfl, h1, ixN_of (by omega) (by rw [List.length_map, rowAt_ok.1]; omega), ?_⟩
    rw [map_set_int, Int.toNat_natCast]
    refine ⟨_, rfl, ch.z.put h4 (free_of ok.same h4) (fun z => z), by rw [upd_ne h5.symm]; exact ch.at_, ch.nd, fun j p hp => ?_⟩
    by_cases e : j = i
    · subst e
      rw [hpr] at hp
      cases hp
      refine ⟨?_, h4, h5⟩
      rw [upd_same]
      unfold rowAt chainRow
      rw [if_neg (Nat.lt_irrefl j), if_pos (Nat.lt_succ_self j), hc, Int.zero_add]
    · obtain ⟨a1, a4, a5⟩ := ch.rows j p hp
      refine ⟨?_, a4, a5⟩
      rw [upd_ne (by rintro rfl; exact e (nodup_at ch.nd hp hpr)), a1]
      unfold rowAt
      by_cases hji : j < i
      · rw [if_pos hji, if_pos (by omega)]
      · rw [if_neg hji, if_neg (by omega)]
  obtain ⟨y6, rfl, ch⟩ := hP
  rw [show ((w.length : Nat) : Int).toNat = w.length by omega] at ch
  generalize ht : (List.range (w.length + 2)).map (rowAt l w w.length) = t
  have lt : as.length = t.length := by rw [la, ← ht, List.length_map, List.length_range]
  have bt : ∀ r ∈ t, r.length = l.length ∧ ∀ x ∈ r, 0 ≤ x ∧ x < (w.length + 2 : Nat) := fun r hr => by
    rw [← ht] at hr
    obtain ⟨j, _, rfl⟩ := List.mem_map.mp hr
    exact rowAt_ok
  have z7 := ch.z.fixAll as (fun p hp => let ⟨j, hj⟩ := List.getElem?_of_mem hp; (ch.rows j p hj).2.1) (fun _ _ z => z)
  have dq7 : DqAll (fun b => if b ∈ as then H3 b else G b) (as.map V.ref) (t.map DI) := dqs_refs lt fun j p hj => by
    have h2 := (ch.rows j p hj).1
    have hj' : j < w.length + 2 := by have := (List.getElem?_eq_some_iff.mp hj).1; omega
    exact ⟨rowAt l w w.length j, by rw [← ht, List.getElem?_map, List.getElem?_range hj']; rfl, (if_pos (List.mem_of_getElem? hj)).trans h2⟩
  have gD7 : (fun b => if b ∈ as then H3 b else G b) D = none := (if_neg fun z => by
    obtain ⟨j, hj⟩ := List.getElem?_of_mem z
    exact (ch.rows j D hj).2.2 rfl).trans gD
  generalize (fun b => if b ∈ as then H3 b else G b) = G7 at z7 dq7 gD7
  have z8 := z7.fix nD ch.at_ (fun z => z)
  have dT : Dq (upd G7 D (.lst (as.map V.ref))) (.ref D) (DT t) := .lst upd_same (dps_up dq7 (same_sub gD7))
  generalize upd G7 D (.lst (as.map V.ref)) = G8 at z8 dT
  refine ⟨_, rfl, _, rfl, _, rfl, by omega, by omega, fun D3 nD3 => ?_⟩
  refine lc_draw (R := fun i d => ∃ b : Bool, d = .bool b ∧ b = decide (V.int (0 + (i : Int)) = V.int (w.length : Nat))) walkR (by rw [lenR]; omega) z8.ok nD3 (fun _ _ => trivial) (fun i x H4 G4 N hx hi z4 fin => ?_) (fun H4 G4 ds z4 dp4 _ hl hR => ?_)
  · obtain ⟨hi2, rfl⟩ := rngI_at hx
    refine ⟨rfl, ?_⟩
    exact ⟨_, rfl, _, rfl, _, rfl, sw, rfl, by rw [strOf_len]; exact fin _ H4 G4 (.bool _) z4.ok.fz (.bl _) ⟨_, rfl, rfl⟩⟩
  rw [lenR] at hl
  obtain ⟨es, rfl, el, _⟩ := data_of (f := PyData.bool) (P := fun _ => True) fun i d hd => let ⟨b, h, _⟩ := hR i d hd; ⟨b, h, trivial⟩
  rw [hl] at el
  have hes : ∀ (i : Nat) (b : Bool), es[i]? = some b → b = decide (V.int (0 + (i : Int)) = V.int (w.length : Nat)) := fun i b hb => by
    obtain ⟨b', h1, h2⟩ := hR i (.bool b) (by rw [List.getElem?_map, hb]; rfl)
    rw [PyData.bool.inj h1]; exact h2
  refine ⟨by show 2 ≤ sizeLine; decide, fun t0 nt => ?_⟩
  have z5 := z4.ok.fz.new (o := .tup [.ref D, .ref D3]) nt
  have sG := same_sub (o := .tup [.ref D, .ref D3]) (free_of z4.same nt)
  refine q _ _ _ ⟨t, es⟩ ((z8.trans z4).trans z5) (Mdp upd_same (dp_up dT (z4.up.trans sG)) (dp_up dp4 sG)) ⟨by show es.length = t.length; omega, by show 1 ≤ t.length; omega, by show t.length ≤ 60; omega, fun r hr => (bt r hr).1, fun r hr x hx => by have := (bt r hr).2 x hx; show 0 ≤ x ∧ x < (t.length : Int); omega⟩ fun x hx => ?_
  subst hx
  have e1 : t = (oneM l x).tab := by rw [← ht]; rfl
  have e2 : es = (oneM l x).ends := by
    have le : es.length = 3 := by rw [el]; rfl
    match es, le, hes with
    | [b0, b1, b2], _, hes =>
      rw [hes 0 b0 rfl, hes 1 b1 rfl, hes 2 b2 rfl]
      rfl
  rw [e1, e2]
theorem sc_law_ring : FnScope ["letters", "many", "end", "sign", "state"] ["letters", "many", "end"] (defScope s_law_ring) := ⟨rfl, rfl, rfl, by decide +kernel, rfl, by decide +kernel, by decide +kernel⟩
theorem ok_law_ring {f : Addr} {fd : FuncData} (F : Fun K "_law_ring" "_law_ring" s_law_ring f fd) (T : Bt mg)  : FnG P w K mg base CX0 1 f fd ["letters", "many", "end"] (spRing) := by
  refine FnG.calm F sc_law_ring (fun vs H Q E h => by first | (obtain ⟨_, rfl, _⟩ := h; rfl) | (obtain ⟨_, _, rfl, _⟩ := h; rfl) | (obtain ⟨_, _, _, rfl, _⟩ := h; rfl) | (obtain ⟨_, _, _, _, rfl, _⟩ := h; rfl) | (obtain ⟨_, _, _, _, _, rfl, _⟩ := h; rfl) | (obtain ⟨_, _, _, _, _, _, rfl, _⟩ := h; rfl) | (obtain ⟨_, _, _, _, _, _, _, rfl, _⟩ := h; rfl) | (obtain ⟨_, _, _, _, _, _, _, _, rfl, _⟩ := h; rfl)) (fun cd A out z H vs Q E hg hr h => ?_)
  have nd := sc_law_ring.nd
  obtain ⟨l, n, e, G, rfl, IL, n1, n60, ok, q⟩ := h
  have l6 := IL.six
  have l1 := IL.pos
  refine ⟨_, (pss_one (ps_ret (pe_tup (pa_cons (pe_lc (own := [("state", 4)]) (tt := tYes) (g := gName 4) rfl nd (pi_range1 (by rfl) T.m_range (pa_cons (pv 1) pa_nil)) (blkOk_by (by kernel_rfl)) (fun _ _ _ _ _ => (pg_name (i := 4) nd rfl (by first | exact Or.inl rfl | exact Or.inr rfl))) (fun _ _ _ _ _ => pts_nil) (fun _ _ _ _ _ => (pe_lc (own := [("sign", 3)]) (tt := tYes) (g := gName 3) rfl nd (pi_str (pv 0)) (blkOk_by (by kernel_rfl)) (fun _ _ _ _ _ => (pg_name (i := 3) nd rfl (by first | exact Or.inl rfl | exact Or.inr rfl))) (fun _ _ _ _ _ => pts_nil) (fun _ _ _ _ _ => (pe_ix (ixL K) (pe_lst (pa_cons (pe_op op_add (pv 4) pe_int) (pa_cons pe_int pa_nil))) (pe_callTy call_int1 (by rfl) T.m_int (by decide +kernel) (pa_cons (pe_cmpR op_eq (pe_op op_add (pv 4) pe_int) (pv 1) (nomark _)) pa_nil)) (fun _ _ => rfl)))))) (pa_cons (pe_lc (own := [("state", 4)]) (tt := tYes) (g := gName 4) rfl nd (pi_range1 (by rfl) T.m_range (pa_cons (pv 1) pa_nil)) (blkOk_by (by kernel_rfl)) (fun _ _ _ _ _ => (pg_name (i := 4) nd rfl (by first | exact Or.inl rfl | exact Or.inr rfl))) (fun _ _ _ _ _ => pts_nil) (fun _ _ _ _ _ => (pe_cmpR op_eq (pv 4) (pv 2) (nomark _)))) pa_nil))))), ?_⟩
  refine ⟨_, rfl, _, rfl, by omega, by omega, fun D nD => ?_⟩
  refine lc_draw (R := fun _ d => ∃ r : List Int, d = DI r ∧ (r.length = l.length ∧ ∀ t ∈ r, 0 ≤ t ∧ t < n)) walkR (by rw [lenR]; omega) ok nD (fun _ _ => trivial) (fun i x H2 G2 N hx hi z2 fin => ?_) (fun H2 G2 ds z2 dp2 _ hl hR => ?_)
  · obtain ⟨hi2, rfl⟩ := rngI_at hx
    refine ⟨rfl, ?_⟩
    refine ⟨_, rfl, _, rfl, fun D2 nD2 => ?_⟩
    refine lc_draw (R := fun _ d => ∃ k : Int, d = .int k ∧ (0 ≤ k ∧ k < n)) walkS (by rw [lenS]; omega) z2.ok nD2 (fun _ _ => trivial) (fun j y H3 G3 N3 hy hj z3 fin3 => ?_) (fun H3 G3 ds z3 dp3 _ hl hR => ?_)
    · refine ⟨rfl, ?_⟩
      refine ⟨_, rfl, _, _, rfl, rfl, by show 2 ≤ sizeLine; decide, fun p np => ?_⟩
      refine ⟨_, rfl, _, _, rfl, rfl, _, rfl, rfl, .inr ⟨_, rfl, ?_⟩⟩
      have z4 := z3.ok.fz.loc (o := .lst [.int (0 + (i : Int) + 1), .int 0]) np
      by_cases hc : V.int (0 + (i : Int) + 1) = V.int (n : Nat)
      · rw [decide_eq_true hc]
        exact ⟨p, _, _, .int 0, rfl, rfl, SqL.of upd_same, rfl, fin3 _ _ G3 (.int 0) z4 (.int 0) ⟨0, rfl, by omega, by omega⟩⟩
      · rw [decide_eq_false hc]
        have : (0 + (i : Int) + 1) ≠ (n : Nat) := fun z => hc (by rw [z])
        exact ⟨p, _, _, .int (0 + (i : Int) + 1), rfl, rfl, SqL.of upd_same, rfl, fin3 _ _ G3 (.int _) z4 (.int _) ⟨_, rfl, by omega, by omega⟩⟩
    · obtain ⟨r, rfl, e2, e3⟩ := data_of hR
      exact fin _ H3 G3 (DI r) z3 dp3 ⟨r, rfl, by rw [e2, hl, lenS], e3⟩
  obtain ⟨t, rfl, tl, hrow⟩ := data_of hR
  rw [hl, lenR] at tl
  refine ⟨_, rfl, _, rfl, by omega, by omega, fun D3 nD3 => ?_⟩
  refine lc_draw (R := fun _ d => ∃ b : Bool, d = .bool b ∧ True) walkR (by rw [lenR]; omega) z2.ok nD3 (fun _ _ => trivial) (fun i x H4 G4 N hx hi z4 fin => ?_) (fun H4 G4 ds z4 dp4 _ hl hR => ?_)
  · obtain ⟨hi2, rfl⟩ := rngI_at hx
    refine ⟨rfl, ?_⟩
    exact ⟨_, rfl, _, rfl, rfl, fin _ H4 G4 (.bool _) z4.ok.fz (.bl _) ⟨_, rfl, trivial⟩⟩
  obtain ⟨es, rfl, el, _⟩ := data_of hR
  rw [hl, lenR] at el
  refine ⟨by show 2 ≤ sizeLine; decide, fun t0 nt => ?_⟩
  have z5 := z4.ok.fz.new (o := .tup [.ref D, .ref D3]) nt
  have sG := same_sub (o := .tup [.ref D, .ref D3]) (free_of z4.same nt)
  exact q _ _ _ ⟨t, es⟩ ((z2.trans z4).trans z5) (Mdp upd_same (dp_up dp2 (z4.up.trans sG)) (dp_up dp4 sG)) ⟨by show es.length = t.length; omega, by show 1 ≤ t.length; omega, by show t.length ≤ 60; omega, fun r hr => (hrow r hr).1, fun r hr x hx => by have := (hrow r hr).2 x hx; show 0 ≤ x ∧ x < (t.length : Int); omega⟩
theorem sc_law_shape : FnScope ["pool", "letters", "most", "kind", "many", "sign", "one", "end"] ["pool", "letters", "most"] (defScope s_law_shape) := ⟨rfl, rfl, rfl, by decide +kernel, rfl, by decide +kernel, by decide +kernel⟩
theorem ok_law_shape {f : Addr} {fd : FuncData} (F : Fun K "_law_shape" "_law_shape" s_law_shape f fd) (T : Bt mg) (D_law_chain : DefG P w K mg base CX0 1 "_law_chain" ["letters", "word"] (spChain1)) (D_law_machine : DefG P w K mg base CX0 2 "_law_machine" ["pool", "letters", "most"] (spMachine K)) (D_law_pick : DefG P w K mg base CX0 1 "_law_pick" ["pool", "many"] (spPick)) (D_law_ring : DefG P w K mg base CX0 1 "_law_ring" ["letters", "many", "end"] (spRing)) (D_law_text : DefG P w K mg base CX0 3 "_law_text" ["pool", "letters", "length"] (spText)) : FnG P w K mg base CX0 4 f fd ["pool", "letters", "most"] (spShape) := by
  refine FnG.calm F sc_law_shape (fun vs H Q E h => by first | (obtain ⟨_, rfl, _⟩ := h; rfl) | (obtain ⟨_, _, rfl, _⟩ := h; rfl) | (obtain ⟨_, _, _, rfl, _⟩ := h; rfl) | (obtain ⟨_, _, _, _, rfl, _⟩ := h; rfl) | (obtain ⟨_, _, _, _, _, rfl, _⟩ := h; rfl) | (obtain ⟨_, _, _, _, _, _, rfl, _⟩ := h; rfl) | (obtain ⟨_, _, _, _, _, _, _, rfl, _⟩ := h; rfl) | (obtain ⟨_, _, _, _, _, _, _, _, rfl, _⟩ := h; rfl)) (fun cd A out z H vs Q E hg hr h => ?_)
  have nd := sc_law_shape.nd
  obtain ⟨pa, l, n, G, rfl, IL, n2, n40, ok, q⟩ := h
  have l6 := IL.six
  have l1 := IL.pos
  have sl : (strOf l).length ≤ sizeLine := by rw [strOf_len]; exact sz (by omega)
  refine ⟨_, (pss_cons (ps_set (i := 3) nd rfl (by first | exact Or.inl rfl | exact Or.inr rfl) (pe_fn D_law_pick hg (hr.mono (by decide)) (pa_cons (pv 0) (pa_cons pe_int pa_nil))))
    (pss_cons (ps_if (pt_cmpR op_lt (pv 3) pe_int (nomark _)) (pss_one (ps_ret (pe_fn D_law_machine hg (hr.mono (by decide)) (pa_cons (pv 0) (pa_cons (pv 1) (pa_cons (pv 2) pa_nil)))))) pss_nil)
    (pss_cons (ps_if (pt_cmpR op_eq (pv 3) pe_int (nomark _)) (pss_cons (ps_set (i := 4) nd rfl (by first | exact Or.inl rfl | exact Or.inr rfl) (pe_op op_add pe_int (pe_fn D_law_pick hg (hr.mono (by decide)) (pa_cons (pv 0) (pa_cons (pv 2) pa_nil)))))
      (pss_one (ps_ret (pe_fn D_law_ring hg (hr.mono (by decide)) (pa_cons (pv 1) (pa_cons (pv 4) (pa_cons (pe_fn D_law_pick hg (hr.mono (by decide)) (pa_cons (pv 0) (pa_cons (pv 4) pa_nil))) pa_nil))))))) pss_nil)
    (pss_cons (ps_if (pt_cmpR op_eq (pv 3) pe_int (nomark _)) (pss_one (ps_ret (pe_tup (pa_cons (pe_lst (pa_cons (pe_lc (own := [("sign", 5)]) (tt := tYes) (g := gName 5) rfl nd (pi_str (pv 1)) (blkOk_by (by kernel_rfl)) (fun _ _ _ _ _ => (pg_name (i := 5) nd rfl (by first | exact Or.inl rfl | exact Or.inr rfl))) (fun _ _ _ _ _ => pts_nil) (fun _ _ _ _ _ => pe_int)) pa_nil)) (pa_cons (pe_lst (pa_cons (pe_cmpR op_gt (pe_fn D_law_pick hg (hr.mono (by decide)) (pa_cons (pv 0) (pa_cons pe_int pa_nil))) pe_int (nomark _)) pa_nil)) pa_nil))))) pss_nil)
    (pss_cons (ps_if (pt_cmpR op_eq (pv 3) pe_int (nomark _)) (pss_one (ps_ret (pe_tup (pa_cons (pe_lst (pa_cons (pe_lc (own := [("sign", 5)]) (tt := tYes) (g := gName 5) rfl nd (pi_str (pv 1)) (blkOk_by (by kernel_rfl)) (fun _ _ _ _ _ => (pg_name (i := 5) nd rfl (by first | exact Or.inl rfl | exact Or.inr rfl))) (fun _ _ _ _ _ => pts_nil) (fun _ _ _ _ _ => (pe_callTy call_int1 (by rfl) T.m_int (by decide +kernel) (pa_cons (pe_cmpR op_ne (pv 5) (pe_ix ix_str (pv 1) pe_int (fun _ _ => rfl)) (nomark _)) pa_nil)))) (pa_cons (pe_lc (own := [("sign", 5)]) (tt := tYes) (g := gName 5) rfl nd (pi_str (pv 1)) (blkOk_by (by kernel_rfl)) (fun _ _ _ _ _ => (pg_name (i := 5) nd rfl (by first | exact Or.inl rfl | exact Or.inr rfl))) (fun _ _ _ _ _ => pts_nil) (fun _ _ _ _ _ => pe_int)) pa_nil))) (pa_cons (pe_lst (pa_cons pe_bl (pa_cons pe_bl pa_nil))) pa_nil))))) pss_nil)
    (pss_cons (ps_set (i := 6) nd rfl (by first | exact Or.inl rfl | exact Or.inr rfl) (pe_fn D_law_chain hg (hr.mono (by decide)) (pa_cons (pv 1) (pa_cons (pe_fn D_law_text hg (hr.mono (by decide)) (pa_cons (pv 0) (pa_cons (pv 1) (pa_cons (pe_fn D_law_pick hg (hr.mono (by decide)) (pa_cons (pv 0) (pa_cons (pe_op op_sub (pv 2) pe_int) pa_nil))) pa_nil)))) pa_nil))))
    (pss_cons (ps_if (pt_cmpR op_eq (pv 3) pe_int (nomark _)) (pss_one (ps_ret (pe_tup (pa_cons (pe_ix (ixT K) (pv 6) pe_int (fun _ _ => rfl)) (pa_cons (pe_lc (own := [("end", 7)]) (tt := tYes) (g := gName 7) rfl nd (piL K (pe_ix (ixT K) (pv 6) pe_int (fun _ _ => rfl))) (blkOk_by (by kernel_rfl)) (fun _ _ _ _ _ => (pg_name (i := 7) nd rfl (by first | exact Or.inl rfl | exact Or.inr rfl))) (fun _ _ _ _ _ => pts_nil) (fun _ _ _ _ _ => (pe_not (pv 7)))) pa_nil))))) pss_nil)
    (pss_one (ps_ret (pv 6)))))))))), ?_⟩
  refine ⟨.ref pa, rfl, pa, 13, rfl, ok.pool, by decide, by decide, fun kind H1 a1 c1 _ s1 po1 => ?_⟩
  have z1 := ok.fz.stepS s1 po1
  have fin : ∀ (H' G' : Hp) (v : V) (m : Mach), Fz (At pa) H1 G H' G' → Dq G' v (DM m) → MachOk l.length m → Q v H' := fun H' G' v m z d mo => q H' G' v m (z1.trans z) d mo
  refine ⟨_, rfl, _, _, rfl, rfl, _, rfl, ite2 (fun _ => ?_) (fun _ => ?_)⟩
  · exact ⟨.ref pa, rfl, _, rfl, _, rfl, pa, l, n, G, rfl, IL, by omega, by omega, z1.ok, fun H3 G3 r m z3 d3 m3 _ => fin H3 G3 r m z3 d3 m3⟩
  refine ⟨_, rfl, rfl, _, rfl, ite2 (fun _ => ?_) (fun _ => ?_)⟩
  · refine ⟨.ref pa, rfl, _, rfl, pa, n, rfl, z1.pool, by omega, by omega, fun k2 H2 a2 c2 _ s2 po2 => ⟨_, _, rfl, rfl, ?_⟩⟩
    have z2 := z1.ok.fz.stepS s2 po2
    refine ⟨_, rfl, _, rfl, .ref pa, rfl, _, rfl, pa, _, rfl, z2.pool, by omega, by omega, fun k3 H3 a3 c3 _ s3 po3 => ?_⟩
    have z3 := z2.stepS s3 po3
    obtain ⟨mm, hm⟩ : ∃ mm : Nat, 1 + k2 = (mm : Int) := Int.eq_ofNat_of_zero_le (by omega)
    refine ⟨l, mm, k3, G, by rw [← hm]; rfl, IL, by omega, by omega, z3.ok.narrow, fun H4 G4 r m z4 d4 m4 => ?_⟩
    exact fin H4 G4 r m (z3.call z4) d4 m4
  refine ⟨_, rfl, rfl, _, rfl, ite2 (fun _ => ?_) (fun _ => ?_)⟩
  · refine ⟨_, rfl, _, rfl, fun D nD => ?_⟩
    refine lc_draw (R := fun _ d => ∃ k : Int, d = .int k ∧ k = 0) walkS (by rw [lenS]; omega) z1.ok nD (fun _ _ => trivial) (fun j y H3 G3 N3 hy hj z3 fin3 => ?_) (fun H3 G3 ds z3 dp3 _ hl hR => ?_)
    · exact ⟨rfl, fin3 _ H3 G3 (.int 0) z3.ok.fz (.int 0) ⟨0, rfl, rfl⟩⟩
    obtain ⟨r, rfl, lr, hr0⟩ := data_of hR
    rw [hl, lenS] at lr
    refine ⟨by show 1 ≤ sizeLine; decide, fun p4 n4 => ?_⟩
    have z4 := z3.new (o := .lst [.ref D]) n4
    have s4 := same_sub (o := .lst [.ref D]) (free_of z3.same n4)
    have d4 : Dq (upd G3 p4 (.lst [.ref D])) (.ref p4) (DT [r]) := .lst upd_same (.cons (dp_up dp3 s4) .nil)
    generalize upd G3 p4 (.lst [.ref D]) = G4 at z4 d4
    refine ⟨.ref pa, rfl, pa, 3, rfl, z4.pool, by decide, by decide, fun k5 H5 a5 c5 _ s5 po5 => ?_⟩
    have z5 := z4.stepS s5 po5
    refine ⟨_, _, rfl, rfl, by show 1 ≤ sizeLine; decide, fun p6 n6 => ?_⟩
    have z6 := z5.new (o := .lst [.bl (decide (0 < k5))]) n6
    have s6 := same_sub (o := .lst [.bl (decide (0 < k5))]) (free_of z5.same n6)
    have d6 : Dq (upd G4 p6 (.lst [.bl (decide (0 < k5))])) (.ref p6) (DB [decide (0 < k5)]) := Bdp upd_same
    have d4' := dp_up d4 s6
    generalize upd G4 p6 (.lst [.bl (decide (0 < k5))]) = G6 at z6 d6 d4'
    refine ⟨by show 2 ≤ sizeLine; decide, fun t0 nt => ?_⟩
    have z7 := z6.new (o := .tup [.ref p4, .ref p6]) nt
    have sG := same_sub (o := .tup [.ref p4, .ref p6]) (free_of z6.same nt)
    exact fin _ _ _ ⟨[r], [decide (0 < k5)]⟩ z7 (Mdp upd_same (dp_up d4' sG) (dp_up d6 sG)) ⟨rfl, Nat.le_refl 1, by show 1 ≤ 60; decide, fun x hx => by rw [List.mem_singleton.mp hx]; omega, fun x hx t ht => by
      rw [List.mem_singleton.mp hx] at ht
      have := hr0 t ht
      show 0 ≤ t ∧ t < 1
      omega⟩
  refine ⟨_, rfl, rfl, _, rfl, ite2 (fun _ => ?_) (fun _ => ?_)⟩
  · refine ⟨_, rfl, _, rfl, fun D nD => ?_⟩
    obtain ⟨c0, cl0, hc0⟩ := sign_in (l := l) (k := 0) (Int.le_refl 0) (by omega)
    refine lc_draw (R := fun _ d => ∃ k : Int, d = .int k ∧ (0 ≤ k ∧ k < 2)) walkS (by rw [lenS]; omega) z1.ok nD (fun _ _ => trivial) (fun j y H3 G3 N3 hy hj z3 fin3 => ?_) (fun H3 G3 ds z3 dp3 _ hl hR => ?_)
    · obtain ⟨c, hc, rfl⟩ := sgnI_at hy
      refine ⟨rfl, ?_⟩
      refine ⟨_, rfl, _, rfl, _, _, c0, rfl, rfl, sl, hc0, rfl, .inr ⟨_, rfl, fin3 _ H3 G3 (.int _) z3.ok.fz (.int _) ⟨_, rfl, ?_⟩⟩⟩
      split <;> omega
    obtain ⟨r, rfl, lr, hr0⟩ := data_of hR
    rw [hl, lenS] at lr
    refine ⟨_, rfl, _, rfl, fun D2 nD2 => ?_⟩
    refine lc_draw (R := fun _ d => ∃ k : Int, d = .int k ∧ k = 1) walkS (by rw [lenS]; omega) z3.ok nD2 (fun _ _ => trivial) (fun j y H3 G3 N3 hy hj z3 fin3 => ?_) (fun H4 G4 ds z4 dp4 _ hl hR => ?_)
    · exact ⟨rfl, fin3 _ H3 G3 (.int 1) z3.ok.fz (.int 1) ⟨1, rfl, rfl⟩⟩
    obtain ⟨r2, rfl, lr2, hr2⟩ := data_of hR
    rw [hl, lenS] at lr2
    refine ⟨by show 2 ≤ sizeLine; decide, fun p5 n5 => ?_⟩
    have z5 := (z3.trans z4).new (o := .lst [.ref D, .ref D2]) n5
    have s5 := same_sub (o := .lst [.ref D, .ref D2]) (free_of z4.same n5)
    have d5 : Dq (upd G4 p5 (.lst [.ref D, .ref D2])) (.ref p5) (DT [r, r2]) := .lst upd_same (.cons (dp_up dp3 (z4.up.trans s5)) (.cons (dp_up dp4 s5) .nil))
    generalize upd G4 p5 (.lst [.ref D, .ref D2]) = G5 at z5 d5
    refine ⟨by show 2 ≤ sizeLine; decide, fun p6 n6 => ?_⟩
    have z6 := z5.new (o := .lst [.bl true, .bl false]) n6
    have s6 := same_sub (o := .lst [.bl true, .bl false]) (free_of z5.same n6)
    have d6 : Dq (upd G5 p6 (.lst [.bl true, .bl false])) (.ref p6) (DB [true, false]) := Bdp upd_same
    have d5' := dp_up d5 s6
    generalize upd G5 p6 (.lst [.bl true, .bl false]) = G6 at z6 d6 d5'
    refine ⟨by show 2 ≤ sizeLine; decide, fun t0 nt => ?_⟩
    have z7 := z6.new (o := .tup [.ref p5, .ref p6]) nt
    have sG := same_sub (o := .tup [.ref p5, .ref p6]) (free_of z6.same nt)
    have two : ∀ x ∈ [r, r2], x.length = l.length ∧ ∀ t ∈ x, 0 ≤ t ∧ t < 2 := fun x hx => by
      rcases List.mem_cons.mp hx with rfl | hx
      · exact ⟨lr, hr0⟩
      · rw [List.mem_singleton.mp hx]; exact ⟨lr2, fun t ht => by have := hr2 t ht; omega⟩
    exact fin _ _ _ ⟨[r, r2], [true, false]⟩ z7 (Mdp upd_same (dp_up d5' sG) (dp_up d6 sG)) ⟨rfl, by show 1 ≤ 2; decide, by show 2 ≤ 60; decide, fun x hx => (two x hx).1, fun x hx => (two x hx).2⟩
  refine ⟨_, rfl, .ref pa, rfl, _, rfl, .ref pa, rfl, _, rfl, _, _, rfl, rfl, pa, _, rfl, z1.pool, by omega, by omega, fun k2 H2 a2 c2 _ s2 po2 => ?_⟩
  have z2 := z1.ok.fz.stepS s2 po2
  obtain ⟨k2, rfl⟩ := Int.eq_ofNat_of_zero_le a2
  refine ⟨pa, l, k2, rfl, z2.pool, IL, by omega, fun t H3 s3 po3 lt ht => ?_⟩
  have z3 := z2.stepS s3 po3
  refine ⟨l, t, G, rfl, IL, ht, by omega, z3.ok.narrow, fun H4 G4 r m z4 d4 m4 _ => ?_⟩
  have z4' := z3.call z4
  obtain ⟨a, x, y, rfl, ea, dt, de⟩ := dM d4
  obtain ⟨eb, rfl, ee⟩ := dB de
  refine ⟨_, rfl, rfl, _, rfl, ite2 (fun _ => ?_) (fun _ => ?_)⟩
  · refine ⟨.ref a, rfl, a, _, 0, x, rfl, rfl, SqT.of (z4'.same _ _ ea), atI_nat (j := 0) rfl, ?_⟩
    refine ⟨.ref a, rfl, a, _, 1, .ref eb, rfl, rfl, SqT.of (z4'.same _ _ ea), atI_nat (j := 1) rfl, eb, rfl, ⟨_, SqL.of (z4'.same _ _ ee)⟩, fun D nD => ?_⟩
    refine lc_draw (R := fun _ d => ∃ b : Bool, d = .bool b ∧ True) (walk_list (xs := m.ends.map V.bl)) (by rw [List.length_map, m4.ends]; have := m4.most; omega) z4'.ok nD (fun H s => SqL.of (s _ _ ee)) (fun i x H5 G5 N hx hi z5 fin5 => ?_) (fun H5 G5 ds z5 dp5 _ hl hR => ?_)
    · obtain ⟨b, rfl⟩ : ∃ b, x = .bl b := by
        rw [List.getElem?_map] at hx
        obtain ⟨b, _, e⟩ := Option.map_eq_some_iff.mp hx
        exact ⟨b, e.symm⟩
      refine ⟨rfl, ?_⟩
      exact ⟨_, rfl, _, rfl, fin5 _ H5 G5 (.bool _) z5.ok.fz (.bl _) ⟨_, rfl, trivial⟩⟩
    obtain ⟨es, rfl, el, _⟩ := data_of hR
    rw [hl, List.length_map, m4.ends] at el
    refine ⟨by show 2 ≤ sizeLine; decide, fun t0 nt => ?_⟩
    have z6 := z5.new (o := .tup [x, .ref D]) nt
    have sG := same_sub (o := .tup [x, .ref D]) (free_of z5.same nt)
    exact fin _ _ _ ⟨m.tab, es⟩ (z4'.trans z6) (Mdp upd_same (dp_up dt (z5.up.trans sG)) (dp_up dp5 sG)) ⟨el, m4.pos, m4.most, m4.row, m4.tgt⟩
  · exact ⟨_, rfl, fin _ _ _ _ z4' d4 m4⟩
theorem sc_law_is_places : FnScope ["found", "one", "part"] ["found"] (defScope s_law_is_places) := ⟨rfl, rfl, rfl, by decide +kernel, rfl, by decide +kernel, by decide +kernel⟩
theorem ok_law_is_places {f : Addr} {fd : FuncData} (F : Fun K "_law_is_places" "_law_is_places" s_law_is_places f fd) (T : Bt mg)  : FnG P w K mg base CX0 1 f fd ["found"] (spIsPlaces K) := by
  refine FnG.calm F sc_law_is_places (fun vs H Q E h => by first | (obtain ⟨_, rfl, _⟩ := h; rfl) | (obtain ⟨_, _, rfl, _⟩ := h; rfl) | (obtain ⟨_, _, _, rfl, _⟩ := h; rfl) | (obtain ⟨_, _, _, _, rfl, _⟩ := h; rfl) | (obtain ⟨_, _, _, _, _, rfl, _⟩ := h; rfl) | (obtain ⟨_, _, _, _, _, _, rfl, _⟩ := h; rfl) | (obtain ⟨_, _, _, _, _, _, _, rfl, _⟩ := h; rfl) | (obtain ⟨_, _, _, _, _, _, _, _, rfl, _⟩ := h; rfl)) (fun cd A out z H vs Q E hg hr h => ?_)
  have nd := sc_law_is_places.nd
  obtain ⟨v, ps, rfl, dm, q⟩ := h
  obtain ⟨pa, xs, rfl, ep, dx⟩ := dp_list dm
  refine ⟨_, (pss_cons (ps_if (pt_not (pt_val (pe_callB (isiQ K) (by rfl) T.m_isinstance (by decide +kernel) (pa_cons (pv 0) (pa_cons (pe_bltn (v := .ty "list") (by rfl) T.m_list (by decide +kernel) rfl) pa_nil))))) (pss_one (ps_ret pe_bl)) pss_nil)
    (pss_cons (ps_for PassesOwn.never rfl (piL K (pv 0)) (pg_name (i := 1) nd rfl (by first | exact Or.inl rfl | exact Or.inr rfl))
    (pss_cons (ps_if (PW.pt (pw_or (pt_not (pt_val (pe_callB (isiQ K) (by rfl) T.m_isinstance (by decide +kernel) (pa_cons (pv 1) (pa_cons (pe_bltn (v := .ty "tuple") (by rfl) T.m_tuple (by decide +kernel) rfl) pa_nil))))) (pw_or1 (pt_cmpR op_ne (pe_callB (lenQ K) (by rfl) T.m_len PySem.boot_len (pa_cons (pv 1) pa_nil)) pe_int (nomark _))))) (pss_one (ps_ret pe_bl)) pss_nil)
      (pss_one (ps_if (pt_not (pt_val (pe_callB (allQ K rfl) (by rfl) T.m_all (by decide +kernel) (pa_cons (pe_lc (own := [("part", 2)]) (tt := tYes) (g := gName 2) rfl nd (piT K (pv 1)) (blkOk_by (by kernel_rfl)) (fun _ _ _ _ _ => (pg_name (i := 2) nd rfl (by first | exact Or.inl rfl | exact Or.inr rfl))) (fun _ _ _ _ _ => pts_nil) (fun _ _ _ _ _ => (pe_and (pe_callB (isiQ K) (by rfl) T.m_isinstance (by decide +kernel) (pa_cons (pv 2) (pa_cons (pe_bltn (v := .ty "int") (by rfl) T.m_int (by decide +kernel) rfl) pa_nil))) (pe_one (pe_not (pe_callB (isiQ K) (by rfl) T.m_isinstance (by decide +kernel) (pa_cons (pv 2) (pa_cons (pe_bltn (v := .ty "bool") (by rfl) T.m_bool (by decide +kernel) rfl) pa_nil)))))))) pa_nil)))) (pss_one (ps_ret pe_bl)) pss_nil))))
    (pss_one (ps_ret pe_bl)))), ?_⟩
  refine ⟨.ref pa, rfl, _, _, .type "list", .type "list", true, rfl, .ty "list", .base (.lst ep), kit_ty (by decide +kernel), true, rfl, ?_⟩
  refine ⟨.ref pa, rfl, pa, rfl, ⟨_, SqL.of ep⟩, ?_⟩
  refine for_it (walk_list (xs := xs)) (fun i σ H1 => Step NoS H H1 ∧ ∃ (y1 : Option V), σ = [some (.ref pa), y1, none]) ⟨Step.refl _ _, none, rfl⟩ (fun i σ H1 _ hP => SqL.of (hP.1.same _ _ ep)) (fun i x σ H1 H1' hi hP hy => ?_) (fun σ H1 hP => ?_)
  · obtain ⟨rfl, hx⟩ := hy
    obtain ⟨s1, y1, rfl⟩ := hP
    obtain ⟨d, hd, dd⟩ := dps_get' dx hx
    rw [List.getElem?_map] at hd
    obtain ⟨p, hp, rfl⟩ := Option.map_eq_some_iff.mp hd
    obtain ⟨ta, u, w, rfl, et, du, dw⟩ := dP dd
    cases dp_int du
    cases dp_int dw
    have et1 := s1.same _ _ et
    refine ⟨.ref ta, rfl, _, _, .type "tuple", .type "tuple", true, rfl, .ty "tuple", .base (.tup et1), kit_ty (by decide +kernel), true, rfl, ?_⟩
    refine ⟨.ref ta, rfl, ta, _, rfl, .inr (SqT.of et1), rfl, _, rfl, iteNS' rfl ?_⟩
    refine ⟨.ref ta, rfl, ta, rfl, ⟨_, SqT.of et1⟩, fun D nD => ?_⟩
    have dt : ta ≠ D := ne_of_none et1 nD
    refine lc_map (walk_tup (xs := [.int (p.1 : Nat), .int (p.2 : Nat)])) (fun _ => .bl true) (fun _ => true) (by show 2 ≤ 100000; decide) (fun acc => SqT.of (by rw [upd_ne dt]; exact et1)) (fun j x acc N hx fin _ => ?_) ?_
    · obtain ⟨k, rfl⟩ : ∃ k : Int, x = .int k := by
        match j, hx with
        | 0, hx => exact ⟨_, (Option.some.inj hx).symm⟩
        | 1, hx => exact ⟨_, (Option.some.inj hx).symm⟩
        | j + 2, hx => simp at hx
      refine ⟨rfl, ?_⟩
      refine ⟨_, rfl, _, _, .type "int", .type "int", true, rfl, .ty "int", .base (.int k), kit_ty (by decide +kernel), true, rfl, ?_⟩
      exact ⟨_, rfl, _, _, .type "int", .type "bool", false, rfl, .ty "bool", .base (.int k), kit_ty (by decide +kernel), false, rfl, fin rfl⟩
    rw [filter_all]
    refine ⟨D, [true, true], rfl, SqL.of upd_same, true, rfl, s1.trans (Step.new nD), some (.ref ta), rfl⟩
  · obtain ⟨s1, y1, rfl⟩ := hP
    exact q _ s1
theorem sc_law_places : FnScope ["letters", "machine", "text", "found", "begin", "state", "end"] ["letters", "machine", "text"] (defScope s_law_places) := ⟨rfl, rfl, rfl, by decide +kernel, rfl, by decide +kernel, by decide +kernel⟩
-- pre
/-- the pair at x -/
def kN (G : Hp) (x : V) : Nat × Nat := match x with
  | .ref a => match G a with
    | some (.tup [.int i, .int j]) => (i.toNat, j.toNat)
    | _ => (0, 0)
  | _ => (0, 0)
def kI (G : Hp) (x : V) : Int × Int := ((kN G x).1, (kN G x).2)
theorem kN_of {G : Hp} {a : Addr} {p : Nat × Nat} (h : G a = some (.tup [.int (p.1 : Nat), .int (p.2 : Nat)])) : kN G (.ref a) = p := by
  show (match G a with
    | some (.tup [.int i, .int j]) => (i.toNat, j.toNat)
    | _ => (0, 0)) = p
  rw [h]
  rfl
theorem kN_all {G : Hp} : ∀ {ps : Pl} {xs : List V}, DqAll G xs (ps.map fun p => .tuple [.int (p.1 : Nat), .int (p.2 : Nat)]) → xs.map (kN G) = ps ∧ ∀ x ∈ xs, ∃ t, x = .ref t ∧ G t = some (.tup [.int (kI G x).1, .int (kI G x).2])
  | [], xs, h => by cases h; exact ⟨rfl, fun _ z => nomatch z⟩
  | p :: ps, xs, h => by
    cases h with
    | cons h1 h2 =>
      obtain ⟨a, u, w, rfl, e, du, dw⟩ := dP h1
      cases dp_int du
      cases dp_int dw
      obtain ⟨i1, i2⟩ := kN_all (ps := ps) h2
      refine ⟨by rw [List.map_cons, kN_of e, i1], fun x hx => ?_⟩
      rcases List.mem_cons.mp hx with rfl | hx
      · refine ⟨a, rfl, ?_⟩
        unfold kI
        rw [kN_of e]; exact e
      · exact i2 x hx
theorem ok_law_places {f : Addr} {fd : FuncData} (F : Fun K "_law_places" "_law_places" s_law_places f fd) (T : Bt mg)  : FnG P w K mg base CX0 1 f fd ["letters", "machine", "text"] (spLPlaces) := by
  refine FnG.calm F sc_law_places (fun vs H Q E h => by first | (obtain ⟨_, rfl, _⟩ := h; rfl) | (obtain ⟨_, _, rfl, _⟩ := h; rfl) | (obtain ⟨_, _, _, rfl, _⟩ := h; rfl) | (obtain ⟨_, _, _, _, rfl, _⟩ := h; rfl) | (obtain ⟨_, _, _, _, _, rfl, _⟩ := h; rfl) | (obtain ⟨_, _, _, _, _, _, rfl, _⟩ := h; rfl) | (obtain ⟨_, _, _, _, _, _, _, rfl, _⟩ := h; rfl) | (obtain ⟨_, _, _, _, _, _, _, _, rfl, _⟩ := h; rfl)) (fun cd A out z H vs Q E hg hr h => ?_)
  have nd := sc_law_places.nd
  obtain ⟨l, t, v, m, G, rfl, IL, ok, dm, mo, ⟨tl, ht⟩, q⟩ := h
  obtain ⟨a, x, y, rfl, ea, dt, de⟩ := dM dm
  obtain ⟨tb, xs, rfl, eb, hx⟩ := dp_list dt
  obtain ⟨eb2, rfl, ee⟩ := dB de
  have n1 := mo.pos
  have st : (strOf t).length ≤ sizeLine := by rw [strOf_len]; exact sz (by omega)
  refine ⟨_, (pss_cons (ps_set (i := 3) nd rfl (by first | exact Or.inl rfl | exact Or.inr rfl) (pe_lst pa_nil))
    (pss_cons (ps_for PassesOwn.never rfl (pi_range1 (by rfl) T.m_range (pa_cons (pe_op op_add (pe_callB call_len_str (by rfl) T.m_len PySem.boot_len (pa_cons (pv 2) pa_nil)) pe_int) pa_nil)) (pg_name (i := 4) nd rfl (by first | exact Or.inl rfl | exact Or.inr rfl))
    (pss_cons (ps_set (i := 5) nd rfl (by first | exact Or.inl rfl | exact Or.inr rfl) pe_int)
      (pss_one (ps_for PassesOwn.never rfl (pi_range2 (by rfl) T.m_range (pa_cons (pv 4) (pa_cons (pe_op op_add (pe_callB call_len_str (by rfl) T.m_len PySem.boot_len (pa_cons (pv 2) pa_nil)) pe_int) pa_nil))) (pg_name (i := 6) nd rfl (by first | exact Or.inl rfl | exact Or.inr rfl))
      (pss_cons (ps_if (pt_cmpR op_gt (pv 6) (pv 4) (nomark _)) (pss_one (ps_set (i := 5) nd rfl (by first | exact Or.inl rfl | exact Or.inr rfl) (pe_ix (ixL K) (pe_ix (ixL K) (pe_ix (ixT K) (pv 1) pe_int (fun _ _ => rfl)) (pv 5) (fun _ _ => rfl)) (pe_sindex (pv 0) (pe_ix ix_str (pv 2) (pe_op op_sub (pv 6) pe_int) (fun _ _ => rfl))) (fun _ _ => rfl)))) pss_nil)
        (pss_one (ps_if (pt_val (pe_ix (ixL K) (pe_ix (ixT K) (pv 1) pe_int (fun _ _ => rfl)) (pv 5) (fun _ _ => rfl))) (pss_one (ps_expr (pe_bm PySem.F.plainAttrs_list PySem.F.slot_list_append PySem.F.type_list_append mt_append (pv 3) (pa_cons (pe_tup (pa_cons (pv 6) (pa_cons (pv 4) pa_nil))) pa_nil)))) pss_nil)))))))
    (pss_one (ps_ret (pe_lc (own := [("end", 6), ("begin", 4)]) (tt := tYes) (g := (gTup K 2 (gCons (gName 6) (gCons (gName 4) gNil)))) rfl nd (piL K (pe_callB (sortedPO K) (by rfl) T.m_sorted (by decide +kernel) (pa_cons (pv 3) pa_nil))) (blkOk_by (by kernel_rfl)) (fun _ _ _ _ _ => (gT K (n := 2) rfl (pgs_cons (pg_name (i := 6) nd rfl (by first | exact Or.inl rfl | exact Or.inr rfl)) (pgs_cons (pg_name (i := 4) nd rfl (by first | exact Or.inl rfl | exact Or.inr rfl)) pgs_nil)))) (fun _ _ _ _ _ => pts_nil) (fun _ _ _ _ _ => (pe_tup (pa_cons (pv 4) (pa_cons (pv 6) pa_nil))))))))), ?_⟩
  refine ⟨Nat.zero_le _, fun D nD => ?_⟩
  have z0 := ok.fz.loc (o := .lst []) nD
  have gD := free_of ok.same nD
  refine ⟨_, rfl, _, rfl, st, _, _, rfl, rfl, _, rfl, ?_⟩
  rw [strOf_len]
  refine ⟨by omega, by omega, ?_⟩
  refine for_range (lo := 0) (fun i σ H1 => ∃ (G1 : Hp) (xs : List V) (y4 y5 y6 : Option V), σ = [some (.str (strOf l)), some (.ref a), some (.str (strOf t)), some (.ref D), y4, y5, y6] ∧ Fz NoS H G H1 G1 ∧ G1 D = none ∧ H1 D = some (.lst xs) ∧ DqAll G1 xs ((fdU l m t i).map fun p => .tuple [.int (p.1 : Nat), .int (p.2 : Nat)]))
    ⟨G, [], none, none, none, rfl, z0, gD, upd_same, .nil⟩ (fun b σ H1 hb hP => ?_) (fun σ H1 hP => ?_)
  · obtain ⟨G1, ys, y4, y5, y6, rfl, z1, gD1, hD1, dx1⟩ := hP
    have hb' : b ≤ t.length := by omega
    have zb : (0 : Int) + (b : Int) = (b : Nat) := Int.zero_add _
    refine ⟨_, rfl, _, rfl, _, rfl, st, _, _, rfl, rfl, ?_⟩
    rw [strOf_len]
    refine ⟨0 + (b : Int), (t.length : Int) + 1, rfl, ⟨by omega, by omega, by omega, by omega⟩, ?_⟩
    have hn : ((t.length : Int) + 1 - (0 + (b : Int))).toNat = t.length + 1 - b := by omega
    rw [hn]
    -- state: behind as many signs as were passed
    refine for_range (lo := 0 + (b : Int)) (fun i σ H3 => ∃ (G3 : Hp) (zs : List V) (y6 : Option V), σ = [some (.str (strOf l)), some (.ref a), some (.str (strOf t)), some (.ref D), some (.int (0 + (b : Int))), some (.int (stA l m t b (i - 1) : Nat)), y6] ∧ Fz NoS H G H3 G3 ∧ G3 D = none ∧ H3 D = some (.lst zs) ∧ DqAll G3 zs ((fdU l m t b ++ fdB l m t b i).map fun p => .tuple [.int (p.1 : Nat), .int (p.2 : Nat)]))
      ⟨G1, ys, y6, by rw [stA_zero]; rfl, z1, gD1, hD1, by rw [show fdB l m t b 0 = [] from rfl, List.append_nil]; exact dx1⟩ (fun i σ H3 hi hP => ?_) (fun σ H3 hP => ?_)
    · obtain ⟨G3, zs, y6, rfl, z3, gD3, hD3, dx3⟩ := hP
      have ea3 := z3.same _ _ (z3.up _ _ ea)
      have eb3 := z3.same _ _ (z3.up _ _ eb)
      have ee3 := z3.same _ _ (z3.up _ _ ee)
      have lzs : zs.length ≤ 60000 := by
        have h1 := dps_len dx3
        rw [List.length_map, List.length_append] at h1
        have h2 := fdU_len (l := l) (m := m) tl b
        have h3 := fdB_len (l := l) (m := m) (t := t) (b := b) (k := i)
        have : b * 201 ≤ 200 * 201 := Nat.mul_le_mul_right _ (by omega)
        omega
      have slt := stA_lt mo ht (b := b) (k := i)
      obtain ⟨e, he⟩ := mo.at_end (s := ((stA l m t b i : Nat) : Int)) (by omega) (by omega)
      have he' : m.ends[stA l m t b i]? = some e := he
      refine (fun (rest : (_ : List (Option V) → Hp → Prop) [some (.str (strOf l)), some (.ref a), some (.str (strOf t)), some (.ref D), some (.int (0 + (b : Int))), some (.int (stA l m t b i : Nat)), some (.int (0 + (b : Int) + (i : Int)))] H3) =>
        ⟨_, rfl, _, rfl, _, _, rfl, rfl, _, rfl, ite2 (fun h => ?Move) (fun h => by
          have hi0 : i = 0 := by
            have : ¬ (0 + (b : Int) < 0 + (b : Int) + (i : Int)) := fun z => h (decide_eq_true z)
            omega
          have es : stA l m t b (i - 1) = stA l m t b i := by rw [hi0]
          rw [es]
          exact rest)⟩) ?_
      case Move =>
        have hi0 : 0 < i := by have := of_decide_eq_true h; omega
        obtain ⟨k, hk⟩ : ∃ k, i = k + 1 := ⟨i - 1, by omega⟩
        have hk1 : i - 1 = k := by omega
        rw [hk1]
        obtain ⟨c, hc⟩ : ∃ c, t[b + k]? = some c := ⟨_, List.getElem?_eq_getElem (by omega)⟩
        have cl := ht c (List.mem_of_getElem? hc)
        have lt := stA_lt mo ht (b := b) (k := k)
        obtain ⟨r, hr, hrc, _⟩ := step1_ok mo lt cl
        rw [← stA_succ hc, ← hk] at hrc
        obtain ⟨rb, e1, e2⟩ := dT_row hx hr
        obtain ⟨restS, ho⟩ := sign_at cl
        have hbi : 0 + (b : Int) + (i : Int) - 1 = ((b + k : Nat) : Int) := by omega
        exact ⟨.ref a, rfl, a, _, 0, .ref tb, rfl, rfl, SqT.of ea3, atI_nat (j := 0) rfl, _, rfl, tb, _, _, .ref rb, rfl, rfl, SqL.of eb3, atI_nat e1, _, rfl, ⟨_, rfl⟩, _, rfl, _, rfl, _, _, rfl, rfl, _, _, c, rfl, rfl, st, by rw [strOf_cps, hbi]; exact atI_nat hc, _, _, _, restS, rfl, rfl, ho, rb, _, _, _, rfl, rfl, SqL.of (z3.same _ _ (z3.up _ _ e2)), atI_nat (getI hrc), rest⟩
      refine ⟨.ref a, rfl, a, _, 1, .ref eb2, rfl, rfl, SqT.of ea3, atI_nat (j := 1) rfl, _, rfl, eb2, _, _, .bl e, rfl, rfl, SqL.of ee3, atI_nat (getB he'), e, rfl, ite2 (fun h => ?_) (fun h => ?_)⟩
      · refine ⟨.ref D, rfl, .inl ⟨rfl, _, SqL.of hD3⟩, _, rfl, _, rfl, by show 2 ≤ sizeLine; decide, fun tp nt => ?_⟩
        have dDt := ne_of_none hD3 nt
        refine ⟨D, _, _, rfl, rfl, by rw [upd_ne dDt]; exact hD3, szl (by omega), ?_⟩
        have z4 := z3.new (o := .tup [.int (0 + (b : Int) + (i : Int)), .int (0 + (b : Int))]) nt
        have gD4 : upd G3 tp (.tup [.int (0 + (b : Int) + (i : Int)), .int (0 + (b : Int))]) D = none := by rw [upd_ne dDt]; exact gD3
        refine ⟨_, zs ++ [.ref tp], some (.int (0 + (b : Int) + (i : Int))), rfl, z4.put nD gD4 (fun z => z), gD4, upd_same, ?_⟩
        rw [fdB_succ, if_pos (show isEnd m (stA l m t b i) = true by rw [isEnd_at he']; exact h), ← List.append_assoc, List.map_append]
        exact dps_snoc (dps_up dx3 (same_sub (free_of z3.same nt))) (.tup upd_same (.cons (by rw [show 0 + (b : Int) + (i : Int) = ((b + i : Nat) : Int) by omega]; exact .int _) (.cons (by rw [zb]; exact .int _) .nil)))
      · refine ⟨G3, zs, some (.int (0 + (b : Int) + (i : Int))), rfl, z3, gD3, hD3, ?_⟩
        rw [fdB_succ, if_neg (show ¬ isEnd m (stA l m t b i) = true by rw [isEnd_at he']; exact h), List.append_nil]
        exact dx3
    · obtain ⟨G3, zs, y6, rfl, z3, gD3, hD3, dx3⟩ := hP
      rw [← fdU_succ] at dx3
      exact ⟨G3, zs, _, _, y6, rfl, z3, gD3, hD3, dx3⟩
  · obtain ⟨G1, ys, y4, y5, y6, rfl, z1, gD1, hD1, dx1⟩ := hP
    have hn : ((t.length : Int) + 1).toNat = t.length + 1 := by omega
    rw [hn] at dx1
    obtain ⟨kx, kr⟩ := kN_all dx1
    refine ⟨.ref D, rfl, D, ys, kI G1, rfl, SqL.of hD1, fun x hx => ?_, fun zs p sr sb np => ?_⟩
    · obtain ⟨tq, e1, e2⟩ := kr x hx
      exact ⟨tq, e1, z1.same _ _ e2⟩
    have z2 := z1.new (o := .lst zs) np
    have ep : upd G1 p (.lst zs) p = some (.lst zs) := upd_same
    have up2 : Same G1 (upd G1 p (.lst zs)) := same_sub (free_of z1.same np)
    generalize upd G1 p (.lst zs) = G2 at z2 ep up2
    generalize upd H1 p (.lst zs) = H2 at z2
    have lzs : zs.length ≤ 60000 := by
      have h1 := sb.perm.length_eq
      have h2 := dps_len dx1
      rw [List.length_map] at h2
      have h3 := fdU_len (l := l) (m := m) tl (t.length + 1)
      have : (t.length + 1) * 201 ≤ 201 * 201 := Nat.mul_le_mul_right _ (by omega)
      omega
    refine ⟨p, rfl, ⟨_, SqL.of (z2.same _ _ ep)⟩, fun D2 nD2 => ?_⟩
    refine lc_draw (R := fun i d => ∃ y, zs[i]? = some y ∧ d = .tuple [.int ((kN G1 y).2 : Nat), .int ((kN G1 y).1 : Nat)]) (walk_list (xs := zs)) (by omega) z2.ok nD2 (fun H s => SqL.of (s _ _ ep)) (fun i x H5 G5 N hx hi z5 fin5 => ?_) (fun H5 G5 ds z5 dp5 _ hl hR => ?_)
    · obtain ⟨tq, rfl, e2⟩ := kr x (sb.perm.mem_iff.mp (List.mem_of_getElem? hx))
      refine ⟨tq, _, rfl, SqT.of (z5.same _ _ (z5.up _ _ (up2 _ _ e2))), rfl, _, _, rfl, _, _, rfl, rfl, rfl, ?_⟩
      refine ⟨_, rfl, _, rfl, by show 2 ≤ sizeLine; decide, fun tp nt => ?_⟩
      exact fin5 _ _ _ _ (z5.ok.fz.new nt) (.tup upd_same (.cons (.int _) (.cons (.int _) .nil))) ⟨_, hx, rfl⟩
    have eds : ds = (((zs.map (kN G1)).map fun p => (p.2, p.1)).map fun p => .tuple [.int (p.1 : Nat), .int (p.2 : Nat)]) := by
      refine List.ext_getElem? fun i => ?_
      rw [List.getElem?_map, List.getElem?_map, List.getElem?_map]
      by_cases hi : i < ds.length
      · have e1 : ds[i]? = some ds[i] := List.getElem?_eq_getElem hi
        obtain ⟨y, hy, e2⟩ := hR i _ e1
        rw [e1, hy, e2]
        rfl
      · rw [List.getElem?_eq_none (by omega), List.getElem?_eq_none (by omega)]
        rfl
    have srt := sorted_is (l := l) (m := m) (t := t) (ps := zs.map (kN G1)) ((sb.perm.map _).trans (by rw [kx]; exact List.Perm.refl _)) (List.pairwise_map.mpr (sr.imp fun {x y} h => by
      have := SrtO.lexB_no.mp h
      unfold kI at this
      intro z
      refine this ?_
      show ((kN G1 y).1 : Int) < (kN G1 x).1 ∨ (((kN G1 y).1 : Int) = (kN G1 x).1 ∧ ((kN G1 y).2 : Int) < (kN G1 x).2)
      omega))
    rw [srt] at eds
    subst eds
    exact q _ _ _ (z2.trans z5) dp5
theorem sc_law_counted : FnScope ["letters", "machine", "text", "counts", "state", "many", "sign", "place", "behind", "target"] ["letters", "machine", "text"] (defScope s_law_counted) := ⟨rfl, rfl, rfl, by decide +kernel, rfl, by decide +kernel, by decide +kernel⟩
-- pre
theorem init_list {n : Nat} : ((rngI 0 n).filter fun _ => true).map (fun x => match x with | .int s => V.int (if decide (V.int s = V.int 0) = true then 1 else 0) | _ => V.non) = (initL n).map V.int := by
  rw [filter_all]
  unfold initL
  rw [List.map_map, List.map_map]
  refine List.map_congr_left fun i _ => ?_
  show V.int (if decide (V.int (0 + (i : Int)) = V.int 0) = true then 1 else 0) = V.int (if i = 0 then 1 else 0)
  by_cases h : i = 0
  · subst h; rfl
  · rw [if_neg h, if_neg]
    intro z
    have := V.int.inj (of_decide_eq_true z)
    omega
theorem ok_law_counted {f : Addr} {fd : FuncData} (F : Fun K "_law_counted" "_law_counted" s_law_counted f fd) (T : Bt mg)  : FnG P w K mg base CX0 1 f fd ["letters", "machine", "text"] (spCounted) := by
  refine FnG.calm F sc_law_counted (fun vs H Q E h => by first | (obtain ⟨_, rfl, _⟩ := h; rfl) | (obtain ⟨_, _, rfl, _⟩ := h; rfl) | (obtain ⟨_, _, _, rfl, _⟩ := h; rfl) | (obtain ⟨_, _, _, _, rfl, _⟩ := h; rfl) | (obtain ⟨_, _, _, _, _, rfl, _⟩ := h; rfl) | (obtain ⟨_, _, _, _, _, _, rfl, _⟩ := h; rfl) | (obtain ⟨_, _, _, _, _, _, _, rfl, _⟩ := h; rfl) | (obtain ⟨_, _, _, _, _, _, _, _, rfl, _⟩ := h; rfl)) (fun cd A out z H vs Q E hg hr h => ?_)
  have nd := sc_law_counted.nd
  obtain ⟨l, t, v, m, G, rfl, IL, ok, dm, mo, ⟨tl, ht⟩, q⟩ := h
  obtain ⟨a, x, y, rfl, ea, dt, de⟩ := dM dm
  obtain ⟨tb, txs, rfl, eb, hx⟩ := dp_list dt
  obtain ⟨eb2, rfl, ee⟩ := dB de
  have n1 := mo.pos
  have n60 := mo.most
  have ltx : txs.length = m.tab.length := by rw [dps_len hx, List.length_map]
  obtain ⟨e0, he0⟩ := mo.at_end (s := 0) (by omega) (by omega)
  have he0' : m.ends[0]? = some e0 := he0
  refine ⟨_, (pss_cons (ps_set (i := 3) nd rfl (by first | exact Or.inl rfl | exact Or.inr rfl) (pe_lc (own := [("state", 4)]) (tt := tYes) (g := gName 4) rfl nd (pi_range1 (by rfl) T.m_range (pa_cons (pe_callB (lenQ K) (by rfl) T.m_len PySem.boot_len (pa_cons (pe_ix (ixT K) (pv 1) pe_int (fun _ _ => rfl)) pa_nil)) pa_nil)) (blkOk_by (by kernel_rfl)) (fun _ _ _ _ _ => (pg_name (i := 4) nd rfl (by first | exact Or.inl rfl | exact Or.inr rfl))) (fun _ _ _ _ _ => pts_nil) (fun _ _ _ _ _ => (pe_callTy call_int1 (by rfl) T.m_int (by decide +kernel) (pa_cons (pe_cmpR op_eq (pv 4) pe_int (nomark _)) pa_nil)))))
    (pss_cons (ps_set (i := 5) nd rfl (by first | exact Or.inl rfl | exact Or.inr rfl) (pe_callTy call_int1 (by rfl) T.m_int (by decide +kernel) (pa_cons (pe_ix (ixL K) (pe_ix (ixT K) (pv 1) pe_int (fun _ _ => rfl)) pe_int (fun _ _ => rfl)) pa_nil)))
    (pss_cons (ps_for PassesOwn.never rfl (pi_str (pv 2)) (pg_name (i := 6) nd rfl (by first | exact Or.inl rfl | exact Or.inr rfl))
    (pss_cons (ps_set (i := 7) nd rfl (by first | exact Or.inl rfl | exact Or.inr rfl) (pe_sindex (pv 0) (pv 6)))
      (pss_cons (ps_setLc (i := 8) (own := [("state", 4)]) (tt := tYes) (g := gName 4) rfl nd rfl rfl (sw_true rfl rfl rfl (by decide +kernel)) (pi_range1 (by rfl) T.m_range (pa_cons (pe_callB (lenQ K) (by rfl) T.m_len PySem.boot_len (pa_cons (pv 3) pa_nil)) pa_nil)) (blkOk_by (by kernel_rfl)) (fun _ _ _ _ _ => (pg_name (i := 4) nd rfl (by first | exact Or.inl rfl | exact Or.inr rfl))) (fun _ _ _ _ _ => pts_nil) (fun _ _ _ _ _ => (pe_callTy call_int1 (by rfl) T.m_int (by decide +kernel) (pa_cons (pe_cmpR op_eq (pv 4) pe_int (nomark _)) pa_nil))))
      (pss_cons (ps_for PassesOwn.never rfl (pi_range1 (by rfl) T.m_range (pa_cons (pe_callB (lenQ K) (by rfl) T.m_len PySem.boot_len (pa_cons (pv 3) pa_nil)) pa_nil)) (pg_name (i := 4) nd rfl (by first | exact Or.inl rfl | exact Or.inr rfl))
      (pss_cons (ps_set (i := 9) nd rfl (by first | exact Or.inl rfl | exact Or.inr rfl) (pe_ix (ixL K) (pe_ix (ixL K) (pe_ix (ixT K) (pv 1) pe_int (fun _ _ => rfl)) (pv 4) (fun _ _ => rfl)) (pv 7) (fun _ _ => rfl)))
        (pss_one (ps_asg (pe_op op_add (pe_ix (ixL K) (pv 8) (pv 9) (fun _ _ => rfl)) (pe_ix (ixL K) (pv 3) (pv 4) (fun _ _ => rfl))) (pg_sub (pv 8) (pv 9) set_list)))))
      (pss_cons (ps_set (i := 3) nd rfl (by first | exact Or.inl rfl | exact Or.inr rfl) (pv 8))
      (pss_one (ps_set (i := 5) nd rfl (by first | exact Or.inl rfl | exact Or.inr rfl) (pe_op op_add (pv 5) (pe_callB (sumQ K rfl) (by rfl) T.m_sum (by decide +kernel) (pa_cons (pe_lc (own := [("state", 4)]) (g := gName 4) rfl nd (pi_range1 (by rfl) T.m_range (pa_cons (pe_callB (lenQ K) (by rfl) T.m_len PySem.boot_len (pa_cons (pv 3) pa_nil)) pa_nil)) (blkOk_by (by kernel_rfl)) (fun _ _ _ _ _ => (pg_name (i := 4) nd rfl (by first | exact Or.inl rfl | exact Or.inr rfl))) (fun _ _ _ _ _ => pts_one (pt_val (pe_ix (ixL K) (pe_ix (ixT K) (pv 1) pe_int (fun _ _ => rfl)) (pv 4) (fun _ _ => rfl)))) (fun _ _ _ _ _ => (pe_ix (ixL K) (pv 3) (pv 4) (fun _ _ => rfl)))) pa_nil))))))))))
    (pss_one (ps_ret (pv 5)))))), ?_⟩
  refine ⟨.ref a, rfl, a, _, 0, .ref tb, rfl, rfl, SqT.of (ok.same _ _ ea), atI_nat (j := 0) rfl, tb, _, rfl, .inl (SqL.of (ok.same _ _ eb)), _, rfl, by rw [ltx]; omega, by rw [ltx]; omega, fun d0 nd0 => ?_⟩
  rw [ltx, Int.toNat_natCast]
  refine lc_map walkR (fun x => match x with | .int s => .int (if decide (V.int s = V.int 0) = true then 1 else 0) | _ => .non) (fun _ => true) (by rw [lenR]; omega) (fun _ => trivial) (fun i x acc N hx2 fin _ => ?_) ?_
  · obtain ⟨_, rfl⟩ := rngI_at hx2
    exact ⟨rfl, _, rfl, rfl, .inr ⟨_, rfl, fin rfl⟩⟩
  rw [init_list]
  have z0 := ok.fz.loc (o := .lst ((initL m.tab.length).map V.int)) nd0
  have hd0 : upd H d0 (.lst ((initL m.tab.length).map V.int)) d0 = some (.lst ((initL m.tab.length).map V.int)) := upd_same
  generalize upd H d0 (.lst ((initL m.tab.length).map V.int)) = H1 at z0 hd0
  refine ⟨.ref a, rfl, a, _, 1, .ref eb2, rfl, rfl, SqT.of (z0.same _ _ ea), atI_nat (j := 1) rfl, eb2, _, 0, .bl e0, rfl, rfl, SqL.of (z0.same _ _ ee), atI_nat (j := 0) (getB he0'), .inr ⟨e0, rfl, ?_⟩⟩
  have w0 : (if e0 = true then (1 : Int) else 0) = ((cU l m t 0 : Nat) : Int) := by
    rw [cU_zero, isEnd_at he0']; cases e0 <;> rfl
  rw [w0]
  refine ⟨_, rfl, _, rfl, ?_⟩
  refine for_it (walkS (l := t)) (fun i σ H1 => ∃ (dc : Addr) (cs : List Int) (y4 y6 y7 y8 y9 : Option V), σ = [some (.str (strOf l)), some (.ref a), some (.str (strOf t)), some (.ref dc), y4, some (.int (cU l m t i : Nat)), y6, y7, y8, y9] ∧ Fz NoS H G H1 G ∧ H dc = none ∧ H1 dc = some (.lst (cs.map V.int)) ∧ cs.length = m.tab.length ∧ ∀ f, wL f cs = wS f (SL l m t i))
    ⟨d0, _, none, none, none, none, none, rfl, z0, nd0, hd0, initL_len, fun f => by rw [wL_init n1, SL_zero]; show f 0 = f 0 + 0; omega⟩ (fun _ _ _ _ _ => trivial) (fun i x σ H1 H1' hi hP hy => ?_) (fun σ H1 hP => ?_)
  · obtain ⟨rfl, hcx⟩ := hy
    obtain ⟨dc, cs, y4, y6, y7, y8, y9, rfl, z, ndc, hdc, lcs, ci⟩ := hP
    obtain ⟨c, hc, rfl⟩ := sgnI_at hcx
    have cl := ht c (List.mem_of_getElem? hc)
    obtain ⟨rest, ho⟩ := sign_at cl
    have lcm : (cs.map V.int).length = m.tab.length := by rw [List.length_map, lcs]
    refine ⟨_, rfl, ⟨_, rfl⟩, _, rfl, _, _, _, rest, rfl, rfl, ho, ?_⟩
    refine ⟨.ref dc, rfl, dc, _, rfl, .inl (SqL.of hdc), _, rfl, by rw [lcm]; omega, by rw [lcm]; omega, fun db ndb => ?_⟩
    rw [lcm, Int.toNat_natCast]
    refine lc_map walkR (fun x => match x with | .int s => .int (if decide (V.int s = V.int 0) = true then 1 else 0) | _ => .non) (fun _ => true) (by rw [lenR]; omega) (fun _ => trivial) (fun i x acc N hx2 fin _ => ?_) ?_
    · obtain ⟨_, rfl⟩ := rngI_at hx2
      exact ⟨rfl, _, rfl, rfl, .inr ⟨_, rfl, fin rfl⟩⟩
    rw [init_list]
    have z1 := z.loc (o := .lst ((initL m.tab.length).map V.int)) ndb
    have cb : dc ≠ db := ne_of_none hdc ndb
    have ndb0 := z.step.free ndb
    have gdb : G db = none := free_of ok.same ndb0
    have hdb : upd H1' db (.lst ((initL m.tab.length).map V.int)) db = some (.lst ((initL m.tab.length).map V.int)) := upd_same
    have hdc1 : upd H1' db (.lst ((initL m.tab.length).map V.int)) dc = some (.lst (cs.map V.int)) := by rw [upd_ne cb]; exact hdc
    generalize upd H1' db (.lst ((initL m.tab.length).map V.int)) = H2 at z1 hdb hdc1
    refine ⟨.ref dc, rfl, dc, _, rfl, .inl (SqL.of hdc1), _, rfl, by rw [lcm]; omega, by rw [lcm]; omega, ?_⟩
    rw [lcm, Int.toNat_natCast]
    refine for_range (lo := 0) (fun j σ H5 => ∃ (bs : List Int) (y4 y9 : Option V), σ = [some (.str (strOf l)), some (.ref a), some (.str (strOf t)), some (.ref dc), y4, some (.int (cU l m t i : Nat)), some (.str (strOf [c])), some (.int (l.idxOf c : Nat)), some (.ref db), y9] ∧ Fz NoS H G H5 G ∧ H5 dc = some (.lst (cs.map V.int)) ∧ H5 db = some (.lst (bs.map V.int)) ∧ bs.length = m.tab.length ∧ ∀ f, wL f bs = f 0 + wL (fun s => f (step1 l m s c)) (cs.take j))
      ⟨_, y4, y9, rfl, z1, hdc1, hdb, initL_len, fun f => by rw [wL_init n1]; show f 0 = f 0 + 0; omega⟩ (fun j σ H5 hj hP => ?_) (fun σ H5 hP => ?_)
    · obtain ⟨bs, y4, y9, rfl, z5, hdc5, hdb5, lbs, cj⟩ := hP
      have zj : (0 : Int) + (j : Int) = (j : Nat) := Int.zero_add _
      obtain ⟨r, hr, hrc, hl⟩ := step1_ok mo hj cl
      obtain ⟨rb, e1, e2⟩ := dT_row hx hr
      obtain ⟨u, hu⟩ : ∃ u, bs[step1 l m j c]? = some u := ⟨_, List.getElem?_eq_getElem (by omega)⟩
      obtain ⟨w, hw⟩ : ∃ w, cs[j]? = some w := ⟨_, List.getElem?_eq_getElem (by omega)⟩
      refine ⟨.ref a, rfl, a, _, 0, .ref tb, rfl, rfl, SqT.of (z5.same _ _ ea), atI_nat (j := 0) rfl, _, rfl, tb, _, _, .ref rb, rfl, rfl, SqL.of (z5.same _ _ eb), by rw [zj]; exact atI_nat e1, _, rfl, rb, _, _, _, rfl, rfl, SqL.of (z5.same _ _ e2), atI_nat (getI hrc), ?_⟩
      refine ⟨.ref db, rfl, _, rfl, db, _, _, .int u, rfl, rfl, SqL.of hdb5, atI_nat (getI hu), .ref dc, rfl, _, rfl, dc, _, _, .int w, rfl, rfl, SqL.of hdc5, by rw [zj]; exact atI_nat (getI hw), _, _, rfl, rfl, ?_⟩
      refine ⟨.ref db, rfl, _, rfl, db, _, _, _, rfl, rfl, hdb5, ixN_of (by omega) (by rw [List.length_map, lbs]; omega), ?_⟩
      rw [Int.toNat_natCast, map_set_int]
      refine ⟨_, _, _, rfl, z5.put ndb0 gdb (fun z => z), by rw [upd_ne cb]; exact hdc5, upd_same, by rw [List.length_set, lbs], fun f => ?_⟩
      rw [wL_set hu, cj, wL_take hw]
      omega
    · obtain ⟨bs, y4, y9, rfl, z5, hdc5, hdb5, lbs, cj⟩ := hP
      have ci2 : ∀ f, wL f bs = wS f (SL l m t (i + 1)) := fun f => by
        rw [cj, ← lcs, List.take_length, ci, wS_succ hc]
      have lbm : (bs.map V.int).length = m.tab.length := by rw [List.length_map, lbs]
      refine ⟨_, rfl, _, rfl, .ref db, rfl, db, _, rfl, .inl (SqL.of hdb5), _, rfl, by rw [lbm]; omega, by rw [lbm]; omega, fun Dc nc => ?_⟩
      rw [lbm, Int.toNat_natCast]
      have bc : db ≠ Dc := ne_of_none hdb5 nc
      have ea5 := z5.same _ _ ea
      have ee5 := z5.same _ _ ee
      refine lc_map walkR (fun x => match x with | .int s => .int (bs.getD s.toNat 0) | _ => .non) (fun x => match x with | .int s => isEnd m s.toNat | _ => false) (by rw [lenR]; omega) (fun _ => trivial) (fun j x acc N hx2 fin skip => ?_) ?_
      · obtain ⟨hj, rfl⟩ := rngI_at hx2
        have zt : (0 + (j : Int)).toNat = j := by omega
        have zj : (0 : Int) + (j : Int) = (j : Nat) := Int.zero_add _
        obtain ⟨e, he⟩ := mo.at_end (s := (j : Int)) (by omega) (by omega)
        have he' : m.ends[j]? = some e := he
        obtain ⟨u, hu⟩ : ∃ u, bs[j]? = some u := ⟨_, List.getElem?_eq_getElem (by omega)⟩
        have fin' : isEnd m j = true → _ := fun h => fin (show isEnd m (0 + (j : Int)).toNat = true by rw [zt]; exact h)
        have skip' : isEnd m j = false → _ := fun h => skip (show isEnd m (0 + (j : Int)).toNat = false by rw [zt]; exact h)
        have eg : bs.getD (0 + (j : Int)).toNat 0 = u := by rw [zt, List.getD_eq_getElem?_getD, hu]; rfl
        refine ⟨rfl, ?_⟩
        refine ⟨.ref a, rfl, a, _, 1, .ref eb2, rfl, rfl, SqT.of (by rw [upd_ne (ne_of_none ea5 nc)]; exact ea5), atI_nat (j := 1) rfl, _, rfl, eb2, _, _, .bl e, rfl, rfl, SqL.of (by rw [upd_ne (ne_of_none ee5 nc)]; exact ee5), by rw [zj]; exact atI_nat (getB he'), e, rfl, ite2 (fun h => ?_) (fun h => ?_)⟩
        · have f2 := fin' (by rw [isEnd_at he']; exact h)
          refine ⟨.ref db, rfl, _, rfl, db, _, _, .int u, rfl, rfl, SqL.of (by rw [upd_ne bc]; exact hdb5), by rw [zj]; exact atI_nat (getI hu), ?_⟩
          rw [← eg]
          exact f2
        · exact skip' (by rw [isEnd_at he']; exact Bool.eq_false_iff.mpr h)
      have elist : ((rngI 0 m.tab.length).filter fun x => match x with | .int s => isEnd m s.toNat | _ => false).map (fun x => match x with | .int s => V.int (bs.getD s.toNat 0) | _ => V.non) = (((List.range m.tab.length).filter (isEnd m)).map fun i => bs.getD i 0).map V.int := by
        unfold rngI
        rw [List.filter_map, List.map_map, List.map_map]
        have hfl : ((fun x => match x with | V.int s => isEnd m s.toNat | _ => false) ∘ fun i : Nat => V.int (0 + (i : Nat))) = isEnd m := by
          funext i
          show isEnd m (0 + (i : Int)).toNat = isEnd m i
          rw [show (0 + (i : Int)).toNat = i by omega]
        rw [hfl]
        refine List.map_congr_left fun i _ => ?_
        show V.int (bs.getD (0 + (i : Int)).toNat 0) = V.int (bs.getD i 0)
        rw [show (0 + (i : Int)).toNat = i by omega]
      rw [elist]
      refine ⟨Dc, _, rfl, SqL.of upd_same, _, _, rfl, rfl, ?_⟩
      rw [sum_ends _ (by omega), show bs.take m.tab.length = bs by rw [← lbs, List.take_length], ci2, wS_count]
      refine ⟨db, bs, y4, some (.str (strOf [c])), some (.int (l.idxOf c : Nat)), some (.ref db), y9, ?_, z5.loc nc, ndb0, by rw [upd_ne bc]; exact hdb5, lbs, ci2⟩
      rw [cU_succ, show ((cU l m t i + cE l m t (i + 1) : Nat) : Int) = (cU l m t i : Int) + ((SL l m t (i + 1)).countP (isEnd m) : Nat) by unfold cE; omega]
      rfl
  · obtain ⟨dc, cs, y4, y6, y7, y8, y9, rfl, z, _⟩ := hP
    rw [lenS]
    exact ⟨_, rfl, q H1 z.step⟩
theorem sc_law_is_count : FnScope ["told", "due"] ["told", "due"] (defScope s_law_is_count) := ⟨rfl, rfl, rfl, by decide +kernel, rfl, by decide +kernel, by decide +kernel⟩
theorem ok_law_is_count {f : Addr} {fd : FuncData} (F : Fun K "_law_is_count" "_law_is_count" s_law_is_count f fd) (T : Bt mg)  : FnG P w K mg base CX0 1 f fd ["told", "due"] (spIsNum) := by
  refine FnG.calm F sc_law_is_count (fun vs H Q E h => by first | (obtain ⟨_, rfl, _⟩ := h; rfl) | (obtain ⟨_, _, rfl, _⟩ := h; rfl) | (obtain ⟨_, _, _, rfl, _⟩ := h; rfl) | (obtain ⟨_, _, _, _, rfl, _⟩ := h; rfl) | (obtain ⟨_, _, _, _, _, rfl, _⟩ := h; rfl) | (obtain ⟨_, _, _, _, _, _, rfl, _⟩ := h; rfl) | (obtain ⟨_, _, _, _, _, _, _, rfl, _⟩ := h; rfl) | (obtain ⟨_, _, _, _, _, _, _, _, rfl, _⟩ := h; rfl)) (fun cd A out z H vs Q E hg hr h => ?_)
  have nd := sc_law_is_count.nd
  obtain ⟨a, b, rfl, q⟩ := h
  refine ⟨_, (pss_one (ps_ret (pe_and (pe_callB (isiQ K) (by rfl) T.m_isinstance (by decide +kernel) (pa_cons (pv 0) (pa_cons (pe_bltn (v := .ty "int") (by rfl) T.m_int (by decide +kernel) rfl) pa_nil))) (pe_and (pe_not (pe_callB (isiQ K) (by rfl) T.m_isinstance (by decide +kernel) (pa_cons (pv 0) (pa_cons (pe_bltn (v := .ty "bool") (by rfl) T.m_bool (by decide +kernel) rfl) pa_nil)))) (pe_one (pe_cmpR op_eq (pv 0) (pv 1) (nomark _))))))), ?_⟩
  refine ⟨_, rfl, _, _, .type "int", .type "int", true, rfl, .ty "int", .base (.int a), kit_ty (by decide +kernel), true, rfl, ?_⟩
  refine ⟨_, rfl, _, _, .type "int", .type "bool", false, rfl, .ty "bool", .base (.int a), kit_ty (by decide +kernel), false, rfl, true, rfl, ?_⟩
  refine ⟨_, rfl, _, rfl, rfl, ?_⟩
  rw [show decide (V.int a = V.int b) = decide (a = b) by
    by_cases h : a = b
    · rw [h, decide_eq_true rfl, decide_eq_true rfl]
    · rw [decide_eq_false h, decide_eq_false fun z => h (V.int.inj z)]]
  exact q
theorem sc_law_long : FnScope ["pool", "letters", "text", "many", "every", "sign", "machine"] ["pool", "letters"] (defScope s_law_long) := ⟨rfl, rfl, rfl, by decide +kernel, rfl, by decide +kernel, by decide +kernel⟩
-- pre
theorem lens_of {k : Int} (h0 : 0 ≤ k) (h : k < 4) : ∃ n : Nat, atI [V.int 1000, V.int 2500, V.int 3999, V.int 4000] k = some (.int (n : Nat)) ∧ n ≤ 4000 := by
  have h : k = 0 ∨ k = 1 ∨ k = 2 ∨ k = 3 := by omega
  rcases h with rfl | rfl | rfl | rfl
  · exact ⟨1000, rfl, by decide⟩
  · exact ⟨2500, rfl, by decide⟩
  · exact ⟨3999, rfl, by decide⟩
  · exact ⟨4000, rfl, by decide⟩
theorem ok_law_long {f : Addr} {fd : FuncData} (F : Fun K "_law_long" "_law_long" s_law_long f fd) (T : Bt mg) (D_law_chain : DefG P w K mg base CX0 1 "_law_chain" ["letters", "word"] (spChain1)) (D_law_counted : DefG P w K mg base CX0 1 "_law_counted" ["letters", "machine", "text"] (spCounted)) (D_law_is_count : DefG P w K mg base CX0 1 "_law_is_count" ["told", "due"] (spIsNum)) (D_law_pick : DefG P w K mg base CX0 1 "_law_pick" ["pool", "many"] (spPick)) (D_law_shape : DefG P w K mg base CX0 4 "_law_shape" ["pool", "letters", "most"] (spShape)) (D_law_text : DefG P w K mg base CX0 3 "_law_text" ["pool", "letters", "length"] (spText)) (Dcount_places : DefG P w K mg base CX0 1 "count_places" ["letters", "machine", "text"] (spCountP)) : FnG P w K mg base CX0 5 f fd ["pool", "letters"] (spLong) := by
  refine FnG.calm F sc_law_long (fun vs H Q E h => by first | (obtain ⟨_, rfl, _⟩ := h; rfl) | (obtain ⟨_, _, rfl, _⟩ := h; rfl) | (obtain ⟨_, _, _, rfl, _⟩ := h; rfl) | (obtain ⟨_, _, _, _, rfl, _⟩ := h; rfl) | (obtain ⟨_, _, _, _, _, rfl, _⟩ := h; rfl) | (obtain ⟨_, _, _, _, _, _, rfl, _⟩ := h; rfl) | (obtain ⟨_, _, _, _, _, _, _, rfl, _⟩ := h; rfl) | (obtain ⟨_, _, _, _, _, _, _, _, rfl, _⟩ := h; rfl)) (fun cd A out z H vs Q E hg hr h => ?_)
  have nd := sc_law_long.nd
  obtain ⟨pa, l, G, rfl, IL, ok, q⟩ := h
  have l6 := IL.six
  have l1 := IL.pos
  have sl : (strOf l).length ≤ sizeLine := by rw [strOf_len]; exact sz (by omega)
  refine ⟨_, (pss_cons (ps_set (i := 2) nd rfl (by first | exact Or.inl rfl | exact Or.inr rfl) (pe_fn D_law_text hg (hr.mono (by decide)) (pa_cons (pv 0) (pa_cons (pv 1) (pa_cons (pe_ix (ixL K) (pe_lst (pa_cons pe_int (pa_cons pe_int (pa_cons pe_int (pa_cons pe_int pa_nil))))) (pe_fn D_law_pick hg (hr.mono (by decide)) (pa_cons (pv 0) (pa_cons pe_int pa_nil))) (fun _ _ => rfl)) pa_nil)))))
    (pss_cons (ps_set (i := 3) nd rfl (by first | exact Or.inl rfl | exact Or.inr rfl) (pe_callB call_len_str (by rfl) T.m_len PySem.boot_len (pa_cons (pv 2) pa_nil)))
    (pss_cons (ps_set (i := 4) nd rfl (by first | exact Or.inl rfl | exact Or.inr rfl) (pe_tup (pa_cons (pe_lst (pa_cons (pe_lc (own := [("sign", 5)]) (tt := tYes) (g := gName 5) rfl nd (pi_str (pv 1)) (blkOk_by (by kernel_rfl)) (fun _ _ _ _ _ => (pg_name (i := 5) nd rfl (by first | exact Or.inl rfl | exact Or.inr rfl))) (fun _ _ _ _ _ => pts_nil) (fun _ _ _ _ _ => pe_int)) pa_nil)) (pa_cons (pe_lst (pa_cons pe_bl pa_nil)) pa_nil))))
    (pss_cons (ps_if (pt_not (pt_val (pe_fn D_law_is_count hg (hr.mono (by decide)) (pa_cons (pe_fn Dcount_places hg (hr.mono (by decide)) (pa_cons (pv 1) (pa_cons (pv 4) (pa_cons (pv 2) pa_nil)))) (pa_cons (pe_op op_fdiv (pe_op op_mul (pe_op op_add (pv 3) pe_int) (pe_op op_add (pv 3) pe_int)) pe_int) pa_nil))))) (pss_one (ps_ret pe_bl)) pss_nil)
    (pss_cons (ps_set (i := 5) nd rfl (by first | exact Or.inl rfl | exact Or.inr rfl) (pe_ix ix_str (pv 1) (pe_fn D_law_pick hg (hr.mono (by decide)) (pa_cons (pv 0) (pa_cons (pe_callB call_len_str (by rfl) T.m_len PySem.boot_len (pa_cons (pv 1) pa_nil)) pa_nil))) (fun _ _ => rfl)))
    (pss_cons (ps_if (pt_not (pt_val (pe_fn D_law_is_count hg (hr.mono (by decide)) (pa_cons (pe_fn Dcount_places hg (hr.mono (by decide)) (pa_cons (pv 1) (pa_cons (pe_fn D_law_chain hg (hr.mono (by decide)) (pa_cons (pv 1) (pa_cons (pv 5) pa_nil))) (pa_cons (pv 2) pa_nil)))) (pa_cons (pe_scount (pv 2) (pv 5)) pa_nil))))) (pss_one (ps_ret pe_bl)) pss_nil)
    (pss_cons (ps_set (i := 6) nd rfl (by first | exact Or.inl rfl | exact Or.inr rfl) (pe_fn D_law_shape hg (hr.mono (by decide)) (pa_cons (pv 0) (pa_cons (pv 1) (pa_cons pe_int pa_nil)))))
    (pss_one (ps_ret (pe_fn D_law_is_count hg (hr.mono (by decide)) (pa_cons (pe_fn Dcount_places hg (hr.mono (by decide)) (pa_cons (pv 1) (pa_cons (pv 6) (pa_cons (pv 2) pa_nil)))) (pa_cons (pe_fn D_law_counted hg (hr.mono (by decide)) (pa_cons (pv 1) (pa_cons (pv 6) (pa_cons (pv 2) pa_nil)))) pa_nil)))))))))))), ?_⟩
  refine ⟨.ref pa, rfl, _, rfl, by show 4 ≤ sizeLine; decide, fun x1 nx1 => ?_⟩
  have y1 := ok.fz.loc (o := .lst [.int 1000, .int 2500, .int 3999, .int 4000]) nx1
  refine ⟨.ref pa, rfl, pa, 4, rfl, y1.pool, by decide, by decide, fun k2 H2 a2 c2 _ s2 po2 => ?_⟩
  have y2 := y1.stepS s2 po2
  have ax1 := ok.ne nx1
  obtain ⟨n, hn, n4⟩ := lens_of a2 c2
  refine ⟨x1, _, _, _, rfl, rfl, SqL.of (s2.own_stays ax1 upd_same), hn, pa, l, n, rfl, y2.pool, IL, by omega, fun t H3 s3 po3 lt ht => ?_⟩
  have z3 := y2.stepS s3 po3
  clear y1 y2 s2 po2 s3 po3
  have st : (strOf t).length ≤ sizeLine := by rw [strOf_len]; exact sz (by omega)
  have it : IsTextN l t 5000 := ⟨by omega, ht⟩
  refine ⟨_, rfl, _, rfl, st, ?_⟩
  rw [strOf_len]
  -- every
  refine ⟨_, rfl, _, rfl, fun D nD => ?_⟩
  refine lc_map walkS (fun _ => .int 0) (fun _ => true) (by rw [lenS]; omega) (fun _ => trivial) (fun j x acc N hx fin _ => ⟨rfl, fin rfl⟩) ?_
  have er : ((sgnI l).filter fun _ => true).map (fun _ => V.int 0) = (List.replicate l.length 0).map V.int := by
    rw [filter_all, List.map_map, List.map_replicate]
    exact List.map_const' ..
  rw [er]
  have z4 := z3.new (o := .lst ((List.replicate l.length 0).map V.int)) nD
  have e4 : upd G D (.lst ((List.replicate l.length 0).map V.int)) D = some (.lst ((List.replicate l.length 0).map V.int)) := upd_same
  generalize upd G D (.lst ((List.replicate l.length 0).map V.int)) = G4 at z4 e4
  generalize upd H3 D (.lst ((List.replicate l.length 0).map V.int)) = H4 at z4
  refine ⟨by show 1 ≤ sizeLine; decide, fun p5 n5 => ?_⟩
  have z5 := z4.new (o := .lst [.ref D]) n5
  have d5 : Dq (upd G4 p5 (.lst [.ref D])) (.ref p5) (DT [List.replicate l.length 0]) := .lst upd_same (.cons (dp_up (Idp e4) (same_sub (free_of z4.same n5))) .nil)
  generalize upd G4 p5 (.lst [.ref D]) = G5 at z5 d5
  refine ⟨by show 1 ≤ sizeLine; decide, fun p6 n6 => ?_⟩
  have z6 := z5.new (o := .lst [.bl true]) n6
  have s6 := same_sub (o := .lst [.bl true]) (free_of z5.same n6)
  have d6 : Dq (upd G5 p6 (.lst [.bl true])) (.ref p6) (DB [true]) := Bdp upd_same
  have d5' := dp_up d5 s6
  generalize upd G5 p6 (.lst [.bl true]) = G6 at z6 d6 d5'
  refine ⟨by show 2 ≤ sizeLine; decide, fun p7 n7 => ?_⟩
  have z7 := z6.new (o := .tup [.ref p5, .ref p6]) n7
  have s7 := same_sub (o := .tup [.ref p5, .ref p6]) (free_of z6.same n7)
  have d7 : Dq (upd G6 p7 (.tup [.ref p5, .ref p6])) (.ref p7) (DM (everyM l.length)) := Mdp upd_same (dp_up d5' s7) (dp_up d6 s7)
  generalize upd G6 p7 (.tup [.ref p5, .ref p6]) = G7 at z7 d7
  generalize upd (upd (upd H4 p5 (.lst [.ref D])) p6 (.lst [.bl true])) p7 (.tup [.ref p5, .ref p6]) = H7 at z7
  clear z6 z5 z4 z3
  refine ⟨_, rfl, _, rfl, _, rfl, l, t, _, _, G7, rfl, IL, z7.ok.narrow, d7, every_ok, it, fun H8 s8 => ?_⟩
  have z8 := z7.step0 s8
  refine ⟨_, rfl, _, _, rfl, rfl, _, rfl, _, _, rfl, rfl, _, _, rfl, rfl, .inr ⟨by omega, by omega⟩, _, _, rfl, rfl, ⟨by decide, by decide⟩, _, _, rfl, ?_⟩
  have hev : ((t.length : Int) + 1) * ((t.length : Int) + 2) / 2 = (cntP l (everyM l.length) t : Nat) := two_c (c := 0) (every_cU ht t.length)
  rw [hev, decide_eq_true rfl]
  refine ⟨true, rfl, ?_⟩
  -- sign
  refine ⟨_, rfl, .ref pa, rfl, _, rfl, _, rfl, sl, ?_⟩
  rw [strOf_len]
  refine ⟨pa, _, rfl, z8.pool, by omega, by omega, fun k9 H9 a9 c9 _ s9 po9 => ?_⟩
  have z9 := z8.stepS s9 po9
  obtain ⟨x, xl, hxa⟩ := sign_in a9 c9
  refine ⟨_, _, x, rfl, rfl, sl, hxa, ?_⟩
  refine ⟨_, rfl, _, rfl, _, rfl, l, [x], G7, rfl, IL, fun c hc => by rw [List.mem_singleton.mp hc]; exact xl, by show 1 ≤ 50; decide, z9.ok.narrow, fun H10 G10 r m z10 d10 o10 hm => ?_⟩
  have hm := hm x rfl
  subst hm
  have z10' := z9.call z10
  refine ⟨_, rfl, l, t, _, _, G10, rfl, IL, z10'.ok.narrow, d10, o10, it, fun H11 s11 => ?_⟩
  have z11 := z10'.step0 s11
  refine ⟨_, rfl, ⟨_, rfl⟩, _, rfl, _, _, rfl, rfl, ?_⟩
  refine ⟨_, _, rfl, ?_⟩
  have hone : Txt.count (strOf t) ⟨#[x]⟩ = (cntP l (oneM l x) t : Nat) := by
    have h1 := txt_count t x
    have h2 := one_cU xl ht t.length (Nat.le_refl _)
    rw [List.take_length] at h2
    unfold cntP
    rw [h2]; exact h1
  rw [hone, decide_eq_true rfl]
  refine ⟨true, rfl, ?_⟩
  -- machine
  refine ⟨.ref pa, rfl, _, rfl, pa, l, 6, G10, rfl, IL, by decide, by decide, z11.ok, fun H12 G12 r m z12 d12 o12 => ?_⟩
  have z12' := z11.trans z12
  refine ⟨_, rfl, _, rfl, _, rfl, l, t, r, m, G12, rfl, IL, z12'.ok.narrow, d12, o12, it, fun H13 s13 => ?_⟩
  have z13 := z12'.step0 s13
  refine ⟨_, rfl, _, rfl, _, rfl, l, t, r, m, G12, rfl, IL, z13.ok.narrow, d12, o12, it, fun H14 s14 => ?_⟩
  have z14 := z13.step0 s14
  refine ⟨_, _, rfl, ?_⟩
  rw [decide_eq_true rfl]
  exact q _ z14.step z14.ok.pools
theorem sc_law : FnScope ["script", "pool", "letters", "great", "machines", "texts", "kept", "one", "other", "due", "told"] ["script"] (defScope s_law) := ⟨rfl, rfl, rfl, by decide +kernel, rfl, by decide +kernel, by decide +kernel⟩
-- pre
/-- the law's lists -/
structure LSt (pa pm pt : Addr) (H1 H0 : Hp) (l : List Nat) (Hc Gc : Hp) (r1 r2 : V) (m1 m2 : Mach) (t1 t2 : List Nat) : Prop where
  z : Fz (At pa) H1 H0 Hc Gc
  nm : H1 pm = none
  nt : H1 pt = none
  gm : Gc pm = none
  gt : Gc pt = none
  em : Hc pm = some (.lst [r1, r2])
  et : Hc pt = some (.lst [.str (strOf t1), .str (strOf t2)])
  mt : pm ≠ pt
  am : ¬ At pa pm
  at_ : ¬ At pa pt
  d1 : Dq Gc r1 (DM m1)
  d2 : Dq Gc r2 (DM m2)
  o1 : MachOk l.length m1
  o2 : MachOk l.length m2
  x1 : IsText l t1
  x2 : IsText l t2
section
variable {pa pm pt : Addr} {H1 H0 Hc Gc H' G' : Hp} {l t1 t2 t' : List Nat} {r1 r2 r' : V} {m1 m2 m' : Mach}
theorem LSt.go (s : LSt pa pm pt H1 H0 l Hc Gc r1 r2 m1 m2 t1 t2) (y : Fz (At pa) Hc Gc H' G') : LSt pa pm pt H1 H0 l H' G' r1 r2 m1 m2 t1 t2 :=
  { s with z := s.z.trans y, gm := y.grow.out s.gm s.em, gt := y.grow.out s.gt s.et, em := y.step.own_stays s.am s.em, et := y.step.own_stays s.at_ s.et, d1 := dp_up s.d1 y.up, d2 := dp_up s.d2 y.up }
theorem LSt.text (s : LSt pa pm pt H1 H0 l Hc Gc r1 r2 m1 m2 t1 t2) (x : IsText l t') : LSt pa pm pt H1 H0 l (upd Hc pt (.lst [.str (strOf t'), .str (strOf t2)])) Gc r1 r2 m1 m2 t' t2 :=
  { s with z := s.z.put s.nt s.gt s.at_, em := by rw [upd_ne s.mt]; exact s.em, et := upd_same, x1 := x }
theorem LSt.mach (s : LSt pa pm pt H1 H0 l Hc Gc r1 r2 m1 m2 t1 t2) (d : Dq Gc r' (DM m')) (o : MachOk l.length m') : LSt pa pm pt H1 H0 l (upd Hc pm (.lst [r', r2])) Gc r' r2 m' m2 t1 t2 :=
  { s with z := s.z.put s.nm s.gm s.am, em := upd_same, et := by rw [upd_ne s.mt.symm]; exact s.et, d1 := d, o1 := o }
/-- all that is shown -/
abbrev DAll (m1 m2 : Mach) (t1 t2 : List Nat) : PyData := .tuple [.list [DM m1, DM m2], .list [.str (strOf t1), .str (strOf t2)]]
theorem sh_text (IL : IsLetters l) (h : IsText l t') : Sh (.str (strOf t')) 0 2002 := by
  have := sh_str (l := t') fun c hc => by
    have := IL.abc c (h.2 c hc)
    have e : (16 : Nat) ^ 8 = 4294967296 := by decide
    omega
  exact this.mono (Nat.le_refl 0) (by have := h.1; omega)
theorem sh_texts (IL : IsLetters l) (h1 : IsText l t1) (h2 : IsText l t2) : Sh (.list [.str (strOf t1), .str (strOf t2)]) 4 120007 := by
  have := sh_list (ds := [.str (strOf t1), .str (strOf t2)]) (k := 0) (n := 2002) fun d hd => by
    rcases List.mem_cons.mp hd with rfl | hd
    · exact sh_text IL h1
    · rw [List.mem_singleton.mp hd]; exact sh_text IL h2
  exact this.mono (by decide) (by show 2 * (2002 + 2) + 3 ≤ 120007; decide)
theorem LSt.shown (s : LSt pa pm pt H1 H0 l Hc Gc r1 r2 m1 m2 t1 t2) (IL : IsLetters l) : Sh (DAll m1 m2 t1 t2) 5 400000 := by
  have l6 := IL.six
  have sm : Sh (.list [DM m1, DM m2]) 4 120007 := by
    have := sh_list (ds := [DM m1, DM m2]) (k := 3) (n := 60000) fun d hd => by
      rcases List.mem_cons.mp hd with rfl | hd
      · exact sh_mach s.o1 l6
      · rw [List.mem_singleton.mp hd]; exact sh_mach s.o2 l6
    exact this.mono (by decide) (by show 2 * (60000 + 2) + 3 ≤ 120007; decide)
  have := sh_tuple (ds := [.list [DM m1, DM m2], .list [.str (strOf t1), .str (strOf t2)]]) (k := 4) (n := 120007) fun d hd => by
    rcases List.mem_cons.mp hd with rfl | hd
    · exact sm
    rw [List.mem_singleton.mp hd]; exact sh_texts IL s.x1 s.x2
  exact this.mono (by decide) (by show 2 * (120007 + 2) + 3 ≤ 400000; decide)
end
theorem three_six {k : Int} (h0 : 0 ≤ k) (h : k < 4) : ∃ n : Int, atI [V.int 3, V.int 3, V.int 3, V.int 6] k = some (.int n) ∧ 1 ≤ n ∧ n ≤ 6 := by
  have h : k = 0 ∨ k = 1 ∨ k = 2 ∨ k = 3 := by omega
  rcases h with rfl | rfl | rfl | rfl
  · exact ⟨3, rfl, by decide, by decide⟩
  · exact ⟨3, rfl, by decide, by decide⟩
  · exact ⟨3, rfl, by decide, by decide⟩
  · exact ⟨6, rfl, by decide, by decide⟩
theorem long_of {k : Int} (h0 : 0 ≤ k) (h : k < 3) : ∃ n : Nat, atI [V.int 200, V.int 199, V.int 100] k = some (.int (n : Nat)) ∧ n ≤ 200 := by
  have h : k = 0 ∨ k = 1 ∨ k = 2 := by omega
  rcases h with rfl | rfl | rfl
  · exact ⟨200, rfl, by decide⟩
  · exact ⟨199, rfl, by decide⟩
  · exact ⟨100, rfl, by decide⟩
theorem states_of {k : Int} (h0 : 0 ≤ k) (h : k < 3) : ∃ n : Nat, atI [V.int 60, V.int 59, V.int 33] k = some (.int (n : Nat)) ∧ 1 ≤ n ∧ n ≤ 60 := by
  have h : k = 0 ∨ k = 1 ∨ k = 2 := by omega
  rcases h with rfl | rfl | rfl
  · exact ⟨60, rfl, by decide, by decide⟩
  · exact ⟨59, rfl, by decide, by decide⟩
  · exact ⟨33, rfl, by decide, by decide⟩
theorem ok_law {f : Addr} {fd : FuncData} (F : Fun K "law" "law" s_law f fd) (T : Bt mg) (D_law_great : DefG P w K mg base CX0 3 "_law_great" ["pool", "letters", "many"] (spGreatM)) (D_law_is_count : DefG P w K mg base CX0 1 "_law_is_count" ["told", "due"] (spIsNum)) (D_law_is_places : DefG P w K mg base CX0 1 "_law_is_places" ["found"] (spIsPlaces K)) (D_law_letters : DefG P w K mg base CX0 2 "_law_letters" ["pool", "most"] (spLetters)) (D_law_long : DefG P w K mg base CX0 5 "_law_long" ["pool", "letters"] (spLong)) (D_law_pick : DefG P w K mg base CX0 1 "_law_pick" ["pool", "many"] (spPick)) (D_law_places : DefG P w K mg base CX0 1 "_law_places" ["letters", "machine", "text"] (spLPlaces)) (D_law_shape : DefG P w K mg base CX0 4 "_law_shape" ["pool", "letters", "most"] (spShape)) (D_law_stream : DefG P w K mg base CX0 2 "_law_stream" ["script"] (spStream K)) (D_law_text : DefG P w K mg base CX0 3 "_law_text" ["pool", "letters", "length"] (spText)) (Dall_places : DefG P w K mg base CX0 2 "all_places" ["letters", "machine", "text"] (spAllPlaces)) (Dcount_places : DefG P w K mg base CX0 1 "count_places" ["letters", "machine", "text"] (spCountP)) : FnG P w K mg base CX0 6 f fd ["script"] (spLaw K) := by
  refine FnG.calm F sc_law (fun vs H Q E h => by first | (obtain ⟨_, rfl, _⟩ := h; rfl) | (obtain ⟨_, _, rfl, _⟩ := h; rfl) | (obtain ⟨_, _, _, rfl, _⟩ := h; rfl) | (obtain ⟨_, _, _, _, rfl, _⟩ := h; rfl) | (obtain ⟨_, _, _, _, _, rfl, _⟩ := h; rfl) | (obtain ⟨_, _, _, _, _, _, rfl, _⟩ := h; rfl) | (obtain ⟨_, _, _, _, _, _, _, rfl, _⟩ := h; rfl) | (obtain ⟨_, _, _, _, _, _, _, _, rfl, _⟩ := h; rfl)) (fun cd A out z H vs Q E hg hr h => ?_)
  have nd := sc_law.nd
  obtain ⟨a, ns, rfl, hS, hl, q⟩ := h
  refine ⟨_, (pss_cons (ps_set (i := 1) nd rfl (by first | exact Or.inl rfl | exact Or.inr rfl) (pe_fn D_law_stream hg (hr.mono (by decide)) (pa_cons (pv 0) pa_nil)))
    (pss_cons (ps_set (i := 2) nd rfl (by first | exact Or.inl rfl | exact Or.inr rfl) (pe_fn D_law_letters hg (hr.mono (by decide)) (pa_cons (pv 1) (pa_cons (pe_ix (ixL K) (pe_lst (pa_cons pe_int (pa_cons pe_int (pa_cons pe_int (pa_cons pe_int pa_nil))))) (pe_fn D_law_pick hg (hr.mono (by decide)) (pa_cons (pv 1) (pa_cons pe_int pa_nil))) (fun _ _ => rfl)) pa_nil))))
    (pss_cons (ps_set (i := 3) nd rfl (by first | exact Or.inl rfl | exact Or.inr rfl) (pe_fn D_law_pick hg (hr.mono (by decide)) (pa_cons (pv 1) (pa_cons pe_int pa_nil))))
    (pss_cons (ps_if (PW.pt (pw_and (pt_cmpR op_eq (pv 3) pe_int (nomark _)) (pw_and1 (pt_not (pt_val (pe_fn D_law_long hg (hr.mono (by decide)) (pa_cons (pv 1) (pa_cons (pv 2) pa_nil)))))))) (pss_one (ps_ret pe_bl)) pss_nil)
    (pss_cons (ps_set (i := 4) nd rfl (by first | exact Or.inl rfl | exact Or.inr rfl) (pe_lst (pa_cons (pe_fn D_law_shape hg (hr.mono (by decide)) (pa_cons (pv 1) (pa_cons (pv 2) (pa_cons pe_int pa_nil)))) (pa_cons (pe_fn D_law_shape hg (hr.mono (by decide)) (pa_cons (pv 1) (pa_cons (pv 2) (pa_cons pe_int pa_nil)))) pa_nil))))
    (pss_cons (ps_set (i := 5) nd rfl (by first | exact Or.inl rfl | exact Or.inr rfl) (pe_lst (pa_cons (pe_fn D_law_text hg (hr.mono (by decide)) (pa_cons (pv 1) (pa_cons (pv 2) (pa_cons (pe_fn D_law_pick hg (hr.mono (by decide)) (pa_cons (pv 1) (pa_cons pe_int pa_nil))) pa_nil)))) (pa_cons (pe_fn D_law_text hg (hr.mono (by decide)) (pa_cons (pv 1) (pa_cons (pv 2) (pa_cons (pe_fn D_law_pick hg (hr.mono (by decide)) (pa_cons (pv 1) (pa_cons pe_int pa_nil))) pa_nil)))) pa_nil))))
    (pss_cons (ps_if (pt_cmpR op_eq (pv 3) pe_int (nomark _)) (pss_cons (ps_asg (pe_fn D_law_great hg (hr.mono (by decide)) (pa_cons (pv 1) (pa_cons (pv 2) (pa_cons (pe_ix (ixL K) (pe_lst (pa_cons pe_int (pa_cons pe_int (pa_cons pe_int pa_nil)))) (pe_fn D_law_pick hg (hr.mono (by decide)) (pa_cons (pv 1) (pa_cons pe_int pa_nil))) (fun _ _ => rfl)) pa_nil)))) (pg_sub (pv 4) pe_int set_list))
      (pss_one (ps_asg (pe_fn D_law_text hg (hr.mono (by decide)) (pa_cons (pv 1) (pa_cons (pv 2) (pa_cons (pe_ix (ixL K) (pe_lst (pa_cons pe_int (pa_cons pe_int (pa_cons pe_int pa_nil)))) (pe_fn D_law_pick hg (hr.mono (by decide)) (pa_cons (pv 1) (pa_cons pe_int pa_nil))) (fun _ _ => rfl)) pa_nil)))) (pg_sub (pv 5) pe_int set_list)))) pss_nil)
    (pss_cons (ps_set (i := 6) nd rfl (by first | exact Or.inl rfl | exact Or.inr rfl) (pe_callB (call_reprD hg (hu_rep hr)) (by rfl) T.m_repr (by decide +kernel) (pa_cons (pe_tup (pa_cons (pv 4) (pa_cons (pv 5) pa_nil))) pa_nil)))
    (pss_cons (ps_for PassesOwn.never rfl (piL K (pe_lst (pa_cons (pe_tup (pa_cons pe_int (pa_cons pe_int pa_nil))) (pa_cons (pe_tup (pa_cons pe_int (pa_cons pe_int pa_nil))) (pa_cons (pe_tup (pa_cons pe_int (pa_cons pe_int pa_nil))) (pa_cons (pe_tup (pa_cons pe_int (pa_cons pe_int pa_nil))) (pa_cons (pe_tup (pa_cons pe_int (pa_cons pe_int pa_nil))) pa_nil))))))) (gT K (n := 2) rfl (pgs_cons (pg_name (i := 7) nd rfl (by first | exact Or.inl rfl | exact Or.inr rfl)) (pgs_cons (pg_name (i := 8) nd rfl (by first | exact Or.inl rfl | exact Or.inr rfl)) pgs_nil)))
    (pss_cons (ps_set (i := 9) nd rfl (by first | exact Or.inl rfl | exact Or.inr rfl) (pe_fn D_law_places hg (hr.mono (by decide)) (pa_cons (pv 2) (pa_cons (pe_ix (ixL K) (pv 4) (pv 7) (fun _ _ => rfl)) (pa_cons (pe_ix (ixL K) (pv 5) (pv 8) (fun _ _ => rfl)) pa_nil)))))
      (pss_cons (ps_if (pt_not (pt_val (pe_fn D_law_is_count hg (hr.mono (by decide)) (pa_cons (pe_fn Dcount_places hg (hr.mono (by decide)) (pa_cons (pv 2) (pa_cons (pe_ix (ixL K) (pv 4) (pv 7) (fun _ _ => rfl)) (pa_cons (pe_ix (ixL K) (pv 5) (pv 8) (fun _ _ => rfl)) pa_nil)))) (pa_cons (pe_callB (lenQ K) (by rfl) T.m_len PySem.boot_len (pa_cons (pv 9) pa_nil)) pa_nil))))) (pss_one (ps_ret pe_bl)) pss_nil)
      (pss_cons (ps_set (i := 10) nd rfl (by first | exact Or.inl rfl | exact Or.inr rfl) (pe_fn Dall_places hg (hr.mono (by decide)) (pa_cons (pv 2) (pa_cons (pe_ix (ixL K) (pv 4) (pv 7) (fun _ _ => rfl)) (pa_cons (pe_ix (ixL K) (pv 5) (pv 8) (fun _ _ => rfl)) pa_nil)))))
      (pss_cons (ps_if (PW.pt (pw_or (pt_not (pt_val (pe_fn D_law_is_places hg (hr.mono (by decide)) (pa_cons (pv 10) pa_nil)))) (pw_or1 (pt_cmpR (op_neD hr.units) (pv 10) (pv 9) (nomark _))))) (pss_one (ps_ret pe_bl)) pss_nil)
      (pss_cons (ps_expr (pe_bm PySem.F.plainAttrs_list PySem.F.slot_list_append PySem.F.type_list_append mt_append (pv 10) (pa_cons (pe_tup (pa_cons pe_int (pa_cons pe_int pa_nil))) pa_nil)))
      (pss_one (ps_expr (pe_bm0 PySem.F.plainAttrs_list PySem.F.slot_list_reverse PySem.F.type_list_reverse mt_reverse (pv 10))))))))))
    (pss_one (ps_ret (pe_cmpR op_eq (pe_callB (call_reprD hg (hu_rep hr)) (by rfl) T.m_repr (by decide +kernel) (pa_cons (pe_tup (pa_cons (pv 4) (pa_cons (pv 5) pa_nil))) pa_nil)) (pv 6) (nomark _))))))))))))), ?_⟩
  -- pool
  refine ⟨.ref a, rfl, a, ns, rfl, hS, hl, fun H1 pa st1 npa po1 => ?_⟩
  have ok1 : Ok (At pa) H1 H := ⟨st1.same, Pools.at po1, fun b e => by rw [show b = pa from e]; exact npa⟩
  -- letters
  refine ⟨.ref pa, rfl, by show 4 ≤ sizeLine; decide, fun p np => ?_⟩
  have z1 := ok1.fz.new (o := .lst [.int 3, .int 3, .int 3, .int 6]) np
  refine ⟨.ref pa, rfl, pa, 4, rfl, z1.pool, by decide, by decide, fun k2 H2 a2 c2 _ s2 po2 => ?_⟩
  have z2 := z1.stepS s2 po2
  obtain ⟨nl, hnl, nl1, nl6⟩ := three_six a2 c2
  refine ⟨p, _, _, .int nl, rfl, rfl, SqL.of (z2.same _ _ upd_same), hnl, pa, nl, rfl, z2.pool, nl1, nl6, fun l H3 IL _ s3 po3 => ?_⟩
  have z3 := z2.stepS s3 po3
  have l6 := IL.six
  have l1 := IL.pos
  -- great
  refine ⟨.ref pa, rfl, pa, 30, rfl, z3.pool, by decide, by decide, fun gr0 H3' a3 c3 _ s3' po3' => ?_⟩
  have z3 := z3.stepS s3' po3'
  refine (fun (rest : ∀ (H4 G4 : Hp), Fz (At pa) H1 H H4 G4 → (_ : List (Option V) → Hp → Prop) [some (.ref a), some (.ref pa), some (.str (strOf l)), some (.int gr0), none, none, none, none, none, none, none] H4) =>
    ⟨_, rfl, rfl, _, rfl, ite2 (fun _ => ⟨.ref pa, rfl, _, rfl, pa, l, _, rfl, IL, z3.ok, fun H4 s4 po4 => ⟨true, rfl, rest H4 _ (z3.stepS s4 po4)⟩⟩) (fun _ => (show tNext _ _ _ from rest _ _ z3))⟩) ?_
  intro H3 G3 z3
  -- machines
  refine ⟨.ref pa, rfl, _, rfl, pa, l, 6, _, rfl, IL, by decide, by decide, z3.ok, fun H4 G4 r1 m1 z4 d4 mo1 => ?_⟩
  refine ⟨.ref pa, rfl, _, rfl, pa, l, 6, _, rfl, IL, by decide, by decide, z4.ok, fun H5 G5 r2 m2 z5 d5 mo2 => ?_⟩
  refine ⟨by show 2 ≤ sizeLine; decide, fun pm npm => ?_⟩
  have z6 := ((z3.trans z4).trans z5).loc (o := .lst [r1, r2]) npm
  have gm6 := free_of z5.same npm
  have am := z5.ok.ne npm
  have nm6 := ((z3.trans z4).trans z5).step.free npm
  have em6 : upd H5 pm (.lst [r1, r2]) pm = some (.lst [r1, r2]) := upd_same
  have d1 := dp_up d4 z5.up
  generalize upd H5 pm (.lst [r1, r2]) = H6 at z6 em6
  -- texts
  refine ⟨.ref pa, rfl, _, rfl, .ref pa, rfl, pa, 13, rfl, z6.pool, by decide, by decide, fun k7 H7 a7 c7 _ s7 po7 => ?_⟩
  have z7 := z6.stepS s7 po7
  obtain ⟨k7, rfl⟩ := Int.eq_ofNat_of_zero_le a7
  refine ⟨pa, l, k7, rfl, z7.pool, IL, by omega, fun t1 H8 s8 po8 lt1 ht1 => ?_⟩
  have z8 := z7.stepS s8 po8
  refine ⟨.ref pa, rfl, _, rfl, .ref pa, rfl, pa, 8, rfl, z8.pool, by decide, by decide, fun k9 H9 a9 c9 _ s9 po9 => ?_⟩
  have z9 := z8.stepS s9 po9
  obtain ⟨k9, rfl⟩ := Int.eq_ofNat_of_zero_le a9
  refine ⟨pa, l, k9, rfl, z9.pool, IL, by omega, fun t2 H10 s10 po10 lt2 ht2 => ?_⟩
  have z10 := z9.stepS s10 po10
  have em10 := (((s7.trans s8).trans s9).trans s10).own_stays am em6
  refine ⟨by show 2 ≤ sizeLine; decide, fun pt npt => ?_⟩
  have mt := ne_of_none em10 npt
  have ls : LSt pa pm pt H1 H l (upd H10 pt (.lst [.str (strOf t1), .str (strOf t2)])) G5 r1 r2 m1 m2 t1 t2 :=
    ⟨z10.loc npt, nm6, z10.step.free npt, gm6, free_of z10.same npt, by rw [upd_ne mt]; exact em10, upd_same, mt, am, z10.ok.ne npt, d1, d5, mo1, mo2, ⟨by omega, ht1⟩, ⟨by omega, ht2⟩⟩
  generalize upd H10 pt (.lst [.str (strOf t1), .str (strOf t2)]) = H16 at ls
  clear z10 em10 s10 po10 z9 s9 po9 z8 s8 po8 z7 s7 po7 em6 z6 d1 z5 d5 z4 d4 z3
  refine (fun (rest : ∀ (H18 G18 : Hp) (r1 : V) (m1 : Mach) (t1 : List Nat), LSt pa pm pt H1 H l H18 G18 r1 r2 m1 m2 t1 t2 → (_ : List (Option V) → Hp → Prop) [some (.ref a), some (.ref pa), some (.str (strOf l)), some (.int gr0), some (.ref pm), some (.ref pt), none, none, none, none, none] H18) =>
    ⟨_, rfl, rfl, _, rfl, ite2 (fun g0 => ?Great) (fun _ => rest H16 G5 r1 m1 t1 ls)⟩) ?_
  case Great =>
    -- machines[0]
    refine ⟨.ref pa, rfl, _, rfl, by show 3 ≤ sizeLine; decide, fun x2 nx2 => ?_⟩
    have y1 := ls.z.ok.fz.loc (o := .lst [.int 60, .int 59, .int 33]) nx2
    refine ⟨.ref pa, rfl, pa, 3, rfl, y1.pool, by decide, by decide, fun k21 H21 a21 c21 _ s21 po21 => ?_⟩
    have y2 := y1.stepS s21 po21
    have ax2 := ls.z.ok.ne nx2
    obtain ⟨sn, hsn, sn1, sn2⟩ := states_of a21 c21
    refine ⟨x2, _, _, _, rfl, rfl, SqL.of (s21.own_stays ax2 upd_same), hsn, pa, l, sn, _, rfl, IL, sn1, sn2, y2.ok, fun H22 G22 v1 n1 z22 d22 o22 => ?_⟩
    have ls := ls.go (y2.trans z22)
    clear y1 y2 s21 po21 z22
    refine ⟨.ref pm, rfl, pm, _, 0, _, rfl, rfl, ls.em, ixN_of (Int.le_refl 0) (by show (0 : Int) < 2; decide), ?_⟩
    have ls := ls.mach d22 o22
    -- texts[0]
    refine ⟨.ref pa, rfl, _, rfl, by show 3 ≤ sizeLine; decide, fun x1 nx1 => ?_⟩
    have y1 := ls.z.ok.fz.loc (o := .lst [.int 200, .int 199, .int 100]) nx1
    refine ⟨.ref pa, rfl, pa, 3, rfl, y1.pool, by decide, by decide, fun k18 H18 a18 c18 _ s18 po18 => ?_⟩
    have y2 := y1.stepS s18 po18
    have ax1 := ls.z.ok.ne nx1
    obtain ⟨tn, htn, tn2⟩ := long_of a18 c18
    refine ⟨x1, _, _, _, rfl, rfl, SqL.of (s18.own_stays ax1 upd_same), htn, pa, l, tn, rfl, y2.pool, IL, by omega, fun t' H19 s19 po19 lt' ht' => ?_⟩
    have ls := ls.go (y2.stepS s19 po19)
    clear y1 y2 s18 s19 po18 po19
    refine ⟨.ref pt, rfl, pt, _, 0, _, rfl, rfl, ls.et, ixN_of (Int.le_refl 0) (by show (0 : Int) < 2; decide), ?_⟩
    exact rest _ _ _ _ _ (ls.text ⟨by omega, ht'⟩)
  intro H18 G18 r1 m1 t1 ls
  -- kept
  obtain ⟨r1', r2', r3', r4'⟩ := repr_ok (ls.shown IL) (by decide) (by decide)
  refine ⟨.ref pm, rfl, .ref pt, rfl, by show 2 ≤ sizeLine; decide, fun tp ntp => ?_⟩
  have zf := (ls.z.fix ls.nm ls.em ls.am).fix ls.nt ls.et ls.at_
  have sm := same_sub (o := .lst [r1, r2]) ls.gm
  have gt2 : upd G18 pm (.lst [r1, r2]) pt = none := by rw [upd_ne ls.mt.symm]; exact ls.gt
  have st := same_sub (o := .lst [.str (strOf t1), .str (strOf t2)]) gt2
  have em : upd (upd G18 pm (.lst [r1, r2])) pt (.lst [.str (strOf t1), .str (strOf t2)]) pm = some (.lst [r1, r2]) := by rw [upd_ne ls.mt]; exact upd_same
  have et : upd (upd G18 pm (.lst [r1, r2])) pt (.lst [.str (strOf t1), .str (strOf t2)]) pt = some (.lst [.str (strOf t1), .str (strOf t2)]) := upd_same
  have d1 := dp_up ls.d1 (sm.trans st)
  have d2 := dp_up ls.d2 (sm.trans st)
  have okf := zf.ok
  have o1 := ls.o1
  have o2 := ls.o2
  have x1 := ls.x1
  have x2 := ls.x2
  generalize upd (upd G18 pm (.lst [r1, r2])) pt (.lst [.str (strOf t1), .str (strOf t2)]) = G19 at em et d1 d2 okf
  clear ls zf sm st gt2
  have dall : ∀ (Hx : Hp) (tq : Addr), Same G19 Hx → Hx tq = some (.tup [.ref pm, .ref pt]) → Dp K Hx (.ref tq) (DAll m1 m2 t1 t2) := fun Hx tq s e =>
    .tup (SqT.of e) (DqAll_Dp _ _ (dps_up (G := G19) (.cons (.lst em (.cons d1 (.cons d2 .nil))) (.cons (.lst et (.cons (.str _) (.cons (.str _) .nil))) .nil)) s))
  have z20 := okf.fz.loc (o := .tup [.ref pm, .ref pt]) ntp
  refine ⟨tp, _, rfl, dall _ tp z20.same upd_same, r1', r2', r3', r4', ?_⟩
  have ok20 := z20.ok.narrow
  generalize upd H18 tp (.tup [.ref pm, .ref pt]) = H20 at ok20
  clear z20 okf
  -- the five turns
  have three : ([V.int 0, V.int 0] : List V).length ≤ sizeLine := by show 2 ≤ sizeLine; decide
  refine ⟨three, fun q1 n1 => ⟨three, fun q2 n2 => ⟨three, fun q3 n3 => ⟨three, fun q4 n4 => ⟨three, fun q5 n5 => ⟨by show 5 ≤ sizeLine; decide, fun pl npl => ?_⟩⟩⟩⟩⟩⟩
  have yy1 := ok20.fz.new (o := .tup [.int 0, .int 0]) n1
  have e1 : upd G19 q1 (.tup [.int 0, .int 0]) q1 = some (.tup [.int 0, .int 0]) := upd_same
  generalize upd G19 q1 (.tup [.int 0, .int 0]) = Ga at yy1 e1
  have yy2 := yy1.ok.fz.new (o := .tup [.int 0, .int 1]) n2
  have e2 : upd Ga q2 (.tup [.int 0, .int 1]) q2 = some (.tup [.int 0, .int 1]) := upd_same
  generalize upd Ga q2 (.tup [.int 0, .int 1]) = Gb at yy2 e2
  have yy3 := yy2.ok.fz.new (o := .tup [.int 1, .int 1]) n3
  have e3 : upd Gb q3 (.tup [.int 1, .int 1]) q3 = some (.tup [.int 1, .int 1]) := upd_same
  generalize upd Gb q3 (.tup [.int 1, .int 1]) = Gc at yy3 e3
  have yy4 := yy3.ok.fz.new (o := .tup [.int 1, .int 0]) n4
  have e4 : upd Gc q4 (.tup [.int 1, .int 0]) q4 = some (.tup [.int 1, .int 0]) := upd_same
  generalize upd Gc q4 (.tup [.int 1, .int 0]) = Gd at yy4 e4
  have yy5 := yy4.ok.fz.new (o := .tup [.int 0, .int 0]) n5
  have e5 : upd Gd q5 (.tup [.int 0, .int 0]) q5 = some (.tup [.int 0, .int 0]) := upd_same
  generalize upd Gd q5 (.tup [.int 0, .int 0]) = Ge at yy5 e5
  have yy7 := yy5.ok.fz.new (o := .lst [.ref q1, .ref q2, .ref q3, .ref q4, .ref q5]) npl
  have e7 : upd Ge pl (.lst [.ref q1, .ref q2, .ref q3, .ref q4, .ref q5]) pl = some (.lst [.ref q1, .ref q2, .ref q3, .ref q4, .ref q5]) := upd_same
  generalize upd Ge pl (.lst [.ref q1, .ref q2, .ref q3, .ref q4, .ref q5]) = Gg at yy7 e7
  have up19 : Same G19 Gg := (((((yy1.up.trans yy2.up).trans yy3.up).trans yy4.up).trans yy5.up).trans yy7.up)
  have turns : ∀ (i : Nat) x, [V.ref q1, V.ref q2, V.ref q3, V.ref q4, V.ref q5][i]? = some x → ∃ (tq : Addr) (o u : Nat), x = .ref tq ∧ Gg tq = some (.tup [.int (o : Nat), .int (u : Nat)]) ∧ o < 2 ∧ u < 2 := fun i x hx => by
    match i, hx with
    | 0, hx => cases hx; exact ⟨q1, 0, 0, rfl, yy7.up _ _ (yy5.up _ _ (yy4.up _ _ (yy3.up _ _ (yy2.up _ _ e1)))), by decide, by decide⟩
    | 1, hx => cases hx; exact ⟨q2, 0, 1, rfl, yy7.up _ _ (yy5.up _ _ (yy4.up _ _ (yy3.up _ _ e2))), by decide, by decide⟩
    | 2, hx => cases hx; exact ⟨q3, 1, 1, rfl, yy7.up _ _ (yy5.up _ _ (yy4.up _ _ e3)), by decide, by decide⟩
    | 3, hx => cases hx; exact ⟨q4, 1, 0, rfl, yy7.up _ _ (yy5.up _ _ e4), by decide, by decide⟩
    | 4, hx => cases hx; exact ⟨q5, 0, 0, rfl, yy7.up _ _ e5, by decide, by decide⟩
    | i + 5, hx => simp at hx
  have okg := yy7.ok
  clear yy1 yy2 yy3 yy4 yy5 yy7 e1 e2 e3 e4 e5
  generalize upd _ pl (.lst [.ref q1, .ref q2, .ref q3, .ref q4, .ref q5]) = H21 at okg ⊢
  clear npl n5 n4 n3 n2 n1
  have em1 := up19 _ _ em
  have et1 := up19 _ _ et
  have mach : ∀ o : Nat, o < 2 → ∃ rx m, [r1, r2][o]? = some rx ∧ Dq Gg rx (DM m) ∧ MachOk l.length m := fun o ho => by
    match o, ho with
    | 0, _ => exact ⟨r1, m1, rfl, dp_up d1 up19, o1⟩
    | 1, _ => exact ⟨r2, m2, rfl, dp_up d2 up19, o2⟩
  have two : ∀ {ta tb : List Nat}, IsText l ta → IsText l tb → ∀ u : Nat, u < 2 → ∃ t, [V.str (strOf ta), V.str (strOf tb)][u]? = some (.str (strOf t)) ∧ IsText l t := fun {ta tb} h1 h2 u hu => by
    match u, hu with
    | 0, _ => exact ⟨ta, rfl, h1⟩
    | 1, _ => exact ⟨tb, rfl, h2⟩
  refine ⟨pl, rfl, ⟨_, SqL.of (okg.same _ _ e7)⟩, ?_⟩
  refine for_it (walk_list (xs := [V.ref q1, V.ref q2, V.ref q3, V.ref q4, V.ref q5])) (fun i σ Hc => Step NoS H21 Hc ∧ ∃ (y7 y8 y9 y10 : Option V), σ = [some (.ref a), some (.ref pa), some (.str (strOf l)), some (.int gr0), some (.ref pm), some (.ref pt), some (.str (DAll m1 m2 t1 t2).shown), y7, y8, y9, y10])
    ⟨Step.refl _ _, none, none, none, none, rfl⟩ (fun i σ Hc _ hP => SqL.of (hP.1.same _ _ (okg.same _ _ e7))) (fun i x σ Hc Hc' hi hP hy => ?_) (fun σ Hc hP => ?_)
  · obtain ⟨rfl, hx⟩ := hy
    obtain ⟨sc, y7, y8, y9, y10, rfl⟩ := hP
    obtain ⟨tq, o, u, rfl, etq, ho, hu⟩ := turns i x hx
    obtain ⟨rx, m, hrx, dm, mo⟩ := mach o ho
    obtain ⟨t, htx, it⟩ := two x1 x2 u hu
    have zc := okg.fz.step0 sc
    refine ⟨tq, _, rfl, SqT.of (zc.same _ _ etq), rfl, _, _, rfl, _, _, rfl, rfl, ?_⟩
    -- due
    refine ⟨_, rfl, .ref pm, rfl, _, rfl, pm, _, _, rx, rfl, rfl, SqL.of (zc.same _ _ em1), atI_nat hrx, .ref pt, rfl, _, rfl, pt, _, _, _, rfl, rfl, SqL.of (zc.same _ _ et1), atI_nat htx, ?_⟩
    refine ⟨l, t, rx, m, Gg, rfl, IL, zc.ok, dm, mo, it, fun H31 G31 vd z31 d31 => ?_⟩
    have zd := zc.trans z31
    have dm31 := dp_up dm zd.up
    -- count
    refine ⟨_, rfl, .ref pm, rfl, _, rfl, pm, _, _, rx, rfl, rfl, SqL.of (zd.same _ _ (zd.up _ _ em1)), atI_nat hrx, .ref pt, rfl, _, rfl, pt, _, _, _, rfl, rfl, SqL.of (zd.same _ _ (zd.up _ _ et1)), atI_nat htx, ?_⟩
    refine ⟨l, t, rx, m, G31, rfl, IL, zd.ok, dm31, mo, ⟨by have := it.1; omega, it.2⟩, fun H33 s33 => ?_⟩
    have zd := zd.step0 s33
    obtain ⟨da, dxs, rfl, eda, ddx⟩ := dp_list d31
    have ldx : dxs.length = cntP l m t := by rw [dps_len ddx, List.length_map, plAll_len]
    refine ⟨.ref da, rfl, da, _, rfl, .inl (SqL.of (zd.same _ _ eda)), ?_⟩
    rw [ldx]
    refine ⟨_, _, rfl, ?_⟩
    rw [decide_eq_true rfl]
    refine ⟨true, rfl, ?_⟩
    -- told
    refine ⟨_, rfl, .ref pm, rfl, _, rfl, pm, _, _, rx, rfl, rfl, SqL.of (zd.same _ _ (zd.up _ _ em1)), atI_nat hrx, .ref pt, rfl, _, rfl, pt, _, _, _, rfl, rfl, SqL.of (zd.same _ _ (zd.up _ _ et1)), atI_nat htx, ?_⟩
    refine ⟨l, t, rx, m, G31, rfl, IL, zd.ok, dm31, mo, it, fun H32 G32 pd xs z32 nd32 gd32 hd32 dx32 => ?_⟩
    have ze := zd.trans z32
    have npd : H21 pd = none := zd.step.free nd32
    have zf := ze.fix npd hd32 (fun z => z)
    have dtold : Dq (upd G32 pd (.lst xs)) (.ref pd) (DPl (plAll l m t)) := .lst upd_same (dps_up dx32 (same_sub gd32))
    have up32 : Same G32 (upd G32 pd (.lst xs)) := same_sub gd32
    have lxs : xs.length ≤ 60000 := by
      have h1 := dps_len dx32
      rw [List.length_map, plAll_len] at h1
      have h2 := cU_le (l := l) (m := m) (t := t) t.length
      have h3 : (t.length + 1) * (t.length + 1) ≤ 201 * 201 := Nat.mul_le_mul (by have := it.1; omega) (by have := it.1; omega)
      unfold cntP at h1
      omega
    have epd : upd G32 pd (.lst xs) pd = some (.lst xs) := upd_same
    have ddue := dp_up d31 (z32.up.trans up32)
    generalize upd G32 pd (.lst xs) = G33 at zf dtold epd ddue
    -- if not places or told != due
    refine ⟨_, rfl, _, _, rfl, dp_up dtold zf.same, fun H34 s34 => ⟨true, rfl, ?_⟩⟩
    have z34 := zf.step0 s34
    refine ⟨_, rfl, _, rfl, _, _, dp_of (dp_up dtold z34.same), dp_of (dp_up ddue z34.same), shaped_pl _, shaped_pl _, _, rfl, ?_⟩
    rw [eqv_pl]
    -- told.append, told.reverse
    have hpd := z34.same _ _ epd
    refine ⟨.ref pd, rfl, .inl ⟨rfl, _, SqL.of hpd⟩, by show 2 ≤ sizeLine; decide, fun tz ntz => ?_⟩
    refine ⟨pd, _, _, rfl, rfl, by rw [upd_ne (ne_of_none hpd ntz)]; exact hpd, szl (by omega), ?_⟩
    refine ⟨.ref pd, rfl, .inl ⟨rfl, _, SqL.of upd_same⟩, pd, _, rfl, rfl, upd_same, ?_⟩
    exact ⟨((z34.step.trans (Step.new ntz)).own npd).own npd, _, _, _, _, rfl⟩
  · obtain ⟨sc, y7, y8, y9, y10, rfl⟩ := hP
    have zc := okg.fz.step0 sc
    refine ⟨.ref pm, rfl, .ref pt, rfl, by show 2 ≤ sizeLine; decide, fun tp2 ntp2 => ?_⟩
    have zl := zc.loc (o := .tup [.ref pm, .ref pt]) ntp2
    refine ⟨tp2, _, rfl, dall _ tp2 (up19.trans zl.same) upd_same, r1', r2', r3', r4', _, rfl, rfl, ?_⟩
    rw [decide_eq_true rfl]
    exact q _
end
/-- a def stands at its name -/
def AtTop (K : PySem.W.Frag) (x : Str) (st : Stmt) : Prop := ∃ (f : Addr) (fd : FuncData), Fun K x x st f fd ∧ PySem.W.nsIn K mainGlobals x = some (some (.ref f))
theorem atTop {K : PySem.W.Frag} {x : Str} {st : Stmt} {f : Addr} {oc kV dc pm cd ct : Value} {od an : Option Addr} {sl : Array (Option Value)} (a : PySem.W.nsIn K mainGlobals x = some (some (.ref f)))
    (l : K.lookup f = some ⟨oc, od, .func (PySem.W.fnOf x x (defArgs st) (defBody st) (defScope st) .none kV dc pm an cd ct), sl⟩) (c : PySem.W.codeIn K cd x = true) (k : PySem.W.keepIn K (.ref f) = true) : AtTop K x st := ⟨f, _, fun_mk l c k, a⟩
theorem all_mk {l : PySem.W.OpenLaw} {w : World} {K : PySem.W.Frag} {h : Heap} {mg : Str → Option Value} {fa : Addr} (X : K.In h) (G : h.Ns mainGlobals mg) (hfa : mg "law" = some (.ref fa))
    (A_stepped : AtTop K "stepped" s_stepped)
    (A_all_places : AtTop K "all_places" s_all_places)
    (A_count_places : AtTop K "count_places" s_count_places)
    (A_law_pool : AtTop K "_law_pool" s_law_pool)
    (A_law_stream : AtTop K "_law_stream" s_law_stream)
    (A_law_pick : AtTop K "_law_pick" s_law_pick)
    (A_law_letters : AtTop K "_law_letters" s_law_letters)
    (A_law_row : AtTop K "_law_row" s_law_row)
    (A_law_text : AtTop K "_law_text" s_law_text)
    (A_law_machine : AtTop K "_law_machine" s_law_machine)
    (A_law_great : AtTop K "_law_great" s_law_great)
    (A_law_chain : AtTop K "_law_chain" s_law_chain)
    (A_law_ring : AtTop K "_law_ring" s_law_ring)
    (A_law_shape : AtTop K "_law_shape" s_law_shape)
    (A_law_is_places : AtTop K "_law_is_places" s_law_is_places)
    (A_law_places : AtTop K "_law_places" s_law_places)
    (A_law_counted : AtTop K "_law_counted" s_law_counted)
    (A_law_is_count : AtTop K "_law_is_count" s_law_is_count)
    (A_law_long : AtTop K "_law_long" s_law_long)
    (A_law : AtTop K "law" s_law)
    (z_all : PySem.W.nsIn K mainGlobals "all" = some none)
    (z_bool : PySem.W.nsIn K mainGlobals "bool" = some none)
    (z_enumerate : PySem.W.nsIn K mainGlobals "enumerate" = some none)
    (z_int : PySem.W.nsIn K mainGlobals "int" = some none)
    (z_isinstance : PySem.W.nsIn K mainGlobals "isinstance" = some none)
    (z_len : PySem.W.nsIn K mainGlobals "len" = some none)
    (z_list : PySem.W.nsIn K mainGlobals "list" = some none)
    (z_min : PySem.W.nsIn K mainGlobals "min" = some none)
    (z_range : PySem.W.nsIn K mainGlobals "range" = some none)
    (z_repr : PySem.W.nsIn K mainGlobals "repr" = some none)
    (z_sorted : PySem.W.nsIn K mainGlobals "sorted" = some none)
    (z_sum : PySem.W.nsIn K mainGlobals "sum" = some none)
    (z_tuple : PySem.W.nsIn K mainGlobals "tuple" = some none) :
    ∃ fd : FuncData, (∀ (s : Shared) (v : Value), BindsTo s fd ⟨[v], []⟩ [("script", v)]) ∧ ∀ base : Heap, K.In base → base.Ns mainGlobals mg → FnG l.prog w K mg base CX0 6 fa fd ["script"] (spLaw K) := by
  have T : Bt mg := ⟨PySem.W.mg_none_of X G z_all, PySem.W.mg_none_of X G z_bool, PySem.W.mg_none_of X G z_enumerate, PySem.W.mg_none_of X G z_int, PySem.W.mg_none_of X G z_isinstance, PySem.W.mg_none_of X G z_len, PySem.W.mg_none_of X G z_list, PySem.W.mg_none_of X G z_min, PySem.W.mg_none_of X G z_range, PySem.W.mg_none_of X G z_repr, PySem.W.mg_none_of X G z_sorted, PySem.W.mg_none_of X G z_sum, PySem.W.mg_none_of X G z_tuple⟩
  have Dstepped : ∀ base : Heap, DefG l.prog w K mg base CX0 1 "stepped" ["letters", "machine", "text"] (spStepped) := by
    obtain ⟨f, fd, F, a⟩ := A_stepped
    exact fun base => ⟨f, fd, ok_stepped F T , PySem.W.mg_of X G a, F.kp, F.binds (ps := ["letters", "machine", "text"]) fun _ _ _ _ _ _ us hl => match us, hl with | [_, _, _], _ => rfl⟩
  have Dall_places : ∀ base : Heap, DefG l.prog w K mg base CX0 2 "all_places" ["letters", "machine", "text"] (spAllPlaces) := by
    obtain ⟨f, fd, F, a⟩ := A_all_places
    exact fun base => ⟨f, fd, ok_all_places F T (Dstepped base), PySem.W.mg_of X G a, F.kp, F.binds (ps := ["letters", "machine", "text"]) fun _ _ _ _ _ _ us hl => match us, hl with | [_, _, _], _ => rfl⟩
  have Dcount_places : ∀ base : Heap, DefG l.prog w K mg base CX0 1 "count_places" ["letters", "machine", "text"] (spCountP) := by
    obtain ⟨f, fd, F, a⟩ := A_count_places
    exact fun base => ⟨f, fd, ok_count_places F T , PySem.W.mg_of X G a, F.kp, F.binds (ps := ["letters", "machine", "text"]) fun _ _ _ _ _ _ us hl => match us, hl with | [_, _, _], _ => rfl⟩
  have D_law_pool : ∀ base : Heap, DefG l.prog w K mg base CX0 1 "_law_pool" ["script"] (spPool K) := by
    obtain ⟨f, fd, F, a⟩ := A_law_pool
    exact fun base => ⟨f, fd, ok_law_pool F T , PySem.W.mg_of X G a, F.kp, F.binds (ps := ["script"]) fun _ _ _ _ _ _ us hl => match us, hl with | [_], _ => rfl⟩
  have D_law_stream : ∀ base : Heap, DefG l.prog w K mg base CX0 2 "_law_stream" ["script"] (spStream K) := by
    obtain ⟨f, fd, F, a⟩ := A_law_stream
    exact fun base => ⟨f, fd, ok_law_stream F T (D_law_pool base), PySem.W.mg_of X G a, F.kp, F.binds (ps := ["script"]) fun _ _ _ _ _ _ us hl => match us, hl with | [_], _ => rfl⟩
  have D_law_pick : ∀ base : Heap, DefG l.prog w K mg base CX0 1 "_law_pick" ["pool", "many"] (spPick) := by
    obtain ⟨f, fd, F, a⟩ := A_law_pick
    exact fun base => ⟨f, fd, ok_law_pick F T , PySem.W.mg_of X G a, F.kp, F.binds (ps := ["pool", "many"]) fun _ _ _ _ _ _ us hl => match us, hl with | [_, _], _ => rfl⟩
  have D_law_letters : ∀ base : Heap, DefG l.prog w K mg base CX0 2 "_law_letters" ["pool", "most"] (spLetters) := by
    obtain ⟨f, fd, F, a⟩ := A_law_letters
    exact fun base => ⟨f, fd, ok_law_letters F T (D_law_pick base), PySem.W.mg_of X G a, F.kp, F.binds (ps := ["pool", "most"]) fun _ _ _ _ _ _ us hl => match us, hl with | [_, _], _ => rfl⟩
  have D_law_row : ∀ base : Heap, DefG l.prog w K mg base CX0 2 "_law_row" ["pool", "count", "many"] (spRow) := by
    obtain ⟨f, fd, F, a⟩ := A_law_row
    exact fun base => ⟨f, fd, ok_law_row F T (D_law_pick base), PySem.W.mg_of X G a, F.kp, F.binds (ps := ["pool", "count", "many"]) fun _ _ _ _ _ _ us hl => match us, hl with | [_, _, _], _ => rfl⟩
  have D_law_text : ∀ base : Heap, DefG l.prog w K mg base CX0 3 "_law_text" ["pool", "letters", "length"] (spText) := by
    obtain ⟨f, fd, F, a⟩ := A_law_text
    exact fun base => ⟨f, fd, ok_law_text F T (D_law_pick base) (D_law_row base), PySem.W.mg_of X G a, F.kp, F.binds (ps := ["pool", "letters", "length"]) fun _ _ _ _ _ _ us hl => match us, hl with | [_, _, _], _ => rfl⟩
  have D_law_machine : ∀ base : Heap, DefG l.prog w K mg base CX0 2 "_law_machine" ["pool", "letters", "most"] (spMachine K) := by
    obtain ⟨f, fd, F, a⟩ := A_law_machine
    exact fun base => ⟨f, fd, ok_law_machine F T (D_law_pick base), PySem.W.mg_of X G a, F.kp, F.binds (ps := ["pool", "letters", "most"]) fun _ _ _ _ _ _ us hl => match us, hl with | [_, _, _], _ => rfl⟩
  have D_law_great : ∀ base : Heap, DefG l.prog w K mg base CX0 3 "_law_great" ["pool", "letters", "many"] (spGreatM) := by
    obtain ⟨f, fd, F, a⟩ := A_law_great
    exact fun base => ⟨f, fd, ok_law_great F T (D_law_row base), PySem.W.mg_of X G a, F.kp, F.binds (ps := ["pool", "letters", "many"]) fun _ _ _ _ _ _ us hl => match us, hl with | [_, _, _], _ => rfl⟩
  have D_law_chain : ∀ base : Heap, DefG l.prog w K mg base CX0 1 "_law_chain" ["letters", "word"] (spChain1) := by
    obtain ⟨f, fd, F, a⟩ := A_law_chain
    exact fun base => ⟨f, fd, ok_law_chain F T , PySem.W.mg_of X G a, F.kp, F.binds (ps := ["letters", "word"]) fun _ _ _ _ _ _ us hl => match us, hl with | [_, _], _ => rfl⟩
  have D_law_ring : ∀ base : Heap, DefG l.prog w K mg base CX0 1 "_law_ring" ["letters", "many", "end"] (spRing) := by
    obtain ⟨f, fd, F, a⟩ := A_law_ring
    exact fun base => ⟨f, fd, ok_law_ring F T , PySem.W.mg_of X G a, F.kp, F.binds (ps := ["letters", "many", "end"]) fun _ _ _ _ _ _ us hl => match us, hl with | [_, _, _], _ => rfl⟩
  have D_law_shape : ∀ base : Heap, DefG l.prog w K mg base CX0 4 "_law_shape" ["pool", "letters", "most"] (spShape) := by
    obtain ⟨f, fd, F, a⟩ := A_law_shape
    exact fun base => ⟨f, fd, ok_law_shape F T (D_law_chain base) (D_law_machine base) (D_law_pick base) (D_law_ring base) (D_law_text base), PySem.W.mg_of X G a, F.kp, F.binds (ps := ["pool", "letters", "most"]) fun _ _ _ _ _ _ us hl => match us, hl with | [_, _, _], _ => rfl⟩
  have D_law_is_places : ∀ base : Heap, DefG l.prog w K mg base CX0 1 "_law_is_places" ["found"] (spIsPlaces K) := by
    obtain ⟨f, fd, F, a⟩ := A_law_is_places
    exact fun base => ⟨f, fd, ok_law_is_places F T , PySem.W.mg_of X G a, F.kp, F.binds (ps := ["found"]) fun _ _ _ _ _ _ us hl => match us, hl with | [_], _ => rfl⟩
  have D_law_places : ∀ base : Heap, DefG l.prog w K mg base CX0 1 "_law_places" ["letters", "machine", "text"] (spLPlaces) := by
    obtain ⟨f, fd, F, a⟩ := A_law_places
    exact fun base => ⟨f, fd, ok_law_places F T , PySem.W.mg_of X G a, F.kp, F.binds (ps := ["letters", "machine", "text"]) fun _ _ _ _ _ _ us hl => match us, hl with | [_, _, _], _ => rfl⟩
  have D_law_counted : ∀ base : Heap, DefG l.prog w K mg base CX0 1 "_law_counted" ["letters", "machine", "text"] (spCounted) := by
    obtain ⟨f, fd, F, a⟩ := A_law_counted
    exact fun base => ⟨f, fd, ok_law_counted F T , PySem.W.mg_of X G a, F.kp, F.binds (ps := ["letters", "machine", "text"]) fun _ _ _ _ _ _ us hl => match us, hl with | [_, _, _], _ => rfl⟩
  have D_law_is_count : ∀ base : Heap, DefG l.prog w K mg base CX0 1 "_law_is_count" ["told", "due"] (spIsNum) := by
    obtain ⟨f, fd, F, a⟩ := A_law_is_count
    exact fun base => ⟨f, fd, ok_law_is_count F T , PySem.W.mg_of X G a, F.kp, F.binds (ps := ["told", "due"]) fun _ _ _ _ _ _ us hl => match us, hl with | [_, _], _ => rfl⟩
  have D_law_long : ∀ base : Heap, DefG l.prog w K mg base CX0 5 "_law_long" ["pool", "letters"] (spLong) := by
    obtain ⟨f, fd, F, a⟩ := A_law_long
    exact fun base => ⟨f, fd, ok_law_long F T (D_law_chain base) (D_law_counted base) (D_law_is_count base) (D_law_pick base) (D_law_shape base) (D_law_text base) (Dcount_places base), PySem.W.mg_of X G a, F.kp, F.binds (ps := ["pool", "letters"]) fun _ _ _ _ _ _ us hl => match us, hl with | [_, _], _ => rfl⟩
  obtain ⟨f, fd, F, a⟩ := A_law
  have e := hfa.symm.trans (PySem.W.mg_of X G a)
  cases e
  refine ⟨fd, fun s v => ?_, fun base _ _ => ok_law F T (D_law_great base) (D_law_is_count base) (D_law_is_places base) (D_law_letters base) (D_law_long base) (D_law_pick base) (D_law_places base) (D_law_shape base) (D_law_stream base) (D_law_text base) (Dall_places base) (Dcount_places base)⟩
  obtain ⟨oc, od, kV, doc, pm, an, cdv, ct, osl, rfl, _, _⟩ := F.ex
  exact .of_eq rfl
end Hw
open PySem PySem.W PyProof.Rows
set_option maxHeartbeats 0 in
theorem PySem.Challenge.cw_hallofwords_k34_places_in_texts_holds : PySem.Challenge.rw_hallofwords_k34_places_in_texts.Holds := by
  w_on; o_law; k_head; (case hw => w_witness2)
  k_fill
  refine Hw.law_end (l := PySem.Challenge.rw_hallofwords_k34_places_in_texts) (n := 63) (k := 6) (x := "script") (sp := fun K => Hw.spLaw K) rfl (by decide) rfl ⟨rfl, by decide, by decide⟩ (fun w h Y => PySem.W.kIn_of Y) ?F (fun K H a ns hl _ hS => Hw.law_pre hl hS)
  case F =>
    intro w mg fa h KX G hmg
    refine Hw.all_mk KX G hmg ?a0 ?a1 ?a2 ?a3 ?a4 ?a5 ?a6 ?a7 ?a8 ?a9 ?a10 ?a11 ?a12 ?a13 ?a14 ?a15 ?a16 ?a17 ?a18 ?a19 ?z0 ?z1 ?z2 ?z3 ?z4 ?z5 ?z6 ?z7 ?z8 ?z9 ?z10 ?z11 ?z12
    (case a0 => (refine' Hw.atTop ?a ?l ?c ?k; (case a => k_is); (case l => k_is); (case c => k_is); (case k => k_is)))
    (case a1 => (refine' Hw.atTop ?a ?l ?c ?k; (case a => k_is); (case l => k_is); (case c => k_is); (case k => k_is)))
    (case a2 => (refine' Hw.atTop ?a ?l ?c ?k; (case a => k_is); (case l => k_is); (case c => k_is); (case k => k_is)))
    (case a3 => (refine' Hw.atTop ?a ?l ?c ?k; (case a => k_is); (case l => k_is); (case c => k_is); (case k => k_is)))
    (case a4 => (refine' Hw.atTop ?a ?l ?c ?k; (case a => k_is); (case l => k_is); (case c => k_is); (case k => k_is)))
    (case a5 => (refine' Hw.atTop ?a ?l ?c ?k; (case a => k_is); (case l => k_is); (case c => k_is); (case k => k_is)))
    (case a6 => (refine' Hw.atTop ?a ?l ?c ?k; (case a => k_is); (case l => k_is); (case c => k_is); (case k => k_is)))
    (case a7 => (refine' Hw.atTop ?a ?l ?c ?k; (case a => k_is); (case l => k_is); (case c => k_is); (case k => k_is)))
    (case a8 => (refine' Hw.atTop ?a ?l ?c ?k; (case a => k_is); (case l => k_is); (case c => k_is); (case k => k_is)))
    (case a9 => (refine' Hw.atTop ?a ?l ?c ?k; (case a => k_is); (case l => k_is); (case c => k_is); (case k => k_is)))
    (case a10 => (refine' Hw.atTop ?a ?l ?c ?k; (case a => k_is); (case l => k_is); (case c => k_is); (case k => k_is)))
    (case a11 => (refine' Hw.atTop ?a ?l ?c ?k; (case a => k_is); (case l => k_is); (case c => k_is); (case k => k_is)))
    (case a12 => (refine' Hw.atTop ?a ?l ?c ?k; (case a => k_is); (case l => k_is); (case c => k_is); (case k => k_is)))
    (case a13 => (refine' Hw.atTop ?a ?l ?c ?k; (case a => k_is); (case l => k_is); (case c => k_is); (case k => k_is)))
    (case a14 => (refine' Hw.atTop ?a ?l ?c ?k; (case a => k_is); (case l => k_is); (case c => k_is); (case k => k_is)))
    (case a15 => (refine' Hw.atTop ?a ?l ?c ?k; (case a => k_is); (case l => k_is); (case c => k_is); (case k => k_is)))
    (case a16 => (refine' Hw.atTop ?a ?l ?c ?k; (case a => k_is); (case l => k_is); (case c => k_is); (case k => k_is)))
    (case a17 => (refine' Hw.atTop ?a ?l ?c ?k; (case a => k_is); (case l => k_is); (case c => k_is); (case k => k_is)))
    (case a18 => (refine' Hw.atTop ?a ?l ?c ?k; (case a => k_is); (case l => k_is); (case c => k_is); (case k => k_is)))
    (case a19 => (refine' Hw.atTop ?a ?l ?c ?k; (case a => k_is); (case l => k_is); (case c => k_is); (case k => k_is)))
    (case z0 => k_is)
    (case z1 => k_is)
    (case z2 => k_is)
    (case z3 => k_is)
    (case z4 => k_is)
    (case z5 => k_is)
    (case z6 => k_is)
    (case z7 => k_is)
    (case z8 => k_is)
    (case z9 => k_is)
    (case z10 => k_is)
    (case z11 => k_is)
    (case z12 => k_is)
