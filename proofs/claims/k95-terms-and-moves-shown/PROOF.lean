import PyProof.Rows.All
import Wide.All
import OpenK.AllK
import Wide.FinOn
import HandS.ForMost
import HandS.IsInst
import HandS.TupAny
import HandS.Wide
import HandS.Deep
import HandS.SetKeys
import HandS.Style
import HandS.Conv
import PyProof.ReprRoads
import HandS.SetFor
import HandS.Strs
import HandS.Evl
import HandS.Walk
import HandS.Sort
import HandS.TupLe
import PyProof.NeKinds
import PyProof.EqAt
import HandS.Codes
import KE.IntTextLaws
import PyProof.Draws
import PyProof.EnumMake
import HandS.Slots
import KE.KDictOf
import HandS.More
import HandS.ExcOwn
import HandS.SlotsOwn
import PyProof.InstNe
import OpenK.KOps
import HandS.ClsMeth
import HandS.FStr
import HandS.TupMul
import HandS.Small
import PyProof.ConsumeS
import HandS.ForExc
import HandS.ExcField
import HandS.ExcIs
import KE.KExcSuper
import HandS.ListItems
import KE.KExcIs
import HandS.DictTup
import HandS.SortOrd
import PyProof.Rows.SortKeyStr
import HandS.SortInts
import HandS.SortKw
import KE.KSortKey
import PyProof.Rows.SortStr
import PyProof.TupleOfSeq
import HandS.DictComp
import PySem.Challenge.RW_framemoves_k95_terms_and_moves_shown
import HandS.WordsExc
import HandS.OwnEq
import KE.KEqDict
set_option Elab.async false
set_option linter.all false
set_option maxRecDepth 100000
set_option maxHeartbeats 8000000
namespace Fm
open PySem PySem.Spec PyProof.Rows L2
theorem bt_len : bootBuiltins "len" = some (.builtin "len") := by decide +kernel
theorem bt_abs : bootBuiltins "abs" = some (.builtin "abs") := by decide +kernel
theorem bt_isinstance : bootBuiltins "isinstance" = some (.builtin "isinstance") := by decide +kernel
theorem bt_repr : bootBuiltins "repr" = some (.builtin "repr") := by decide +kernel
theorem bt_all : bootBuiltins "all" = some (.builtin "all") := by decide +kernel
theorem bt_int : bootBuiltins "int" = some (.type "int") := by decide +kernel
theorem bt_tuple : bootBuiltins "tuple" = some (.type "tuple") := by decide +kernel
theorem bt_list : bootBuiltins "list" = some (.type "list") := by decide +kernel
theorem bt_str : bootBuiltins "str" = some (.type "str") := by decide +kernel
theorem bt_bool : bootBuiltins "bool" = some (.type "bool") := by decide +kernel

section
variable {X : Cx} {e l : Expr} {pos : Pos}
theorem pe_ty {x : Str} {n : String} (hm : X.mg x = none) (hv : bootBuiltins x = some (.type n)) (hg : Gl X x := by rfl)
    (h1 : x ≠ "__name__" := by decide) (h2 : (x == ("__debug__" : Str)) = false := by decide) : PE X (.Name x pos) (tC (.ty n)) :=
  pe_bltn hg hm hv rfl h1 h2
theorem pe_or2 {t u : TE} (h : PE X e t) (k : PE X e u) : PE X e (fun σ H Q => t σ H Q ∨ u σ H Q) :=
  ⟨fun pins s σ H Q I q => q.elim (h.run pins s σ H Q I) (k.run pins s σ H Q I)⟩
def iSeq (K : PySem.W.Frag) (tl : TE) : TI := fun σ H R => tl σ H fun x H1 => ∃ a, x = .ref a ∧
  (((∃ xs, SqL K H1 a xs) ∧ R (Itl K a) H1) ∨ ((∃ xs, SqT K H1 a xs) ∧ R (Itt K a) H1))
theorem pi_seq {tg : Expr} {tl : TE} (hl : PE X l tl) : PI X tg l (iSeq X.K tl) := by
  refine ⟨fun pins s σ H R I h => thn (hl.run pins s σ H _ I h) ?_⟩
  rintro v s1 ⟨x, H1, I1, r1, a, rfl, q⟩
  cases r1
  have fp : ∀ b ∈ [s1.heap.objs.size], FpOk X pins H1 b := fun b hb => by
    rw [List.mem_singleton.mp hb]
    exact I1.fpOk (Nat.le_refl _) (I1.hok.fresh (Nat.le_refl _))
  rcases q with ⟨⟨xs, hq⟩, q⟩ | ⟨⟨xs, hq⟩, q⟩
  · obtain ⟨its, rv, p, hz⟩ := I1.list hq
    exact wpAny_pyIter_list p.isList ⟨_, _, _, _, H1, rfl, I1.kept (t' := s1.toks) fun b o e => Heap.get?_push_of_some _ e, turn_list a _,
      ⟨_, Heap.get?_push_size _ rfl, rfl, rfl⟩, fp, q⟩
  · obtain ⟨its, rv, p, hz⟩ := I1.tuple hq
    exact wpAny_pyIter_tuple (show s1.heap.IsTuple a its.toArray from p) ⟨_, _, _, _, H1, rfl, I1.kept (t' := s1.toks) fun b o e => Heap.get?_push_of_some _ e, turn_tuple a _,
      ⟨_, Heap.get?_push_size _ rfl, rfl, rfl⟩, fp, q⟩
def rAddS : R2 := fun x y H Q => ∃ i j, x = .str i ∧ y = .str j ∧ i.length + j.length ≤ sizeLine ∧ Q (.str (i ++ j)) H
def rAddG (K : PySem.W.Frag) : R2 := fun x y H Q => rI0 (fun i j => .int (i + j)) x y H Q ∨ (rAddS x y H Q ∨ (rCatA K x y H Q ∨ rCat x y H Q))
theorem op_addG : OpR X (binaryOp .Add) (rAddG X.K) := OpR.or op_add (OpR.or op_add_str (OpR.or op_catA op_cat))
def rMulG : R2 := fun x y H Q => rI CMul (fun i j => .int (i * j)) x y H Q ∨ rRep x y H Q
theorem op_mulG : OpR X (binaryOp .Mult) rMulG := OpR.or op_mul op_rep
def rEqG (K : PySem.W.Frag) : R2 := fun x y H Q => rEq x y H Q ∨ rEqD K x y H Q
theorem op_eqG (hu : X.A.units + 64 < cLine) : OpR X (compareOp .Eq) (rEqG X.K) := OpR.or op_eq (op_eqD hu)
def rNeG (K : PySem.W.Frag) : R2 := fun x y H Q => rNe x y H Q ∨ rNeD K x y H Q
theorem op_neG (hu : X.A.units + 64 < cLine) : OpR X (compareOp .NotEq) (rNeG X.K) := OpR.or op_ne (op_neD hu)
def rInSig : R2 := fun x y H Q => ∃ (c : Nat) (z : Str), x = .str ⟨#[c]⟩ ∧ y = .str z ∧ Q (.bl (decide (c ∈ z.cps.toList))) H
def rInG (K : PySem.W.Frag) : R2 := fun x y H Q => rInD K x y H Q ∨ rInSig x y H Q
theorem op_inG (hu : X.A.units + 65 < cLine) : OpR X (compareOp .In) (rInG X.K) := OpR.or (op_inD hu) op_in_sign
def rNotInSig : R2 := fun x y H Q => ∃ (c : Nat) (z : Str), x = .str ⟨#[c]⟩ ∧ y = .str z ∧ Q (.bl (!decide (c ∈ z.cps.toList))) H
def rNotInG (K : PySem.W.Frag) : R2 := fun x y H Q => rNotInD K x y H Q ∨ rNotInSig x y H Q
def rLenG (K : PySem.W.Frag) : List V → Hp → VK → Prop := fun xs H Q =>
  (∃ p ys, xs = [.ref p] ∧ (SqL K H p ys ∨ SqT K H p ys) ∧ Q (.int ys.length) H) ∨ ((∃ z : Str, xs = [.str z] ∧ z.length ≤ sizeLine ∧ Q (.int z.length) H) ∨
    (∃ a kvs, xs = [V.ref a] ∧ H a = some (.dK kvs) ∧ Q (.int kvs.length) H))
theorem call_lenG : CallR X (.builtin "len") (rLenG X.K) := CallR.or call_len_seq (CallR.or call_len_str call_lenD)
def rTupOf (K : PySem.W.Frag) : List V → Hp → VK → Prop := fun xs H Q => ∃ p ys, xs = [.ref p] ∧ ((SqL K H p ys ∧ ∀ l, H l = none → Q (.ref l) (upd H l (.tup ys))) ∨ (SqT K H p ys ∧ Q (.ref p) H))
theorem call_tupG : CallR X (.type "tuple") (rTupOf X.K) := call_tuple_of
def rListOf (K : PySem.W.Frag) : List V → Hp → VK → Prop := fun xs H Q => ∃ p ys, xs = [.ref p] ∧ (SqL K H p ys ∨ SqT K H p ys) ∧ ∀ l, H l = none → Q (.ref l) (upd H l (.lst ys))
theorem call_listG : CallR X (.type "list") (rListOf X.K) := call_list_of
def rSlG (K : PySem.W.Frag) : V → Option Int → Option Int → Hp → VK → Prop := fun x lo hi H Q => rSlL K x lo hi H Q ∨ (rSlA K x lo hi H Q ∨ rSlS x lo hi H Q)
theorem sl_G : SlR X (rSlG X.K) := SlR.or sl_list (SlR.or sl_tupA sl_str)
end
end Fm
namespace Fm
open PySem PySem.Spec PyProof.Rows L2
theorem ext_tup (l b : Addr) (as bs : Array Value) (n m : Nat) (dd : Option Addr) (sl : Array (Option Value))
    (h0 : ¬(!as.isEmpty && Builtin.List.listTooLong (as.size + bs.size)) = true) (h1 : as.size ≤ sizeLine) (h2 : as.size + bs.size ≤ sizeLine + 1) :
    Meets (Builtin.«list.extend» ⟨[.ref l, .ref b], []⟩) (fun _ R s =>
      s.heap.get? l = some { cls := .type "list", dict := none, data := .seq as n, slots := #[] } ∧
      s.heap.get? b = some { cls := .type "tuple", dict := dd, data := .seq bs m, slots := sl } ∧
      R (.ok (.ret Value.none)) { s with heap := s.heap.update l (Obj.mapSeq fun x => x ++ bs), toks := s.toks }) := by
  refine .of_wp fun prog w A R s h => ?_
  obtain ⟨hp, g, d, tk, os⟩ := s
  obtain ⟨ha, hb, hr⟩ := h
  have q1 := AutoSeq1.idx_int
  have q2 := AutoSeq1.sub_tuple_tuple
  have q3 := AutoSeq1.sub_list_list
  have q4 := AutoSeq1.sub_tuple_list
  have q5 := AutoSeq1.sub_list_tuple
  have hz : (as ++ bs).size ≤ sizeLine + 1 := by
    rw [Array.size_append]
    exact h2
  wp_walk using (wpAny_updateSeq ha rfl (hz := h1) (_hz' := hz)), AutoSeq1.wpAny_loadPart' ha, AutoSeq1.wpAny_loadPart' hb
  exact ⟨_, rfl, hr⟩
section
variable {X : Cx}
def rExtT (K : PySem.W.Frag) : V → List V → Hp → VK → Prop := fun x vs H Q => ∃ l b xs zs, x = .ref l ∧ vs = [.ref b] ∧ H l = some (.lst xs) ∧ SqT K H b zs ∧
  xs.length + zs.length ≤ sizeLine ∧ Q .non (upd H l (.lst (xs ++ zs)))
theorem mt_extT : MtR X "list.extend" (rExtT X.K) := by
  intro pins s σ H x vs v us Q I rx rv h
  obtain ⟨l, b, xs, zs, rfl, rfl, hH, hB, hz, q⟩ := h
  cases rx
  obtain ⟨u, rfl, ru⟩ := rv.one
  cases ru
  obtain ⟨z, its, n, r, hl, e⟩ := I.lstM hH
  obtain ⟨its2, r2, ⟨⟨cls, dd, data, sl⟩, ho, hc, m, hd⟩, hz2⟩ := I.tuple hB
  simp only at hc hd
  subst hc hd
  have e1 := r.length
  have e2 := r2.length
  have hs : its.toArray.size + its2.toArray.size ≤ sizeLine := by
    rw [List.size_toArray, List.size_toArray]
    omega
  have hlong : ¬ (!its.toArray.isEmpty && Builtin.List.listTooLong (its.toArray.size + its2.toArray.size)) = true := by
    rw [notLongL hs, Bool.and_false]
    exact Bool.false_ne_true
  refine call_meets PySem.F.slot_list_extend ⟨_, e, rfl⟩ PySem.F.entry_list_extend (PySem.F.args_list_extend_2 _ _)
    (ext_tup l b its.toArray its2.toArray n m dd sl hlong (by rw [List.size_toArray]; omega) (by omega)) ⟨e, ho, ?_⟩
  refine ⟨.non, _, I.lset (its' := its ++ its2) hH e (by simp) (r.append r2) ?_, rfl, q⟩
  rw [List.length_append]
  omega
def rExtG (K : PySem.W.Frag) : V → List V → Hp → VK → Prop := fun x vs H Q => rExtend x vs H Q ∨ rExtT K x vs H Q
theorem mt_extendG : MtR X "list.extend" (rExtG X.K) := MtR.or mt_extend mt_extT
def rReprG (K : PySem.W.Frag) : List V → Hp → VK → Prop := fun xs H Q => ∃ (x : V) (d : PyData), xs = [x] ∧ Dp K H x d ∧ d.showable = true ∧ d.hasDict = false ∧ d.depth ≤ 60 ∧ d.shown.length ≤ sizeLine ∧ Q (.str d.shown) H
theorem call_reprG (hg : X.A.guards = some []) (hu : X.A.units + 64 < cLine) : CallR X (.builtin "repr") (rReprG X.K) := by
  intro pins s σ H xs us Q I rv h
  obtain ⟨x, d, rfl, hd, hs, hn, hdp, hz, q⟩ := h
  obtain ⟨u, rfl, ru⟩ := rv.one
  obtain ⟨as, R⟩ := Dp.reads I d x u hd ru
  have fin : ∀ h' (t : Tok) tk, (∀ b o, s.heap.get? b = some o → h'.get? b = some o) → EP X pins σ Q (.str d.shown t) { s with heap := h', toks := tk } := fun h' t tk hk =>
    ⟨.str d.shown, H, I.kept (h' := h') (t' := tk) hk, ⟨t, rfl⟩, q⟩
  cases hd with
  | non =>
    cases ru
    exact PySem.P.repr_of_none (fin s.heap _ _ fun _ _ e => e)
  | bl b =>
    cases ru
    exact PySem.P.repr_of_bool (fin s.heap _ _ fun _ _ e => e)
  | int i =>
    obtain ⟨t, rfl⟩ := ru
    exact PySem.P.repr_of_int (by simpa [PyData.showable] using hs) (fin s.heap _ _ fun _ _ e => e)
  | str y =>
    obtain ⟨t, rfl⟩ := ru
    exact PySem.P.repr_of_str (fin s.heap _ _ fun _ _ e => e) hz
  | lst h1 h2 =>
    cases ru
    exact PySem.repr_of_reads' R hs (fun c => by rw [hn] at c; cases c) hg (by omega) (fun _ _ e => e) (fun h' t tk hk => fin h' t tk hk) hz
  | tup h1 h2 =>
    cases ru
    exact PySem.repr_of_reads' R hs (fun c => by rw [hn] at c; cases c) hg (by omega) (fun _ _ e => e) (fun h' t tk hk => fin h' t tk hk) hz
end
structure FnOkG (P : Program) (w : World) (K : PySem.W.Frag) (mg : Str → Option Value) (base : Heap) (CX : CXT) (k : Nat) (f : Addr) (fd : FuncData) (ps : List Str) (sp : Sp) : Prop where
  len : ∀ vs H Q E, sp vs H Q E → vs.length = ps.length
  run : ∀ (A : Around) (outer : List Env) (s : Shared) (H : Hp) (args : Args) (us : List Value) (vs : List V) (Q : VK) (E : XK), A.guards = some [] → Room k A →
    Env0 P w K mg base A outer s H → BindsTo s fd args (ps.zip us) → Vals vs us → sp vs H Q E → codeAny (model P w) A (.call (.ref f) args) (CR CX outer P w H s Q E) s
section
variable {P : Program} {w : World} {K : PySem.W.Frag} {mg : Str → Option Value} {base : Heap} {CX : CXT}
theorem FnOkG.mono {j k : Nat} {f : Addr} {fd : FuncData} {ps : List Str} {sp : Sp} (F : FnOkG P w K mg base CX j f fd ps sp) (h : j ≤ k) : FnOkG P w K mg base CX k f fd ps sp :=
  ⟨F.len, fun A outer s H args us vs Q E hg hr => F.run A outer s H args us vs Q E hg (hr.mono h)⟩
theorem guards_deeper (A : Around) (env : Env) (h : A.guards = some []) : (A.deeper env).guards = some [] := by
  first | exact h | simpa [Around.deeper] using h
theorem okG {x qual : Str} {st : Stmt} {f : Addr} {fd : FuncData} {N ps : List Str} {k : Nat} {sp : Sp} (F : Fun K x qual st f fd) (S : FnScope N ps (defScope st))
    (len : ∀ vs H Q E, sp vs H Q E → vs.length = ps.length)
    (body : ∀ (cdv : Value) (A : Around) (outer : List Env) (s : Shared) (H : Hp) (vs : List V) (Q : VK) (E : XK),
      (A.deeper (envOfC qual (defScope st) s.heap.objs.size f cdv)).guards = some [] → Room k (A.deeper (envOfC qual (defScope st) s.heap.objs.size f cdv)) → sp vs H Q E →
      ∃ t, PSs (cxOf CX0 P w K mg base N qual (defScope st) f cdv A outer s H E).nox (defBody st) t ∧ t { nx := fun _ H' => Q .non H', rt := Q } (start N vs) H) :
    FnOkG P w K mg base CX0 (k + 1) f fd ps sp := by
  obtain ⟨oc, od, kV, doc, pm, an, cdv, ct, osl, rfl, lk, hcd⟩ := F.ex
  refine ⟨len, fun A outer s H args us vs Q E hg hr e0 hb rv hsp => ?_⟩
  have KX : K.In s.heap := e0.mod.kin.keeps fun b o e => (e0.bs b o e).1
  have lim : s.heap.NoLimit := e0.mod.nolimit.keeps fun b o e => (e0.bs b o e).1
  refine codeAny_call_function hr.depth (KX _ _ lk) rfl S.co S.gen rfl (PySem.W.codeRec_of KX hcd) (hb _ _ _ _ ?_)
  refine wpAny_newFunctionEnv_cells S.kind (fun y hy => ?_) fun env he s1 ic => ?_
  · rcases S.par y.1 (List.of_mem_zip (show (y.1, y.2) ∈ ps.zip us from hy)).1 with q | q
    · exact .inl q
    · exact .inr ⟨q, PySem.W.cellsFrom_some _ _ _ (.inl q)⟩
  · subst he
    refine ⟨lim.keeps ic.toInCall.keep, codeAny_func ?_⟩
    obtain ⟨t, ht, hq⟩ := body cdv A outer s H vs Q E (guards_deeper A _ hg) (hr.deeper _) hsp
    have I := inv_start (CX := CX0) (N := N) (E := E) S hr.hd e0 (len _ _ _ _ hsp) rv ic
    refine wpAny_mono (ht.nox.run [] s1 (start N vs) H _ I hq) (fun fl s' hs => ?_) fun e s' hs => hs
    cases fl with
    | ret u =>
      obtain ⟨v, σ', H', J, r', q⟩ := hs
      exact ⟨v, H', J.os, J.bare, J.base, J.hok, r', q⟩
    | next =>
      obtain ⟨σ', H', J, q⟩ := hs
      exact ⟨.non, H', J.os, J.bare, J.base, J.hok, rfl, q⟩
    | brk =>
      obtain ⟨_, _, _, q⟩ := hs
      exact q.elim
    | cont =>
      obtain ⟨_, _, _, q⟩ := hs
      exact q.elim
end
section
variable {X : Cx} {CX : CXT} {k : Nat} {f : Addr} {fd : FuncData} {ps : List Str} {sp : Sp} {dvs : List V} {ds : List Value} {E : XK} {x : Str} {p pos : Pos} {e : Expr} {es : List Expr} {t : TA}
theorem pe_callG (F : FnOkG X.prog X.w X.K X.mg X.base CX k f fd ps sp) (hgd : X.A.guards = some []) (hr : Room k X.A) (hg : Gl X x) (hm : X.mg x = some (.ref f))
    (hk : PySem.W.keepIn X.K (.ref f) = true) (hb : Binds X.K fd ps ds) (hd : Vals dvs ds) (hx : Passes CX X E) (ha : PA X (e :: es) t) (hdb : (x == ("__debug__" : Str)) = false := by decide)
    (he : starEach (e :: es) X.env = (false, eval e X.env) :: starEach es X.env := by rfl) (hpl : (backTo pos (starEach es X.env)).any (·.1) = false := by rfl) :
    PE X (.Call (.Name x p) (e :: es) [] pos) (tCall sp dvs E t) := by
  refine ⟨fun pins s σ H Q I h => wpAny_Call_Name_kw (ld_glob I hg hm ?_ hdb)⟩
  refine PySem.W.callWith_K (h₀ := X.base) I.ok.mod.kin hk (thn (ha.run pos pins s σ H _ I h) ?_) he hpl
  rintro us s1 ⟨vs, H1, I1, rv, q⟩
  refine ⟨I1.kIn, ?_⟩
  have r2 := rv.append hd
  have hl : (us ++ ds).length = ps.length := by
    rw [← r2.length]
    exact F.len _ _ _ _ q
  refine wpAny_call (codeAny_mono (F.run X.A X.stack s1 H1 ⟨us, []⟩ _ _ Q E hgd hr I1.env0 (hb s1 us I1.kIn hl) r2 q) fun r s' hq => ?_)
  match r, hq with
  | .error e, hq => exact hx pins σ H1 s1 e s' I1 hq
  | .ok (.ret u), hq => exact I1.after hq
end
end Fm
namespace Fm
open PySem PySem.Spec PyProof.Rows L2
structure Mv (S : List Addr) (H H' : Hp) : Prop where
  tk : ∀ a xs, Rd H a (.tup xs) → Rd H' a (.tup xs)
  keep : ∀ a o, a ∉ S → H a = some o → H' a = some o
section
variable {S T : List Addr} {H H1 H2 : Hp} {p : Addr} {o : HO}
theorem Mv.refl : Mv S H H := ⟨fun _ _ h => h, fun _ _ _ h => h⟩
theorem Mv.trans (a : Mv S H H1) (b : Mv S H1 H2) : Mv S H H2 := ⟨fun c xs h => b.tk c xs (a.tk c xs h), fun c u n h => b.keep c u n (a.keep c u n h)⟩
theorem Mv.mono (a : Mv S H H1) (h : ∀ x ∈ S, x ∈ T) : Mv T H H1 := ⟨a.tk, fun c u n e => a.keep c u (fun z => n (h c z)) e⟩
theorem Mv.of_same (h : Same H H1) : Mv S H H1 := ⟨fun a xs r => r.elim (fun r => .inl (h _ _ r)) fun ⟨o, r⟩ => .inr ⟨o, h _ _ r⟩, fun a o _ e => h a o e⟩
theorem same_new (h : H p = none) : Same H (upd H p o) := fun a u e => by
  rw [upd_ne (ne_of_none e h)]
  exact e
theorem Mv.new (h : H p = none) : Mv S H (upd H p o) := .of_same (same_new h)
theorem Mv.free (a : Mv [] H H1) (h : H1 p = none) : H p = none := by
  cases q : H p with
  | none => rfl
  | some u =>
    rw [a.keep p u (List.not_mem_nil) q] at h
    cases h
theorem Mv.same (a : Mv [] H H1) : Same H H1 := fun c u e => a.keep c u List.not_mem_nil e
theorem Mv.wr (a : Mv S H H1) (h : H p = none) : Mv S H (upd H1 p o) := by
  refine ⟨fun c xs r => ?_, fun c u n e => ?_⟩
  · have hc : c ≠ p := by
      rintro rfl
      rcases r with r | ⟨u, r⟩ <;> (rw [h] at r; cases r)
    rcases a.tk c xs r with r | ⟨u, r⟩
    · exact .inl (by rw [upd_ne hc]; exact r)
    · exact .inr ⟨u, by rw [upd_ne hc]; exact r⟩
  · rw [upd_ne (ne_of_none e h)]
    exact a.keep c u n e
theorem Mv.set {xs : List V} (h : H p = some (.lst xs)) (hp : p ∈ S) : Mv S H (upd H p o) := by
  refine ⟨fun c ys r => ?_, fun c u n e => ?_⟩
  · have hc : c ≠ p := by
      rintro rfl
      rcases r with r | ⟨u, r⟩ <;> (rw [h] at r; cases r)
    rcases r with r | ⟨u, r⟩
    · exact .inl (by rw [upd_ne hc]; exact r)
    · exact .inr ⟨u, by rw [upd_ne hc]; exact r⟩
  · have hc : c ≠ p := fun z => n (by rw [z]; exact hp)
    rw [upd_ne hc]
    exact e
theorem Mv.sqT {K : PySem.W.Frag} {a : Addr} {xs : List V} (m : Mv S H H1) (h : SqT K H a xs) : SqT K H1 a xs := h.elim (fun h => .inl (m.tk a xs h)) .inr
end
mutual
def imm : PyData → Bool
  | .none | .bool _ | .int _ | .str _ => true
  | .tuple xs => immAll xs
  | .list _ => false
  | .dict _ => false
def immAll : List PyData → Bool
  | [] => true
  | x :: xs => imm x && immAll xs
end
structure Im (K : PySem.W.Frag) (H : Hp) (v : V) (d : PyData) : Prop where
  dp : Dp K H v d
  im : imm d = true
structure Ims (K : PySem.W.Frag) (H : Hp) (vs : List V) (ds : List PyData) : Prop where
  dp : DpAll K H vs ds
  im : immAll ds = true
section
variable {K : PySem.W.Frag} {S : List Addr} {H H' : Hp}
mutual
theorem dp_mv (m : Mv S H H') : ∀ (d : PyData) (v : V), imm d = true → Dp K H v d → Dp K H' v d
  | .none, _, _, h => by cases h; exact .non
  | .bool b, _, _, h => by cases h; exact .bl b
  | .int i, _, _, h => by cases h; exact .int i
  | .str x, _, _, h => by cases h; exact .str x
  | .tuple ds, _, i, h => by
    cases h with
    | tup hs ha => exact .tup (m.sqT hs) (dps_mv m ds _ (by simpa [imm] using i) ha)
  | .list ds, _, i, _ => by simp [imm] at i
  | .dict _, _, _, h => by cases h
theorem dps_mv (m : Mv S H H') : ∀ (ds : List PyData) (vs : List V), immAll ds = true → DpAll K H vs ds → DpAll K H' vs ds
  | [], _, _, h => by cases h; exact .nil
  | d :: ds, _, i, h => by
    cases h with
    | cons h1 h2 =>
      have i' : imm d = true ∧ immAll ds = true := by simpa [immAll] using i
      exact .cons (dp_mv m d _ i'.1 h1) (dps_mv m ds _ i'.2 h2)
end
theorem Im.mv {v : V} {d : PyData} (h : Im K H v d) (m : Mv S H H') : Im K H' v d := ⟨dp_mv m d v h.im h.dp, h.im⟩
theorem Ims.mv {vs : List V} {ds : List PyData} (h : Ims K H vs ds) (m : Mv S H H') : Ims K H' vs ds := ⟨dps_mv m ds vs h.im h.dp, h.im⟩
theorem Ims.nil : Ims K H [] [] := ⟨.nil, rfl⟩
theorem Ims.cons {v : V} {vs : List V} {d : PyData} {ds : List PyData} (h : Im K H v d) (k : Ims K H vs ds) : Ims K H (v :: vs) (d :: ds) := ⟨.cons h.dp k.dp, by simp [immAll, h.im, k.im]⟩
theorem Ims.inv {v : V} {vs : List V} {ds : List PyData} (h : Ims K H (v :: vs) ds) : ∃ d ds', ds = d :: ds' ∧ Im K H v d ∧ Ims K H vs ds' := by
  obtain ⟨h, i⟩ := h
  cases h with
  | cons h1 h2 =>
    simp only [immAll, Bool.and_eq_true] at i
    exact ⟨_, _, rfl, ⟨h1, i.1⟩, h2, i.2⟩
theorem Ims.invD {vs : List V} {d : PyData} {ds : List PyData} (h : Ims K H vs (d :: ds)) : ∃ v vs', vs = v :: vs' ∧ Im K H v d ∧ Ims K H vs' ds := by
  obtain ⟨h, i⟩ := h
  cases h with
  | cons h1 h2 =>
    simp only [immAll, Bool.and_eq_true] at i
    exact ⟨_, _, rfl, ⟨h1, i.1⟩, h2, i.2⟩
theorem Ims.nilD {vs : List V} (h : Ims K H vs []) : vs = [] := by
  obtain ⟨h, i⟩ := h
  cases h
  rfl
theorem Ims.length : ∀ {ds : List PyData} {vs : List V}, Ims K H vs ds → vs.length = ds.length
  | [], _, h => by rw [h.nilD]; rfl
  | d :: ds, _, h => by
    obtain ⟨v, vs', rfl, _, k⟩ := h.invD
    simp [k.length]
theorem Ims.append : ∀ {ds es : List PyData} {vs us : List V}, Ims K H vs ds → Ims K H us es → Ims K H (vs ++ us) (ds ++ es)
  | [], _, _, _, h, k => by rw [h.nilD]; exact k
  | d :: ds, _, _, _, h, k => by
    obtain ⟨v, vs', rfl, h1, h2⟩ := h.invD
    exact .cons h1 (h2.append k)
theorem Ims.get : ∀ {ds : List PyData} {vs : List V} {i : Nat} {v : V}, Ims K H vs ds → vs[i]? = some v → ∃ d, ds[i]? = some d ∧ Im K H v d
  | [], _, _, _, h, e => by rw [h.nilD] at e; simp at e
  | d :: ds, _, 0, _, h, e => by
    obtain ⟨v, vs', rfl, h1, h2⟩ := h.invD
    simp at e
    subst e
    exact ⟨d, rfl, h1⟩
  | d :: ds, _, i + 1, _, h, e => by
    obtain ⟨v, vs', rfl, h1, h2⟩ := h.invD
    exact h2.get (i := i) (by simpa using e)
theorem Ims.getD : ∀ {ds : List PyData} {vs : List V} {i : Nat} {d : PyData}, Ims K H vs ds → ds[i]? = some d → ∃ v, vs[i]? = some v ∧ Im K H v d
  | [], _, _, _, h, e => by simp at e
  | d :: ds, _, 0, _, h, e => by
    obtain ⟨v, vs', rfl, h1, h2⟩ := h.invD
    simp at e
    subst e
    exact ⟨v, rfl, h1⟩
  | d :: ds, _, i + 1, _, h, e => by
    obtain ⟨v, vs', rfl, h1, h2⟩ := h.invD
    exact h2.getD (i := i) (by simpa using e)
theorem Im.tupI {v : V} {ds : List PyData} (h : Im K H v (.tuple ds)) : ∃ a xs, v = .ref a ∧ SqT K H a xs ∧ Ims K H xs ds := by
  obtain ⟨h, i⟩ := h
  cases h with
  | tup hs ha => exact ⟨_, _, rfl, hs, ha, by simpa [imm] using i⟩
theorem Im.tup {a : Addr} {xs : List V} {ds : List PyData} (h : SqT K H a xs) (k : Ims K H xs ds) : Im K H (.ref a) (.tuple ds) := ⟨.tup h k.dp, by simpa [imm] using k.im⟩
theorem Im.int (i : Int) : Im K H (.int i) (.int i) := ⟨.int i, rfl⟩
theorem Im.str (x : Str) : Im K H (.str x) (.str x) := ⟨.str x, rfl⟩
theorem Im.bl (b : Bool) : Im K H (.bl b) (.bool b) := ⟨.bl b, rfl⟩
theorem Im.non : Im K H .non .none := ⟨.non, rfl⟩
theorem Im.intI {v : V} {i : Int} (h : Im K H v (.int i)) : v = .int i := by
  obtain ⟨h, _⟩ := h
  cases h
  rfl
theorem Im.strI {v : V} {x : Str} (h : Im K H v (.str x)) : v = .str x := by
  obtain ⟨h, _⟩ := h
  cases h
  rfl
end
def BagC (H : Hp) (b c : Addr) : Prop := ∃ (s m k : Int) (ns : List Int), H b = some (.lst [.int s, .int m, .int k, .ref c]) ∧ H c = some (.lst (ns.map V.int)) ∧ ns.length ≤ 63 ∧
  (∀ n ∈ ns, 0 ≤ n) ∧ 0 ≤ s ∧ 0 ≤ k ∧ 0 ≤ m
def Bag (H : Hp) (b : Addr) : Prop := ∃ c, BagC H b c
theorem BagC.lst {H : Hp} {b c : Addr} (h : BagC H b c) : ∃ xs, H b = some (.lst xs) := by
  obtain ⟨s, m, k, ns, h, _⟩ := h
  exact ⟨_, h⟩
theorem Bag.lst {H : Hp} {b : Addr} (h : Bag H b) : ∃ xs, H b = some (.lst xs) := h.elim fun _ h => h.lst
theorem Bag.ne {H : Hp} {b c : Addr} {xs : List V} {ns : List Int} (h : H b = some (.lst (xs ++ [.ref c]))) (k : H c = some (.lst (ns.map V.int))) : c ≠ b := by
  rintro rfl
  rw [h] at k
  have e : xs ++ [V.ref c] = ns.map V.int := by
    have := Option.some.inj k
    injection this
  have : V.ref c ∈ ns.map V.int := by
    rw [← e]
    simp
  obtain ⟨n, _, q⟩ := List.mem_map.mp this
  cases q
theorem BagC.mv {H H' : Hp} {b c : Addr} (h : BagC H b c) (m : Mv [] H H') : BagC H' b c := by
  obtain ⟨s, m', k, ns, h1, h2, r⟩ := h
  exact ⟨s, m', k, ns, m.same _ _ h1, m.same _ _ h2, r⟩
theorem Bag.mv {H H' : Hp} {b : Addr} (h : Bag H b) (m : Mv [] H H') : Bag H' b := h.elim fun c h => ⟨c, h.mv m⟩
structure Dr (b : Addr) (H H' : Hp) : Prop where
  mv : Mv [b] H H'
  bagC : ∀ c, BagC H b c → BagC H' b c
section
variable {b p : Addr} {H H' H1 H2 : Hp} {o : HO}
theorem Dr.bag (x : Dr b H H') (h : Bag H b) : Bag H' b := h.elim fun c h => ⟨c, x.bagC c h⟩
theorem Dr.refl : Dr b H H := ⟨.refl, fun _ h => h⟩
theorem Dr.trans (x : Dr b H H1) (y : Dr b H1 H2) : Dr b H H2 := ⟨x.mv.trans y.mv, fun c h => y.bagC c (x.bagC c h)⟩
theorem Dr.of (x : Mv [] H H1) : Dr b H H1 := ⟨x.mono (by simp), fun _ h => h.mv x⟩
theorem Dr.new (h : H p = none) : Dr b H (upd H p o) := .of (.new h)
theorem Dr.free (d : Dr b H H') (hB : Bag H b) (h : H' p = none) : H p = none := by
  cases q : H p with
  | none => rfl
  | some u =>
    by_cases e : p = b
    · subst e
      obtain ⟨xs, hx⟩ := (d.bag hB).lst
      rw [hx] at h
      cases h
    · rw [d.mv.keep p u (by simpa using e) q] at h
      cases h
theorem Dr.get (d : Dr b H H') (hp : p ≠ b) (h : H p = some o) : H' p = some o := d.mv.keep p o (by simpa using hp) h
theorem Dr.wr (d : Dr b H H') (hp : H p = none) : Dr b H (upd H' p o) := by
  refine ⟨d.mv.wr hp, fun c hB => ?_⟩
  obtain ⟨s', m', k', ns', h1', h2', r'⟩ := d.bagC c hB
  obtain ⟨s, m, k, ns, h1, h2, r⟩ := hB
  exact ⟨s', m', k', ns', by rw [upd_ne (ne_of_none h1 hp)]; exact h1', by rw [upd_ne (ne_of_none h2 hp)]; exact h2', r'⟩
theorem Dr.mkc {c : Addr} (m : Mv [b] H H') (h : BagC H b c) (h' : BagC H' b c) : Dr b H H' := ⟨m, fun d k => by
  obtain ⟨_, _, _, _, h1, _⟩ := h
  obtain ⟨_, _, _, _, k1, _⟩ := k
  rw [h1] at k1
  have e := Option.some.inj k1
  injection e with e
  injection e with _ e
  injection e with _ e
  injection e with _ e
  injection e with e _
  injection e with e
  rw [← e]
  exact h'⟩
theorem Bag.fneq (h : Bag H b) (hp : H p = none) : p ≠ b := by
  rintro rfl
  obtain ⟨xs, e⟩ := h.lst
  rw [e] at hp
  cases hp
end
section
variable {X : Cx}
def rGetL (K : PySem.W.Frag) : V → V → Hp → VK → Prop := fun o i H Q => ∃ (p : Addr) (xs : List V) (j : Nat) (v : V), o = .ref p ∧ i = .int (j : Nat) ∧ SqL K H p xs ∧ xs[j]? = some v ∧ Q v H
theorem get_G : PGet X (rGetL X.K) := by
  intro pins s σ H o i ov iv Q I ro ri h
  obtain ⟨p, xs, j, v, rfl, rfl, hq, he, q⟩ := h
  cases ro
  obtain ⟨t, rfl⟩ := ri
  obtain ⟨its, r, pl, hz⟩ := I.list hq
  obtain ⟨w, ew, rw'⟩ := r.get he
  have hl := r.length
  have hn := line63
  have hj : j < its.length := (List.getElem?_eq_some_iff.mp ew).1
  exact wpAny_getItem_list pl.isList (by omega) (by omega) (by simpa using ew) ⟨v, H, I, rw', q⟩
end
end Fm
namespace Fm
open PySem PySem.Spec PyProof.Rows L2
def Nm (x : Str) : Prop := 1 ≤ x.length ∧ x.length ≤ 8 ∧ ∀ c ∈ x.cps.toList, 97 ≤ c ∧ c ≤ 122
instance (x : Str) : Decidable (Nm x) := by unfold Nm; infer_instance
inductive Tm where
  | var (i : Int)
  | op (x : Str) (ts : List Tm)
namespace Tm
mutual
def d : Tm → PyData
  | .var i => .int i
  | .op x ts => .tuple (.str x :: ds ts)
def ds : List Tm → List PyData
  | [] => []
  | t :: ts => d t :: ds ts
end
theorem ds_map : ∀ ts : List Tm, ds ts = ts.map d
  | [] => by simp [ds]
  | t :: ts => by simp [ds, ds_map ts]
mutual
def dep : Tm → Nat
  | .var _ => 0
  | .op _ ts => deps ts + 1
def deps : List Tm → Nat
  | [] => 0
  | t :: ts => max (dep t) (deps ts)
end
mutual
def lv : Tm → Nat
  | .var _ => 1
  | .op _ ts => lvs ts
def lvs : List Tm → Nat
  | [] => 0
  | t :: ts => lv t + lvs ts
end
mutual
def leaves : Tm → List Int
  | .var i => [i]
  | .op _ ts => leavesL ts
def leavesL : List Tm → List Int
  | [] => []
  | t :: ts => leaves t ++ leavesL ts
end
mutual
def size : Tm → Nat
  | .var _ => 0
  | .op _ ts => sizes ts + 1
def sizes : List Tm → Nat
  | [] => 0
  | t :: ts => size t + sizes ts
end
mutual
def put (f : Int → Tm) : Tm → Tm
  | .var i => f i
  | .op x ts => .op x (puts f ts)
def puts (f : Int → Tm) : List Tm → List Tm
  | [] => []
  | t :: ts => put f t :: puts f ts
end
mutual
def ok (P : Int → Prop) : Tm → Prop
  | .var i => P i
  | .op x ts => Nm x ∧ ts.length ≤ 3 ∧ oks P ts
def oks (P : Int → Prop) : List Tm → Prop
  | [] => True
  | t :: ts => ok P t ∧ oks P ts
end
theorem puts_map (f : Int → Tm) : ∀ ts : List Tm, puts f ts = ts.map (put f)
  | [] => by simp [puts]
  | t :: ts => by simp [puts, puts_map f ts]
theorem oks_iff {P : Int → Prop} : ∀ {ts : List Tm}, oks P ts ↔ ∀ t ∈ ts, ok P t
  | [] => by simp [oks]
  | t :: ts => by simp [oks, oks_iff]
theorem deps_le {n : Nat} : ∀ {ts : List Tm}, deps ts ≤ n ↔ ∀ t ∈ ts, dep t ≤ n
  | [] => by simp [deps]
  | t :: ts => by
    have := deps_le (n := n) (ts := ts)
    simp only [deps, List.mem_cons, forall_eq_or_imp, ← this]
    omega
theorem leavesL_append : ∀ ts us : List Tm, leavesL (ts ++ us) = leavesL ts ++ leavesL us
  | [], _ => by simp [leavesL]
  | t :: ts, us => by simp [leavesL, leavesL_append ts us]
theorem sizes_append : ∀ ts us : List Tm, sizes (ts ++ us) = sizes ts + sizes us
  | [], _ => by simp [sizes]
  | t :: ts, us => by
    simp only [List.cons_append, sizes, sizes_append ts us]
    omega
theorem lvs_append : ∀ ts us : List Tm, lvs (ts ++ us) = lvs ts + lvs us
  | [], _ => by simp [lvs]
  | t :: ts, us => by
    simp only [List.cons_append, lvs, lvs_append ts us]
    omega
mutual
theorem leaves_len : ∀ t : Tm, (leaves t).length = lv t
  | .var _ => by simp [leaves, lv]
  | .op _ ts => by simp [leaves, lv, leavesL_len ts]
theorem leavesL_len : ∀ ts : List Tm, (leavesL ts).length = lvs ts
  | [] => by simp [leavesL, lvs]
  | t :: ts => by simp [leavesL, lvs, leaves_len t, leavesL_len ts]
end
mutual
theorem ok_leaves {P : Int → Prop} : ∀ t : Tm, ok P t → ∀ i ∈ leaves t, P i
  | .var j, h, i, hi => by
    simp only [leaves, List.mem_singleton] at hi
    rw [hi]
    exact h
  | .op _ ts, h, i, hi => oks_leaves ts h.2.2 i (by simpa [leaves] using hi)
theorem oks_leaves {P : Int → Prop} : ∀ ts : List Tm, oks P ts → ∀ i ∈ leavesL ts, P i
  | [], _, i, hi => by simp [leavesL] at hi
  | t :: ts, h, i, hi => by
    rcases List.mem_append.mp (show i ∈ leaves t ++ leavesL ts by simpa [leavesL] using hi) with hi | hi
    · exact ok_leaves t h.1 i hi
    · exact oks_leaves ts h.2 i hi
end
mutual
theorem ok_mono {P R : Int → Prop} (h : ∀ i, P i → R i) : ∀ t : Tm, ok P t → ok R t
  | .var i, k => h i k
  | .op _ ts, k => ⟨k.1, k.2.1, oks_mono h ts k.2.2⟩
theorem oks_mono {P R : Int → Prop} (h : ∀ i, P i → R i) : ∀ ts : List Tm, oks P ts → oks R ts
  | [], _ => trivial
  | t :: ts, k => ⟨ok_mono h t k.1, oks_mono h ts k.2⟩
end
mutual
theorem ok_put {P R : Int → Prop} {f : Int → Tm} (h : ∀ i, P i → ok R (f i)) : ∀ t : Tm, ok P t → ok R (put f t)
  | .var i, k => h i k
  | .op _ ts, k => by
    refine ⟨k.1, ?_, oks_puts h ts k.2.2⟩
    rw [puts_map, List.length_map]
    exact k.2.1
theorem oks_puts {P R : Int → Prop} {f : Int → Tm} (h : ∀ i, P i → ok R (f i)) : ∀ ts : List Tm, oks P ts → oks R (puts f ts)
  | [], _ => trivial
  | t :: ts, k => ⟨ok_put h t k.1, oks_puts h ts k.2⟩
end
mutual
theorem dep_put {P : Int → Prop} {f : Int → Tm} {n : Nat} (h : ∀ i, P i → dep (f i) ≤ n) : ∀ t : Tm, ok P t → dep (put f t) ≤ dep t + n
  | .var i, k => by simpa [put, dep] using h i k
  | .op _ ts, k => by
    have := deps_puts h ts k.2.2
    simp only [put, dep]
    omega
theorem deps_puts {P : Int → Prop} {f : Int → Tm} {n : Nat} (h : ∀ i, P i → dep (f i) ≤ n) : ∀ ts : List Tm, oks P ts → deps (puts f ts) ≤ deps ts + n
  | [], _ => by simp [puts, deps]
  | t :: ts, k => by
    have h1 := dep_put h t k.1
    have h2 := deps_puts h ts k.2
    simp only [puts, deps]
    omega
end
mutual
def cst : Tm → Nat
  | .var _ => 0
  | .op _ ts => csts ts + 90
def csts : List Tm → Nat
  | [] => 0
  | t :: ts => cst t + 2 + csts ts
end
mutual
theorem cst_put {P : Int → Prop} {f : Int → Tm} {c : Nat} (h : ∀ i, P i → cst (f i) ≤ c) : ∀ t : Tm, ok P t → cst (put f t) ≤ cst t + lv t * c
  | .var i, k => by simpa [put, cst, lv] using h i k
  | .op _ ts, k => by
    have := csts_puts h ts k.2.2
    simp only [put, cst, lv]
    omega
theorem csts_puts {P : Int → Prop} {f : Int → Tm} {c : Nat} (h : ∀ i, P i → cst (f i) ≤ c) : ∀ ts : List Tm, oks P ts → csts (puts f ts) ≤ csts ts + lvs ts * c
  | [], _ => by simp [puts, csts]
  | t :: ts, k => by
    have h1 := cst_put h t k.1
    have h2 := csts_puts h ts k.2
    simp only [puts, csts, lvs, Nat.add_mul]
    omega
end
mutual
theorem lv_put {P : Int → Prop} {f : Int → Tm} {c : Nat} (h : ∀ i, P i → lv (f i) ≤ c) : ∀ t : Tm, ok P t → lv (put f t) ≤ lv t * c
  | .var i, k => by simpa [put, lv] using h i k
  | .op _ ts, k => by simpa [put, lv] using lvs_puts h ts k.2.2
theorem lvs_puts {P : Int → Prop} {f : Int → Tm} {c : Nat} (h : ∀ i, P i → lv (f i) ≤ c) : ∀ ts : List Tm, oks P ts → lvs (puts f ts) ≤ lvs ts * c
  | [], _ => by simp [puts, lvs]
  | t :: ts, k => by
    have h1 := lv_put h t k.1
    have h2 := lvs_puts h ts k.2
    simp only [puts, lvs, Nat.add_mul]
    omega
end
mutual
theorem put_congr {f g : Int → Tm} : ∀ t : Tm, (∀ i ∈ leaves t, f i = g i) → put f t = put g t
  | .var i, h => h i (by simp [leaves])
  | .op x ts, h => by
    show Tm.op x (puts f ts) = .op x (puts g ts)
    rw [puts_congr ts fun i hi => h i (by simpa [leaves] using hi)]
theorem puts_congr {f g : Int → Tm} : ∀ ts : List Tm, (∀ i ∈ leavesL ts, f i = g i) → puts f ts = puts g ts
  | [], _ => rfl
  | t :: ts, h => by
    show put f t :: puts f ts = put g t :: puts g ts
    rw [put_congr t fun i hi => h i (by simp [leavesL, hi]), puts_congr ts fun i hi => h i (by simp [leavesL, hi])]
end
theorem small {P : Int → Prop} : ∀ (n : Nat) (t : Tm), ok P t → dep t ≤ n → lv t ≤ 3 ^ n ∧ cst t + 48 ≤ 48 * 3 ^ n
  | 0, .var i, _, _ => by simp [lv, cst]
  | 0, .op x ts, _, h => by simp [dep] at h
  | n + 1, .var i, _, _ => by
    have := Nat.one_le_pow (n + 1) 3 (by decide)
    simp only [lv, cst]
    omega
  | n + 1, .op x ts, k, h => by
    have hd : ∀ t ∈ ts, dep t ≤ n := deps_le.mp (by simp only [dep] at h; omega)
    have ho := oks_iff.mp k.2.2
    have hl := k.2.1
    have ih : ∀ t ∈ ts, lv t ≤ 3 ^ n ∧ cst t + 48 ≤ 48 * 3 ^ n := fun t ht => small n t (ho t ht) (hd t ht)
    have h1 := Nat.one_le_pow n 3 (by decide)
    rw [Nat.pow_succ]
    simp only [lv, cst]
    match ts, hl, ih with
    | [], _, _ => simp only [lvs, csts]; omega
    | [a], _, ih =>
      have := ih a (by simp)
      simp only [lvs, csts]; omega
    | [a, b], _, ih =>
      have := ih a (by simp)
      have := ih b (by simp)
      simp only [lvs, csts]; omega
    | [a, b, c], _, ih =>
      have := ih a (by simp)
      have := ih b (by simp)
      have := ih c (by simp)
      simp only [lvs, csts]; omega
end Tm
mutual
theorem imm_d : ∀ t : Tm, imm t.d = true
  | .var _ => by simp [Tm.d, imm]
  | .op _ ts => by simp [Tm.d, imm, immAll, imm_ds ts]
theorem imm_ds : ∀ ts : List Tm, immAll (Tm.ds ts) = true
  | [] => by simp [Tm.ds, immAll]
  | t :: ts => by simp [Tm.ds, immAll, imm_d t, imm_ds ts]
end
end Fm
namespace Fm
open PySem PySem.Spec PyProof.Rows L2
structure TV (t : TE) (σ : L2.St) (H : Hp) (v : V) : Prop where
  go : ∀ Q : VK, Q v H → t σ H Q
structure TB (t : TT) (σ : L2.St) (H : Hp) (b : Bool) : Prop where
  go : ∀ Q : Bool → Hp → Prop, Q b H → t σ H Q
theorem vint_eq {i j : Int} : decide (V.int i = V.int j) = decide (i = j) := by
  by_cases e : i = j
  · rw [e, decide_eq_true rfl, decide_eq_true rfl]
  · rw [decide_eq_false e, decide_eq_false fun z => e (V.int.inj z)]
section
variable {K : PySem.W.Frag} {σ : L2.St} {H : Hp} {ta tb : TE} {t u : TT} {a b : Bool} {i j : Int} {x y v : V} {Q : VK}
theorem tv_var {m : Nat} (h : σ[m]? = some (some v)) : TV (tVar m) σ H v := ⟨fun Q q => ⟨v, h, q⟩⟩
theorem tv_c : TV (tC v) σ H v := ⟨fun Q q => q⟩
theorem tv_I {g : Int → Int → V} (ha : TV ta σ H (.int i)) (hb : TV tb σ H (.int j)) : TV (tOp (rI0 g) ta tb) σ H (g i j) := ⟨fun Q q => ha.go _ (hb.go _ ⟨i, j, rfl, rfl, q⟩)⟩
theorem tv_eq (ha : TV ta σ H x) (hb : TV tb σ H y) (hs : scal x y = true) : TV (tOp (rEqG K) ta tb) σ H (.bl (decide (x = y))) := ⟨fun Q q => ha.go _ (hb.go _ (Or.inl ⟨hs, q⟩))⟩
theorem tv_eqI (ha : TV ta σ H (.int i)) (hb : TV tb σ H (.int j)) : TV (tOp (rEqG K) ta tb) σ H (.bl (decide (i = j))) := by
  rw [← vint_eq]
  exact tv_eq ha hb rfl
theorem tb_test (h : TV ta σ H (.bl a)) : TB (tTest ta) σ H a := ⟨fun Q q => h.go _ ⟨a, rfl, q⟩⟩
theorem tb_and (h : TB t σ H a) (k : TB u σ H b) : TB (tAnd t u) σ H (a && b) := ⟨fun Q q => h.go _ (by
  cases a with
  | true => exact k.go _ q
  | false => exact q)⟩
theorem tb_or (h : TB t σ H a) (k : TB u σ H b) : TB (tOr t u) σ H (a || b) := ⟨fun Q q => h.go _ (by
  cases a with
  | true => exact q
  | false => exact k.go _ q)⟩
theorem st_if {c : TT} {t u : TS} {D : Ends} (h : TB c σ H b) (h1 : b = true → t D σ H) (h2 : b = false → u D σ H) : tIfS c t u D σ H := h.go _ (by
  cases b with
  | true => exact h1 rfl
  | false => exact h2 rfl)
def isInt : PyData → Bool
  | .int _ => true
  | .bool _ => true
  | _ => false
theorem tyx_dp {d : PyData} (h : Dp K H v d) (hd : imm d = true) : ∃ t : String, TyX K H v (.type t) ∧ (t = "int" ∧ (∃ i, d = .int i) ∨ t = "bool" ∧ (∃ b, d = .bool b) ∨ t = "str" ∧ (∃ x, d = .str x) ∨ t = "NoneType" ∧ d = .none ∨ t = "tuple" ∧ (∃ ds, d = .tuple ds)) := by
  cases h with
  | non => exact ⟨_, .base .non, .inr (.inr (.inr (.inl ⟨rfl, rfl⟩)))⟩
  | bl b => exact ⟨_, .base (.bl b), .inr (.inl ⟨rfl, b, rfl⟩)⟩
  | int i => exact ⟨_, .base (.int i), .inl ⟨rfl, i, rfl⟩⟩
  | str x => exact ⟨_, .base (.str x), .inr (.inr (.inl ⟨rfl, x, rfl⟩))⟩
  | lst h1 h2 => simp [imm] at hd
  | tup h1 h2 =>
    refine ⟨"tuple", ?_, .inr (.inr (.inr (.inr ⟨rfl, _, rfl⟩)))⟩
    rcases h1 with (h1 | ⟨o, h1⟩) | ⟨o, its, n, hk, hc, _⟩
    · exact .base (.tup h1)
    · exact .fTuple h1
    · exact .kTuple hk hc
theorem kit_i1 : kitB "int" "int" = some true := by decide +kernel
theorem kit_i2 : kitB "bool" "int" = some true := by decide +kernel
theorem kit_i3 : kitB "str" "int" = some false := by decide +kernel
theorem kit_i4 : kitB "NoneType" "int" = some false := by decide +kernel
theorem kit_i5 : kitB "tuple" "int" = some false := by decide +kernel
theorem rd_isInt {d : PyData} (h : Im K H v d) (q : Q (.bl (isInt d)) H) : rIsi K [v, .ty "int"] H Q := by
  obtain ⟨t, ht, k⟩ := tyx_dp h.dp h.im
  refine ⟨v, .ty "int", _, _, isInt d, rfl, .ty "int", ht, ?_, q⟩
  rcases k with ⟨rfl, i, rfl⟩ | ⟨rfl, i, rfl⟩ | ⟨rfl, i, rfl⟩ | ⟨rfl, rfl⟩ | ⟨rfl, i, rfl⟩
  · exact kit_ty kit_i1
  · exact kit_ty kit_i2
  · exact kit_ty kit_i3
  · exact kit_ty kit_i4
  · exact kit_ty kit_i5
theorem rd_cat {a b : Addr} {xs ys : List V} (ha : SqT K H a xs) (hb : SqT K H b ys) (hs : xs.length + ys.length ≤ sizeLine)
    (h : ∀ p H', Mv [] H H' → SqT K H' p (xs ++ ys) → Q (.ref p) H') : rAddG K (.ref a) (.ref b) H Q := by
  refine Or.inr (Or.inr (Or.inl ⟨a, b, xs, ys, rfl, rfl, ha, hb, hs, fun e => ?_, fun _ e => ?_, fun _ _ p np => ?_⟩))
  · subst e
    exact h b H .refl hb
  · subst e
    exact h a H .refl (by rw [List.append_nil]; exact ha)
  · exact h p _ (.new np) (.inl (.inl upd_same))
theorem rd_catL {a b : Addr} {xs ys : List V} (ha : H a = some (.lst xs)) (hb : H b = some (.lst ys)) (hs : xs.length + ys.length ≤ sizeLine)
    (h : ∀ p H', H p = none → Mv [] H H' → H' p = some (.lst (xs ++ ys)) → Q (.ref p) H') : rAddG K (.ref a) (.ref b) H Q :=
  Or.inr (Or.inr (Or.inr ⟨a, b, xs, ys, rfl, rfl, ha, hb, hs, fun p np => h p _ np (.new np) upd_same⟩))
theorem rd_ixL {a : Addr} {xs : List V} {i : Int} {v : V} (ha : SqL K H a xs) (h0 : 0 ≤ i) (hv : xs[i.toNat]? = some v) (h : Q v H) : rIx K (.ref a) (.int i) H Q := by
  obtain ⟨j, rfl⟩ := Int.eq_ofNat_of_zero_le h0
  exact Or.inl ⟨a, xs, j, v, rfl, rfl, ha, atI_nat hv, h⟩
theorem rd_ixT {a : Addr} {xs : List V} {i : Int} {v : V} (ha : SqT K H a xs) (h0 : 0 ≤ i) (hv : xs[i.toNat]? = some v) (h : Q v H) : rIx K (.ref a) (.int i) H Q := by
  obtain ⟨j, rfl⟩ := Int.eq_ofNat_of_zero_le h0
  exact Or.inr (Or.inl ⟨a, xs, j, v, rfl, rfl, ha, atI_nat hv, h⟩)
theorem rd_len {a : Addr} {xs : List V} (ha : SqL K H a xs ∨ SqT K H a xs) (h : Q (.int xs.length) H) : rLenG K [.ref a] H Q := Or.inl ⟨a, xs, rfl, ha, h⟩
theorem rd_tupOf {a : Addr} {xs : List V} (ha : SqL K H a xs) (h : ∀ p H', Mv [] H H' → SqT K H' p xs → Q (.ref p) H') : rTupOf K [.ref a] H Q :=
  ⟨a, xs, rfl, .inl ⟨ha, fun p np => h p _ (.new np) (.inl (.inl upd_same))⟩⟩
theorem rd_listOf {a : Addr} {xs : List V} (ha : SqL K H a xs ∨ SqT K H a xs) (h : ∀ p H', H p = none → Mv [] H H' → H' p = some (.lst xs) → Q (.ref p) H') : rListOf K [.ref a] H Q :=
  ⟨a, xs, rfl, ha, fun p np => h p _ np (.new np) upd_same⟩
theorem rd_sl1 {a : Addr} {x : V} {xs : List V} (ha : SqT K H a (x :: xs)) (h : ∀ p H', Mv [] H H' → SqT K H' p xs → Q (.ref p) H') : rSlG K (.ref a) (some 1) none H Q := by
  have e : HT.sIx (x :: xs).length 0 (some 1) = 1 := by
    rw [show HT.sIx (x :: xs).length 0 (some 1) = min 1 (x :: xs).length from HT.sIx_nat _ 0 1, List.length_cons]
    omega
  refine Or.inr (Or.inl ⟨a, x :: xs, rfl, ha, fun z => ?_, fun _ p np => h p _ (.new np) (.inl (.inl ?_))⟩)
  · rw [e] at z
    omega
  · rw [upd_same]
    unfold cutV
    rw [e, HT.sIx_none, List.length_cons, Nat.add_sub_cancel]
    show some (HO.tup (xs.take xs.length)) = _
    rw [List.take_length]
theorem rd_slA {a : Addr} {x : V} {xs : List V} (ha : SqT K H a (x :: xs)) (h : ∀ p H', Mv [] H H' → SqT K H' p [x] → Q (.ref p) H') : rSlG K (.ref a) none (some 1) H Q := by
  have e : HT.sIx (x :: xs).length (x :: xs).length (some 1) = 1 := by
    rw [show HT.sIx (x :: xs).length (x :: xs).length (some 1) = min 1 (x :: xs).length from HT.sIx_nat _ _ 1, List.length_cons]
    omega
  refine Or.inr (Or.inl ⟨a, x :: xs, rfl, ha, fun z => ?_, fun _ p np => h p _ (.new np) (.inl (.inl ?_))⟩)
  · rw [e] at z
    have e0 : xs = [] := by
      cases xs with
      | nil => rfl
      | cons y ys =>
        have := z.2
        simp at this
    subst e0
    exact h a H .refl ha
  · rw [upd_same]
    unfold cutV
    rw [e, HT.sIx_none]
    rfl
end
section
variable {K : PySem.W.Frag} {a : Addr} {xs : List V}
theorem lc_seq {g : TG} {tt : TT} {te : TE} {vs : List Nat} {σ : L2.St} {H : Hp} {Qd : Addr → Hp → Prop} (hS : SqL K H a xs ∨ SqT K H a xs) (Pv : Nat → Addr → Hp → Prop) (h0 : ∀ D, H D = none → Pv 0 D (upd H D (.lst [])))
    (hk : ∀ i D H', H D = none → Pv i D H' → Mv [] H H')
    (hs : ∀ D, H D = none → ∀ i x H', xs[i]? = some x → Pv i D H' → g x (wipe σ vs) H' fun σ2 H2 => wipe σ2 vs = wipe σ vs ∧ tt σ2 H2 fun b H3 =>
      if b = true then te σ2 H3 fun y H4 => ∃ acc, H4 D = some (.lst acc) ∧ acc.length < sizeLine ∧ Pv (i + 1) D (upd H4 D (.lst (acc ++ [y]))) else Pv (i + 1) D H3) (hd : ∀ D H', H D = none → Pv xs.length D H' → Qd D H') :
    ((∃ xs, SqL K H a xs) ∧ ∀ D, H D = none → ∃ W : Nat → Nat → Hp → Prop, (∃ m, W 0 m (upd H D (.lst []))) ∧ ∀ i m H, W i m H →
      ((Itl K a).stop i H ∧ Qd D H) ∨ ((Itl K a).go i H ∧ ∃ Nx : Hp → Prop, (∀ H', Nx H' → ∃ m', m' < m ∧ W (i + 1) m' H') ∧ ∀ x H', (Itl K a).yld i H x H' → g x (wipe σ vs) H' fun σ2 H2 => wipe σ2 vs = wipe σ vs ∧ tt σ2 H2 fun b H3 =>
        if b = true then te σ2 H3 fun y H4 => ∃ acc, H4 D = some (.lst acc) ∧ acc.length < sizeLine ∧ Nx (upd H4 D (.lst (acc ++ [y]))) else Nx H3)) ∨
    ((∃ xs, SqT K H a xs) ∧ ∀ D, H D = none → ∃ W : Nat → Nat → Hp → Prop, (∃ m, W 0 m (upd H D (.lst []))) ∧ ∀ i m H, W i m H →
      ((Itt K a).stop i H ∧ Qd D H) ∨ ((Itt K a).go i H ∧ ∃ Nx : Hp → Prop, (∀ H', Nx H' → ∃ m', m' < m ∧ W (i + 1) m' H') ∧ ∀ x H', (Itt K a).yld i H x H' → g x (wipe σ vs) H' fun σ2 H2 => wipe σ2 vs = wipe σ vs ∧ tt σ2 H2 fun b H3 =>
        if b = true then te σ2 H3 fun y H4 => ∃ acc, H4 D = some (.lst acc) ∧ acc.length < sizeLine ∧ Nx (upd H4 D (.lst (acc ++ [y]))) else Nx H3)) := by
  rcases hS with hS | hS
  · exact .inl ⟨⟨xs, hS⟩, fun D nD => lc_list (Pv · D) (h0 D nD) (fun i H' _ p => (hk i D H' nD p).same.seq hS) (hs D nD) (fun H' p => hd D H' nD p)⟩
  · exact .inr ⟨⟨xs, hS⟩, fun D nD => lc_tup (Pv · D) (h0 D nD) (fun i H' _ p => (hk i D H' nD p).sqT hS) (hs D nD) (fun H' p => hd D H' nD p)⟩
end
section
variable {K : PySem.W.Frag} {H : Hp} {Q : VK}
theorem rd_slT {a : Addr} {xs : List V} {lo hi : Option Int} (ha : SqT K H a xs) (h : ∀ p H', Mv [] H H' → SqT K H' p (cutV xs lo hi) → Q (.ref p) H') : rSlG K (.ref a) lo hi H Q := by
  refine Or.inr (Or.inl ⟨a, xs, rfl, ha, fun z => h a H .refl ?_, fun _ p np => h p _ (.new np) (.inl (.inl upd_same))⟩)
  have e : cutV xs lo hi = xs := by
    unfold cutV
    rw [z.1, z.2, List.drop_zero, Nat.sub_zero, List.take_length]
  rw [e]
  exact ha
theorem cut_hi (xs : List V) (k : Nat) : cutV xs none (some (k : Int)) = xs.take k := by
  unfold cutV
  rw [HT.sIx_none, HT.sIx_nat, List.drop_zero, Nat.sub_zero, List.take_eq_take_iff]
  omega
end
end Fm
namespace Fm
open PySem PySem.Spec PyProof.Rows L2 HT
section
variable {prog : Program} {w : World} {A : Around} {E : Value → Shared → Prop} {s : Shared}
end
section
variable {X : Cx}
def tBack (K : PySem.W.Frag) (te : TE) : TE := fun σ H Q => te σ H fun x H1 => ∃ a y ys, x = .ref a ∧ SqT K H1 a (y :: ys) ∧ ∀ p, H1 p = none → Q (.ref p) (upd H1 p (.tup ys.reverse))
end
end Fm
namespace Fm
open PySem PySem.Spec PyProof.Rows L2
section
variable {P : Program} {w : World} {A : Around} {E : Value → Shared → Prop} {s : Shared}
abbrev eset (w : World) : Obj := { cls := .type "set", dict := none, data := .set #[] 0 (.fresh 0 0 (!w.params.followText "set-order")) }
abbrev hset (w : World) (h : Heap) : Heap := h.push (eset w)
set_option maxHeartbeats 8000000 in
theorem set_of_list {l : Addr} {its : Array Value} (ns : List Int) {Q : Value → Shared → Prop} (hh : A.handled = none) (hl : s.heap.IsList l its) (hi : IntsAre its.toList ns) (hb : ns.length + 1 < scanBound)
    (h : ∀ (g : Heap) (tk c : Nat), SetR w g s.heap.objs.size (fun j => decide (j ∈ ns)) c → (∀ b o, s.heap.get? b = some o → g.get? b = some o) → Q (.ref s.heap.objs.size) { s with heap := g, toks := tk }) :
    wpAny (model P w) A (call (.type "set") [.ref l]) Q E s := by
  have hn : its.size = ns.length := by rw [← Array.length_toList]; exact IntsAre.length hi
  obtain ⟨mc, mt, mro⟩ := F.called_set.mro
  have mk1 := F.called_set.made
  have mk2 := F.called_set.sub
  refine wpAny_call (codeAny_of_tree (show wpAny _ _ (callAny (.type "set") _) _ _ _ from wpAny_pure ⟨Code.quiet_builtin _ (by decide +kernel), codeAny_builtin F.entry_type_call ?_⟩))
  rw [Around.under_plain (weight_type_call_type "set" [.ref l] []) rfl]
  have mk3 := F.called_set.notType
  have mk4 := F.called_set.canCreate
  have mk5 := F.typeCall_set_1 (.ref l)
  repeat (any_goals (first | assumption | wp_step))
  refine codeAny_mono (code_set_led1 (w := w) (s := s) (.ref l) (E := E)
    (Q₁ := fun obj s₁ => obj = .ref s.heap.objs.size ∧ s₁ = { s with heap := hset w s.heap }) ⟨rfl, rfl⟩) fun r s₁ hr => ?_
  match r, hr with
  | .error e, hr => exact hr
  | .ok (.ret obj), hr =>
    obtain ⟨rfl, rfl⟩ := hr
    have here : (hset w s.heap).get? s.heap.objs.size = some (eset w) := Heap.get?_push_size _ rfl
    have isS : Shared.TypeIs { s with heap := hset w s.heap } (.ref s.heap.objs.size) "set" := ⟨_, here, rfl⟩
    have in1 := F.called_set.init.lookup
    have in2 := F.called_set.init.bind (.ref s.heap.objs.size)
    repeat (any_goals (first | assumption | wp_step))
    have goes : codeAny (model P w) A.in1 (.call (.builtin "set.__init__") ⟨[.ref s.heap.objs.size, .ref l], []⟩) (wants (fun r s₂ => r = .none ∧ ∃ g tk c,
        s₂ = { s with heap := g, toks := tk } ∧ SetR w g s.heap.objs.size (fun j => decide (j ∈ ns)) c ∧ ∀ b o, s.heap.get? b = some o → g.get? b = some o) E) { s with heap := hset w s.heap } := by
      refine codeAny_call_builtin F.called_set.init.plain F.entry_set_init (check_set_init_1 isS ?_)
      obtain ⟨⟨oc, od, dt, sl⟩, hol, hcl, nl, hdl⟩ := id hl
      simp only at hcl hdl
      subst hcl hdl
      have lt := Heap.lt_size hol
      have hol2 : (hset w s.heap).get? l = some _ := Heap.get?_push_of_some _ hol
      have hl2 : (hset w s.heap).IsList l its := ⟨_, hol2, rfl, nl, rfl⟩
      have no1 := F.sub_list_set
      have no2 := F.sub_list_frozenset
      have no3 : (Value.type "list" == Value.type "dict") = false := by decide
      unfold Builtin.«set.__init__» noKeywords Builtin.Frozenset.updateFrom
      generalize hPI : pyIter = PI
      wp_walk
      subst hPI
      refine wpAny_pyIter_list hl2 (wpAny_bind (wpAny_runValue ?_))
      have sz2 : (hset w s.heap).objs.size = s.heap.objs.size + 1 := Heap.size_push ..
      have neI : l ≠ (hset w s.heap).objs.size := by
        rw [sz2]
        exact Nat.ne_of_lt (Nat.lt_succ_of_lt lt)
      have notIn : s.heap.objs.size ∉ [(hset w s.heap).objs.size, l] := by
        rw [sz2]
        intro z
        rcases List.mem_cons.mp z with z | z
        · exact Nat.ne_of_lt (Nat.lt_succ_self _) z
        · exact Nat.ne_of_gt lt (List.mem_singleton.mp z)
      have val : ∀ (i : Nat) (v : Value), its[i]? = some v → ∃ k t, ns[i]? = some k ∧ v = .int k t := fun i v hv => by
        have hi' : i < ns.length := by
          rw [← hn]
          exact (Array.getElem?_eq_some_iff.mp hv).1
        obtain ⟨t, e⟩ := PyProof.Rows.IntsAre.int_at hi i v (by rw [Array.getElem?_toList]; exact hv)
        have e2 : ns.getD i 0 = ns[i] := by rw [List.getD_eq_getElem?_getD, List.getElem?_eq_getElem hi']; rfl
        exact ⟨ns[i], t, List.getElem?_eq_getElem hi', by rw [e, e2]⟩
      have hh3 : A.in1.in1.in1.handled = none := by simp [hh]
      refine set_update_ints ((Walks.list hh3 _ l neI its).toS) s.heap.objs.size notIn ns hn hb val (its.size - 0) 0 _ (by omega) (Nat.zero_le _) ?st ?s0 ?fin
      case st => exact ⟨⟨_, Heap.get?_push_size _ rfl, rfl, rfl⟩, hl2.push _⟩
      case s0 => exact ⟨0, Nat.le_refl 0, setR_new_at (Heap.get?_push_of_some _ here)⟩
      case fin =>
        rintro ⟨g, gg, dd, tk, oo⟩ c' mv hc' hS'
        have e1 : gg = s.gens := mv.gens
        have e2 : dd = s.drawn := mv.drawn
        have e3 : oo = s.os := mv.os
        subst e1 e2 e3
        refine wpAny_pure (show wpAny _ _ (ret Value.none) _ _ _ from wpAny_pure ⟨rfl, g, tk, c', rfl, hS', fun b o e => ?_⟩)
        have b0 := Heap.lt_size e
        refine mv.heap b o (fun z => ?_) (Heap.get?_push_of_some _ (Heap.get?_push_of_some _ e))
        rcases List.mem_cons.mp z with z | z
        · exact Nat.ne_of_lt b0 z
        · have z2 := List.mem_singleton.mp z
          rw [sz2] at z2
          exact Nat.ne_of_lt (Nat.lt_succ_of_lt b0) z2
    refine codeAny_mono goes fun r₂ s₂ hr₂ => ?_
    match r₂, hr₂ with
    | .error e, hr₂ => exact hr₂
    | .ok (.ret r), hr₂ =>
      obtain ⟨rfl, g, tk, c', rfl, hS', hk'⟩ := hr₂
      repeat (any_goals (first | assumption | wp_step))
      exact h _ _ _ hS' hk'
end
section
variable {X : Cx}
def rSetOfL (K : PySem.W.Frag) (w : World) : List V → Hp → VK → Prop := fun xs H Q => ∃ (l : Addr) (ns : List Int), xs = [V.ref l] ∧ SqL K H l (ns.map V.int) ∧ ns.length ≤ 4000 ∧
  ∀ p (n : Nat) (ks : List Int), H p = none → ks.Nodup → ks.length = n → (∀ k, k ∈ ks ↔ k ∈ ns) → Q (.ref p) (upd H p (SetO w p (fun j => decide (j ∈ ns)) n))
end
end Fm
namespace Fm
open PySem PySem.Spec PyProof.Rows L2
mutual
def fine : PyData → Prop
  | .none => True
  | .bool _ => True
  | .int i => i.natAbs < 10 ^ 40
  | .str x => PyData.strOk x = true
  | .list xs => fineAll xs
  | .tuple xs => fineAll xs
  | .dict _ => False
def fineAll : List PyData → Prop
  | [] => True
  | x :: xs => fine x ∧ fineAll xs
end
mutual
def wl : PyData → Nat
  | .none => 4
  | .bool _ => 5
  | .int _ => 41
  | .str x => 10 * x.length + 2
  | .list xs => wls xs + 2
  | .tuple xs => wls xs + 2
  | .dict _ => 0
def wls : List PyData → Nat
  | [] => 0
  | x :: xs => wl x + 2 + wls xs
end
theorem listText_le : ∀ ts : List Str, (listText ts).length ≤ piled ts + 2
  | [] => by rw [listText_nil]; decide
  | t :: r => by
    have h := textFrom_length_pos r 1 (("[" : Str) ++ ("" : String) ++ t) (Nat.succ_pos 0)
    have e : ((("[" : Str) ++ ("" : String) ++ t)).length = 1 + t.length := by
      rw [strLen_append, strLen_append]
      rfl
    have x1 : (listText (t :: r)).length = (textFrom 1 (("[" : Str) ++ ("" : String) ++ t) r).length + 1 := by
      show (textFrom 1 (("[" : Str) ++ ("" : String) ++ t) r ++ "]").length = _
      rw [strLen_append]
      rfl
    rw [x1, h, e, piled_cons]
    omega
theorem tupleText_le (ts : List Str) : (tupleText ts).length ≤ piled ts + 2 := by
  have e3 : (((if ts.length == 1 then ",)" else ")" : String) : Str)).length ≤ 2 := by split <;> decide +kernel
  have e1 : ((("(" : String) : Str)).length = 1 := rfl
  unfold tupleText
  rw [strLen_append, strLen_append, e1]
  cases ts with
  | nil => decide +kernel
  | cons t r =>
    have := join_length_add (t :: r) (by simp)
    omega
mutual
theorem shown_le : ∀ d : PyData, fine d → d.shown.length ≤ wl d
  | .none, _ => by simp only [PyData.shown]; decide
  | .bool b, _ => by cases b <;> (simp only [PyData.shown]; decide)
  | .int i, h => by
    simp only [PyData.shown, wl]
    rw [PySem.ofString_length]
    exact int_text_length_le10 (k := 40) (by decide) h
  | .str x, h => by
    simp only [PyData.shown, wl]
    refine StrLaws.reprText_len x fun c hc => ?_
    have h' : x.cps.all (· < 0x110000) = true := h
    rw [Array.all_eq_true_iff_forall_mem] at h'
    have := h' c (by simpa using hc)
    simp at this
    omega
  | .list xs, h => by
    have := shown_les xs h
    have := listText_le (PyData.shownAll xs)
    simp only [PyData.shown, wl]
    omega
  | .tuple xs, h => by
    have := shown_les xs h
    have := tupleText_le (PyData.shownAll xs)
    simp only [PyData.shown, wl]
    omega
  | .dict _, h => h.elim
theorem shown_les : ∀ xs : List PyData, fineAll xs → piled (PyData.shownAll xs) ≤ wls xs
  | [], _ => by simp [PyData.shownAll, piled, wls]
  | x :: xs, h => by
    have h1 := shown_le x h.1
    have h2 := shown_les xs h.2
    simp only [PyData.shownAll, wls]
    rw [piled_cons]
    omega
end
mutual
theorem fine_lay : ∀ d : PyData, fine d → d.canLay0 = true ∧ d.showable = true ∧ d.hasDict = false
  | .none, _ => by simp [PyData.canLay0, PyData.showable, PyData.hasDict]
  | .bool b, _ => by simp [PyData.canLay0, PyData.showable, PyData.hasDict]
  | .int i, h => by
    refine ⟨by simp [PyData.canLay0], ?_, by simp [PyData.hasDict]⟩
    have h' : i.natAbs < 10 ^ 40 := h
    have h2 : i.natAbs < 2 ^ 200 := Nat.lt_trans h' (by decide)
    simp only [PyData.showable, decide_eq_true_eq]
    exact Nat.lt_trans (PySem.Flt.log2_lt_of (by decide) h2) (by decide)
  | .str x, h => ⟨by simp only [PyData.canLay0]; exact h, by simp [PyData.showable], by simp [PyData.hasDict]⟩
  | .list xs, h => by simpa [PyData.canLay0, PyData.showable, PyData.hasDict] using fine_lays xs h
  | .tuple xs, h => by simpa [PyData.canLay0, PyData.showable, PyData.hasDict] using fine_lays xs h
  | .dict _, h => h.elim
theorem fine_lays : ∀ xs : List PyData, fineAll xs → PyData.canLayAll0 xs = true ∧ PyData.showableAll xs = true ∧ PyData.hasDictAll xs = false
  | [], _ => by simp [PyData.canLayAll0, PyData.showableAll, PyData.hasDictAll]
  | x :: xs, h => by
    obtain ⟨a, b, c⟩ := fine_lay x h.1
    obtain ⟨a', b', c'⟩ := fine_lays xs h.2
    simp [PyData.canLayAll0, PyData.showableAll, PyData.hasDictAll, a, b, c, a', b', c']
end
structure Shw (d : PyData) : Prop where
  fi : fine d
  dp : d.depth ≤ 60
  wl : wl d ≤ 16000000
theorem Shw.shaped {d : PyData} (h : Shw d) : SeqAt.shaped d = true := by
  show (d.canLay0 && decide (d.depth ≤ 64)) = true
  have := h.dp
  rw [(fine_lay d h.fi).1, decide_eq_true (by omega)]
  rfl
theorem Shw.len {d : PyData} (h : Shw d) : d.shown.length ≤ sizeLine := by
  have := shown_le d h.fi
  have := h.wl
  have e : sizeLine = 16777216 := rfl
  omega
theorem Shw.eqv {d : PyData} (h : Shw d) : PyData.eqv d d = true := SeqAt.eqv_refl d (fine_lay d h.fi).1
theorem eqv_nil (xs : List PyData) : PyData.eqv (.list xs) (.list []) = xs.isEmpty := by
  cases xs <;> simp [PyData.eqv, PyData.eqvAll]
theorem nm_ok {x : Str} (h : Nm x) : PyData.strOk x = true := by
  show x.cps.all (· < 0x110000) = true
  rw [Array.all_eq_true_iff_forall_mem]
  intro c hc
  have := h.2.2 c (by simpa using hc)
  simp
  omega
mutual
theorem fine_d {P : Int → Prop} (h : ∀ i, P i → i.natAbs < 10 ^ 40) : ∀ t : Tm, t.ok P → fine t.d
  | .var i, k => h i k
  | .op x ts, k => by
    simp only [Tm.d, fine, fineAll]
    exact ⟨nm_ok k.1, fine_ds h ts k.2.2⟩
theorem fine_ds {P : Int → Prop} (h : ∀ i, P i → i.natAbs < 10 ^ 40) : ∀ ts : List Tm, Tm.oks P ts → fineAll (Tm.ds ts)
  | [], _ => trivial
  | t :: ts, k => ⟨fine_d h t k.1, fine_ds h ts k.2⟩
end
mutual
theorem depth_d : ∀ t : Tm, t.d.depth = t.dep
  | .var _ => by simp [Tm.d, PyData.depth, Tm.dep]
  | .op _ ts => by simp [Tm.d, PyData.depth, PyData.depthAll, Tm.dep, depth_ds ts]
theorem depth_ds : ∀ ts : List Tm, PyData.depthAll (Tm.ds ts) = Tm.deps ts
  | [] => by simp [Tm.ds, PyData.depthAll, Tm.deps]
  | t :: ts => by simp [Tm.ds, PyData.depthAll, Tm.deps, depth_d t, depth_ds ts]
end
mutual
theorem wl_d {P : Int → Prop} : ∀ t : Tm, t.ok P → wl t.d ≤ t.cst + 41 * t.lv
  | .var _, _ => by simp [Tm.d, wl, Tm.cst, Tm.lv]
  | .op x ts, k => by
    have h1 := wl_ds ts k.2.2
    have h2 := k.1.2.1
    simp only [Tm.d, wl, wls, Tm.cst, Tm.lv]
    omega
theorem wl_ds {P : Int → Prop} : ∀ ts : List Tm, Tm.oks P ts → wls (Tm.ds ts) ≤ Tm.csts ts + 41 * Tm.lvs ts
  | [], _ => by simp [Tm.ds, wls]
  | t :: ts, k => by
    have h1 := wl_d t k.1
    have h2 := wl_ds ts k.2
    simp only [Tm.ds, wls, Tm.csts, Tm.lvs]
    omega
end
end Fm
namespace Fm
open PySem PySem.Spec PyProof.Rows L2
section
variable {P : Program} {w : World} {K : PySem.W.Frag} {mg mb : Str → Option Value} {k : Nat} {fa a : Addr} {fd : FuncData} {x : Str} {sp : Sp} {s : Shared} {vs : List Value} {ns : List Int}
theorem from_heap (KX : K.In s.heap) (hg0 : s.heap.Ns mainGlobals mg) (hb : s.heap.Ns builtinsNs mb) (hbb : ∀ y : Str, y ≠ "__name__" → mb y = bootBuiltins y) (hlim : s.heap.NoLimit) (hg : s.gens = #[])
    (ha : s.heap.get? a = some { cls := .type "list", data := .seq vs.toArray }) (hr : Room k callerA) (F : ∀ base : Heap, K.In base → base.Ns mainGlobals mg → FnOkG P w K mg base CX0 k fa fd [x] sp)
    (hbind : ∀ (t : Shared) (u : Value), BindsTo t fd ⟨[u], []⟩ [(x, u)]) (H : Hp) (hO : Only H) (hok : HOk P w H s.heap) (hA : ∀ b, H b ≠ none → b = a) (hK : H a ≠ none → K.lookup a = none)
    (hsp : sp [.ref a] H (fun v _ => v = .bl true) fun _ _ _ => False) :
    codeAny (model P w) callerA (.call (.ref fa) ⟨[.ref a], []⟩) (fun r t => r = .ok (.ret (.bool true)) ∧ OldK s.heap t.heap ∧ t.os = s.os ∧ AllBare t.gens) s := by
  have free : ∀ {b : Addr} {o : Obj} {es : Array DictEntry} {ep : Nat}, s.heap.get? b = some o → o.data = .dict es ep → H b = none := by
    intro b o es ep e d
    cases q : H b with
    | none => rfl
    | some u =>
      have z := hA b (by rw [q]; exact Option.some_ne_none u)
      rw [z, ha] at e
      cases e
      exact nomatch d
  have ns : ∀ {b : Addr} {m : Str → Option Value}, s.heap.Ns b m → (hidT s.heap H).Ns b m := by
    rintro b m ⟨o, es, ep, e, d, r⟩
    exact ⟨o, es, ep, hidT_get e (free e d), d, r⟩
  have kin : K.In (hidT s.heap H) := by
    intro b o e
    refine hidT_get (KX b o e) ?_
    cases q : H b with
    | none => rfl
    | some u =>
      have z := hA b (by rw [q]; exact Option.some_ne_none u)
      rw [z] at q e
      rw [hK (by rw [q]; exact Option.some_ne_none u)] at e
      cases e
  have lim : (hidT s.heap H).NoLimit := by
    obtain ⟨mc, l1, l2⟩ := hlim
    exact ⟨mc, ns l1, l2⟩
  have env : Env0 P w K mg (hidT s.heap H) callerA [] s H :=
    ⟨rfl, ⟨kin, ns hg0, ⟨mb, ns hb, hbb⟩, lim⟩, fun b o e => of_hidT e, Nat.le_of_eq (hidT_size _ _), trivial, (fun b z => absurd (show b ∈ ([] : List Addr) from z) List.not_mem_nil), hok, .of_eq hg⟩
  have run := (F _ kin (ns hg0)).run callerA [] s H ⟨[.ref a], []⟩ [.ref a] [.ref a] _ _ rfl hr env (hbind s (.ref a)) (.cons rfl .nil) hsp
  refine codeAny_mono run fun r t h => ?_
  match r, h with
  | .error e, h => exact False.elim h
  | .ok (.ret u), h =>
    obtain ⟨v, H', os, bare, un, hok', r', q⟩ := h
    have q' : v = .bl true := q
    rw [q'] at r'
    obtain rfl : u = Value.bool true := r'
    refine ⟨rfl, OldK.of_keep fun b o e => ?_, os, bare⟩
    rcases hO b with z | ⟨ob, xs, z⟩
    · exact un.keep b o e z (fun y => absurd (show b ∈ ([] : List Addr) from y) List.not_mem_nil) (fun y => nomatch y)
    · obtain ⟨e1, _⟩ := hok b _ z
      obtain ⟨e2, _⟩ := hok' b _ (un.frzs b ob _ z)
      rw [e1] at e
      cases e
      exact e2
theorem law_callG (KX : K.In s.heap) (hg0 : s.heap.Ns mainGlobals mg) (hb : s.heap.Ns builtinsNs mb) (hbb : ∀ y : Str, y ≠ "__name__" → mb y = bootBuiltins y) (hlim : s.heap.NoLimit) (hg : s.gens = #[])
    (ha : s.heap.get? a = some { cls := .type "list", data := .seq vs.toArray }) (hi : IntsAre vs ns) (hl : ns.length ≤ sizeLine) (hr : Room k callerA)
    (F : ∀ base : Heap, K.In base → base.Ns mainGlobals mg → FnOkG P w K mg base CX0 k fa fd [x] sp) (hbind : ∀ (t : Shared) (u : Value), BindsTo t fd ⟨[u], []⟩ [(x, u)])
    (hsp : ∀ H : Hp, SqL K H a (ns.map V.int) → sp [.ref a] H (fun v _ => v = .bl true) fun _ _ _ => False) :
    codeAny (model P w) callerA (.call (.ref fa) ⟨[.ref a], []⟩) (fun r t => r = .ok (.ret (.bool true)) ∧ OldK s.heap t.heap ∧ t.os = s.os ∧ AllBare t.gens) s := by
  have rv := vals_ints hi
  have hlen : (ns.map V.int).length ≤ sizeLine := by
    rw [List.length_map]
    exact hl
  cases hk : K.lookup a with
  | some o =>
    have e := KX a o hk
    rw [ha] at e
    cases e
    refine from_heap KX hg0 hb hbb hlim hg ha hr F hbind (fun _ => none) (fun _ => .inl rfl) (fun b u z => nomatch z) (fun b z => absurd rfl z) (fun z => absurd rfl z) (hsp _ ?_)
    exact .inr ⟨_, vs.toArray, _, hk, rfl, rfl, rfl, by rw [List.size_toArray, hi.length]; exact hl, by simpa using rv⟩
  | none =>
    have at_ : ∀ b, (if b = a then some (HO.frz { cls := .type "list", data := .seq vs.toArray } (.lst (ns.map V.int))) else none) ≠ none → b = a := by
      intro b z
      by_cases e : b = a
      · exact e
      · rw [if_neg e] at z
        exact absurd rfl z
    refine from_heap KX hg0 hb hbb hlim hg ha hr F hbind (fun b => if b = a then some (.frz { cls := .type "list", data := .seq vs.toArray } (.lst (ns.map V.int))) else none) (fun b => ?_) (fun b u z => ?_) at_ (fun _ => hk)
      (hsp _ (.inl (.inr ⟨_, if_pos rfl⟩)))
    · by_cases e : b = a
      · exact .inr ⟨_, _, if_pos e⟩
      · exact .inl (if_neg e)
    · have e : b = a := at_ b (by
        have z' : (if b = a then some (HO.frz { cls := .type "list", data := .seq vs.toArray } (.lst (ns.map V.int))) else none) = some u := z
        rw [z']
        exact Option.some_ne_none u)
      subst e
      have z' := (if_pos rfl).symm.trans z
      cases z'
      exact ⟨ha, hlen, vs, _, rv, ha⟩
end
theorem walk_G {l : PySem.W.OpenLaw} {n k : Nat} {q : Program} {loose : List Str} {XP : (Str → Option Value) → Heap → Prop} {YP : World → Heap → Prop} {d : DefRec} {K : Params → PySem.W.Frag} {sp : PySem.W.Frag → Sp} {x : Str}
    (hn : l.most = some n) (hn2 : n ≤ sizeLine) (hdf : d.params.defaults = []) (hr : Room k callerA) (hY : ∀ (w : World) (h : Heap), YP w h → (K w.params).In h)
    (F : ∀ (w : World) (mg : Str → Option Value) (fa : Addr) (h : Heap), (K w.params).In h → h.Ns mainGlobals mg → mg d.name = some (.ref fa) →
      ∃ fd : FuncData, (∀ (t : Shared) (u : Value), BindsTo t fd ⟨[u], []⟩ [(x, u)]) ∧ ∀ base : Heap, (K w.params).In base → base.Ns mainGlobals mg → FnOkG l.prog w (K w.params) mg base CX0 k fa fd [x] (sp (K w.params)))
    (hsp : ∀ (K : PySem.W.Frag) (H : Hp) (a : Addr) (ns : List Int), ns.length ≤ n → SqL K H a (ns.map V.int) → sp K [.ref a] H (fun v _ => v = .bl true) fun _ _ _ => False) :
    PySem.W.WalkO q loose XP YP l.row.toRowW d [] (fun f vs => PySem.call f vs) := by
  refine Att.attach_call hn hdf fun w s₀ s₁ mg mb fa o pm cd doc a vs ns G Y ho hd hcd hmg hobj hints hlen hgens => ?_
  obtain ⟨fd, hb, hF⟩ := F w mg fa _ (hY w _ Y) G.T.g hmg
  exact law_callG (hY w _ Y) G.T.g G.T.b G.T.builtins G.T.nolimit hgens hobj hints (Nat.le_trans hlen hn2) hr hF hb fun H hS => hsp _ H a ns hlen hS
end Fm
namespace Fm
open PySem PySem.Spec PyProof.Rows L2
section
variable {X : Cx}
def rNeNil (K : PySem.W.Frag) : R2 := fun x y H Q => ∃ (a b : Addr) (xs : List V), x = .ref a ∧ y = .ref b ∧ SqL K H a xs ∧ SqL K H b [] ∧ Q (.bl (!xs.isEmpty)) H
def rEqNil (K : PySem.W.Frag) : R2 := fun x y H Q => ∃ (a b : Addr) (xs : List V), x = .ref a ∧ y = .ref b ∧ SqL K H a xs ∧ SqL K H b [] ∧ Q (.bl xs.isEmpty) H
theorem op_neNil (hu : X.A.units < cLine) : OpR X (compareOp .NotEq) (rNeNil X.K) := by
  intro pins s σ H x y v u Q I rx ry h
  obtain ⟨a, b, xs, rfl, rfl, ha, hb, q⟩ := h
  obtain rfl : v = Value.ref a := rx
  obtain rfl : u = Value.ref b := ry
  obtain ⟨i1, r1, p1, _⟩ := I.list ha
  obtain ⟨i2, r2, p2, _⟩ := I.list hb
  have l1 := r1.length
  have l2 : i2 = [] := List.eq_nil_of_length_eq_zero (by have := r2.length; simpa using this.symm)
  subst l2
  cases xs with
  | nil =>
    have l3 : i1 = [] := List.eq_nil_of_length_eq_zero (by simpa using l1.symm)
    subst l3
    exact SeqAt.RcNeAt.lists (e := fun _ => true) p1.isList p2.isList rfl hu (fun j j1 _ => absurd j1 (Nat.not_lt_zero j)) X.prog X.w X.xe _ ⟨.bl false, H, I, rfl, q⟩
  | cons z zs =>
    refine SeqAt.RcNeAt.lists_lengths p1.isList p2.isList ?_ hu X.prog X.w X.xe _ ⟨.bl true, H, I, rfl, q⟩
    simp only [List.length_cons] at l1
    simp [bne_iff_ne]
    intro z
    rw [z] at l1
    simp at l1
theorem op_eqNil (hu : X.A.units < cLine) : OpR X (compareOp .Eq) (rEqNil X.K) := by
  intro pins s σ H x y v u Q I rx ry h
  obtain ⟨a, b, xs, rfl, rfl, ha, hb, q⟩ := h
  obtain rfl : v = Value.ref a := rx
  obtain rfl : u = Value.ref b := ry
  obtain ⟨i1, r1, p1, _⟩ := I.list ha
  obtain ⟨i2, r2, p2, _⟩ := I.list hb
  have l1 := r1.length
  have l2 : i2 = [] := List.eq_nil_of_length_eq_zero (by have := r2.length; simpa using this.symm)
  subst l2
  cases xs with
  | nil =>
    have l3 : i1 = [] := List.eq_nil_of_length_eq_zero (by simpa using l1.symm)
    subst l3
    exact SeqAt.RcAt.lists (e := fun _ => true) p1.isList p2.isList rfl hu (fun j j1 _ => absurd j1 (Nat.not_lt_zero j)) X.prog X.w X.xe _ ⟨.bl true, H, I, rfl, q⟩
  | cons z zs =>
    refine SeqAt.RcAt.lists_lengths p1.isList p2.isList ?_ hu X.prog X.w X.xe _ ⟨.bl false, H, I, rfl, q⟩
    simp only [List.length_cons] at l1
    simp [bne_iff_ne]
    intro z
    rw [z] at l1
    simp at l1
def rNotB : R2 := fun x y H Q => ∃ b : Bool, y = .bl b ∧ ((∃ a : Bool, x = .bl a ∧ Q (.bl (!decide (a = b))) H) ∨ (∃ i : Int, x = .int i ∧ Q (.bl true) H))
end
end Fm
namespace Fm
open PySem PySem.Spec PyProof.Rows L2
inductive Th where
  | non
  | bl (b : Bool)
  | int (i : Int)
  | str (x : Str)
  | tup (ts : List Th)
  | lst
  | dct
mutual
def Is (K : PySem.W.Frag) (b : Addr) (H : Hp) (v : V) : Th → Prop
  | .non => v = .non
  | .bl c => v = .bl c
  | .int i => v = .int i
  | .str x => v = .str x ∧ x.length ≤ 1000
  | .tup ts => ∃ a xs, v = .ref a ∧ SqT K H a xs ∧ IsAll K b H xs ts
  | .lst => ∃ a xs, v = .ref a ∧ a ≠ b ∧ H a = some (.lst xs)
  | .dct => ∃ a kvs, v = .ref a ∧ a ≠ b ∧ H a = some (.dK kvs)
def IsAll (K : PySem.W.Frag) (b : Addr) (H : Hp) (xs : List V) : List Th → Prop
  | [] => xs = []
  | t :: ts => ∃ y ys, xs = y :: ys ∧ Is K b H y t ∧ IsAll K b H ys ts
end
section
variable {K : PySem.W.Frag} {b : Addr} {H H' : Hp}
mutual
theorem Is.mv (m : Mv [b] H H') : ∀ (t : Th) (v : V), Is K b H v t → Is K b H' v t
  | .non, v, h => h
  | .bl _, v, h => h
  | .int _, v, h => h
  | .str _, v, h => h
  | .tup ts, v, h => by
    obtain ⟨a, xs, e, hs, ha⟩ := h
    exact ⟨a, xs, e, m.sqT hs, IsAll.mv m ts xs ha⟩
  | .lst, v, h => by
    obtain ⟨a, xs, e, hb, ha⟩ := h
    exact ⟨a, xs, e, hb, m.keep a _ (by simpa using hb) ha⟩
  | .dct, v, h => by
    obtain ⟨a, xs, e, hb, ha⟩ := h
    exact ⟨a, xs, e, hb, m.keep a _ (by simpa using hb) ha⟩
theorem IsAll.mv (m : Mv [b] H H') : ∀ (ts : List Th) (xs : List V), IsAll K b H xs ts → IsAll K b H' xs ts
  | [], xs, h => h
  | t :: ts, xs, h => by
    obtain ⟨y, ys, e, h1, h2⟩ := h
    exact ⟨y, ys, e, Is.mv m t y h1, IsAll.mv m ts ys h2⟩
end
theorem Is.mv0 {t : Th} {v : V} (h : Is K b H v t) (m : Mv [] H H') : Is K b H' v t := Is.mv (m.mono (by simp)) t v h
theorem IsAll.mv0 {ts : List Th} {xs : List V} (h : IsAll K b H xs ts) (m : Mv [] H H') : IsAll K b H' xs ts := IsAll.mv (m.mono (by simp)) ts xs h
theorem Is.dr {t : Th} {v : V} (h : Is K b H v t) (m : Dr b H H') : Is K b H' v t := Is.mv m.mv t v h
theorem IsAll.dr {ts : List Th} {xs : List V} (h : IsAll K b H xs ts) (m : Dr b H H') : IsAll K b H' xs ts := IsAll.mv m.mv ts xs h
theorem IsAll.length : ∀ {ts : List Th} {xs : List V}, IsAll K b H xs ts → xs.length = ts.length
  | [], xs, h => by
    have h' : xs = [] := h
    rw [h']
    rfl
  | t :: ts, xs, h => by
    obtain ⟨y, ys, rfl, _, k⟩ := h
    simp [k.length]
theorem IsAll.append : ∀ {ts us : List Th} {xs ys : List V}, IsAll K b H xs ts → IsAll K b H ys us → IsAll K b H (xs ++ ys) (ts ++ us)
  | [], _, xs, _, h, k => by
    have h' : xs = [] := h
    rw [h']
    exact k
  | t :: ts, _, xs, _, h, k => by
    obtain ⟨y, zs, rfl, h1, h2⟩ := h
    exact ⟨y, zs ++ _, rfl, h1, h2.append k⟩
theorem IsAll.nil : IsAll K b H [] [] := rfl
theorem IsAll.cons {t : Th} {ts : List Th} {y : V} {ys : List V} (h : Is K b H y t) (k : IsAll K b H ys ts) : IsAll K b H (y :: ys) (t :: ts) := ⟨y, ys, rfl, h, k⟩
theorem IsAll.get : ∀ {ts : List Th} {xs : List V} {i : Nat} {v : V}, IsAll K b H xs ts → xs[i]? = some v → ∃ t, ts[i]? = some t ∧ Is K b H v t
  | [], xs, _, _, h, e => by
    have h' : xs = [] := h
    rw [h'] at e
    simp at e
  | t :: ts, _, 0, _, h, e => by
    obtain ⟨y, ys, rfl, h1, h2⟩ := h
    simp at e
    subst e
    exact ⟨t, rfl, h1⟩
  | t :: ts, _, i + 1, _, h, e => by
    obtain ⟨y, ys, rfl, h1, h2⟩ := h
    exact h2.get (i := i) (by simpa using e)
theorem IsAll.take : ∀ {ts : List Th} {xs : List V} (n : Nat), IsAll K b H xs ts → IsAll K b H (xs.take n) (ts.take n)
  | [], xs, n, h => by
    have h' : xs = [] := h
    rw [h']
    simpa using IsAll.nil
  | t :: ts, _, 0, h => by simpa using IsAll.nil
  | t :: ts, _, n + 1, h => by
    obtain ⟨y, ys, rfl, h1, h2⟩ := h
    exact IsAll.cons h1 (h2.take n)
theorem IsAll.drop : ∀ {ts : List Th} {xs : List V} (n : Nat), IsAll K b H xs ts → IsAll K b H (xs.drop n) (ts.drop n)
  | [], xs, n, h => by
    have h' : xs = [] := h
    rw [h']
    simpa using IsAll.nil
  | t :: ts, _, 0, h => by simpa using h
  | t :: ts, _, n + 1, h => by
    obtain ⟨y, ys, rfl, h1, h2⟩ := h
    exact h2.drop n
theorem IsAll.last {ts : List Th} {t : Th} : ∀ {us : List Th} {xs : List V}, us = ts ++ [t] → IsAll K b H xs us → ∃ ys y, xs = ys ++ [y] ∧ IsAll K b H ys ts ∧ Is K b H y t := by
  induction ts with
  | nil =>
    intro us xs e h
    subst e
    obtain ⟨y, ys, rfl, h1, h2⟩ := h
    have h3 : ys = [] := h2
    exact ⟨[], y, by rw [h3]; rfl, IsAll.nil, h1⟩
  | cons u ts ih =>
    intro us xs e h
    subst e
    obtain ⟨y, ys, rfl, h1, h2⟩ := h
    obtain ⟨zs, z, rfl, h3, h4⟩ := ih rfl h2
    exact ⟨y :: zs, z, rfl, IsAll.cons h1 h3, h4⟩
def tyN : Th → String
  | .non => "NoneType"
  | .bl _ => "bool"
  | .int _ => "int"
  | .str _ => "str"
  | .tup _ => "tuple"
  | .lst => "list"
  | .dct => "dict"
theorem tyx_is {t : Th} {v : V} (h : Is K b H v t) : TyX K H v (.type (tyN t)) := by
  cases t with
  | non => cases (show v = V.non from h); exact .base .non
  | bl c => cases (show v = V.bl c from h); exact .base (.bl c)
  | int i => cases (show v = V.int i from h); exact .base (.int i)
  | str x => cases (show v = V.str x from h.1); exact .base (.str x)
  | tup ts =>
    obtain ⟨a, xs, rfl, hs, _⟩ := h
    rcases hs with (hs | ⟨o, hs⟩) | ⟨o, its, n, hk, hc, _⟩
    · exact .base (.tup hs)
    · exact .fTuple hs
    · exact .kTuple hk hc
  | lst =>
    obtain ⟨a, xs, rfl, _, ha⟩ := h
    exact .base (.lst ha)
  | dct =>
    obtain ⟨a, kvs, rfl, _, ha⟩ := h
    exact .base (.dK ha)
theorem rd_isi {t : Th} {v : V} {T : String} {c : Bool} {Q : VK} (h : Is K b H v t) (k : kitB (tyN t) T = some c) (q : Q (.bl c) H) : rIsi K [v, .ty T] H Q := ⟨v, .ty T, _, _, c, rfl, .ty T, tyx_is h, kit_ty k, q⟩
def isIntT : Th → Bool
  | .int _ => true
  | .bl _ => true
  | _ => false
def isBoolT : Th → Bool
  | .bl _ => true
  | _ => false
def isStrT : Th → Bool
  | .str _ => true
  | _ => false
def isTupT : Th → Bool
  | .tup _ => true
  | _ => false
def isLstT : Th → Bool
  | .lst => true
  | _ => false
theorem kit_int (t : Th) : kitB (tyN t) "int" = some (isIntT t) := by cases t <;> (simp only [tyN, isIntT]; decide +kernel)
theorem kit_bool (t : Th) : kitB (tyN t) "bool" = some (isBoolT t) := by cases t <;> (simp only [tyN, isBoolT]; decide +kernel)
theorem kit_str (t : Th) : kitB (tyN t) "str" = some (isStrT t) := by cases t <;> (simp only [tyN, isStrT]; decide +kernel)
theorem kit_tup (t : Th) : kitB (tyN t) "tuple" = some (isTupT t) := by cases t <;> (simp only [tyN, isTupT]; decide +kernel)
theorem kit_lst (t : Th) : kitB (tyN t) "list" = some (isLstT t) := by cases t <;> (simp only [tyN, isLstT]; decide +kernel)
end
def lettersS : Str := "abcdefghijklmnopqrstuvwxyz"
def nmd (x : Str) : Bool := decide (1 ≤ x.length) && decide (x.length ≤ 8) && x.cps.toList.all fun c => decide (c ∈ lettersS.cps.toList)
def isWhole : Th → Bool
  | .int _ => true
  | _ => false
def isNamed : Th → Bool
  | .str x => nmd x
  | _ => false
mutual
def isTerm : Th → Bool
  | .int i => decide (0 ≤ i)
  | .tup [] => false
  | .tup (t :: ts) => isNamed t && decide (ts.length ≤ 3) && isTerms ts
  | _ => false
def isTerms : List Th → Bool
  | [] => true
  | t :: ts => isTerm t && isTerms ts
end
mutual
def Th.cnt : Th → Nat
  | .tup ts => Th.cnts ts + 1
  | _ => 1
def Th.cnts : List Th → Nat
  | [] => 0
  | t :: ts => t.cnt + Th.cnts ts
end
theorem isTerms_all : ∀ ts : List Th, isTerms ts = ts.all isTerm
  | [] => by simp [isTerms]
  | t :: ts => by simp [isTerms, isTerms_all ts]
theorem Th.cnts_append : ∀ ts us : List Th, Th.cnts (ts ++ us) = Th.cnts ts + Th.cnts us
  | [], us => by simp [Th.cnts]
  | t :: ts, us => by
    simp only [List.cons_append, Th.cnts, Th.cnts_append ts us]
    omega
mutual
def Tm.th : Tm → Th
  | .var i => .int i
  | .op x ts => .tup (.str x :: Tm.ths ts)
def Tm.ths : List Tm → List Th
  | [] => []
  | t :: ts => t.th :: Tm.ths ts
end
section
variable {K : PySem.W.Frag} {b : Addr} {H : Hp}
mutual
theorem Is.of_im {R : Int → Prop} : ∀ (t : Tm) (v : V), t.ok R → Im K H v t.d → Is K b H v t.th
  | .var i, v, _, h => h.intI
  | .op x ts, v, k, h => by
    obtain ⟨a, xs0, rfl, ha, hxs⟩ := h.tupI
    obtain ⟨x', xs, rfl, hx', hys⟩ := hxs.invD
    exact ⟨a, x' :: xs, rfl, ha, IsAll.cons ⟨hx'.strI, by have := k.1.2.1; omega⟩ (IsAll.of_ims ts xs k.2.2 hys)⟩
theorem IsAll.of_ims {R : Int → Prop} : ∀ (ts : List Tm) (xs : List V), Tm.oks R ts → Ims K H xs (Tm.ds ts) → IsAll K b H xs (Tm.ths ts)
  | [], xs, _, h => h.nilD
  | t :: ts, xs, k, h => by
    obtain ⟨v, vs, rfl, h1, h2⟩ := h.invD
    exact IsAll.cons (Is.of_im t v k.1 h1) (IsAll.of_ims ts vs k.2 h2)
end
end
theorem nmd_nm {x : Str} (h : Nm x) : nmd x = true := by
  unfold nmd
  have h3 : (x.cps.toList.all fun c => decide (c ∈ lettersS.cps.toList)) = true := by
    rw [List.all_eq_true]
    intro c hc
    have := h.2.2 c hc
    have k : ∀ c : Fin 123, 97 ≤ c.val → decide (c.val ∈ lettersS.cps.toList) = true := by decide +kernel
    exact k ⟨c, by omega⟩ this.1
  rw [h3, decide_eq_true h.1, decide_eq_true h.2.1]
  rfl
end Fm
namespace Fm
open PySem PySem.Spec PyProof.Rows L2
mutual
def Tm.cx : Tm → List Nat
  | .var i => TL.numL i.toNat
  | .op x ts => x.cps.toList ++ Tm.cxP ts
def Tm.cxP : List Tm → List Nat
  | [] => []
  | t :: ts => 40 :: (Tm.cx t ++ Tm.cxs ts)
def Tm.cxs : List Tm → List Nat
  | [] => [41]
  | t :: ts => 44 :: (Tm.cx t ++ Tm.cxs ts)
end
def lisC (ts : List Tm) : List Nat := 40 :: (TL.joinL [44] (ts.map Tm.cx) ++ [41])
theorem joinL_cxs : ∀ (t : Tm) (ts : List Tm), TL.joinL [44] ((t :: ts).map Tm.cx) ++ [41] = t.cx ++ Tm.cxs ts
  | t, [] => by simp [TL.joinL, Tm.cxs]
  | t, u :: ts => by
    have ih := joinL_cxs u ts
    simp only [List.map_cons, TL.joinL, Tm.cxs] at ih ⊢
    rw [List.append_assoc, List.append_assoc, ih]
    rfl
theorem lisC_cons (t : Tm) (ts : List Tm) : lisC (t :: ts) = Tm.cxP (t :: ts) := by
  rw [lisC, joinL_cxs, Tm.cxP]
mutual
def Tm.tk : Tm → List (List Nat)
  | .var i => [TL.numL i.toNat]
  | .op x ts => x.cps.toList :: Tm.tkP ts
def Tm.tkP : List Tm → List (List Nat)
  | [] => []
  | t :: ts => [40] :: (Tm.tk t ++ Tm.tks ts)
def Tm.tks : List Tm → List (List Nat)
  | [] => [[41]]
  | t :: ts => [44] :: (Tm.tk t ++ Tm.tks ts)
end
def isSg (c : Nat) : Bool := decide (c ∈ ([40, 44, 41] : List Nat))
def tkL : List Nat → List Nat → List (List Nat)
  | [], w => if w = [] then [] else [w]
  | c :: r, w => if isSg c = true then (if w = [] then [[c]] else [w, [c]]) ++ tkL r [] else tkL r (w ++ [c])
theorem tkL_word : ∀ (v r w : List Nat), (∀ c ∈ v, isSg c = false) → tkL (v ++ r) w = tkL r (w ++ v)
  | [], r, w, _ => by simp
  | c :: v, r, w, h => by
    rw [List.cons_append, tkL, if_neg (by rw [h c List.mem_cons_self]; simp), tkL_word v r _ fun d hd => h d (List.mem_cons_of_mem _ hd), List.append_assoc]
    rfl
def Stop : List Nat → Prop
  | [] => True
  | c :: _ => isSg c = true
theorem tkL_stop {r w : List Nat} (hr : Stop r) (hw : w ≠ []) : tkL r w = w :: tkL r [] := by
  cases r with
  | nil => simp [tkL, hw]
  | cons c r =>
    have hc : isSg c = true := hr
    rw [tkL, tkL, if_pos hc, if_neg hw, if_pos hc, if_pos rfl]
    rfl
theorem num_sg (n : Nat) : ∀ c ∈ TL.numL n, isSg c = false := fun c hc => by
  have := TL.numL_digits n c hc
  unfold isSg
  refine decide_eq_false fun z => ?_
  simp only [List.mem_cons, List.not_mem_nil, or_false] at z
  omega
theorem name_sgs {x : Str} (h : Nm x) : (∀ c ∈ x.cps.toList, isSg c = false) ∧ x.cps.toList ≠ [] := by
  refine ⟨fun c hc => ?_, fun z => ?_⟩
  · have := h.2.2 c hc
    unfold isSg
    refine decide_eq_false fun z => ?_
    simp only [List.mem_cons, List.not_mem_nil, or_false] at z
    omega
  · have h1 := h.1
    unfold Str.length at h1
    rw [← Array.length_toList, z] at h1
    simp at h1
theorem stop_cxs : ∀ (ts : List Tm) (r : List Nat), Stop (Tm.cxs ts ++ r)
  | [], r => (by decide : isSg 41 = true)
  | t :: ts, r => (by decide : isSg 44 = true)
mutual
theorem tk_cx {P : Int → Prop} : ∀ (t : Tm) (r : List Nat), t.ok P → Stop r → tkL (t.cx ++ r) [] = t.tk ++ tkL r []
  | .var i, r, _, hr => by
    rw [Tm.cx, tkL_word _ _ _ (num_sg _), List.nil_append, tkL_stop hr (TL.numL_ne _), Tm.tk]
    rfl
  | .op x ts, r, h, hr => by
    obtain ⟨h1, h2⟩ := name_sgs h.1
    rw [Tm.cx, List.append_assoc, tkL_word _ _ _ h1, List.nil_append, Tm.tk, tk_cxP ts r _ h2 h.2.2 hr]
    rfl
theorem tk_cxP {P : Int → Prop} : ∀ (ts : List Tm) (r w : List Nat), w ≠ [] → Tm.oks P ts → Stop r → tkL (Tm.cxP ts ++ r) w = w :: (Tm.tkP ts ++ tkL r [])
  | [], r, w, hw, _, hr => by
    rw [Tm.cxP, Tm.tkP, List.nil_append, tkL_stop hr hw]
    rfl
  | t :: ts, r, w, hw, h, hr => by
    have e : isSg 40 = true := by decide
    rw [Tm.cxP, List.cons_append, tkL, if_pos e, if_neg hw, List.append_assoc, tk_cx t _ h.1 (stop_cxs ts r), tk_cxs ts r h.2 hr, Tm.tkP]
    simp
theorem tk_cxs {P : Int → Prop} : ∀ (ts : List Tm) (r : List Nat), Tm.oks P ts → Stop r → tkL (Tm.cxs ts ++ r) [] = Tm.tks ts ++ tkL r []
  | [], r, _, hr => by
    have e : isSg 41 = true := by decide
    rw [Tm.cxs, Tm.tks, List.cons_append, tkL, if_pos e, if_pos rfl]
    rfl
  | t :: ts, r, h, hr => by
    have e : isSg 44 = true := by decide
    rw [Tm.cxs, List.cons_append, tkL, if_pos e, if_pos rfl, List.append_assoc, tk_cx t _ h.1 (stop_cxs ts r), tk_cxs ts r h.2 hr, Tm.tks]
    simp
end
def digC (c : Nat) : Bool := decide (48 ≤ c) && decide (c ≤ 57)
def natI (w : List Nat) : Option Nat := if 0 < w.length ∧ w.length ≤ 40 ∧ w.all digC = true ∧ TL.numL (NumText.digitsVal w) = w then some (NumText.digitsVal w) else none
def intI : List Nat → Option Int
  | 45 :: ds => match natI ds with
    | some n => if n = 0 then none else some (-(n : Int))
    | none => none
  | w => (natI w).map Int.ofNat
def leafI (w : List Nat) : Option Tm := match w with
  | [] => none
  | c :: _ => if digC c = true then (intI w).map Tm.var else if nmd (SX.S w) = true then some (.op (SX.S w) []) else none
def runI : List (List Nat) → List (Str × List Tm) → Option Tm → Bool → Option Tm
  | [], op, t, _ => if op = [] then t else none
  | _ :: r, op, t, true => runI r op t false
  | w :: r, op, none, false => if w.length = 1 ∧ w.all isSg = true then none
    else if r.head? = some [40] then (if nmd (SX.S w) = true then runI r ((SX.S w, []) :: op) none true else none)
    else match leafI w with
      | some u => runI r op (some u) false
      | none => none
  | w :: r, op, some t, false => if w = [44] then match op with
      | (f, us) :: op' => runI r ((f, us ++ [t]) :: op') none false
      | [] => none
    else if w = [41] then match op with
      | (f, us) :: op' => runI r op' (some (.op f (us ++ [t]))) false
      | [] => none
    else none
theorem natI_num {n : Nat} (h : n < 10 ^ 40) : natI (TL.numL n) = some n := by
  have h1 := TL.numL_len (n := n) (k := 40) (by decide) h
  have h2 := List.length_pos_iff.mpr (TL.numL_ne n)
  have h3 : (TL.numL n).all digC = true := by
    rw [List.all_eq_true]
    intro c hc
    have := TL.numL_digits n c hc
    unfold digC
    rw [Bool.and_eq_true, decide_eq_true_eq, decide_eq_true_eq]
    exact this
  unfold natI
  rw [if_pos ⟨h2, h1, h3, by rw [TL.numL_val]⟩, TL.numL_val]
theorem num_head (n : Nat) : ∃ c r, TL.numL n = c :: r ∧ digC c = true := by
  obtain ⟨c, r, e⟩ := List.exists_cons_of_ne_nil (TL.numL_ne n)
  refine ⟨c, r, e, ?_⟩
  have := TL.numL_digits n c (by rw [e]; exact List.mem_cons_self)
  unfold digC
  rw [Bool.and_eq_true, decide_eq_true_eq, decide_eq_true_eq]
  exact this
theorem intI_num {n : Nat} (h : n < 10 ^ 40) : intI (TL.numL n) = some (n : Int) := by
  have h1 := natI_num h
  obtain ⟨c, r, e, hc⟩ := num_head n
  rw [e] at h1 ⊢
  unfold intI
  split
  · rename_i ds heq
    cases heq
    exact absurd hc (by decide)
  · rw [h1]
    rfl
theorem leafI_num {i : Int} (h0 : 0 ≤ i) (h : i.natAbs < 10 ^ 40) : leafI (TL.numL i.toNat) = some (.var i) := by
  have h1 := intI_num (n := i.toNat) (by omega)
  obtain ⟨c, r, e, hc⟩ := num_head i.toNat
  rw [e] at h1 ⊢
  unfold leafI
  simp only [hc, if_true, h1, Option.map_some]
  congr 2
  omega
theorem S_tl' (x : Str) : SX.S x.cps.toList = x := SX.S_tl x
theorem name_head {x : Str} (h : Nm x) : ∃ c r, x.cps.toList = c :: r ∧ digC c = false := by
  obtain ⟨c, r, e⟩ := List.exists_cons_of_ne_nil (name_sgs h).2
  refine ⟨c, r, e, ?_⟩
  have := h.2.2 c (by rw [e]; exact List.mem_cons_self)
  unfold digC
  rw [decide_eq_false (by omega : ¬ c ≤ 57), Bool.and_false]
theorem leafI_name {x : Str} (h : Nm x) : leafI x.cps.toList = some (.op x []) := by
  obtain ⟨c, r, e, hc⟩ := name_head h
  have h1 := S_tl' x
  rw [e] at h1 ⊢
  unfold leafI
  simp only [hc, h1, nmd_nm h, if_true]
  rfl
theorem word_no {w : List Nat} (h : ∀ c ∈ w, isSg c = false) (hne : w ≠ []) : ¬ (w.length = 1 ∧ w.all isSg = true) := fun z => by
  obtain ⟨c, r, rfl⟩ := List.exists_cons_of_ne_nil hne
  have h1 := h c List.mem_cons_self
  have h2 := List.all_eq_true.mp z.2 c List.mem_cons_self
  rw [h1] at h2
  cases h2
def NoOp (r : List (List Nat)) : Prop := r.head? ≠ some [40]
theorem runI_leaf {w : List Nat} {r : List (List Nat)} {op : List (Str × List Tm)} {u : Tm} (h : ∀ c ∈ w, isSg c = false) (hne : w ≠ []) (hr : NoOp r) (hl : leafI w = some u) : runI (w :: r) op none false = runI r op (some u) false := by
  rw [runI, if_neg (word_no h hne), if_neg hr, hl]
theorem runI_open {x : Str} {r : List (List Nat)} {op : List (Str × List Tm)} (h : Nm x) : runI (x.cps.toList :: [40] :: r) op none false = runI r ((x, []) :: op) none false := by
  obtain ⟨h1, h2⟩ := name_sgs h
  rw [runI, if_neg (word_no h1 h2), if_pos (by rfl), S_tl', if_pos (nmd_nm h), runI]
theorem noOp_tks (ts : List Tm) (r : List (List Nat)) : NoOp (Tm.tks ts ++ r) := by
  cases ts <;> simp [NoOp, Tm.tks]
mutual
theorem runI_tk : ∀ (t : Tm) (r : List (List Nat)) (op : List (Str × List Tm)), t.ok (fun i => 0 ≤ i ∧ i.natAbs < 10 ^ 40) → NoOp r → runI (t.tk ++ r) op none false = runI r op (some t) false
  | .var i, r, op, h, hr => runI_leaf (num_sg _) (TL.numL_ne _) hr (leafI_num h.1 h.2)
  | .op x [], r, op, h, hr => by
    obtain ⟨h1, h2⟩ := name_sgs h.1
    exact runI_leaf h1 h2 hr (leafI_name h.1)
  | .op x (t :: ts), r, op, h, hr => by
    rw [Tm.tk, Tm.tkP]
    show runI (x.cps.toList :: [40] :: (t.tk ++ Tm.tks ts ++ r)) op none false = _
    rw [runI_open h.1, List.append_assoc, runI_tk t _ _ h.2.2.1 (noOp_tks ts r), runI_tks ts r op x [] t h.2.2.2]
    rfl
theorem runI_tks : ∀ (ts : List Tm) (r : List (List Nat)) (op : List (Str × List Tm)) (x : Str) (us : List Tm) (t : Tm), Tm.oks (fun i => 0 ≤ i ∧ i.natAbs < 10 ^ 40) ts → runI (Tm.tks ts ++ r) ((x, us) :: op) (some t) false = runI r op (some (.op x (us ++ t :: ts))) false
  | [], r, op, x, us, t, _ => by
    rw [Tm.tks, List.cons_append, runI, if_neg (by decide), if_pos rfl]
    rfl
  | u :: ts, r, op, x, us, t, h => by
    rw [Tm.tks, List.cons_append, runI, if_pos rfl]
    show runI (u.tk ++ Tm.tks ts ++ r) ((x, us ++ [t]) :: op) none false = _
    rw [List.append_assoc, runI_tk u _ _ h.1 (noOp_tks ts r), runI_tks ts r op x (us ++ [t]) u h.2, List.append_assoc]
    rfl
end
theorem read_cx {t : Tm} (h : t.ok fun i => 0 ≤ i ∧ i.natAbs < 10 ^ 40) : runI (tkL t.cx []) [] none false = some t := by
  have h1 := tk_cx t [] h trivial
  have h2 := runI_tk t [] [] h (by simp [NoOp])
  rw [List.append_nil] at h1 h2
  rw [h1]
  show runI (t.tk ++ []) [] none false = _
  rw [List.append_nil, h2]
  simp [runI]
mutual
theorem cx_len {P : Int → Prop} : ∀ t : Tm, t.ok P → (∀ i ∈ t.leaves, (TL.numL i.toNat).length ≤ 40) → t.cx.length + 1 ≤ 41 * Tm.lv t + 10 * t.size + 2 * (Tm.lv t + t.size)
  | .var i, _, h => by
    have := h i (by simp [Tm.leaves])
    simp only [Tm.cx, Tm.lv, Tm.size]
    omega
  | .op x ts, k, h => by
    have h1 := k.1.2.1
    have h3 : x.cps.toList.length ≤ 8 := by simpa [Str.length] using h1
    have h2 := cxP_len ts k.2.2 (by simpa [Tm.leaves] using h)
    simp only [Tm.cx, Tm.lv, Tm.size, List.length_append]
    omega
theorem cxP_len {P : Int → Prop} : ∀ ts : List Tm, Tm.oks P ts → (∀ i ∈ Tm.leavesL ts, (TL.numL i.toNat).length ≤ 40) → (Tm.cxP ts).length ≤ 41 * Tm.lvs ts + 10 * Tm.sizes ts + 2 * (Tm.lvs ts + Tm.sizes ts) + 2
  | [], _, _ => by simp [Tm.cxP]
  | t :: ts, k, h => by
    have h1 := cx_len t k.1 fun i hi => h i (by simp [Tm.leavesL, hi])
    have h2 := cxs_len ts k.2 fun i hi => h i (by simp [Tm.leavesL, hi])
    simp only [Tm.cxP, List.length_cons, List.length_append, Tm.lvs, Tm.sizes]
    omega
theorem cxs_len {P : Int → Prop} : ∀ ts : List Tm, Tm.oks P ts → (∀ i ∈ Tm.leavesL ts, (TL.numL i.toNat).length ≤ 40) → (Tm.cxs ts).length ≤ 41 * Tm.lvs ts + 10 * Tm.sizes ts + 2 * (Tm.lvs ts + Tm.sizes ts) + 1
  | [], _, _ => by simp [Tm.cxs]
  | t :: ts, k, h => by
    have h1 := cx_len t k.1 fun i hi => h i (by simp [Tm.leavesL, hi])
    have h2 := cxs_len ts k.2 fun i hi => h i (by simp [Tm.leavesL, hi])
    simp only [Tm.cxs, List.length_cons, List.length_append, Tm.lvs, Tm.sizes]
    omega
end
end Fm
namespace Fm
open PySem PySem.Spec PyProof.Rows L2
section
variable {prog : Program} {w : World} {A : Around} {E : Value → Shared → Prop} {s : Shared}
end
def IteT (K : PySem.W.Frag) (a : Addr) : It :=
  ⟨fun i H => ∃ (xs : List V) (x : V), SqT K H a xs ∧ xs[i]? = some x, fun i H v H' => ∃ T x, v = .ref T ∧ H T = none ∧ H' = upd H T (.tup [.int (i : Nat), x]) ∧ ∀ xs, SqT K H a xs → xs[i]? = some x, fun i H => ∃ xs : List V, SqT K H a xs ∧ xs.length ≤ i⟩
def iEnumG (K : PySem.W.Frag) (ta : TA) : TI := fun σ H R => ta σ H fun vs H1 => ∃ a xs, vs = [.ref a] ∧ ((SqL K H1 a xs ∧ R (Ite K a) H1) ∨ (SqT K H1 a xs ∧ R (IteT K a) H1))
end Fm
namespace Fm
open PySem PySem.Spec PyProof.Rows L2 SlX
section
variable {X : Cx}
def rDictD : List V → Hp → VK → Prop := fun xs H Q => ∃ (a : Addr) (kvs : List (L2.Key × V)), xs = [.ref a] ∧ H a = some (.dK kvs) ∧ ∀ p, H p = none → Q (.ref p) (upd H p (.dK kvs))
def tLenSetG (K : PySem.W.Frag) (ta : TE) : TE := fun σ H Q => ta σ H fun x H1 => ∃ (l : Addr) (ns : List Int), x = .ref l ∧ (SqL K H1 l (ns.map V.int) ∨ SqT K H1 l (ns.map V.int)) ∧ ns.length ≤ 4000 ∧
  ∀ ks : List Int, ks.Nodup → (∀ k, k ∈ ks ↔ k ∈ ns) → Q (.int ks.length) H1
def gSl (K : PySem.W.Frag) (to : TE) (f : Str) : TG := fun y σ H Q => to σ H fun x H2 => ∃ a C dx p vs i, x = .ref a ∧ Slt H2 a C dx vs ∧ SCls K C ∧ Slot1 K C f p i ∧ Q σ (slH H2 a C dx (putS i y vs))
end
theorem fnR_of {P : Program} {w : World} {K : PySem.W.Frag} {mg : Str → Option Value} {base : Heap} {CX : CXT} {k : Nat} {f : Addr} {fd : FuncData} {ps : List Str} {sp : Sp} (F : FnOk P w K mg base CX k f fd ps sp) (b : Binds K fd ps []) : FnR P w K mg base CX k f sp := by
  intro A outer s H us vs Q E hr e0 r h
  have hl : us.length = ps.length := by rw [← r.length]; exact F.len _ _ _ _ h
  have kin : K.In s.heap := e0.mod.kin.keeps fun b o e => (e0.bs b o e).1
  have b' := b s us kin (by rw [List.append_nil]; exact hl)
  rw [List.append_nil] at b'
  exact F.run A outer s H ⟨us, []⟩ us vs Q E hr e0 b' r h
section
variable {X : Cx} {CX : CXT} {k : Nat} {C g : Addr} {fd : FuncData} {ps : List Str} {sp : Sp} {E : L2.St → XK} {m : Str} {pos apos : Pos} {e o : Expr} {es : List Expr} {ta : TE} {t : TA}
def tMethSlS (C : Addr) (sp : Sp) (E : L2.St → XK) (ta : TE) (t : TA) : TE := fun σ H Q => ta σ H fun x H1 => ∃ a dx vs, x = .ref a ∧ Slt H1 a C dx vs ∧ t σ H1 fun ws H2 => sp (x :: ws) H2 Q (E σ)
end
section
variable {X : Cx}
def rSortDk : List V → Hp → VK → Prop := fun xs H Q => ∃ (a : Addr) (kvs : List (L2.Key × V)) (ks : List Str), xs = [.ref a] ∧ Rd H a (.dK kvs) ∧ kvs.map (·.1) = ks.map Sum.inr ∧ ks.length < 64 ∧ ∀ ys p, ys.Perm ks → sortedS ys = true → H p = none → Q (.ref p) (upd H p (.lst (ys.map V.str)))
def rSortA (K : PySem.W.Frag) : List V → Hp → VK → Prop := fun xs H Q => rSortDk xs H Q ∨ (rSortedS K xs H Q ∨ rSorted K xs H Q)
def rDictP (K : PySem.W.Frag) : List V → Hp → VK → Prop := fun xs H Q => ∃ (a : Addr) (ps : List Addr) (kvs : List (L2.Key × V)), xs = [.ref a] ∧ SqL K H a (ps.map V.ref) ∧ Paired (fun p kv => SqT K H p [kV kv.1, kv.2]) ps kvs ∧ ∀ p, H p = none → Q (.ref p) (upd H p (.dK (mergeK [] kvs)))
def rDictG (K : PySem.W.Frag) : List V → Hp → VK → Prop := fun xs H Q => rDictP K xs H Q ∨ rDictD xs H Q
def rListG (K : PySem.W.Frag) : List V → Hp → VK → Prop := fun xs H Q => rListOf K xs H Q ∨ rListD xs H Q
end
theorem kitOne_self {K : PySem.W.Frag} (C : Addr) : PySem.W.kitOne K (.ref C) (.ref C) = some true := by
  unfold PySem.W.kitOne
  rw [if_pos (by simp)]
end Fm
namespace Fm
open PySem PySem.Spec PyProof.Rows L2 SlX
section
variable {prog : Program} {w : PySem.World} {A : Around} {E : Value → Shared → Prop} {s : Shared} {K : PySem.W.Frag} {x C f : Addr} {ox : Obj} {od : Option Obj} {b tb : Value}
theorem objNe (X : K.In s.heap) (I : PySem.W.InstAt s.heap x ox C od) (he : PySem.W.findIn K (.ref C) "__eq__" = some (some (.ref f))) (hf : PySem.W.isFn K (.ref f) = true) (hu : A.units < cLine) {Q : PySem.Fin → Shared → Prop}
    (hc : wpAny (model prog w) A (call (.ref f) [.ref x, b]) (fun v s' => ∃ k, v = .bool k ∧ Q (.done (.ret (.bool (!k)))) s') E s) : wpAny (model prog w) A (Builtin.«object.__ne__» ⟨[.ref x, b], []⟩) Q E s := by
  unfold Builtin.«object.__ne__»
  repeat (first
    | with_reducible refine wpAny_cRoomFor hu ?_
    | (refine wpAny_bind (m := callSpecialIfBound? (.ref x) (Str.ofString "__eq__") [b]) (PySem.W.ifBound_K X I he hf (wpAny_mono hc (fun r s' hr => by
          obtain ⟨k, rfl, q⟩ := hr
          repeat (first | exact q | exact wpAny_pure q | exact wpAny_truthy_bool q | (refine wpAny_bind (m := truthy (.bool _)) (wpAny_truthy_bool ?_)) | wp_step)) fun _ _ z => z)))
    | wp_step)
theorem ne_own {Q : Value → Shared → Prop} (hu : A.units + 1 < cLine) (X : K.In s.heap) (I : PySem.W.InstAt s.heap x ox C od) (hb : PySem.W.Looks (model prog w) s.heap (typeOf b) tb) (hn : PySem.W.notFirst K C tb = true)
    (hs : PySem.W.findIn K (.ref C) "__ne__" = some (some (.builtin "object.__ne__"))) (hm : PySem.W.mroIn K C (.type "object") = some true) (he : PySem.W.findIn K (.ref C) "__eq__" = some (some (.ref f))) (hf : PySem.W.isFn K (.ref f) = true)
    (h : wpAny (model prog w) A.in1 (call (.ref f) [.ref x, b]) (fun v s' => ∃ k, v = .bool k ∧ Q (.bool (!k)) s') E s) : wpAny (model prog w) A (richCompare .NotEq (.ref x) b) Q E s := by
  have sub : PySem.W.Looks (model prog w) s.heap (isInstance (.ref x) (.type "object")) true := I.type.andThen (PySem.W.looks_mroIn X hm)
  have body : wpAny (model prog w) A (call (.builtin "object.__ne__") [.ref x, b]) (fun v s' => v ≠ .notImplemented ∧ Q v s') E s := by
    refine wpAny_call (codeAny_call_builtin PySem.F.cmp_object.ne.plain PySem.F.cmpEntry_ne (@PySem.W.check_slot (model prog w) _ _ s "object.__ne__" "object" "__ne__" (.ref x) [b] [] _ PySem.F.cmpKind_ne PySem.F.cmpSplit_ne sub (PySem.F.cmpArgs_ne _ _) ?_))
    refine objNe (A := A.in1) X I he hf hu (wpAny_mono h (fun v s' hv => ?_) fun _ _ z => z)
    obtain ⟨k, rfl, q⟩ := hv
    exact ⟨k, rfl, (fun z => nomatch z), q⟩
  have one : wpAny (model prog w) A (tryCompare (.ref x) (cmpInfo .NotEq).2.1 b) (fun r s' => ∃ v, r = some v ∧ Q v s') E s := by
    unfold tryCompare
    refine wpAny_bind ?_
    simp only [callSpecialIfBound?, bindSpecialIfBound?]
    refine wpAny_holding (wpAny_bind (wpAny_bind (wpAny_bind (I.type.here ((PySem.W.looks_findIn X (show PySem.W.findIn K (.ref C) (cmpInfo .NotEq).2.1 = _ from hs)).here ?_)))))
    refine wpAny_bind (wpAny_askSetting (wpAny_ite ?_))
    split
    · rw [PySem.F.cmp_object.ne.bind]
      refine wpAny_bind (wpAny_pure (wpAny_pure ?_))
      show wpAny _ _ (call (.builtin "object.__ne__") [.ref x, b] >>= _) _ _ _
      refine wpAny_bind (wpAny_mono body (fun v s' hv => wpAny_pure ?_) fun _ _ z => z)
      obtain ⟨h1, h2⟩ := hv
      cases v <;> first | exact absurd rfl h1 | exact wpAny_pure ⟨_, rfl, h2⟩
    · rw [PySem.F.cmp_object.ne.bind]
      refine wpAny_tryCatch (wpAny_bind (wpAny_pure (wpAny_pure ?_)))
      show wpAny _ _ (call (.builtin "object.__ne__") [.ref x, b] >>= _) _ _ _
      refine wpAny_bind (wpAny_mono body (fun v s' hv => wpAny_pure ?_) fun _ _ z => z)
      obtain ⟨h1, h2⟩ := hv
      cases v <;> first | exact absurd rfl h1 | exact wpAny_pure ⟨_, rfl, h2⟩
  unfold richCompare
  simp only [oneThing_ref]
  refine wpAny_holding (wpAny_bind (wpAny_cRoomFor (Nat.lt_of_succ_lt hu) (wpAny_bind (I.type.here (wpAny_bind (hb.here ?_))))))
  split
  · rename_i q
    have e : PySem.W.subIn K tb (.ref C) = some false := by
      rcases Bool.or_eq_true_iff.mp hn with e | e
      · rw [beq_iff_eq.mp e] at q
        simp at q
      · exact beq_iff_eq.mp e
    refine wpAny_bind ((PySem.W.looks_subIn X e).here ?_)
    simp only [Bool.false_eq_true, if_false]
    refine wpAny_bind (wpAny_mono one (fun r s' z => ?_) fun _ _ z => z)
    obtain ⟨v, rfl, hq⟩ := z
    exact wpAny_pure hq
  · refine wpAny_bind (wpAny_pure ?_)
    simp only [Bool.false_eq_true, if_false]
    refine wpAny_bind (wpAny_mono one (fun r s' z => ?_) fun _ _ z => z)
    obtain ⟨v, rfl, hq⟩ := z
    exact wpAny_pure hq
end
section
variable {X : Cx} {CX : CXT} {pins : List (Addr × Obj)} {σ : L2.St} {H : Hp} {s : Shared} {C g : Addr} {n : Nat} {sp : Sp} {E : XK}
def Oth (K : PySem.W.Frag) (H : Hp) (C : Addr) (y : V) : Prop := (∃ b C' dy ws, y = .ref b ∧ Slt H b C' dy ws ∧ PySem.W.notFirst K C (.ref C') = true) ∨ ∃ tb, TyX K H y tb ∧ PySem.W.notFirst K C tb = true
theorem Oth.looks {y : V} {u : Value} (I : Inv X pins σ H s) (ry : RelV y u) (h : Oth X.K H C y) : ∃ tb, PySem.W.Looks (model X.prog X.w) s.heap (typeOf u) tb ∧ PySem.W.notFirst X.K C tb = true := by
  rcases h with ⟨b, C', dy, ws, rfl, hb, hn⟩ | ⟨tb, ht, hn⟩
  · cases (show u = Value.ref b from ry)
    obtain ⟨sl, od, _, J, _⟩ := slt_inst I hb
    exact ⟨_, J.type, hn⟩
  · obtain ⟨P, kx, hp, _⟩ := kit_of I ry ht
    exact ⟨tb, kx.ty _ _ I.kIn hp, hn⟩
def rOwnG (K : PySem.W.Frag) (C : Addr) (sp : Sp) (E : XK) : R2 := fun x y H Q => ∃ a dx vs, x = .ref a ∧ Slt H a C dx vs ∧ Oth K H C y ∧ sp [x, y] H Q E
def rNeOwn (K : PySem.W.Frag) (C : Addr) (sp : Sp) (E : XK) : R2 := fun x y H Q => ∃ a dx vs, x = .ref a ∧ Slt H a C dx vs ∧ Oth K H C y ∧ sp [x, y] H (fun z H' => ∃ k, z = .bl k ∧ Q (.bl (!k)) H') E
theorem op_neOwn (hne : PySem.W.findIn X.K (.ref C) "__ne__" = some (some (.builtin "object.__ne__"))) (hm : PySem.W.mroIn X.K C (.type "object") = some true) (hs : PySem.W.findIn X.K (.ref C) "__eq__" = some (some (.ref g))) (hf : PySem.W.isFn X.K (.ref g) = true)
    (F : FnR X.prog X.w X.K X.mg X.base CX n g sp) (hr : Room (n + 1) X.A) (hx : Passes CX X E) : OpR X (compareOp .NotEq) (rNeOwn X.K C sp E) := by
  intro pins s σ H x y v u Q I rx ry h
  obtain ⟨a, dx, vs, rfl, ha, ho, q⟩ := h
  cases (show v = Value.ref a from rx)
  obtain ⟨sl, od, _, J, _⟩ := slt_inst I ha
  obtain ⟨tb, L, hn⟩ := ho.looks I ry
  have hu : X.A.units + 1 < cLine := by have := hr.un; omega
  refine ne_own (tb := tb) hu I.kIn J L hn hne hm hs hf ?_
  refine wpAny_mono (wpAny_call (run_at (us := [.ref a, u]) (ws := [.ref a, y]) F (Room.in1 hr) I.env0.in1 hx I (.cons rfl (.cons ry .nil)) q)) (fun w s' z => ?_) fun _ _ x => x
  obtain ⟨z', H', I', rz, k, ek, qz⟩ := z
  subst ek
  cases (show w = Value.bool k from rz)
  exact ⟨k, rfl, .bl (!k), H', I', rfl, qz⟩
end
end Fm
namespace Fm
open PySem PySem.Spec PyProof.Rows L2 SlX
section
variable {prog : Program} {w : PySem.World} {A : Around} {E : Value → Shared → Prop} {s : Shared} {K : PySem.W.Frag} {x y C f : Addr} {ox oy : Obj} {od ody : Option Obj}
structure MulC (K : PySem.W.Frag) (C f : Addr) : Prop where
  self : PySem.W.selfFirst K C = true
  find : PySem.W.findIn K (.ref C) "__mul__" = some (some (.ref f))
  fn : PySem.W.isFn K (.ref f) = true
theorem MulC.cls (h : MulC K C f) : ∃ cd rest, PySem.W.clsIn K C = some cd ∧ cd.mro = .ref C :: rest := by
  have h1 := h.self
  unfold PySem.W.selfFirst at h1
  cases e : PySem.W.clsIn K C with
  | none =>
    rw [e] at h1
    cases h1
  | some cd =>
    rw [e] at h1
    have h2 : cd.mro.head? = some (.ref C) := by simpa using h1
    cases e2 : cd.mro with
    | nil =>
      rw [e2] at h2
      cases h2
    | cons c rest =>
      rw [e2] at h2
      cases h2
      exact ⟨cd, rest, rfl, e2⟩
end
section
variable {X : Cx} {CX : CXT} {C g : Addr} {n : Nat} {sp : Sp} {E : XK}
def rMulOwn (K : PySem.W.Frag) (C : Addr) (sp : Sp) (E : XK) : R2 := fun x y H Q => ∃ a b dx dy vs ws, x = .ref a ∧ y = .ref b ∧ Slt H a C dx vs ∧ Slt H b C dy ws ∧ sp [x, y] H (fun z H' => (∃ r, z = .ref r) ∧ Q z H') E
end
section
variable {prog : Program} {w : PySem.World} {A : Around} {E : Value → Shared → Prop} {s : Shared} {K : PySem.W.Frag} {x C f : Addr} {ox : Obj} {od : Option Obj}
end
section
variable {M : Model} {A : Around} {E : Value → Shared → Prop} {s : Shared}
end
section
variable {X : Cx} {CX : CXT} {C g : Addr} {n : Nat} {sp : Sp} {E : XK}
def tCallI (C : Addr) (sp : Sp) (E : XK) (to : TE) (t : TA) : TE := fun σ H Q => to σ H fun x H1 => ∃ a, x = .ref a ∧ t σ H1 fun us H2 => ∃ dx vs, Slt H2 a C dx vs ∧ sp (.ref a :: us) H2 Q E
end
section
variable {X : Cx} {CX : CXT} {C g : Addr} {n : Nat} {fd : FuncData} {ps : List Str} {sp : Sp} {E : XK}
def rReprOwn (C : Addr) (sp : Sp) (E : XK) : List V → Hp → VK → Prop := fun xs H Q => ∃ a dx vs, xs = [V.ref a] ∧ Slt H a C dx vs ∧ sp [.ref a] H (fun z H' => (∃ t : Str, z = .str t) ∧ Q z H') E
end
structure SMet (K : PySem.W.Frag) (C : Addr) (mc : Value) (m : Str) (p g : Addr) : Prop where
  rd : ClX.CRead K C mc
  ty : PySem.W.typeIn K (.ref C) = some mc
  at_ : PySem.W.findCls K (.ref C) mc m = some (.get (.builtin "staticmethod.__get__") (.ref p) .none (.ref C))
  rc : ∃ rest, PySem.W.recIn K p "staticmethod" = some (.ref g :: rest)
  kp : PySem.W.keepIn K (.ref g) = true
def tSMeth (C : Addr) (sp : Sp) (E : XK) (ta : TE) (t : TA) : TE := fun σ H Q => ta σ H fun x H1 => x = .ref C ∧ t σ H1 fun vs H2 => sp vs H2 Q E
section
variable {X : Cx} {CX : CXT} {k : Nat} {C p g : Addr} {mc : Value} {sp : Sp} {E : XK} {o e : Expr} {es : List Expr} {m : Str} {pos apos : Pos} {ta : TE} {t : TA} {pl : Sem Bool}
end
def tFmtRD (K : PySem.W.Frag) (te : TE) : TE := fun σ H Q => te σ H fun x H1 => ∃ (a : Addr) (d : PyData), x = .ref a ∧ Dp K H1 (.ref a) d ∧ d.showable = true ∧ d.hasDict = false ∧ d.depth ≤ 60 ∧ d.shown.length ≤ sizeLine ∧ Q (.str d.shown) H1
section
variable {X : Cx}
end
section
variable {X : Cx} {CX : CXT} {C g : Addr} {k : Nat} {fd : FuncData} {ps : List Str} {sp : Sp} {E : L2.St → XK} {a b : Expr} {ta tb : TE} {pos : Pos}
def tMulS (C : Addr) (sp : Sp) (E : L2.St → XK) (ta tb : TE) : TE := fun σ H Q => ta σ H fun x H1 => tb σ H1 fun y H2 => ∃ p q dx dy vs ws, x = .ref p ∧ y = .ref q ∧ Slt H2 p C dx vs ∧ Slt H2 q C dy ws ∧ sp [.ref p, .ref q] H2 (fun z H' => (∃ r, z = .ref r) ∧ Q z H') (E σ)
end
structure StatAt (K : PySem.W.Frag) (C : Addr) (m q : Str) (st : Stmt) (ps : List Str) where
  f : Addr
  fd : FuncData
  F : Fun K m q st f fd
  p : Addr
  S : SMet K C (.type "type") m p f
  b : Binds K fd ps []
end Fm
namespace Fm
open PySem PySem.Spec PyProof.Rows L2 SlX
def rIsiTX (K : PySem.W.Frag) : List V → Hp → VK → Prop := fun xs H Q => rIsiT K xs H Q ∨ ∃ (a C dx : Addr) (vs : List (Option V)) (tp : Addr) (cs : List V) (us : List Value) (b : Bool), xs = [.ref a, .ref tp] ∧ H tp = some (.tup cs) ∧ Paired ClsV cs us ∧ Slt H a C dx vs ∧ SCls K C ∧ SIsi K C ∧ PySem.W.kitAny K (.ref C) us = some b ∧ Q (.bl b) H
theorem call_isiTX {X : Cx} : CallR X (.builtin "isinstance") (rIsiTX X.K) := by
  intro pins s σ H xs us Q I r h
  rcases h with h | ⟨a, C, dx, vs, tp, cs, ws, b, rfl, hT, k, hsl, hc, hi, hk, q⟩
  · exact call_isiT pins s σ H xs us Q I r h
  · obtain ⟨u1, u2, rfl, r1, r2⟩ := r.two
    cases (show u1 = Value.ref a from r1)
    cases (show u2 = Value.ref tp from r2)
    obtain ⟨sl, od, _, J, _⟩ := slt_inst I hsl
    obtain ⟨_, its, rv, o, h1, h2, n, h3⟩ := (show ObjOk X.prog X.w H s.heap tp (.tup cs) from I.hok tp _ hT)
    have e3 := ClsV.all k rv
    subst e3
    obtain ⟨oc, od2, dt, sl2⟩ := o
    simp only at h2 h3
    subst h2 h3
    exact PySem.W.kia_tup (OwX.kitx_slt hc.ic (hc.get _) hi.ca hi.cn hi.ct hi.cm) I.kIn J h1 hk (fun z => nomatch z) fun tk => ⟨.bl b, H, I.tok _, rfl, q⟩
theorem kitAny_no {K : PySem.W.Frag} {C : Addr} (h1 : PySem.W.subIn K (.ref C) (.type "list") = some false) (h2 : PySem.W.subIn K (.ref C) (.type "tuple") = some false) : PySem.W.kitAny K (.ref C) [.type "list", .type "tuple"] = some false := by
  have k : ∀ T : String, PySem.W.kitMeta T = true → PySem.W.subIn K (.ref C) (.type T) = some false → PySem.W.kitOne K (.ref C) (.type T) = some false := fun T hm hs => by
    unfold PySem.W.kitOne
    rw [if_neg (by intro z; cases (of_decide_eq_true z))]
    show (if _ then _ else _) = _
    rw [if_pos hm]
    exact hs
  unfold PySem.W.kitAny
  rw [k "list" (by decide +kernel) h1]
  unfold PySem.W.kitAny
  rw [k "tuple" (by decide +kernel) h2]
  rfl
def Txo (x : Str) : Prop := ∀ c ∈ x.cps.toList, c < 0x110000
theorem Txo.ok {x : Str} (h : Txo x) : PyData.strOk x = true := by
  show x.cps.all (· < 0x110000) = true
  rw [Array.all_eq_true_iff_forall_mem]
  intro c hc
  have := h c (by simpa using hc)
  simpa using this
theorem txo_of {x : Str} (h : PyData.strOk x = true) : Txo x := fun c hc => by
  have h' : x.cps.all (· < 0x110000) = true := h
  rw [Array.all_eq_true_iff_forall_mem] at h'
  simpa using h' c (by simpa using hc)
theorem Txo.app {x y : Str} (h : Txo x) (k : Txo y) : Txo (x ++ y) := fun c hc => by
  have e : (x ++ y).cps = x.cps ++ y.cps := rfl
  rw [e, Array.toList_append, List.mem_append] at hc
  exact hc.elim (h c) (k c)
theorem char_lt (c : Char) : c.toNat < 0x110000 := by
  have := c.valid
  have e : c.toNat = c.val.toNat := rfl
  rcases this with h | ⟨_, h⟩ <;> omega
theorem txo_str (s : String) : Txo (Str.ofString s) := fun c hc => by
  rw [Str.ofString_eq_toList] at hc
  obtain ⟨d, _, rfl⟩ := List.mem_map.mp (by simpa using hc)
  exact char_lt d
theorem repr_lt {q c : Nat} (hq : q < 0x110000) (hc : c < 0x110000) : ∀ d ∈ Builtin.Str.reprChar q c, d < 0x110000 := by
  have hx : ∀ w : Nat, ∀ d ∈ List.replicate (w - ((Nat.toDigits 16 c).map Char.toNat).length) 48 ++ (Nat.toDigits 16 c).map Char.toNat, d < 0x110000 := fun w d hd => by
    rcases List.mem_append.mp hd with h | h
    · have := (List.mem_replicate.mp h).2
      omega
    · obtain ⟨e, _, rfl⟩ := List.mem_map.mp h
      exact char_lt e
  intro d hd
  unfold Builtin.Str.reprChar at hd
  dsimp only at hd
  repeat' split at hd
  all_goals first
    | (simp only [List.mem_cons, List.not_mem_nil, or_false] at hd; omega)
    | (simp only [List.mem_append, List.mem_cons, List.not_mem_nil, or_false] at hd
       rcases hd with h | h
       · omega
       · exact hx _ d (List.mem_append.mpr h))
theorem fold_lt {q : Nat} (hq : q < 0x110000) : ∀ (l : List Nat) (acc : Array Nat), (∀ c ∈ l, c < 0x110000) → (∀ c ∈ acc.toList, c < 0x110000) → ∀ c ∈ (l.foldl (fun out c => out ++ (Builtin.Str.reprChar q c).toArray) acc).toList, c < 0x110000
  | [], acc, _, h, c, hc => h c hc
  | x :: l, acc, hl, h, c, hc => by
    refine fold_lt hq l _ (fun d hd => hl d (List.mem_cons_of_mem _ hd)) (fun d hd => ?_) c hc
    rw [Array.toList_append, List.mem_append] at hd
    exact hd.elim (h d) (repr_lt hq (hl x List.mem_cons_self) d)
theorem txo_repr {x : Str} (h : Txo x) : Txo (reprText x) := fun c hc => by
  unfold reprText at hc
  have hq : reprQuote x < 0x110000 := by
    unfold reprQuote
    split <;> omega
  rw [Array.toList_push, List.mem_append, ← Array.foldl_toList] at hc
  rcases hc with hc | hc
  · refine fold_lt hq x.cps.toList #[reprQuote x] h (fun d hd => ?_) c hc
    simp at hd
    omega
  · simp at hc
    omega
theorem txo_from : ∀ (ts : List Str) (k : Nat) (acc : Str), Txo acc → (∀ t ∈ ts, Txo t) → Txo (textFrom k acc ts)
  | [], _, acc, h, _ => h
  | t :: ts, k, acc, h, hs => by
    show Txo (textFrom (k + 1) (acc ++ (if k > 0 then ", " else "" : String) ++ t) ts)
    exact txo_from ts (k + 1) _ ((h.app (txo_str _)).app (hs t List.mem_cons_self)) fun u hu => hs u (List.mem_cons_of_mem _ hu)
theorem txo_join {sep : Str} (hsep : Txo sep) : ∀ ts : List Str, (∀ t ∈ ts, Txo t) → Txo (Str.join sep ts)
  | [], _ => fun c hc => by
    have e : (Str.join sep []).cps.toList = [] := rfl
    rw [e] at hc
    cases hc
  | [t], h => h t List.mem_cons_self
  | t :: u :: ts, h => by
    show Txo (t ++ sep ++ Str.join sep (u :: ts))
    exact ((h t List.mem_cons_self).app hsep).app (txo_join hsep (u :: ts) fun v hv => h v (List.mem_cons_of_mem _ hv))
mutual
theorem txo_shown : ∀ d : PyData, fine d → Txo d.shown
  | .none, _ => by simp only [PyData.shown]; exact txo_str _
  | .bool b, _ => by cases b <;> (simp only [PyData.shown]; exact txo_str _)
  | .int i, _ => by simp only [PyData.shown]; exact txo_str _
  | .str x, h => by simp only [PyData.shown]; exact txo_repr (txo_of h)
  | .list xs, h => by
    simp only [PyData.shown]
    unfold listText
    exact (txo_from _ _ _ (txo_str _) (txo_showns xs h)).app (txo_str _)
  | .tuple xs, h => by
    simp only [PyData.shown]
    unfold tupleText
    exact ((txo_str _).app (txo_join (txo_str _) _ (txo_showns xs h))).app (txo_str _)
  | .dict _, h => h.elim
theorem txo_showns : ∀ xs : List PyData, fineAll xs → ∀ t ∈ PyData.shownAll xs, Txo t
  | [], _, t, ht => by simp [PyData.shownAll] at ht
  | x :: xs, h, t, ht => by
    simp only [PyData.shownAll, List.mem_cons] at ht
    rcases ht with rfl | ht
    · exact txo_shown x h.1
    · exact txo_showns xs h.2 t ht
end
end Fm
namespace Fm
open PySem PySem.Spec PyProof.Rows L2
def rRepTB (K : PySem.W.Frag) : R2 := fun x y H Q => ∃ l k xs, x = .ref l ∧ y = .int k ∧ SqT K H l xs ∧ xs ≠ [] ∧ 2 ≤ k ∧ k ≤ 1000000 ∧ xs.length * k.toNat ≤ 1000000 ∧ ∀ p, H p = none → Q (.ref p) (upd H p (.tup (List.replicate k.toNat xs).flatten))
section
variable {X : Cx}
end
end Fm
namespace Fm
open PySem PySem.Spec PyProof.Rows L2
section
variable {P : Program} {w : World}
def Apart (P : Program) (w : World) (e f : Int × Value) : Prop := ∀ k : Str, (strKind P w).is k e.2 = true → (strKind P w).is k f.2 = true → False
theorem apart_symm {e f : Int × Value} (h : Apart P w e f) : Apart P w f e := fun k a b => h k b a
def SetS (P : Program) (w : World) (h : Heap) (a : Addr) (S : Str → Bool) (n : Nat) : Prop := ∃ (o : Obj) (es : Array (Int × Value)) (ep : Nat) (t : SetTable), h.get? a = some o ∧ (o.ExactSet ∧ o.data = .set es ep t) ∧
  (ElemsOf (strKind P w) es.toList ∧ es.toList.Pairwise (Apart P w) ∧ ∀ k, S k = true ↔ ∃ e ∈ es.toList, (strKind P w).is k e.2 = true) ∧ (es.size < scanBound ∧ t.fits es.size = true ∧ es.size = n) ∧ Ris t.place.toList ∧ (w.params.followText "set-order" = true ∨ t.led = true)
theorem SetS.at {h h' : Heap} {a : Addr} {S : Str → Bool} {n : Nat} (R : SetS P w h a S n) (k : ∀ o, h.get? a = some o → h'.get? a = some o) : SetS P w h' a S n := by
  obtain ⟨o, es, ep, t, ho, r⟩ := R
  exact ⟨o, es, ep, t, k o ho, r⟩
theorem SetS.as {h : Heap} {a : Addr} {S S' : Str → Bool} {n : Nat} (R : SetS P w h a S n) (e : ∀ k, S' k = S k) : SetS P w h a S' n := by
  rw [funext e]
  exact R
theorem SetS.new {h : Heap} {a : Addr} {xs : List Str} (ho : h.get? a = some (eset w)) : SetS P w h a (fun k => decide (k ∈ xs.take 0)) 0 := by
  refine ⟨_, #[], 0, _, ho, ⟨⟨rfl, rfl, rfl⟩, rfl⟩, ⟨fun e he => by simp at he, .nil, fun k => by simp⟩, ⟨by decide, by rfl, rfl⟩, .nil, ?_⟩
  show _ ∨ (!w.params.followText "set-order") = true
  cases w.params.followText "set-order" with
  | true => exact .inl rfl
  | false => exact .inr rfl
abbrev rly (t : SetTable) (es : Array (Int × Value)) := relayAll t es (SetTable.grown es.size)
variable {A : Around} {E : Value → Shared → Prop} {s : Shared} {a : Addr} {S : Str → Bool} {n : Nat}
theorem sets_tail {g : Bool → Sem Unit} (hg : ∀ (b : Bool) (s1 : Shared) (Q : Unit → Shared → Prop), Q () s1 → wpAny (model P w) A (g b) Q E s1) {o : Obj} {es es1 : Array (Int × Value)} {ep : Nat} {t t2 : SetTable}
    (ho : s.heap.get? a = some o) (hx : o.ExactSet ∧ o.data = .set es ep t) (hE : ElemsOf (strKind P w) es1.toList ∧ es1.toList.Pairwise (Apart P w) ∧ ∀ k, S k = true ↔ ∃ e ∈ es1.toList, (strKind P w).is k e.2 = true)
    (hB : es1.size < scanBound) (hF : t2.fits es1.size = true) (hR : Ris t2.place.toList) (hL : w.params.followText "set-order" = true ∨ t2.led = true) {dm : Bool} {R : Option Bool → Shared → Prop}
    (fin : ∀ h', Heap.SameBut a s.heap h' → SetS P w h' a S es1.size → R (some true) { s with heap := h' }) :
    wpAny (model P w) A (do
      storeSet a es1 t2
      if (!dm && t2.tooFull) = true then do g (rly t2 es1).2.2; storeSet a (rly t2 es1).1 (rly t2 es1).2.1; pure (some true)
      else pure (some true)) R E s := by
  obtain ⟨hex, hd⟩ := hx
  obtain ⟨hE1, hE2, hE3⟩ := hE
  have put : ∀ {h : Heap} {o' : Obj} {e0 e1 : Array (Int × Value)} {ep' : Nat} {t0 t1 : SetTable}, h.get? a = some o' → o'.data = .set e0 ep' t0 → (h.update a (Obj.putSet e1 t1)).get? a = some { o' with data := .set e1 (ep' + 1) t1 } := fun hh hdd => store_at hh hdd
  refine wpAny_bind (wpAny_storeSet_of ho hd ?_ (fits_of_scanBound hB))
  have at1 := put (e1 := es1) (t1 := t2) ho hd
  have sb := Heap.SameBut.update s.heap a (Obj.putSet es1 t2)
  split
  · have q1 := relayAll_perm t2 es1 (SetTable.grown es1.size)
    have q2 := relayAll_fits t2 es1 (SetTable.grown es1.size)
    have q3 := relayAll_ris t2 es1 (SetTable.grown es1.size)
    have q4 := relayAll_led t2 es1 (SetTable.grown es1.size)
    rcases hz : relayAll t2 es1 (SetTable.grown es1.size) with ⟨f1, f2, f3⟩
    unfold rly
    rw [hz] at q1 q2 q3 q4 ⊢
    dsimp only at q1 q2 q3 q4 ⊢
    have hl : f1.size = es1.size := by rw [← Array.length_toList, q1.length_eq, Array.length_toList]
    refine wpAny_bind (hg _ _ _ (wpAny_bind (wpAny_storeSet_of at1 rfl ?_ (fits_of_scanBound (by rw [hl]; exact hB)))))
    refine wpAny_pure (fin _ (sb.trans (Heap.SameBut.update _ a _)) ⟨_, f1, _, f2, put at1 rfl, ⟨hex, rfl⟩, ⟨hE1.perm q1, (q1.pairwise_iff apart_symm).mpr hE2, fun k => ?_⟩, ⟨by rw [hl]; exact hB, q2, hl⟩, q3, hL.imp id fun z => q4.trans z⟩)
    rw [hE3 k]
    exact ⟨fun ⟨e, he, hk⟩ => ⟨e, q1.mem_iff.mpr he, hk⟩, fun ⟨e, he, hk⟩ => ⟨e, q1.mem_iff.mp he, hk⟩⟩
  · exact wpAny_pure (fin _ sb ⟨_, es1, _, t2, at1, ⟨hex, rfl⟩, ⟨hE1, hE2, hE3⟩, ⟨hB, hF, rfl⟩, hR, hL⟩)
theorem sets_add {k : Str} {tk : Tok} {Q : Bool → Shared → Prop} (R : SetS P w s.heap a S n) (room : n + 1 < scanBound)
    (fin : ∀ h', Heap.SameBut a s.heap h' → SetS P w h' a (fun j => S j || decide (j = k)) (if S k = true then n else n + 1) → Q (!S k) { s with heap := h' }) :
    wpAny (model P w) A (setAddHashed a (.str k tk) ((strKind P w).hash k)) Q E s := by
  obtain ⟨o, es, ep, t, ho, ⟨hex, hd⟩, ⟨hE1, hE2, hE3⟩, ⟨hB, hF, hN⟩, hR, hL⟩ := R
  have isk : (strKind P w).is k (.str k tk) = true := strKind_is P w k tk
  have sck : (Value.str k tk).scannable = true := rfl
  unfold setAddHashed setAddHashedIn
  refine wpAny_holding (wpAny_bind (wpAny_setState_of ho hd hF ?_))
  dsimp only
  rw [byScan_of sck hB hE1, if_pos rfl]
  unfold setAddByScan
  refine wpAny_bind (wpAny_bind (wpAny_rule (wpAny_bind (wpAny_setScan_of isk ho hd hF hE1 ?_))))
  rcases hfi : List.findIdx? (fun e : Int × Value => (strKind P w).is k e.2) es.toList with _ | j
  · dsimp only
    have no : ∀ e ∈ es.toList, (strKind P w).is k e.2 = true → False := fun e he z => by
      have := List.findIdx?_eq_none_iff.mp hfi e he
      rw [z] at this
      cases this
    have sk : S k = false := by
      cases z : S k with
      | false => rfl
      | true =>
        obtain ⟨e, he, hk⟩ := (hE3 k).mp z
        exact (no e he hk).elim
    have q1 := layNew_perm t es ((strKind P w).hash k) (.str k tk)
    have q2 := layNew_fits t es ((strKind P w).hash k) (.str k tk)
    have q3 := layNew_ris t es ((strKind P w).hash k) (.str k tk) hR
    have q4 := layNew_led t es ((strKind P w).hash k) (.str k tk)
    rcases hz : layNew t es ((strKind P w).hash k) (.str k tk) with ⟨f1, f2, dm, gv⟩
    rw [hz] at q1 q2 q3 q4
    dsimp only at q1 q2 q3 q4 ⊢
    rw [Array.toList_push] at q1
    have q5 : f1.toList.Perm (((strKind P w).hash k, Value.str k tk) :: es.toList) := q1.trans (List.perm_append_singleton _ _)
    have hl : f1.size = n + 1 := by rw [← Array.length_toList, q5.length_eq, List.length_cons, Array.length_toList, hN]
    have hE' : ElemsOf (strKind P w) f1.toList ∧ f1.toList.Pairwise (Apart P w) ∧ ∀ i, (S i || decide (i = k)) = true ↔ ∃ e ∈ f1.toList, (strKind P w).is i e.2 = true := by
      refine ⟨(hE1.push isk sck).perm q1, (q5.pairwise_iff apart_symm).mpr (.cons (fun e he j hj hje => ?_) hE2), fun i => ?_⟩
      · cases (strKind P w).inj _ j k hj isk
        exact no e he hje
      · rw [Bool.or_eq_true, decide_eq_true_eq, hE3 i]
        constructor
        · rintro (⟨e, he, hk⟩ | rfl)
          · exact ⟨e, q5.mem_iff.mpr (List.mem_cons_of_mem _ he), hk⟩
          · exact ⟨_, q5.mem_iff.mpr List.mem_cons_self, isk⟩
        · rintro ⟨e, he, hk⟩
          rcases List.mem_cons.mp (q5.mem_iff.mp he) with rfl | he
          · exact .inr ((strKind P w).inj _ i k hk isk)
          · exact .inl ⟨e, he, hk⟩
    have hL' : w.params.followText "set-order" = true ∨ f2.led = true := hL.imp id fun z => q4.trans z
    have fin' : ∀ h', Heap.SameBut a s.heap h' → SetS P w h' a (fun j => S j || decide (j = k)) f1.size → Q true { s with heap := h' } := fun h' sb r => by
      have := fin h' sb
      rw [sk] at this
      rw [hl] at r
      exact this r
    have hB' : f1.size < scanBound := by rw [hl]; exact room
    have gw : ∀ (b : Bool) {s1 : Shared} {Q' : Unit → Shared → Prop}, Q' () s1 → wpAny (model P w) A (match b with | true => rule "set.scan.the-table-gave-way" | false => pure ()) Q' E s1 := fun b s1 Q' q => by
      cases b
      · exact wpAny_pure q
      · exact wpAny_rule q
    refine wpAny_bind (gw _ ?_)
    split
    · refine wpAny_bind ?_
      rw [hashByValue_scannable 8 sck]
      refine wpAny_pure (sets_tail ?_ ho ⟨hex, hd⟩ hE' hB' ?_ ?_ ?_ ?_)
      · intro b s1 Q' q
        exact gw b q
      · first | (split <;> first | exact q2 | exact SetTable.fits_plain_off q2) | exact q2
      · first | (split <;> exact q3) | exact q3
      · first | (split <;> exact hL') | exact hL'
      · exact fun h' sb r => wpAny_pure (fin' h' sb r)
    · refine wpAny_bind (wpAny_pure ?_)
      rw [if_pos rfl]
      refine sets_tail ?_ ho ⟨hex, hd⟩ hE' hB' q2 q3 hL' ?_
      · intro b s1 Q' q
        exact gw b q
      · exact fun h' sb r => wpAny_pure (fin' h' sb r)
  · dsimp only
    obtain ⟨hj, pj, _⟩ := List.findIdx?_eq_some_iff_getElem.mp hfi
    have sk : S k = true := (hE3 k).mpr ⟨es.toList[j], List.getElem_mem hj, pj⟩
    have q := fin s.heap (Heap.SameBut.refl a s.heap) ⟨o, es, ep, t, ho, ⟨hex, hd⟩, ⟨hE1, hE2, fun i => ?_⟩, ⟨hB, hF, by rw [if_pos sk]; exact hN⟩, hR, hL⟩
    · rw [sk] at q
      exact wpAny_pure (wpAny_pure q)
    · rw [Bool.or_eq_true, decide_eq_true_eq, ← hE3 i]
      exact ⟨fun z => z.elim id fun e => by rw [e]; exact sk, .inl⟩
theorem sets_update {I : Addr} {fp wr : List Addr} {G : Array GenState → Array GenState → Prop} {m : Nat} {Pv : Nat → Value → Prop} {St : Nat → Shared → Prop} {R : Result → Shared → Prop}
    (W : WalksS P w A.in1 I fp wr G m Pv St) (a : Addr) (ha : a ∉ fp) (xs : List Str) (hm : m = xs.length) (hb : xs.length + 1 < scanBound) (hval : ∀ i v, Pv i v → ∃ k t, xs[i]? = some k ∧ v = .str k t) :
    ∀ (d i : Nat) (s : Shared), m - i = d → i ≤ m → St i s → (∃ c, c ≤ i ∧ SetS P w s.heap a (fun j => decide (j ∈ xs.take i)) c) →
      (∀ s' c, Moved (a :: wr) G s s' → c ≤ m → SetS P w s'.heap a (fun j => decide (j ∈ xs)) c → R (.ok (.ret .none)) s') → codeAny (model P w) A (.builtin "set.update.loop" ⟨[.ref a, .ref I], []⟩) R s := by
  have haw : a ∉ wr := fun z => ha (W.sub _ z)
  have more : ∀ b ∈ wr, b ∈ a :: wr := fun _ z => List.mem_cons_of_mem _ z
  intro d
  induction d with
  | zero =>
    rintro i s e1 e2 st ⟨c, hc, R0⟩ fin
    obtain rfl : i = m := by omega
    refine codeAny_builtin F.entry_set_update_loop ?_
    rw [Around.under_plainId F.plain_set_update_loop _]
    refine wpAny_bind (m := pyNext (.ref I)) (W.done s _ _ st fun s' mv => ?_)
    rw [List.take_of_length_le (by omega)] at R0
    exact wpAny_pure (fin s' c (mv.mono more) hc (R0.at fun o e => mv.heap a o haw e))
  | succ d ih =>
    rintro i s e1 e2 st ⟨c, hc, R0⟩ fin
    have lt : i < m := by omega
    refine codeAny_builtin F.entry_set_update_loop ?_
    rw [Around.under_plainId F.plain_set_update_loop _]
    refine wpAny_bind (m := pyNext (.ref I)) (W.item i s _ _ lt st fun v s' hP st' mv => ?_)
    obtain ⟨z, t, hz, rfl⟩ := hval i v hP
    have R1 := R0.at fun o e => mv.heap a o haw e
    refine wpAny_bind (m := holding [Value.str z t] (setAdd a (.str z t))) (wpAny_holding ?_)
    unfold setAdd
    refine wpAny_holding (wpAny_bind ((strKind P w).pyHash (k := z) (strKind_is P w z t) ?_))
    refine sets_add (s := { s' with toks := s'.toks + 1 }) R1 (by omega) fun g sb R2 => ?_
    have R3 : SetS P w g a (fun j => decide (j ∈ xs.take (i + 1))) (if decide (z ∈ xs.take i) = true then c else c + 1) := R2.as fun j => by
      rw [List.take_add_one, hz]
      simp [List.mem_append]
    have c3 : (if decide (z ∈ xs.take i) = true then c else c + 1) ≤ i + 1 := by split <;> omega
    have keep : ∀ b o, b ≠ a → s'.heap.get? b = some o → g.get? b = some o := fun b o hb e => by rw [sb.2 b hb]; exact e
    refine wpAny_pure ⟨plainId_quiet F.plain_set_update_loop _, ih (i + 1) _ (by omega) lt (W.frame _ s' _ _ st' (Nat.le_succ _) fun b hb o e => keep b o (fun z => ha (z ▸ hb)) e) ⟨_, c3, R3⟩ fun s2 c2 mv2 hc2 R4 => ?_⟩
    exact fin s2 c2 (Moved.trans W.gtrans ((mv.mono more).then_heap (Nat.le_succ _) fun b o hb e => keep b o (fun z => hb (z ▸ List.mem_cons_self)) e) mv2) hc2 R4
set_option maxHeartbeats 8000000 in
theorem set_of_strs {l : Addr} {its : Array Value} (xs : List Str) {Q : Value → Shared → Prop} (hh : A.handled = none) (hl : s.heap.IsList l its) (hi : StrsAre its.toList xs) (hb : xs.length + 1 < scanBound)
    (h : ∀ (g : Heap) (tk c : Nat), c ≤ xs.length → SetS P w g s.heap.objs.size (fun j => decide (j ∈ xs)) c → (∀ b o, s.heap.get? b = some o → g.get? b = some o) → Q (.ref s.heap.objs.size) { s with heap := g, toks := tk }) :
    wpAny (model P w) A (call (.type "set") [.ref l]) Q E s := by
  have hn : its.size = xs.length := by rw [← Array.length_toList]; exact StrsAre.length hi
  obtain ⟨mc, mt, mro⟩ := F.called_set.mro
  have mk1 := F.called_set.made
  have mk2 := F.called_set.sub
  refine wpAny_call (codeAny_of_tree (show wpAny _ _ (callAny (.type "set") _) _ _ _ from wpAny_pure ⟨Code.quiet_builtin _ (by decide +kernel), codeAny_builtin F.entry_type_call ?_⟩))
  rw [Around.under_plain (weight_type_call_type "set" [.ref l] []) rfl]
  have mk3 := F.called_set.notType
  have mk4 := F.called_set.canCreate
  have mk5 := F.typeCall_set_1 (.ref l)
  repeat (any_goals (first | assumption | wp_step))
  refine codeAny_mono (code_set_led1 (w := w) (s := s) (.ref l) (E := E)
    (Q₁ := fun obj s₁ => obj = .ref s.heap.objs.size ∧ s₁ = { s with heap := hset w s.heap }) ⟨rfl, rfl⟩) fun r s₁ hr => ?_
  match r, hr with
  | .error e, hr => exact hr
  | .ok (.ret obj), hr =>
    obtain ⟨rfl, rfl⟩ := hr
    have here : (hset w s.heap).get? s.heap.objs.size = some (eset w) := Heap.get?_push_size _ rfl
    have isS : Shared.TypeIs { s with heap := hset w s.heap } (.ref s.heap.objs.size) "set" := ⟨_, here, rfl⟩
    have in1 := F.called_set.init.lookup
    have in2 := F.called_set.init.bind (.ref s.heap.objs.size)
    repeat (any_goals (first | assumption | wp_step))
    have goes : codeAny (model P w) A.in1 (.call (.builtin "set.__init__") ⟨[.ref s.heap.objs.size, .ref l], []⟩) (wants (fun r s₂ => r = .none ∧ ∃ g tk c,
        s₂ = { s with heap := g, toks := tk } ∧ c ≤ xs.length ∧ SetS P w g s.heap.objs.size (fun j => decide (j ∈ xs)) c ∧ ∀ b o, s.heap.get? b = some o → g.get? b = some o) E) { s with heap := hset w s.heap } := by
      refine codeAny_call_builtin F.called_set.init.plain F.entry_set_init (check_set_init_1 isS ?_)
      obtain ⟨⟨oc, od, dt, sl⟩, hol, hcl, nl, hdl⟩ := id hl
      simp only at hcl hdl
      subst hcl hdl
      have lt := Heap.lt_size hol
      have hol2 : (hset w s.heap).get? l = some _ := Heap.get?_push_of_some _ hol
      have hl2 : (hset w s.heap).IsList l its := ⟨_, hol2, rfl, nl, rfl⟩
      have no1 := F.sub_list_set
      have no2 := F.sub_list_frozenset
      have no3 : (Value.type "list" == Value.type "dict") = false := by decide
      unfold Builtin.«set.__init__» noKeywords Builtin.Frozenset.updateFrom
      generalize hPI : pyIter = PI
      wp_walk
      subst hPI
      refine wpAny_pyIter_list hl2 (wpAny_bind (wpAny_runValue ?_))
      have sz2 : (hset w s.heap).objs.size = s.heap.objs.size + 1 := Heap.size_push ..
      have neI : l ≠ (hset w s.heap).objs.size := by
        rw [sz2]
        exact Nat.ne_of_lt (Nat.lt_succ_of_lt lt)
      have notIn : s.heap.objs.size ∉ [(hset w s.heap).objs.size, l] := by
        rw [sz2]
        intro z
        rcases List.mem_cons.mp z with z | z
        · exact Nat.ne_of_lt (Nat.lt_succ_self _) z
        · exact Nat.ne_of_gt lt (List.mem_singleton.mp z)
      have val : ∀ (i : Nat) (v : Value), its[i]? = some v → ∃ k t, xs[i]? = some k ∧ v = .str k t := fun i v hv => by
        obtain ⟨y, t, e1, e2⟩ := StrsAre.item hi i v (by rw [Array.getElem?_toList]; exact hv)
        exact ⟨y, t, e2, e1⟩
      have hh3 : A.in1.in1.in1.handled = none := by simp [hh]
      refine sets_update ((Walks.list hh3 _ l neI its).toS) s.heap.objs.size notIn xs hn hb val (its.size - 0) 0 _ (by omega) (Nat.zero_le _) ?st ?s0 ?fin
      case st => exact ⟨⟨_, Heap.get?_push_size _ rfl, rfl, rfl⟩, hl2.push _⟩
      case s0 => exact ⟨0, Nat.le_refl 0, .new (Heap.get?_push_of_some _ here)⟩
      case fin =>
        rintro ⟨g, gg, dd, tk, oo⟩ c' mv hc' hS'
        have e1 : gg = s.gens := mv.gens
        have e2 : dd = s.drawn := mv.drawn
        have e3 : oo = s.os := mv.os
        subst e1 e2 e3
        refine wpAny_pure (show wpAny _ _ (ret Value.none) _ _ _ from wpAny_pure ⟨rfl, g, tk, c', rfl, by omega, hS', fun b o e => ?_⟩)
        have b0 := Heap.lt_size e
        refine mv.heap b o (fun z => ?_) (Heap.get?_push_of_some _ (Heap.get?_push_of_some _ e))
        rcases List.mem_cons.mp z with z | z
        · exact Nat.ne_of_lt b0 z
        · have z2 := List.mem_singleton.mp z
          rw [sz2] at z2
          exact Nat.ne_of_lt (Nat.lt_succ_of_lt b0) z2
    refine codeAny_mono goes fun r₂ s₂ hr₂ => ?_
    match r₂, hr₂ with
    | .error e, hr₂ => exact hr₂
    | .ok (.ret r), hr₂ =>
      obtain ⟨rfl, g, tk, c', rfl, hc', hS', hk'⟩ := hr₂
      repeat (any_goals (first | assumption | wp_step))
      exact h _ _ _ hc' hS' hk'
end
end Fm
namespace Fm
open PySem PySem.W PySem.Calls PyProof.Rows PySem.HandSPX
abbrev xA (f : Str) (p1 p2 : Pos) : Arguments :=
  { posonlyargs := [], args := [{ arg := "self", annotation := none, pos := p1 }, { arg := f, annotation := none, pos := p2 }],
    vararg := none, kwonlyargs := [], kw_defaults := [], kwarg := none, defaults := [] }
abbrev xCall (f : Str) (q1 q2 q3 q4 q5 : Pos) : Expr := .Call (.Attribute (.Call (.Name "super" q1) [] [] q2) "__init__" q3) [.Name f q4] [] q5
abbrev xB (f : Str) (q1 q2 q3 q4 q5 q6 q7 q8 q9 q10 : Pos) : List Stmt :=
  [.Expr (xCall f q1 q2 q3 q4 q5) q6, .Assign [.Attribute (.Name "self" q7) f q8] (.Name f q9) q10]
abbrev xS (f : Str) : Scope :=
  { kind := .function, names := [(PySem.Str.ofString "self", .local), (f, .local), (PySem.Str.ofString "__class__", .free), (PySem.Str.ofString "super", .globalImplicit)],
    isGenerator := false, isCoroutine := false, more := [] }
structure ExT (P : Program) (K : Frag) (mg : Str → Option Value) (x f : Str) (C : Addr) : Prop where
  gC : mg x = some (.ref C)
  cls : ∃ nm q N bs bm sn sub ab col dd k0 k1 k2 k3 k5, K.lookup C = some (excClassObj nm q C N bs bm true sn sub ab col dd k0 k1 k2 k3 k5 "ValueError.__new__") ∧ refsVE bm = true
  sa : findIn K (.ref C) "__setattr__" = some (some (.builtin "object.__setattr__"))
  no : findIn K (.ref C) f = some none
  kC : keepIn K (.ref C) = true
  exC : subIn K (.ref C) (.type "BaseException") = some true
  veC : subIn K (.ref C) (.type "ValueError") = some true
  tyC : typeIn K (.ref C) = some (.type "type")
  hdC : hasDictIn K C = true
  up : ks_superIn K C C "__init__" = some (some (.builtin "ValueError.__init__"))
  opq : nsIn K cStatics "thirdparty.any" = some none
  self : mroIn K C (.ref C) = some true
  fn : ∃ (fI cda cc : Addr) (oc : Value) (od : Option Addr) (kV doc pm : Value) (an : Option Addr) (ct : Value) (osl : Array (Option Value)) (p1 p2 q1 q2 q3 q4 q5 q6 q7 q8 q9 q10 : Pos) (ql : Str),
    findIn K (.ref C) "__init__" = some (some (.ref fI)) ∧ typeIn K (.ref fI) = some (.type "function") ∧
    K.lookup fI = some ⟨oc, od, .func (ksFn "__init__" ql (xA f p1 p2) (xB f q1 q2 q3 q4 q5 q6 q7 q8 q9 q10) (xS f) .none kV doc pm an (.ref cda) ct cc), osl⟩ ∧ codeIn K (.ref cda) ql = true ∧
    (∃ cl cld csl, K.lookup cc = some ⟨cl, cld, .cell (some (.ref C)), csl⟩) ∧
    ∃ ccl cdd vs ccs file tf, K.lookup cda = some ⟨ccl, cdd, .fields vs, ccs⟩ ∧ vs[2]? = some (.str file tf) ∧ ((P.main.file : Str) == file) = true ∧
    (∀ e v, bindArgs (ksFn "__init__" ql (xA f p1 p2) (xB f q1 q2 q3 q4 q5 q6 q7 q8 q9 q10) (xS f) .none kV doc pm an (.ref cda) ct cc) ⟨[.ref e, v], []⟩ = pure [((PySem.Str.ofString "self" : Str), .ref e), (f, v)]) ∧
    ∀ L : Addr, ∃ pl, eval (xCall f q1 q2 q3 q4 q5) (ksEnv ql (xS f) L fI (.ref cda) cc) = (do
      let ov ← attributeBase (.Call (.Name "super" q1) [] [] q2) "__init__" (ksEnv ql (xS f) L fI (.ref cda) cc) (eval (.Call (.Name "super" q1) [] [] q2) (ksEnv ql (xS f) L fI (.ref cda) cc))
      standAt q3.atName
      let (g, first) ← holding [ov] (getMethod ov "__init__" pl)
      callWith q5 g first (backTo q5 (starEach [.Name f q4] (ksEnv ql (xS f) L fI (.ref cda) cc))) [])
  top : (P.main.scope.names.lookup ("super" : Str)).isSome = false
  sup : mg "super" = none
  f1 : (("self" : Str) == f) = false
  f2 : (f == ("self" : Str)) = false
  f3 : (f == ("__debug__" : Str)) = false
  f4 : (("super" : Str) == f) = false
  f5 : (("__class__" : Str) == f) = false
structure XEnd (h h' : Heap) (x C dx : Addr) (f : Str) (v : Value) : Prop where
  keep : ∀ b o, b ≠ x → h.get? b = some o → h'.get? b = some o
  obj : ∃ t1 : Addr, h'.get? x = some { cls := .ref C, dict := some dx, data := .fields #[.ref t1, .none, .none, .none, .bool false, .none] }
  dbig : h.objs.size ≤ dx
  dne : dx ≠ x
  ns : h'.Ns1 dx (fun y => if y = f then some v else none)
section
variable {P : Program} {w : PySem.World} {A : Around} {E : Value → Shared → Prop} {R : Result → Shared → Prop} {s : Shared} {K : Frag} {mg : Str → Option Value} {C : Addr} {x f : Str}
theorem look_f (T1 : (("self" : Str) == f) = false) (v u : Value) : ([((PySem.Str.ofString "self" : Str), u), (f, v)].reverse.lookup f) = some v := by
  simp [List.lookup]
theorem look_self (T2 : (f == ("self" : Str)) = false) (T1 : (("self" : Str) == f) = false) (v u : Value) : ([((PySem.Str.ofString "self" : Str), u), (f, v)].reverse.lookup (PySem.Str.ofString "self")) = some u := by
  simp only [List.reverse_cons, List.reverse_nil, List.nil_append, List.singleton_append, List.lookup_cons]
  rw [show ((PySem.Str.ofString "self" : Str) == f) = false from T1]
  simp
theorem xs_f (T2 : (f == ("self" : Str)) = false) : (xS f).names.lookup f = some .local := by
  simp only [xS, List.lookup_cons]
  rw [show (f == (PySem.Str.ofString "self" : Str)) = false from T2]
  simp
theorem xs_self : (xS f).names.lookup (PySem.Str.ofString "self") = some .local := by
  simp only [xS, List.lookup_cons]
  simp
theorem xs_super (h : (("super" : Str) == f) = false) : (xS f).names.lookup ("super" : Str) = some .globalImplicit := by
  simp only [xS, List.lookup_cons, h]
  rw [show ((PySem.Str.ofString "super" : Str) == PySem.Str.ofString "self") = false by decide +kernel, show ((PySem.Str.ofString "super" : Str) == PySem.Str.ofString "__class__") = false by decide +kernel]
  simp
theorem xs_class (h : (("__class__" : Str) == f) = false) : (xS f).names.lookup ("__class__" : Str) = some .free := by
  simp only [xS, List.lookup_cons, h]
  rw [show ((PySem.Str.ofString "__class__" : Str) == PySem.Str.ofString "self") = false by decide +kernel]
  simp
theorem vx_call {hp : Heap} {g : Array GenState} {d : Drawn} {t : Nat} {os : OsState} {u e t0 : Addr} {rest : List Value} {Q : Value → Shared → Prop} {nm q : Str} {N : Addr} {bs bm : List Value} {hdct : Bool} {sn : List Str} {sub : List Value} {ab : Bool} {col : Option Bool} {dd : Option Addr} {k0 k1 k2 k3 k5 : Option Value}
    (hC : hp.get? C = some (excClassObj nm q C N bs bm hdct sn sub ab col dd k0 k1 k2 k3 k5 "ValueError.__new__")) (he : hp.get? e = some (excO C t0)) (hu : hp.get? u = some (kxs_mw "ValueError.__init__" e)) (hz : rest.length ≤ sizeLine)
    (fin : ∀ h', (∀ b o, b ≠ e → hp.get? b = some o → h'.get? b = some o) → h'.get? e = some (excO C hp.objs.size) → Q .none ⟨h', g, d, t, os⟩) :
    wpAny (model P w) A (call (.ref u) rest) Q E ⟨hp, g, d, t, os⟩ := by
  refine wpAny_call (codeAny_of_tree ?_)
  show wpAny (model P w) A.in1 (callAny (.ref u) ⟨rest, []⟩) _ _ _
  simp only [callAny]
  refine wpAny_bind (wpAny_load hu ?_)
  simp only [kxs_mw]
  refine KFB.if_so (by decide) ?_
  refine wpAny_bind (check_bound_init PySem.F.excBase_ValueError.toExcCallFacts hC he rfl ?_)
  refine wpAny_bind (wpAny_pure (wpAny_pure ?_))
  refine ⟨plainId_quiet PySem.F.excBase_ValueError.init.plain _, codeAny_builtin PySem.F.excBase_ValueError.initEntry ?_⟩
  exact exc_init_tree (cls := .ref C) (t0 := t0) (dv := none) (c2 := .none) (c3 := .none) (b4 := .bool false) he hz fun h' k e' _ => fin h' k e'
theorem vx_init (T : ExT P K mg x f C) {e t0 fI : Addr} {v : Value} (X : K.In s.heap) (hG : s.heap.Ns mainGlobals mg) (hB : ∃ mb, s.heap.Ns builtinsNs mb ∧ ∀ y : Str, y ≠ "__name__" → mb y = bootBuiltins y) (hlim : s.heap.NoLimit)
    (hx : s.heap.get? e = some (excO C t0)) (hnx : K.lookup e = none) (hroom : A.depth < recursionLimit) (hI : findIn K (.ref C) "__init__" = some (some (.ref fI)))
    (hq : ∀ h' tk dx, XEnd s.heap h' e C dx f v → R (.ok (.ret .none)) { s with heap := h', toks := tk }) :
    codeAny (model P w) A (.call (.ref fI) ⟨[.ref e, v], []⟩) R s := by
  obtain ⟨fI', cda, cc, oc, od, kV, doc, pm, an, ct, osl, p1, p2, q1, q2, q3, q4, q5, q6, q7, q8, q9, q10, ql, hi, tI, ho, hcd, ⟨cl, cld, csl, hcell⟩, ccl, cdd, vs, ccs, file, tf, hcode, hvs, hfile, hbind, hev⟩ := T.fn
  obtain rfl : fI = fI' := by
    rw [hi] at hI
    cases hI
    rfl
  obtain ⟨nm, q, N, bs, bm, sn, sub, ab, col, dd, k0, k1, k2, k3, k5, hC, hbm⟩ := T.cls
  have hcl : clsIn K C = some { name := nm, bases := bs, mro := .ref C :: bm, ns := N, qualname := q, hasDict := true, slotNames := sn, subclasses := sub, abstract := ab, collection := col, hasDel := false } := by
    unfold clsIn
    rw [hC] <;> rfl
  obtain ⟨mb, hmb, hbt⟩ := hB
  have hxC : e ≠ C := fun z => by
    rw [z, hC] at hnx
    cases hnx
  have hkf : (ksEnv ql (xS f) s.heap.objs.size fI (.ref cda) cc).kindOf f = some .local := xs_f T.f2
  refine ks_codeAny_call_defAt (binds := [("self", .ref e), (f, v)]) hroom (X _ _ ho) rfl hlim (codeRec_of X hcd) rfl (BindsTo.of_eq (hbind _ _)) ?_ ?_ (fun h₁ hn hk₁ => ?_)
  · intro y hy
    simp only [xS, List.mem_cons, List.not_mem_nil, or_false] at hy
    rcases hy with rfl | rfl | rfl | rfl <;> exact fun z => nomatch z
  · intro y hy
    simp only [List.mem_cons, List.not_mem_nil, or_false] at hy
    rcases hy with rfl | rfl
    · rfl
    · exact xs_f T.f2
  · have X₁ : K.In h₁ := X.keeps hk₁
    have hx₁ := hk₁ _ _ hx
    have I₁ : InstAt h₁ e (excO C t0) C none := ⟨hx₁, rfl, rfl, trivial⟩
    obtain ⟨hp, g, dr, tk, os⟩ := s
    obtain ⟨pl, hev⟩ := hev hp.objs.size
    refine ks_wpAt_execs_cons (ks_wpAt_Expr_any (ks_wpAt_MethodCall (he := hev) ?_))
    refine ks_wpAt_super_base (env := ksEnv ql (xS f) hp.objs.size fI (.ref cda) cc) (ar := { arg := "self", annotation := none, pos := p1 }) ?_ ?_ (by decide) rfl (X₁ _ _ ho) rfl rfl rfl (X₁ _ _ hcode) rfl hvs hfile T.top ?_
    · exact xs_super T.f4
    · exact xs_class T.f5
    · refine ks_loadName_global rfl (xs_super T.f4) (loadGlobal_builtin (env := ksEnv ql (xS f) hp.objs.size fI (.ref cda) cc) (hG.keeps hk₁) T.sup (hmb.keeps hk₁) ((hbt _ (by decide +kernel)).trans (show bootBuiltins "super" = some (.type "super") by decide +kernel)) ⟨rfl, ?_⟩)
      refine wpAny_loadName_free rfl (xs_class T.f5) rfl ⟨_, X₁ _ _ hcell, rfl⟩ ?_
      refine wpAny_loadName_local rfl xs_self hn (look_self T.f2 T.f1 v (.ref e)) ?_
      refine ks_wpAny_isType_cls (X₁ _ _ hC) rfl ⟨rfl, ?_⟩
      refine ks_wpAny_call_super (X₁ _ _ hC) rfl hx₁ rfl (fun c z => nomatch z) (looks_mroIn X₁ T.self) (fun h₂ hso hk₂ => ?_)
      have X₂ : K.In h₂ := X₁.keeps hk₂
      have hx₂ := hk₂ _ _ hx₁
      have I₂ : InstAt h₂ e (excO C t0) C none := ⟨hx₂, rfl, rfl, trivial⟩
      refine kxs_getMethod kxs_ValueError hso (looks_opaque X₂ T.opq) (l₀ := .ref C :: bm) (fun A Q E s k q => wpAny_bind ((looks_clsIn X₂ hcl) A _ E s k (wpAny_pure q))) rfl X₂ (by have := T.up; unfold ks_superIn at this; rw [hcl] at this; exact this) (I₂.type.andThen (looks_subIn X₂ T.veC)) hxC (by decide) ?_
      have k₃ : ∀ b o, h₂.get? b = some o → (h₂.push (kxs_mw "ValueError.__init__" e)).get? b = some o := fun b o z => Heap.get?_push_of_some _ z
      have hu : (h₂.push (kxs_mw "ValueError.__init__" e)).get? h₂.objs.size = some (kxs_mw "ValueError.__init__" e) := Heap.get?_push_at rfl rfl
      have k03 : ∀ b o, hp.get? b = some o → (h₂.push (kxs_mw "ValueError.__init__" e)).get? b = some o := fun b o z => k₃ _ _ (hk₂ _ _ (hk₁ _ _ z))
      have n03 : (h₂.push (kxs_mw "ValueError.__init__" e)).Ns hp.objs.size (fun y => [((PySem.Str.ofString "self" : Str), Value.ref e), (f, v)].reverse.lookup y) := (hn.keeps hk₂).keeps k₃
      have z03 : h₂.objs.size < (h₂.push (kxs_mw "ValueError.__init__" e)).objs.size := by
        rw [Heap.size_push]
        exact Nat.lt_succ_self _
      generalize h₂.push (kxs_mw "ValueError.__init__" e) = h₃ at hu k03 n03 z03 ⊢
      refine kxs_callWith (i := "ValueError.__init__") (x := e) (by rfl) (evalArgs_plain ?_)
      refine Calls.spliced_cons (wpAny_Name (env := ksEnv ql (xS f) hp.objs.size fI (.ref cda) cc) (wpAny_loadName_local rfl hkf n03 (look_f T.f1 v (.ref e)) (Calls.spliced_nil ⟨hu, ?_⟩)) T.f3)
      refine vx_call (k03 _ _ (X _ _ hC)) (k03 _ _ hx) hu (by show 1 ≤ sizeLine; decide) fun h₄ k₄ hx₄ => ?_
      have k04 : ∀ b o, b ≠ e → hp.get? b = some o → h₄.get? b = some o := fun b o hb z => k₄ _ _ hb (k03 _ _ z)
      have X₄ : K.In h₄ := fun b o z => k04 b o (fun y => by rw [y, hnx] at z; cases z) (X _ _ z)
      have hLe : hp.objs.size ≠ e := Nat.ne_of_gt (Heap.lt_size hx)
      have n04 : h₄.Ns hp.objs.size (fun y => [((PySem.Str.ofString "self" : Str), Value.ref e), (f, v)].reverse.lookup y) := n03.at fun o z => k₄ _ _ hLe z
      show PySem.wpAt _ _ _ (execs _ _) _ _ _
      refine wpAt_of_wpAny (wpAny_execs_cons (plainObj_wpAny_Assign_Attribute (env := ksEnv ql (xS f) hp.objs.size fI (.ref cda) cc) ?_))
      refine wpAny_Name (env := ksEnv ql (xS f) hp.objs.size fI (.ref cda) cc) (wpAny_loadName_local rfl hkf n04 (look_f T.f1 v (.ref e)) ?_) T.f3
      refine wpAny_Name (env := ksEnv ql (xS f) hp.objs.size fI (.ref cda) cc) (wpAny_loadName_local rfl xs_self n04 (look_self T.f2 T.f1 v (.ref e)) ?_) (by decide)
      refine set_plain X₄ (ox := excO C h₃.objs.size) (od := none) ⟨hx₄, rfl, rfl, trivial⟩ T.sa ?_
      refine exc_osa X₄ hx₄ hcl (show refsVE (.ref C :: bm) = true from hbm) rfl T.no (fun h₅ tk₅ dx k₅ dn dne hx₅ hn₅ => ?_)
      have z4 : hp.objs.size < h₄.objs.size := n04.lt
      exact wpAny_execs_nil (hq h₅ tk₅ dx ⟨fun b o hb z => k₅ b o hb (k04 b o hb z), ⟨_, hx₅⟩, Nat.le_of_lt (Nat.lt_of_lt_of_le z4 dn), dne, hn₅⟩)
structure XMade (h h' : Heap) (e C d : Addr) (f : Str) (v : Value) : Prop where
  keep : ∀ b o, h.get? b = some o → h'.get? b = some o
  new : h.objs.size ≤ e
  obj : ∃ t1 : Addr, h'.get? e = some { cls := .ref C, dict := some d, data := .fields #[.ref t1, .none, .none, .none, .bool false, .none] }
  dbig : h.objs.size ≤ d
  dne : d ≠ e
  ns : h'.Ns1 d (fun y => if y = f then some v else none)
theorem vx_made (T : ExT P K mg x f C) {v : Value} (X : K.In s.heap) (hG : s.heap.Ns mainGlobals mg) (hB : ∃ mb, s.heap.Ns builtinsNs mb ∧ ∀ y : Str, y ≠ "__name__" → mb y = bootBuiltins y) (hlim : s.heap.NoLimit)
    (hroom : A.depth + 1 < recursionLimit) (hq : ∀ h' tk e d, XMade s.heap h' e C d f v → R (.ok (.ret (.ref e))) { s with heap := h', toks := tk }) :
    codeAny (model P w) A (.call (.ref C) ⟨[v], []⟩) R s := by
  obtain ⟨nm, q, N, bs, bm, sn, sub, ab, col, dd, k0, k1, k2, k3, k5, hC, hbm⟩ := T.cls
  obtain ⟨fI, _, _, _, _, _, _, _, _, _, _, _, _, _, _, _, _, _, _, _, _, _, _, _, hi, tI, _⟩ := T.fn
  obtain ⟨hp, g, dr, tk, os⟩ := s
  have k : ∀ b o, hp.get? b = some o → ((hp.push (kdv_tup [v])).push (excO C hp.objs.size)).get? b = some o := fun b o z => Heap.get?_push_of_some _ (Heap.get?_push_of_some _ z)
  have hget : ((hp.push (kdv_tup [v])).push (excO C hp.objs.size)).get? (hp.objs.size + 1) = some (excO C hp.objs.size) := by heap_get
  have hnx : K.lookup (hp.objs.size + 1) = none := by
    cases z : K.lookup (hp.objs.size + 1) with
    | none => rfl
    | some o => exact absurd (Nat.lt_of_succ_lt (Heap.lt_size (show hp.get? (hp.objs.size + 1) = some o from X _ _ z))) (Nat.lt_irrefl _)
  obtain ⟨mb, hmb, hbt⟩ := hB
  refine call_own PySem.F.excBase_ValueError (fun X => refsVE_contains X bm hbm) (X _ _ hC) (looks_findIn X hi) (fun self => bind_fn X self tI) (by show 1 ≤ sizeLine; decide) ?_
  refine vx_init (s := ⟨(hp.push (kdv_tup [v])).push (excO C hp.objs.size), g, dr, tk, os⟩) T (X.keeps k) (hG.keeps k) ⟨mb, hmb.keeps k, hbt⟩ (hlim.keeps k) hget hnx hroom hi fun h' tk' dx M => ⟨rfl, ?_⟩
  have z : hp.objs.size + 1 + 1 ≤ dx := by
    have q := M.dbig
    simpa only [Heap.size_push] using q
  exact hq h' tk' (hp.objs.size + 1) dx ⟨fun b o y => M.keep b o (Nat.ne_of_lt (Nat.lt_succ_of_lt (Heap.lt_size y))) (k b o y), Nat.le_succ _, M.obj, (by show hp.objs.size ≤ dx; omega), M.dne, M.ns⟩
end
end Fm
namespace Fm
open PySem PySem.Spec PyProof.Rows L2
theorem relO_one {v : V} {u : Value} (r : RelV v u) (f g : Str) : RelO (List.lookup g [(f, v)]) (if g = f then some u else none) := by
  by_cases hw : g = f
  · subst hw
    rw [if_pos rfl]
    rw [show List.lookup g [(g, v)] = some v by simp [List.lookup]]
    exact r
  · rw [if_neg hw]
    have q : (g == f) = false := by simpa using hw
    rw [show List.lookup g [(f, v)] = none by simp [List.lookup, q]]
    trivial
section
variable {X : Cx} {C : Addr} {x f : Str}
def tMkX (C : Addr) (f : Str) (ta : TA) : L2.St → Hp → XK → Prop := fun σ H Q => ta σ H fun vs H1 => ∃ v, vs = [v] ∧ ∀ d, H1 d = none → Q (.ref C) (some d) (upd H1 d (.xd [(f, v)]))
theorem pmk_x {a : Expr} {ta : TA} {p pos : Pos} {k : Nat} (T : ExT X.prog X.K X.mg x f C) (hr : Room k X.A) (ha : PA X [a] ta) (hg : Gl X x := by rfl) (hdb : (x == ("__debug__" : Str)) = false := by decide)
    (he : starEach (a :: []) X.env = (false, eval a X.env) :: starEach [] X.env := by rfl) (hpl : (backTo pos (starEach [] X.env)).any (·.1) = false := by rfl) :
    PMk X (.Call (.Name x p) [a] [] pos) (tMkX C f ta) := by
  intro pins s σ H Q I h
  refine wpAny_Call_Name_kw (ld_glob I hg T.gC ?_ hdb)
  refine PySem.W.callWith_K (h₀ := X.base) I.ok.mod.kin T.kC (thn (ha.run pos pins s σ H _ I h) fun us s1 hh => ?_) he hpl
  obtain ⟨vs, H1, I1, r1, v, rfl, q1⟩ := hh
  refine ⟨I1.kIn, ?_⟩
  obtain ⟨v', rfl, rv⟩ := r1.one
  have keepB : ∀ b o, X.base.get? b = some o → s1.heap.get? b = some o := fun b o z => (I1.env0.bs b o z).1
  have hG := I1.env0.mod.glob.keeps keepB
  obtain ⟨mb, hmb, hbt⟩ := I1.env0.mod.blt
  show wpAny _ _ (call (.ref C) [v']) _ _ _
  have hlim := I1.nolimit
  have hmb' := hmb.keeps keepB
  obtain ⟨hp, g, dr, tk, os⟩ := s1
  refine wpAny_call (vx_made T I1.kIn hG ⟨mb, hmb', hbt⟩ hlim (by have := hr.dp; omega) fun h' tk' e d M => ?_)
  show MkP X pins σ Q (.ref e) ⟨h', g, dr, tk', os⟩
  obtain ⟨t1, hoe⟩ := M.obj
  have hns := M.ns
  obtain ⟨G', g1, g2⟩ := restrict h' fun b => decide (b ≠ e)
  have gk : ∀ b, b ≠ e → G'.get? b = h'.get? b := fun b hb => g1 b (decide_eq_true hb)
  have ge : G'.get? e = none := g2 e (by simp)
  have old : ∀ b o, hp.get? b = some o → G'.get? b = some o := fun b o q => (gk b (Nat.ne_of_lt (Nat.lt_of_lt_of_le (Heap.lt_size q) M.new))).trans (M.keep b o q)
  have ob : ObjOk X.prog X.w (upd H1 d (.xd [(f, v)])) G' d (.xd [(f, v)]) := ⟨_, hns.at (fun o q => (gk d M.dne).trans q), fun y => relO_one rv f y⟩
  have J : Inv X pins σ (upd H1 d (.xd [(f, v)])) ⟨G', g, dr, tk', os⟩ := I1.laid (t' := tk') old M.dbig ob
  refine ⟨e, _, _, ⟨G', g, dr, tk', os⟩, _, .ref C, some d, rfl, J, fun b o q => ?_, ge, hoe, ⟨rfl, rfl⟩, rfl, rfl, ?_, rfl, I1.bare, raises_own T.exC T.tyC, q1 d (I1.hok.fresh M.dbig)⟩
  · by_cases hb : b = e
    · have q' : G'.get? b = some o := q
      rw [hb, ge] at q'
      cases q'
    · exact (gk b hb).symm.trans q
  · rw [upd_ne (Ne.symm M.dne)]
    exact I1.hok.fresh M.new
end
end Fm
namespace Fm
open PySem PySem.Spec PyProof.Rows L2
def txtOf : Value → Str
  | .str k _ => k
  | _ => Str.empty
section
variable {P : Program} {w : World} {A : Around} {E : Value → Shared → Prop} {s : Shared} {a : Addr} {S : Str → Bool} {n : Nat}
end
def SetSO (P : Program) (w : World) (a : Addr) (S : Str → Bool) (n : Nat) : HO := .ext fun h => SetS P w h a S n
section
variable {X : Cx}
def rSetOfS (K : PySem.W.Frag) (P : Program) (w : World) : List V → Hp → VK → Prop := fun xs H Q => ∃ (l : Addr) (ts : List Str), xs = [V.ref l] ∧ SqL K H l (ts.map V.str) ∧ ts.length ≤ 1000 ∧
  ∀ p (n : Nat), H p = none → n ≤ ts.length → Q (.ref p) (upd H p (SetSO P w p (fun j => decide (j ∈ ts)) n))
def rSortedSS (P : Program) (w : World) : List V → Hp → VK → Prop := fun vs H Q => ∃ (a : Addr) (S : Str → Bool) (n : Nat), vs = [V.ref a] ∧ H a = some (SetSO P w a S n) ∧ n < 64 ∧
  ∀ (xs : List Str) (p : Addr), sortedS xs = true → xs.Nodup → (∀ k, k ∈ xs ↔ S k = true) → xs.length = n → H p = none → Q (.ref p) (upd H p (.lst (xs.map V.str)))
end
section
variable {P : Program} {w : World} {A : Around} {E : Value → Shared → Prop} {s : Shared}
abbrev LsAt (h : Heap) (a : Addr) (vs : List Value) : Prop := ∃ n, IsL h a vs.toArray n
end
section
variable {P : Program} {w : World} {fs ex : List Addr} {H : Hp} {h h' : Heap} {a : Addr} {o : HO}
end
section
variable {X : Cx}
def rSumL (K : PySem.W.Frag) : List V → Hp → VK → Prop := fun vs H Q => ∃ (a b : Addr) (ls : List (Addr × List V)), vs = [.ref a, .ref b] ∧ SqL K H a (ls.map fun e => V.ref e.1) ∧ H b = some (.lst []) ∧ (∀ e ∈ ls, H e.1 = some (.lst e.2)) ∧ ((ls.map (·.2)).flatten).length ≤ sizeLine ∧
  (ls = [] → Q (.ref b) H) ∧ ∀ p, H p = none → Q (.ref p) (upd H p (.lst ((ls.map (·.2)).flatten)))
end
abbrev veMro : List Value := [.type "ValueError", .type "Exception", .type "BaseException", .type "object"]
structure ExZ (K : PySem.W.Frag) (mg : Str → Option Value) (x : Str) (C : Addr) : Prop where
  gC : mg x = some (.ref C)
  exC : PySem.W.subIn K (.ref C) (.type "BaseException") = some true
  hdC : PySem.W.hasDictIn K C = true
  tyC : PySem.W.typeIn K (.ref C) = some (.type "type")
  kC : PySem.W.keepIn K (.ref C) = true
  q : PySem.W.excIn K C veMro "ValueError.__new__" = true
section
variable {X : Cx} {C : Addr} {x : Str}
end
theorem kitOne_exd {K : PySem.W.Frag} {C D : Addr} (h : PySem.W.subIn K (.ref D) (.ref C) = some false) (hne : D ≠ C) (hc : PySem.W.hasDictIn K C = true) (ht : PySem.W.typeIn K (.ref C) = some (.type "type")) : PySem.W.kitOne K (.ref D) (.ref C) = some false := by
  unfold PySem.W.kitOne
  rw [if_neg (by simpa using hne)]
  show (if _ then _ else _) = _
  rw [if_pos ?_]
  · exact h
  · rw [ht]
    obtain ⟨cd, e, _⟩ := PySem.W.any_some hc
    simp [e]
theorem kitOne_ve {K : PySem.W.Frag} {D : Addr} (h : PySem.W.subIn K (.ref D) (.type "ValueError") = some true) : PySem.W.kitOne K (.ref D) (.type "ValueError") = some true := by
  unfold PySem.W.kitOne
  rw [if_neg (by simp)]
  show (if PySem.W.kitMeta "ValueError" = true then PySem.W.subIn K (.ref D) (.type "ValueError") else none) = _
  rw [if_pos (by decide +kernel)]
  exact h
end Fm
namespace Fm
open PySem PySem.Spec PyProof.Rows L2 SlX
section
variable {X : Cx} {CX : CXT} {k : Nat} {f C : Addr} {fd : FuncData} {ps : List Str} {sp : Sp} {E : L2.St → XK} {x : Str} {p pos : Pos} {e : Expr} {es : List Expr} {t : TA}
theorem run_makeS {pins : List (Addr × Obj)} {σ : L2.St} {H : Hp} {s : Shared} {Q : VK} {us : List Value} {vs : List V} (M : Mk X.K C f) (F : FnOk X.prog X.w X.K X.mg X.base CX k f fd ps sp) (hr : Room (k + 1) X.A) (hb : Binds X.K fd ps [])
    (hx : PassesAt CX X σ (E σ)) (I : Inv X pins σ H s) (r : Vals vs us)
    (h : ∀ x dx, H x = none → H dx = none → dx ≠ x → sp (.ref x :: vs) (upd (upd H dx (.own x)) x (.ins C dx [])) (fun v H2 => v = .non ∧ Q (.ref x) H2) (E σ)) :
    wpAny (model X.prog X.w) X.A (call (.ref C) us) (EP X pins σ Q) X.xe s := by
  have hq := h (s.heap.objs.size + 1) s.heap.objs.size (I.hok.fresh (Nat.le_succ _)) (I.hok.fresh (Nat.le_refl _)) (Nat.ne_of_lt (Nat.lt_succ_self _))
  have I2 := Inv.made (C := C) I
  have r2 : Vals (V.ref (s.heap.objs.size + 1) :: vs) (Value.ref (s.heap.objs.size + 1) :: us) := .cons rfl r
  have hl : (Value.ref (s.heap.objs.size + 1) :: us).length = ps.length := by
    have e := r2.length
    rw [F.len _ _ _ _ hq] at e
    exact e.symm
  have b := hb { s with heap := (s.heap.push _).push _ } (Value.ref (s.heap.objs.size + 1) :: us) I2.kIn (by rw [List.append_nil]; exact hl)
  rw [List.append_nil] at b
  refine wpAny_call (make_map (f := f) I.kIn M.makes M.init (beq_iff_eq.mp M.fn) (codeAny_mono (F.run _ X.stack _ _ ⟨Value.ref (s.heap.objs.size + 1) :: us, []⟩ (Value.ref (s.heap.objs.size + 1) :: us) _ _ (E σ) (hr.make C us [])
    (I2.env0.make C us []) b r2 hq) fun r s' hq' => ?_))
  cases r with
  | error e => exact hx pins _ _ e s' I2 hq'
  | ok fl =>
    cases fl with
    | ret u =>
      obtain ⟨v, H', I3, rv, ev, q3⟩ := I2.after hq'
      subst ev
      exact ⟨rv, ⟨V.ref (s.heap.objs.size + 1), H', I3, rfl, q3⟩⟩
    | next => exact False.elim hq'
    | brk => exact False.elim hq'
    | cont => exact False.elim hq'
def tMakeS (C : Addr) (sp : Sp) (E : L2.St → XK) (t : TA) : TE := fun σ H Q => t σ H fun vs H1 => ∀ x dx, H1 x = none → H1 dx = none → dx ≠ x → sp (.ref x :: vs) (upd (upd H1 dx (.own x)) x (.ins C dx [])) (fun v H2 => v = .non ∧ Q (.ref x) H2) (E σ)
theorem pe_makeS (M : Mk X.K C f) (F : FnOk X.prog X.w X.K X.mg X.base CX k f fd ps sp) (hr : Room (k + 1) X.A) (hg : Gl X x) (hm : X.mg x = some (.ref C)) (hb : Binds X.K fd ps []) (hx : ∀ σ, PassesAt CX X σ (E σ))
    (ha : PA X (e :: es) t) (hdb : (x == ("__debug__" : Str)) = false := by decide) (he : starEach (e :: es) X.env = (false, eval e X.env) :: starEach es X.env := by rfl) (hpl : (backTo pos (starEach es X.env)).any (·.1) = false := by rfl) :
    PE X (.Call (.Name x p) (e :: es) [] pos) (tMakeS C sp E t) := by
  refine ⟨fun pins s σ H Q I h => ?_⟩
  refine wpAny_Call_Name_kw (ld_glob I hg hm ?_ hdb)
  refine PySem.W.callWith_K (h₀ := X.base) I.ok.mod.kin M.kp (thn (ha.run pos pins s σ H _ I h) fun us s1 ⟨vs, H1, I1, r, q⟩ => ⟨I1.kIn, ?_⟩) he hpl
  exact run_makeS M F hr hb (hx σ) I1 r q
end
end Fm
namespace Fm
open PySem PySem.Spec PyProof.Rows L2
structure MethAt (K : PySem.W.Frag) (C : Addr) (m q : Str) (st : Stmt) (ps : List Str) where
  f : Addr
  fd : FuncData
  F : Fun K m q st f fd
  M : Meth K C m f
  b : Binds K fd ps []
structure ExN (K : PySem.W.Frag) (mg : Str → Option Value) (x : Str) (C : Addr) : Prop where
  gC : mg x = some (.ref C)
  exC : PySem.W.subIn K (.ref C) (.type "BaseException") = some true
  hdC : PySem.W.hasDictIn K C = true
  tyC : PySem.W.typeIn K (.ref C) = some (.type "type")
section
variable {X : Cx} {a : Addr} {oe : Obj} {cls : Value} {d : Option Addr} {pn : List (Addr × Obj)}
def rIsX (K : PySem.W.Frag) (a : Addr) (cls : Value) (d : Option Addr) : List V → Hp → VK → Prop := fun xs H Q => ∃ (D : Addr) (c : V) (cv : Value) (b : Bool), cls = .ref D ∧ ExcC K D ∧
  (d = none ∨ ∃ dd fs, d = some dd ∧ H dd = some (.xd fs)) ∧ xs = [.ref a, c] ∧ (∀ u, RelV c u → u = cv) ∧ PySem.W.kitOne K (.ref D) cv = some b ∧ Q (.bl b) H
def tXfG (K : PySem.W.Frag) (a : Addr) (cls : Value) (d : Option Addr) (f : Str) (te : TE) : TE := fun σ H Q => te σ H fun x H1 => x = .ref a ∧ ∃ (C dd : Addr) (fs : List (Str × V)) (v : V), cls = .ref C ∧ XfC K C ∧ PySem.W.findIn K (.ref C) f = some none ∧
  d = some dd ∧ H1 dd = some (.xd fs) ∧ fs.lookup f = some v ∧ Q v H1
end
end Fm
namespace Fm
open PySem PySem.Spec PyProof.Rows L2
def ltSI (p q : Str × Int) : Bool := if p.1 = q.1 then decide (p.2 < q.2) else decide (p.1.cps.toList < q.1.cps.toList)
def IsSI (h : Heap) (v : Value) (x : Str) (i : Int) : Prop := ∃ (a : Addr) (o : Obj) (t u : Tok) (n : Nat), v = .ref a ∧ h.get? a = some o ∧ o.cls = .type "tuple" ∧ o.data = .seq #[.str x t, .int i u] n
theorem IsSI.one {h : Heap} {v : Value} {x y : Str} {i j : Int} (a : IsSI h v x i) (b : IsSI h v y j) : x = y ∧ i = j := by
  obtain ⟨p, o, t, u, n, rfl, ho, _, hd⟩ := a
  obtain ⟨p', o', t', u', n', e, ho', _, hd'⟩ := b
  cases e
  rw [ho] at ho'
  cases ho'
  rw [hd] at hd'
  injection hd' with h1 _
  have h2 := congrArg Array.toList h1
  simp at h2
  exact ⟨h2.1.1, h2.2.1⟩
section
variable {prog : Program} {w : World} {A : Around} {E : Value → Shared → Prop} {s : Shared}
end
section
variable {X : Cx}
def rItemsK : V → List V → Hp → VK → Prop := fun x xs H Q => ∃ (a : Addr) (kvs : List (L2.Key × V)), x = .ref a ∧ xs = [] ∧ H a = some (.dK kvs) ∧ ∀ p, H p = none → Q (.ref p) (upd H p (DX.itemsO p a))
abbrev rowK (r : Str × Int) : L2.Key × V := (Sum.inr r.1, .int r.2)
def rSortSI : List V → Hp → VK → Prop := fun xs H Q => ∃ (p a : Addr) (rows : List (Str × Int)), xs = [.ref p] ∧ H p = some (DX.itemsO p a) ∧ H a = some (.dK (rows.map rowK)) ∧
  ∀ (H' : Hp) (l : Addr) (ps : List (Addr × Str × Int)), (∀ b o, H b = some o → H' b = some o) → H l = none → (ps.map (·.2)).Perm rows → (ps.map (·.2)).Pairwise (fun e f => e.1.cps.toList < f.1.cps.toList) → H' l = some (.lst (ps.map fun z => V.ref z.1)) →
    (∀ z ∈ ps, H' z.1 = some (.tup [.str z.2.1, .int z.2.2])) → Q (.ref l) H'
end
end Fm
namespace Fm
open PySem PySem.Spec PyProof.Rows L2
structure KOrd (prog : Program) (w : World) (keys : List Value) (ltk : Value → Value → Bool) : Prop where
  swo : SrtO.Swo ltk
  kind : 2 ≤ keys.length → keyKind' keys.toArray = pure oneType'
  cmp : ∀ A s, SrtO.Cmp prog w A s oneType' (fun p => p.1 ∈ keys) (SrtO.lt2 ltk)
def sv : Value → List Nat
  | .str x _ => x.cps.toList
  | _ => []
def ltSv (v u : Value) : Bool := decide (sv v < sv u)
section
variable {prog : Program} {w : World} {A : Around} {E : Value → Shared → Prop} {s : Shared}
end
def ltV : V → V → Bool
  | .int i, .int j => decide (i < j)
  | .str x, .str y => decide (x.cps.toList < y.cps.toList)
  | _, _ => false
def KeysV (ks : List V) : Prop := (∃ ns : List Int, ks = ns.map V.int) ∨ (∃ xs : List Str, ks = xs.map V.str)
section
variable {X : Cx} {n : Nat} {f : Addr} {sp : Sp}
def rSortK (K : PySem.W.Frag) (f : Addr) (sp : Sp) : List V → List V → Hp → VK → Prop := fun vs zs H Q => ∃ (a : Addr) (xs ks : List V), vs = [.ref a] ∧ zs = [.ref f] ∧ (SqL K H a xs ∨ SqT K H a xs) ∧ ks.length = xs.length ∧ KeysV ks ∧
  (∀ (i : Nat) (x k : V), xs[i]? = some x → ks[i]? = some k → ∀ Q' : VK, Q' k H → sp [x] H Q' E0) ∧
  ∀ (ps : List (V × V)) (p : Addr) (H' : Hp), ps.Perm (ks.zip xs) → ps.Pairwise (fun p q => ltV q.1 p.1 = false) → H p = none → (∀ b o, H b = some o → H' b = some o) → H' p = some (.lst (ps.map (·.2))) → Q (.ref p) H'
end
end Fm
namespace Fm
open PySem PySem.Spec PyProof.Rows L2 SlX
structure PropAt (K : PySem.W.Frag) (C : Addr) (m q : Str) (st : Stmt) (ps : List Str) where
  f : Addr
  fd : FuncData
  F : Fun K m q st f fd
  p : Addr
  at_ : PySem.W.findIn K (.ref C) m = some (some (.ref p))
  get : PySem.W.specialIn K (.ref p) "__get__" = some (some (.builtin "property.__get__"))
  tk : PySem.W.takesIn K (.ref p) = some true
  rc : ∃ rest, PySem.W.recIn K p "property" = some (.ref f :: rest)
  b : Binds K fd ps []
section
variable {X : Cx} {CX : CXT} {C g : Addr} {n : Nat} {sp : Sp} {E : XK}
def rLenOwn (C : Addr) (sp : Sp) (E : XK) : List V → Hp → VK → Prop := fun xs H Q => ∃ a dx vs, xs = [V.ref a] ∧ Slt H a C dx vs ∧ sp [.ref a] H (fun z H' => ∃ i : Nat, z = .int i ∧ i ≤ 1000000 ∧ Q z H') E
end
end Fm
namespace Fm
open PySem PySem.Spec PyProof.Rows L2 SlX
structure DefAt (K : PySem.W.Frag) (mg : Str → Option Value) (x : Str) (st : Stmt) (ps : List Str) where
  f : Addr
  fd : FuncData
  F : Fun K x x st f fd
  g : mg x = some (.ref f)
  b : Binds K fd ps []
def topS (i : Nat) : Stmt := PySem.Challenge.pw_framemoves_k95_terms_and_moves_shown.main.body.getD i (.Pass ⟨0, 0, 0, 0⟩)
abbrev s__wall : Stmt := topS 0
abbrev N__wall : List Str := ["k"]
abbrev P__wall : List Str := ["k"]
abbrev s_is_integer : Stmt := topS 10
abbrev N_is_integer : List Str := ["thing"]
abbrev P_is_integer : List Str := ["thing"]
theorem sc_is_integer : FnScope N_is_integer P_is_integer (defScope s_is_integer) := ⟨rfl, rfl, rfl, by decide +kernel, rfl, by decide +kernel, by decide +kernel⟩
abbrev s_is_name : Stmt := topS 11
abbrev N_is_name : List Str := ["thing", "sign"]
abbrev P_is_name : List Str := ["thing"]
theorem sc_is_name : FnScope N_is_name P_is_name (defScope s_is_name) := ⟨rfl, rfl, rfl, by decide +kernel, rfl, by decide +kernel, by decide +kernel⟩
abbrev s_is_term : Stmt := topS 12
abbrev N_is_term : List Str := ["thing", "waiting", "one"]
abbrev P_is_term : List Str := ["thing"]
theorem sc_is_term : FnScope N_is_term P_is_term (defScope s_is_term) := ⟨rfl, rfl, rfl, by decide +kernel, rfl, by decide +kernel, by decide +kernel⟩
abbrev s_is_term_over : Stmt := topS 13
abbrev N_is_term_over : List Str := ["many", "thing", "waiting", "one"]
abbrev P_is_term_over : List Str := ["many", "thing"]
theorem sc_is_term_over : FnScope N_is_term_over P_is_term_over (defScope s_is_term_over) := ⟨rfl, rfl, rfl, by decide +kernel, rfl, by decide +kernel, by decide +kernel⟩
abbrev s_put : Stmt := topS 15
abbrev N_put : List Str := ["term", "values", "part"]
abbrev P_put : List Str := ["term", "values"]
theorem sc_put : FnScope N_put P_put (defScope s_put) := ⟨rfl, rfl, rfl, by decide +kernel, rfl, by decide +kernel, by decide +kernel⟩
abbrev s_put_all : Stmt := topS 16
abbrev N_put_all : List Str := ["terms", "values", "term"]
abbrev P_put_all : List Str := ["terms", "values"]
abbrev s_size : Stmt := topS 17
abbrev N_size : List Str := ["terms", "found", "waiting", "term"]
abbrev P_size : List Str := ["terms"]
theorem sc_size : FnScope N_size P_size (defScope s_size) := ⟨rfl, rfl, rfl, by decide +kernel, rfl, by decide +kernel, by decide +kernel⟩
abbrev s_is_move : Stmt := topS 22
abbrev N_is_move : List Str := ["thing", "number"]
abbrev P_is_move : List Str := ["thing"]
theorem sc_is_move : FnScope N_is_move P_is_move (defScope s_is_move) := ⟨rfl, rfl, rfl, by decide +kernel, rfl, by decide +kernel, by decide +kernel⟩
abbrev s_need : Stmt := topS 28
abbrev N_need : List Str := ["holds"]
abbrev P_need : List Str := ["holds"]
theorem sc_need : FnScope N_need P_need (defScope s_need) := ⟨rfl, rfl, rfl, by decide +kernel, rfl, by decide +kernel, by decide +kernel⟩
abbrev s_listed : Stmt := topS 29
abbrev N_listed : List Str := ["terms", "term"]
abbrev P_listed : List Str := ["terms"]
theorem sc_listed : FnScope N_listed P_listed (defScope s_listed) := ⟨rfl, rfl, rfl, by decide +kernel, rfl, by decide +kernel, by decide +kernel⟩
abbrev s_show_term : Stmt := topS 30
abbrev N_show_term : List Str := ["term"]
abbrev P_show_term : List Str := ["term"]
theorem sc_show_term : FnScope N_show_term P_show_term (defScope s_show_term) := ⟨rfl, rfl, rfl, by decide +kernel, rfl, by decide +kernel, by decide +kernel⟩
abbrev s_show_recipe : Stmt := topS 31
abbrev N_show_recipe : List Str := ["recipe"]
abbrev P_show_recipe : List Str := ["recipe"]
theorem sc_show_recipe : FnScope N_show_recipe P_show_recipe (defScope s_show_recipe) := ⟨rfl, rfl, rfl, by decide +kernel, rfl, by decide +kernel, by decide +kernel⟩
abbrev s_show_move : Stmt := topS 32
abbrev N_show_move : List Str := ["move", "number"]
abbrev P_show_move : List Str := ["move"]
theorem sc_show_move : FnScope N_show_move P_show_move (defScope s_show_move) := ⟨rfl, rfl, rfl, by decide +kernel, rfl, by decide +kernel, by decide +kernel⟩
abbrev s_read_integer : Stmt := topS 33
abbrev N_read_integer : List Str := ["word", "digits", "sign"]
abbrev P_read_integer : List Str := ["word"]
theorem sc_read_integer : FnScope N_read_integer P_read_integer (defScope s_read_integer) := ⟨rfl, rfl, rfl, by decide +kernel, rfl, by decide +kernel, by decide +kernel⟩
abbrev s_tokens_of : Stmt := topS 34
abbrev N_tokens_of : List Str := ["text", "found", "word", "sign"]
abbrev P_tokens_of : List Str := ["text"]
theorem sc_tokens_of : FnScope N_tokens_of P_tokens_of (defScope s_tokens_of) := ⟨rfl, rfl, rfl, by decide +kernel, rfl, by decide +kernel, by decide +kernel⟩
abbrev s_leaf : Stmt := topS 35
abbrev N_leaf : List Str := ["word"]
abbrev P_leaf : List Str := ["word"]
theorem sc_leaf : FnScope N_leaf P_leaf (defScope s_leaf) := ⟨rfl, rfl, rfl, by decide +kernel, rfl, by decide +kernel, by decide +kernel⟩
abbrev s_parsed : Stmt := topS 36
abbrev N_parsed : List Str := ["tokens", "opened", "term", "at", "token"]
abbrev P_parsed : List Str := ["tokens"]
theorem sc_parsed : FnScope N_parsed P_parsed (defScope s_parsed) := ⟨rfl, rfl, rfl, by decide +kernel, rfl, by decide +kernel, by decide +kernel⟩
abbrev s_need_term : Stmt := topS 37
abbrev N_need_term : List Str := ["term"]
abbrev P_need_term : List Str := ["term"]
theorem sc_need_term : FnScope N_need_term P_need_term (defScope s_need_term) := ⟨rfl, rfl, rfl, by decide +kernel, rfl, by decide +kernel, by decide +kernel⟩
abbrev s_read_term : Stmt := topS 38
abbrev N_read_term : List Str := ["text", "term"]
abbrev P_read_term : List Str := ["text"]
theorem sc_read_term : FnScope N_read_term P_read_term (defScope s_read_term) := ⟨rfl, rfl, rfl, by decide +kernel, rfl, by decide +kernel, by decide +kernel⟩
abbrev s_read_listed : Stmt := topS 39
abbrev N_read_listed : List Str := ["text", "terms", "term"]
abbrev P_read_listed : List Str := ["text"]
theorem sc_read_listed : FnScope N_read_listed P_read_listed (defScope s_read_listed) := ⟨rfl, rfl, rfl, by decide +kernel, rfl, by decide +kernel, by decide +kernel⟩
abbrev s_read_move : Stmt := topS 40
abbrev N_read_move : List Str := ["text", "words", "numbers", "variables", "terms", "recipe", "move", "word"]
abbrev P_read_move : List Str := ["text"]
theorem sc_read_move : FnScope N_read_move P_read_move (defScope s_read_move) := ⟨rfl, rfl, rfl, by decide +kernel, rfl, by decide +kernel, by decide +kernel⟩
abbrev s__law_bag : Stmt := topS 42
abbrev N__law_bag : List Str := ["_law_script", "_law_cell"]
abbrev P__law_bag : List Str := ["_law_script"]
theorem sc__law_bag : FnScope N__law_bag P__law_bag (defScope s__law_bag) := ⟨rfl, rfl, rfl, by decide +kernel, rfl, by decide +kernel, by decide +kernel⟩
abbrev s__law_take : Stmt := topS 43
abbrev N__law_take : List Str := ["_law_bag_here", "_law_many", "_law_cell", "_law_mixed", "_law_value", "_law_begin", "_law_second"]
abbrev P__law_take : List Str := ["_law_bag_here", "_law_many"]
theorem sc__law_take : FnScope N__law_take P__law_take (defScope s__law_take) := ⟨rfl, rfl, rfl, by decide +kernel, rfl, by decide +kernel, by decide +kernel⟩
abbrev s__law_alike : Stmt := topS 44
abbrev N__law_alike : List Str := ["_law_found", "_law_due"]
abbrev P__law_alike : List Str := ["_law_found", "_law_due"]
theorem sc__law_alike : FnScope N__law_alike P__law_alike (defScope s__law_alike) := ⟨rfl, rfl, rfl, by decide +kernel, rfl, by decide +kernel, by decide +kernel⟩
abbrev s__law_names : Stmt := topS 45
abbrev N__law_names : List Str := ["_law_bag_here", "_law_many", "_law_letters", "_law_words", "_law_way", "_law_turn", "_law_base", "_law_at", "_law_k"]
abbrev P__law_names : List Str := ["_law_bag_here", "_law_many"]
theorem sc__law_names : FnScope N__law_names P__law_names (defScope s__law_names) := ⟨rfl, rfl, rfl, by decide +kernel, rfl, by decide +kernel, by decide +kernel⟩
abbrev s__law_term : Stmt := topS 46
abbrev N__law_term : List Str := ["_law_bag_here", "_law_names_here", "_law_many", "_law_deep", "_law_way", "_law_name", "_law_parts", "_law_k"]
abbrev P__law_term : List Str := ["_law_bag_here", "_law_names_here", "_law_many", "_law_deep"]
theorem sc__law_term : FnScope N__law_term P__law_term (defScope s__law_term) := ⟨rfl, rfl, rfl, by decide +kernel, rfl, by decide +kernel, by decide +kernel⟩
abbrev s__law_put : Stmt := topS 47
abbrev N__law_put : List Str := ["_law_term_here", "_law_values", "_law_part"]
abbrev P__law_put : List Str := ["_law_term_here", "_law_values"]
theorem sc__law_put : FnScope N__law_put P__law_put (defScope s__law_put) := ⟨rfl, rfl, rfl, by decide +kernel, rfl, by decide +kernel, by decide +kernel⟩
abbrev s__law_term_text : Stmt := topS 48
abbrev N__law_term_text : List Str := ["_law_term_here"]
abbrev P__law_term_text : List Str := ["_law_term_here"]
theorem sc__law_term_text : FnScope N__law_term_text P__law_term_text (defScope s__law_term_text) := ⟨rfl, rfl, rfl, by decide +kernel, rfl, by decide +kernel, by decide +kernel⟩
abbrev s__law_listed_text : Stmt := topS 49
abbrev N__law_listed_text : List Str := ["_law_terms", "_law_term_here"]
abbrev P__law_listed_text : List Str := ["_law_terms"]
theorem sc__law_listed_text : FnScope N__law_listed_text P__law_listed_text (defScope s__law_listed_text) := ⟨rfl, rfl, rfl, by decide +kernel, rfl, by decide +kernel, by decide +kernel⟩
abbrev s__law_move_text : Stmt := topS 50
abbrev N__law_move_text : List Str := ["_law_numbers", "_law_kind", "_law_variables", "_law_terms", "_law_one"]
abbrev P__law_move_text : List Str := ["_law_numbers", "_law_kind", "_law_variables", "_law_terms"]
theorem sc__law_move_text : FnScope N__law_move_text P__law_move_text (defScope s__law_move_text) := ⟨rfl, rfl, rfl, by decide +kernel, rfl, by decide +kernel, by decide +kernel⟩
abbrev s_law : Stmt := topS 51
abbrev N_law : List Str := ["_law_script", "_law_bag_here", "_law_turn", "_law_operations", "_law_some", "_law_term_here", "_law_text", "_law_again", "_law_variables", "_law_terms", "_law_numbers", "_law_kind", "_law_move", "_law_mine", "_law_found", "_law_k"]
abbrev P_law : List Str := ["_law_script"]
theorem sc_law : FnScope N_law P_law (defScope s_law) := ⟨rfl, rfl, rfl, by decide +kernel, rfl, by decide +kernel, by decide +kernel⟩
abbrev s_Recipe___init__ : Stmt := inClass (topS 19) 1
abbrev N_Recipe___init__ : List Str := ["self", "variables", "terms", "term"]
abbrev P_Recipe___init__ : List Str := ["self", "variables", "terms"]
theorem sc_Recipe___init__ : FnScope N_Recipe___init__ P_Recipe___init__ (defScope s_Recipe___init__) := ⟨rfl, rfl, rfl, by decide +kernel, rfl, by decide +kernel, by decide +kernel⟩
abbrev s_Recipe_variables : Stmt := inClass (topS 19) 2
abbrev N_Recipe_variables : List Str := ["self"]
abbrev P_Recipe_variables : List Str := ["self"]
theorem sc_Recipe_variables : FnScope N_Recipe_variables P_Recipe_variables (defScope s_Recipe_variables) := ⟨rfl, rfl, rfl, by decide +kernel, rfl, by decide +kernel, by decide +kernel⟩
abbrev s_Recipe_terms : Stmt := inClass (topS 19) 3
abbrev N_Recipe_terms : List Str := ["self"]
abbrev P_Recipe_terms : List Str := ["self"]
theorem sc_Recipe_terms : FnScope N_Recipe_terms P_Recipe_terms (defScope s_Recipe_terms) := ⟨rfl, rfl, rfl, by decide +kernel, rfl, by decide +kernel, by decide +kernel⟩
abbrev s_Recipe_keeping : Stmt := inClass (topS 19) 4
abbrev N_Recipe_keeping : List Str := ["many"]
abbrev P_Recipe_keeping : List Str := ["many"]
abbrev s_Recipe___call__ : Stmt := inClass (topS 19) 5
abbrev N_Recipe___call__ : List Str := ["self", "values"]
abbrev P_Recipe___call__ : List Str := ["self", "values"]
abbrev s_Recipe___mul__ : Stmt := inClass (topS 19) 6
abbrev N_Recipe___mul__ : List Str := ["self", "other"]
abbrev P_Recipe___mul__ : List Str := ["self", "other"]
abbrev s_Recipe___eq__ : Stmt := inClass (topS 19) 7
abbrev N_Recipe___eq__ : List Str := ["self", "other"]
abbrev P_Recipe___eq__ : List Str := ["self", "other"]
theorem sc_Recipe___eq__ : FnScope N_Recipe___eq__ P_Recipe___eq__ (defScope s_Recipe___eq__) := ⟨rfl, rfl, rfl, by decide +kernel, rfl, by decide +kernel, by decide +kernel⟩
abbrev s_Recipe___len__ : Stmt := inClass (topS 19) 8
abbrev N_Recipe___len__ : List Str := ["self"]
abbrev P_Recipe___len__ : List Str := ["self"]
abbrev s_Recipe___repr__ : Stmt := inClass (topS 19) 9
abbrev N_Recipe___repr__ : List Str := ["self"]
abbrev P_Recipe___repr__ : List Str := ["self"]
structure TX (K : PySem.W.Frag) (mg : Str → Option Value) where
  d__wall : DefAt K mg "_wall" s__wall P__wall
  d_is_integer : DefAt K mg "is_integer" s_is_integer P_is_integer
  d_is_name : DefAt K mg "is_name" s_is_name P_is_name
  d_is_term : DefAt K mg "is_term" s_is_term P_is_term
  d_is_term_over : DefAt K mg "is_term_over" s_is_term_over P_is_term_over
  d_put : DefAt K mg "put" s_put P_put
  d_put_all : DefAt K mg "put_all" s_put_all P_put_all
  d_size : DefAt K mg "size" s_size P_size
  d_is_move : DefAt K mg "is_move" s_is_move P_is_move
  d_need : DefAt K mg "need" s_need P_need
  d_listed : DefAt K mg "listed" s_listed P_listed
  d_show_term : DefAt K mg "show_term" s_show_term P_show_term
  d_show_recipe : DefAt K mg "show_recipe" s_show_recipe P_show_recipe
  d_show_move : DefAt K mg "show_move" s_show_move P_show_move
  d_read_integer : DefAt K mg "read_integer" s_read_integer P_read_integer
  d_tokens_of : DefAt K mg "tokens_of" s_tokens_of P_tokens_of
  d_leaf : DefAt K mg "leaf" s_leaf P_leaf
  d_parsed : DefAt K mg "parsed" s_parsed P_parsed
  d_need_term : DefAt K mg "need_term" s_need_term P_need_term
  d_read_term : DefAt K mg "read_term" s_read_term P_read_term
  d_read_listed : DefAt K mg "read_listed" s_read_listed P_read_listed
  d_read_move : DefAt K mg "read_move" s_read_move P_read_move
  d__law_bag : DefAt K mg "_law_bag" s__law_bag P__law_bag
  d__law_take : DefAt K mg "_law_take" s__law_take P__law_take
  d__law_alike : DefAt K mg "_law_alike" s__law_alike P__law_alike
  d__law_names : DefAt K mg "_law_names" s__law_names P__law_names
  d__law_term : DefAt K mg "_law_term" s__law_term P__law_term
  d__law_put : DefAt K mg "_law_put" s__law_put P__law_put
  d__law_term_text : DefAt K mg "_law_term_text" s__law_term_text P__law_term_text
  d__law_listed_text : DefAt K mg "_law_listed_text" s__law_listed_text P__law_listed_text
  d__law_move_text : DefAt K mg "_law_move_text" s__law_move_text P__law_move_text
  d_law : DefAt K mg "law" s_law P_law
  C_Recipe : Addr
  g_Recipe : mg "Recipe" = some (.ref C_Recipe)
  k_Recipe : PySem.W.keepIn K (.ref C_Recipe) = true
  c_Recipe : SCls K C_Recipe
  mk_Recipe : PySem.W.makesIn K C_Recipe = true
  is_Recipe : SIsi K C_Recipe
  ne_Recipe : PySem.W.findIn K (.ref C_Recipe) "__ne__" = some (some (.builtin "object.__ne__"))
  ty_Recipe : PySem.W.typeIn K (.ref C_Recipe) = some (.type "type")
  p_Recipe_its_terms : Addr
  sl_Recipe_its_terms : Slot1 K C_Recipe "its_terms" p_Recipe_its_terms 0
  p_Recipe_its_variables : Addr
  sl_Recipe_its_variables : Slot1 K C_Recipe "its_variables" p_Recipe_its_variables 1
  d_Recipe___init__ : MethAt K C_Recipe "__init__" "Recipe.__init__" s_Recipe___init__ P_Recipe___init__
  d_Recipe_variables : PropAt K C_Recipe "variables" "Recipe.variables" s_Recipe_variables P_Recipe_variables
  d_Recipe_terms : PropAt K C_Recipe "terms" "Recipe.terms" s_Recipe_terms P_Recipe_terms
  d_Recipe_keeping : StatAt K C_Recipe "keeping" "Recipe.keeping" s_Recipe_keeping P_Recipe_keeping
  d_Recipe___call__ : MethAt K C_Recipe "__call__" "Recipe.__call__" s_Recipe___call__ P_Recipe___call__
  d_Recipe___mul__ : MethAt K C_Recipe "__mul__" "Recipe.__mul__" s_Recipe___mul__ P_Recipe___mul__
  d_Recipe___eq__ : MethAt K C_Recipe "__eq__" "Recipe.__eq__" s_Recipe___eq__ P_Recipe___eq__
  d_Recipe___len__ : MethAt K C_Recipe "__len__" "Recipe.__len__" s_Recipe___len__ P_Recipe___len__
  d_Recipe___repr__ : MethAt K C_Recipe "__repr__" "Recipe.__repr__" s_Recipe___repr__ P_Recipe___repr__
  mul_Recipe : PySem.W.selfFirst K C_Recipe = true
  nl_Recipe : PySem.W.subIn K (.ref C_Recipe) (.type "list") = some false
  nt_Recipe : PySem.W.subIn K (.ref C_Recipe) (.type "tuple") = some false
  b_ValueError : mg "ValueError" = none
  b_abs : mg "abs" = none
  b_all : mg "all" = none
  b_bool : mg "bool" = none
  b_int : mg "int" = none
  b_isinstance : mg "isinstance" = none
  b_len : mg "len" = none
  b_list : mg "list" = none
  b_range : mg "range" = none
  b_repr : mg "repr" = none
  b_str : mg "str" = none
  b_tuple : mg "tuple" = none
  v_LETTERS : Value
  c_LETTERS : mg "LETTERS" = some v_LETTERS
  r_LETTERS : RelV (.str "abcdefghijklmnopqrstuvwxyz") v_LETTERS
  v_MOST_LETTERS : Value
  c_MOST_LETTERS : mg "MOST_LETTERS" = some v_MOST_LETTERS
  r_MOST_LETTERS : RelV (.int 8) v_MOST_LETTERS
  v_MOST_PARTS : Value
  c_MOST_PARTS : mg "MOST_PARTS" = some v_MOST_PARTS
  r_MOST_PARTS : RelV (.int 3) v_MOST_PARTS
  a_KINDS : Addr
  c_KINDS : mg "KINDS" = some (.ref a_KINDS)
  q_KINDS : ∀ H : Hp, SqT K H a_KINDS [.str "may", .str "must"]
  v_DIGITS : Value
  c_DIGITS : mg "DIGITS" = some v_DIGITS
  r_DIGITS : RelV (.str "0123456789") v_DIGITS
  v_SIGNS : Value
  c_SIGNS : mg "SIGNS" = some v_SIGNS
  r_SIGNS : RelV (.str "(,)") v_SIGNS
  v_MOST_DIGITS : Value
  c_MOST_DIGITS : mg "MOST_DIGITS" = some v_MOST_DIGITS
  r_MOST_DIGITS : RelV (.int 40) v_MOST_DIGITS
  v_MOST_OPERATIONS : Value
  c_MOST_OPERATIONS : mg "MOST_OPERATIONS" = some v_MOST_OPERATIONS
  r_MOST_OPERATIONS : RelV (.int 200) v_MOST_OPERATIONS
structure TY (P : Program) (K : PySem.W.Frag) (mg : Str → Option Value) where
  C_MoveError : Addr
  x_MoveError : ExN K mg "MoveError" C_MoveError
  C_Wrong : Addr
  x_Wrong : ExT P K mg "Wrong" "place" C_Wrong
  C_Unlike : Addr
  x_Unlike : ExZ K mg "Unlike" C_Unlike
  C_NoText : Addr
  x_NoText : ExZ K mg "NoText" C_NoText
  xc_Wrong : ExcC K C_Wrong
  xc_Unlike : ExcC K C_Unlike
  ed_Unlike_Wrong : PySem.W.kitOne K (.ref C_Unlike) (.ref C_Wrong) = some false
  ev_Wrong : PySem.W.kitOne K (.ref C_Wrong) (.type "ValueError") = some true
  em_Wrong_MoveError : PySem.W.exmOne K (.ref C_Wrong) (.ref C_MoveError) = some true
  em_Unlike_MoveError : PySem.W.exmOne K (.ref C_Unlike) (.ref C_MoveError) = some true
end Fm
namespace Fm
open PySem PySem.Spec PyProof.Rows L2
section
variable {P : Program} {w : World} {K : PySem.W.Frag} {mg : Str → Option Value} {base : Heap}
def sp_bag (K : PySem.W.Frag) : Sp := fun vs H Q _ => ∃ (a : Addr) (ns : List Int), vs = [.ref a] ∧ SqL K H a (ns.map V.int) ∧ ns.length ≤ 63 ∧ ∀ H' p, Mv [] H H' → H p = none → Bag H' p → Q (.ref p) H'
theorem cut63 (xs : List V) (h : xs.length ≤ 63) : cutV xs none (some 63) = xs := by
  unfold cutV
  rw [HT.sIx_none, show HT.sIx xs.length xs.length (some 63) = min 63 xs.length from HT.sIx_nat xs.length xs.length 63, List.drop_zero, List.take_of_length_le (by omega)]
theorem ok__law_bag (T : TX K mg) {k : Nat} : FnOk P w K mg base CX0 (k + 1) T.d__law_bag.f T.d__law_bag.fd P__law_bag (sp_bag K) := by
  refine T.d__law_bag.F.ok sc__law_bag (fun vs H Q E h => ?_) (fun cdv A outer s H vs Q E hr h => ?_)
  · obtain ⟨a, ns, rfl, _⟩ := h
    rfl
  · obtain ⟨a, ns, rfl, hS, hl, q⟩ := h
    refine ⟨_, (pss_one (ps_ret (pe_lst (pa_cons pe_int (pa_cons pe_int (pa_cons pe_int (pa_cons (pe_lc (own := [("_law_cell", 1)]) (g := gName 1) (by rfl) sc__law_bag.nd (pi_seq (pe_slice (r := rSlG K) sl_G (pv 0) po_none (po_some pe_int))) (blkOk_by (own := [("_law_cell", 1)]) (N := N__law_bag) (sc := defScope s__law_bag) (by decide +kernel)) (fun _ _ _ _ _ => pg_name (i := 1) sc__law_bag.nd rfl (Or.inl rfl)) (fun _ _ _ _ _ => pts_nil) (fun _ _ _ _ _ => (pe_callB call_abs (by rfl) T.b_abs bt_abs (pa_cons (pv 1) pa_nil)))) pa_nil))))))), ?_⟩
    refine ⟨.ref a, rfl, 63, rfl, Or.inl ⟨a, _, rfl, hS, fun c nc => ⟨c, rfl, Or.inl ⟨⟨_, .inl (.inl upd_same)⟩, fun D nD => ?_⟩⟩⟩⟩
    have hlen : (ns.map V.int).length ≤ 63 := by rw [List.length_map]; exact hl
    rw [cut63 _ hlen] at nD ⊢
    refine lc_list (K := K) (a := c) (xs := ns.map V.int) (fun i H3 => ∃ ms : List Int, H3 c = some (.lst (ns.map V.int)) ∧ H3 D = some (.lst (ms.map V.int)) ∧ ms.length = i ∧ (∀ n ∈ ms, 0 ≤ n) ∧ Mv [] H H3)
      ⟨[], ?_, upd_same, rfl, by simp, ?_⟩ (fun i H3 _ h3 => ?_) (fun i x H3 hx h3 => ?_) (fun H3 h3 => ?_)
    · rw [upd_ne (ne_of_none upd_same nD), upd_same]
    · exact (Mv.new nc).trans (.new nD)
    · obtain ⟨ms, h1, _⟩ := h3
      exact .inl (.inl h1)
    · obtain ⟨ms, h1, h2, h4, h5, h6⟩ := h3
      obtain ⟨n, hn, rfl⟩ : ∃ n ∈ ns, x = .int n := by
        have := List.mem_of_getElem? hx
        obtain ⟨n, hn, e⟩ := List.mem_map.mp this
        exact ⟨n, hn, e.symm⟩
      have hDc : c ≠ D := ne_of_none upd_same nD
      refine ⟨rfl, .int n, rfl, n, rfl, _, h2, ?_, ms ++ [if n < 0 then -n else n], ?_, ?_, ?_, ?_, ?_⟩
      · rw [List.length_map]
        have := (List.getElem?_eq_some_iff.mp hx).1
        rw [List.length_map] at this
        exact small1000 (by omega)
      · rw [upd_ne hDc]
        exact h1
      · rw [upd_same, List.map_append]
        rfl
      · simp [h4]
      · intro z hz
        rcases List.mem_append.mp hz with hz | hz
        · exact h5 z hz
        · rw [List.mem_singleton.mp hz]
          split <;> omega
      · exact h6.wr ((Mv.new nc).free nD)
    · obtain ⟨ms, h1, h2, h4, h5, h6⟩ := h3
      refine ⟨(by decide : 4 ≤ sizeLine), fun p np => q _ p (h6.trans (.new np)) (h6.free np) ⟨D, 0, 1234567891, 0, ms, upd_same, ?_, ?_, h5, by decide, by decide, by decide⟩⟩
      · rw [upd_ne (ne_of_none h2 np)]
        exact h2
      · rw [h4, List.length_map]
        exact hl
def sp_take : Sp := fun vs H Q _ => ∃ (b : Addr) (n : Int), vs = [.ref b, .int n] ∧ Bag H b ∧ 0 < n ∧ n ≤ 1000000 ∧ ∀ (i : Int) H', 0 ≤ i → i < n → Dr b H H' → Q (.int i) H'
theorem Bag.set {H : Hp} {b c : Addr} {ns : List Int} {s m k : Int} {xs : List V} (hb : H b = some (.lst xs)) (hc : H c = some (.lst (ns.map V.int))) (hcb : c ≠ b)
    (hl : ns.length ≤ 63) (hn : ∀ n ∈ ns, 0 ≤ n) (h1 : 0 ≤ s) (h2 : 0 ≤ k) (h3 : 0 ≤ m) : BagC (upd H b (.lst [.int s, .int m, .int k, .ref c])) b c :=
  ⟨s, m, k, ns, upd_same, by rw [upd_ne hcb]; exact hc, hl, hn, h1, h2, h3⟩
theorem rd_set {p : Addr} {xs ys : List V} {k : Int} {j : Nat} {v : V} {H : Hp} {Q : Hp → Prop} (hp : H p = some (.lst xs)) (hj : ixN xs.length k = some j) (hy : xs.set j v = ys)
    (h : ∀ H', H' p = some (.lst ys) → Mv [p] H H' → (∀ a, a ≠ p → H' a = H a) → Q H') : rSetL (.ref p) (.int k) v H Q := by
  refine ⟨p, xs, k, j, rfl, rfl, hp, hj, ?_⟩
  rw [hy]
  exact h _ upd_same (.set hp (by simp)) fun a ha => upd_ne ha
theorem ok__law_take (T : TX K mg) {k : Nat} : FnOk P w K mg base CX0 (k + 1) T.d__law_take.f T.d__law_take.fd P__law_take sp_take := by
  refine T.d__law_take.F.ok sc__law_take (fun vs H Q E h => ?_) (fun cdv A outer s H vs Q E hr h => ?_)
  · obtain ⟨a, ns, rfl, _⟩ := h
    rfl
  · obtain ⟨b, n, rfl, hB, h0, h1, q⟩ := h
    have hu64 := hr.units
    refine ⟨_, (Evl.pss_cut (ps_if (pt_cmpR (r := rEqG K) (op_eqG hu64) (pe_ix (r := rIx K) ix_seq (pv 0) pe_int (fun _ _ => rfl)) pe_int (nomark _)) (pss_cons (ps_set (i := 2) sc__law_take.nd rfl (Or.inl rfl) pe_int) (Evl.pss_cut (ps_if (pt_cmpR op_lt (pe_ix (r := rIx K) ix_seq (pv 0) pe_int (fun _ _ => rfl)) (pe_callB (r := rLenG K) call_lenG (by rfl) T.b_len bt_len (pa_cons (pe_ix (r := rIx K) ix_seq (pv 0) pe_int (fun _ _ => rfl)) pa_nil)) (nomark _)) (pss_one (ps_set (i := 2) sc__law_take.nd rfl (Or.inl rfl) (pe_ix (r := rIx K) ix_seq (pe_ix (r := rIx K) ix_seq (pv 0) pe_int (fun _ _ => rfl)) (pe_ix (r := rIx K) ix_seq (pv 0) pe_int (fun _ _ => rfl)) (fun _ _ => rfl)))) pss_nil) (pss_cons (ps_augS (pv 0) pe_int get_G pe_int ip_add set_list) (Evl.pss_cut (ps_if (pt_cmpR op_ge (pv 2) pe_int (nomark _)) (pss_one (ps_asg (pv 2) (pg_sub (pv 0) pe_int set_list))) pss_nil) (pss_cons (ps_set (i := 3) sc__law_take.nd rfl (Or.inl rfl) (pe_op (r := rAddG K) op_addG (pe_op (r := rAddG K) op_addG (pe_op op_mulG (pe_ix (r := rIx K) ix_seq (pv 0) pe_int (fun _ _ => rfl)) pe_int) (pe_op op_mod (pe_callTy call_int1 (by rfl) T.b_int bt_int (pa_cons (pv 2) pa_nil)) pe_int)) (pe_op op_mulG pe_int (pe_ix (r := rIx K) ix_seq (pv 0) pe_int (fun _ _ => rfl))))) (pss_one (ps_asg (pe_op op_mod (pe_callTy call_int1 (by rfl) T.b_int bt_int (pa_cons (pv 3) pa_nil)) pe_int) (pg_sub (pv 0) pe_int set_list)))))))) pss_nil) (pss_cons (ps_if (pt_cmpR op_gt (pe_ix (r := rIx K) ix_seq (pv 0) pe_int (fun _ _ => rfl)) pe_int (nomark _)) (pss_cons (ps_set (i := 4) sc__law_take.nd rfl (Or.inl rfl) (pe_op op_mod (pe_callTy call_int1 (by rfl) T.b_int bt_int (pa_cons (pe_ix (r := rIx K) ix_seq (pv 0) pe_int (fun _ _ => rfl)) pa_nil)) (pv 1))) (pss_cons (ps_asg (pe_op op_fdivW (pe_ix (r := rIx K) ix_seq (pv 0) pe_int (fun _ _ => rfl)) (pv 1)) (pg_sub (pv 0) pe_int set_list)) (pss_one (ps_ret (pv 4))))) pss_nil) (pss_cons (ps_set (i := 5) sc__law_take.nd rfl (Or.inl rfl) (pe_op op_mod (pe_callTy call_int1 (by rfl) T.b_int bt_int (pa_cons (pe_op op_mulG (pe_op (r := rAddG K) op_addG (pe_ix (r := rIx K) ix_seq (pv 0) pe_int (fun _ _ => rfl)) pe_int) pe_int) pa_nil)) pe_int)) (pss_cons (ps_set (i := 6) sc__law_take.nd rfl (Or.inl rfl) (pe_op op_mod (pe_callTy call_int1 (by rfl) T.b_int bt_int (pa_cons (pe_op op_mulG (pe_op op_mod (pe_callTy call_int1 (by rfl) T.b_int bt_int (pa_cons (pe_op op_mulG (pv 5) (pv 5)) pa_nil)) pe_int) pe_int) pa_nil)) pe_int)) (pss_cons (ps_if (pt_cmpR op_gt (pv 1) pe_int (nomark _)) (pss_one (ps_ret (pe_op op_mod (pe_callTy call_int1 (by rfl) T.b_int bt_int (pa_cons (pe_op (r := rAddG K) op_addG (pe_op op_mulG (pv 6) pe_int) (pv 5)) pa_nil)) (pv 1)))) pss_nil) (pss_one (ps_ret (pe_op op_mod (pe_callTy call_int1 (by rfl) T.b_int bt_int (pa_cons (pe_op op_fdivW (pv 6) pe_int) pa_nil)) (pv 1))))))))), ?_⟩
    obtain ⟨c, hB⟩ := hB
    have hBC := hB
    obtain ⟨z, m, j, ns, eb, ec, hl, hn, hz, hj, hm⟩ := hB
    have hcb : c ≠ b := Bag.ne (xs := [.int z, .int m, .int j]) eb ec
    have sq : ∀ {H : Hp} {xs : List V}, H b = some (.lst xs) → SqL K H b xs := fun h => .inl (.inl h)
    refine ⟨fun σ H1 => ∃ y2 y3 y4 y5 y6, σ = [some (.ref b), some (.int n), y2, y3, y4, y5, y6] ∧ Dr b H H1 ∧ BagC H1 b c, ?_, fun σ H1 hM => ?_⟩
    · refine ⟨.ref b, rfl, Or.inl ⟨b, _, 0, .int z, rfl, rfl, sq eb, rfl, Or.inl ⟨rfl, _, rfl, ite2 (fun e => ?_) (fun e => ?_)⟩⟩⟩
      · -- cell = 0; the next cell
        refine ⟨fun σ H1 => ∃ x : Int, 0 ≤ x ∧ σ = [some (.ref b), some (.int n), some (.int x), none, none, none, none] ∧ H1 = H, ?_, fun σ H1 hM => ?_⟩
        · refine ⟨.ref b, rfl, Or.inl ⟨b, _, 2, .int j, rfl, rfl, sq eb, rfl, .ref b, rfl, Or.inl ⟨b, _, 3, .ref c, rfl, rfl, sq eb, rfl, Or.inl ⟨c, _, rfl, .inl (.inl (.inl ec)), j, _, rfl, rfl, _, rfl, ite2 (fun e => ?_) (fun e => ?_)⟩⟩⟩⟩
          · have e' : j < (ns.map V.int).length := of_decide_eq_true e
            obtain ⟨i, rfl⟩ := Int.eq_ofNat_of_zero_le hj
            have hi : i < ns.length := by
              rw [List.length_map] at e'
              omega
            have gi : (ns.map V.int)[i]? = some (.int ns[i]) := by
              rw [List.getElem?_map, List.getElem?_eq_getElem hi]
              rfl
            refine ⟨.ref b, rfl, Or.inl ⟨b, _, 3, .ref c, rfl, rfl, sq eb, rfl, .ref b, rfl, Or.inl ⟨b, _, 2, .int (i : Int), rfl, rfl, sq eb, rfl, Or.inl ⟨c, _, _, .int ns[i], rfl, rfl, .inl (.inl ec), atI_nat gi, ?_⟩⟩⟩⟩
            exact ⟨ns[i], hn _ (List.getElem_mem hi), rfl, rfl⟩
          · exact ⟨0, Int.le_refl _, rfl, rfl⟩
        · obtain ⟨x, hx, rfl, rfl⟩ := hM
          refine ⟨.ref b, rfl, b, _, 2, .int j, rfl, rfl, sq eb, rfl, j, 1, rfl, rfl, rd_set eb rfl rfl fun H2 eb2 m1 k1 => ?_⟩
          have ec2 : H2 c = some (.lst (ns.map V.int)) := by rw [k1 c hcb]; exact ec
          refine ⟨fun σ H3 => ∃ z' : Int, 0 ≤ z' ∧ σ = [some (.ref b), some (.int n), some (.int x), none, none, none, none] ∧ H3 b = some (.lst [.int z', .int m, .int (j + 1), .ref c]) ∧ H3 c = some (.lst (ns.map V.int)) ∧ Mv [b] H2 H3, ?_, fun σ H3 hM => ?_⟩
          · refine ⟨.int x, rfl, x, _, rfl, rfl, _, rfl, ite2 (fun e => ?_) (fun e => ?_)⟩
            · refine ⟨.int x, rfl, .ref b, rfl, b, _, 0, 0, rfl, rfl, eb2, rfl, x, hx, rfl, upd_same, ?_, .set eb2 (by simp)⟩
              rw [upd_ne hcb]
              exact ec2
            · exact ⟨z, hz, rfl, eb2, ec2, .refl⟩
          · obtain ⟨z', hz', rfl, eb3, ec3, m3⟩ := hM
            refine ⟨.ref b, rfl, Or.inl ⟨b, _, 1, .int m, rfl, rfl, sq eb3, rfl, Or.inl ⟨m, 48271, rfl, rfl, .inr ⟨by decide, by decide⟩, .int x, rfl, Or.inl ⟨x, rfl, x, _, rfl, rfl, (by decide : (0 : Int) < _), ?_⟩⟩⟩⟩
            refine Or.inl ⟨_, _, rfl, rfl, .ref b, rfl, Or.inl ⟨b, _, 2, .int (j + 1), rfl, rfl, sq eb3, rfl, Or.inl ⟨7919, j + 1, rfl, rfl, .inl ⟨by decide, by decide⟩, Or.inl ⟨_, _, rfl, rfl, ?_⟩⟩⟩⟩
            refine ⟨_, rfl, Or.inl ⟨_, rfl, _, _, rfl, rfl, (by decide : (0 : Int) < _), .ref b, rfl, b, _, 1, 1, rfl, rfl, eb3, rfl, _, _, _, _, _, rfl, ?_, ?_⟩⟩
            · exact .mkc ((m1.trans m3).trans (.set eb3 (by simp))) hBC (Bag.set eb3 ec3 hcb hl hn hz' (by omega) (Int.emod_nonneg _ (by decide)))
            · exact Bag.set eb3 ec3 hcb hl hn hz' (by omega) (Int.emod_nonneg _ (by decide))
      · exact ⟨_, _, _, _, _, rfl, .refl, z, m, j, ns, eb, ec, hl, hn, hz, hj, hm⟩
    · obtain ⟨y2, y3, y4, y5, y6, rfl, hD, hB⟩ := hM
      have hBC1 := hB
      obtain ⟨z, m, j, ns, eb, ec, hl, hn, hz, hj, hm⟩ := hB
      have hcb : c ≠ b := Bag.ne (xs := [.int z, .int m, .int j]) eb ec
      refine ⟨.ref b, rfl, Or.inl ⟨b, _, 0, .int z, rfl, rfl, sq eb, rfl, z, 0, rfl, rfl, _, rfl, ite2 (fun e => ?_) (fun e => ?_)⟩⟩
      · -- value = int(bag[0]) % many; bag[0] = bag[0] // many; return value
        refine ⟨.ref b, rfl, Or.inl ⟨b, _, 0, .int z, rfl, rfl, sq eb, rfl, Or.inl ⟨z, rfl, .int n, rfl, z, n, rfl, rfl, h0, ?_⟩⟩⟩
        refine ⟨.ref b, rfl, Or.inl ⟨b, _, 0, .int z, rfl, rfl, sq eb, rfl, .int n, rfl, z, n, rfl, rfl, ?_, ?_⟩⟩
        · exact wide_div (b := 64) h0 (by omega) (by decide) (by decide)
        · refine ⟨.ref b, rfl, b, _, 0, 0, rfl, rfl, eb, rfl, ?_⟩
          refine ⟨.int (z % n), rfl, q _ _ (Int.emod_nonneg z (by omega)) (Int.emod_lt_of_pos z h0) (hD.trans (.mkc (.set eb (by simp)) hBC1 ?_))⟩
          exact Bag.set eb ec hcb hl hn (Int.ediv_nonneg hz (by omega)) hj hm
      · refine ⟨.ref b, rfl, Or.inl ⟨b, _, 1, .int m, rfl, rfl, sq eb, rfl, Or.inl ⟨m, 1, rfl, rfl, Or.inl ⟨_, _, rfl, rfl, .inr ⟨by decide, by decide⟩, Or.inl ⟨_, rfl, _, _, rfl, rfl, (by decide : (0 : Int) < _), ?_⟩⟩⟩⟩⟩
        have hx0 : 0 ≤ (m + 1) * 39373 % 1000000007 := Int.emod_nonneg _ (by decide)
        have hx1 : (m + 1) * 39373 % 1000000007 < 1000000007 := Int.emod_lt_of_pos _ (by decide)
        refine ⟨_, rfl, _, rfl, Or.inl ⟨(m + 1) * 39373 % 1000000007, (m + 1) * 39373 % 1000000007, rfl, rfl, .inl ⟨by omega, by omega⟩, Or.inl ⟨_, rfl, _, _, rfl, rfl, (by decide : (0 : Int) < _), Or.inl ⟨_, _, rfl, rfl, .inr ⟨by decide, by decide⟩, Or.inl ⟨_, rfl, _, _, rfl, rfl, (by decide : (0 : Int) < _), ?_⟩⟩⟩⟩⟩
        refine ⟨.int n, rfl, n, _, rfl, rfl, _, rfl, ite2 (fun e => ?_) (fun e => ?_)⟩
        · exact absurd (of_decide_eq_true e) (by omega)
        · refine ⟨_, rfl, _, 7, rfl, rfl, ⟨by decide, by decide⟩, Or.inl ⟨_, rfl, .int n, rfl, _, n, rfl, rfl, h0, ?_⟩⟩
          exact q _ _ (Int.emod_nonneg _ (by omega)) (Int.emod_lt_of_pos _ h0) hD
end
end Fm
namespace Fm
open PySem PySem.Spec PyProof.Rows L2
def sp_names : Sp := fun vs H Q _ => ∃ (b : Addr) (n : Nat), vs = [.ref b, .int n] ∧ Bag H b ∧ 0 < n ∧ n ≤ 12 ∧
  ∀ (p : Addr) (xs : List Str) H', xs.length = n → (∀ x ∈ xs, Nm x) → H p = none → H' p = some (.lst (xs.map V.str)) → Dr b H H' → Q (.ref p) H'
theorem rd_split {X : Cx} {a b : Str} {H : Hp} {Q : VK} (P : List Str → Bool) (hP : P (Txt.split a b) = true)
    (h : ∀ p ws H', P ws = true → H p = none → H' p = some (.lst (ws.map V.str)) → Mv [] H H' → Q (.ref p) H') : rNewStrs (Txt.split a b) H Q :=
  fun p np => h p _ _ hP np upd_same (.new np)
theorem str_len_append (x y : Str) : (x ++ y).length = x.length + y.length := by first | exact strLen_append x y | (show (x.cps ++ y.cps).size = _; simp [Str.length])
theorem str_cps_append (x y : Str) : (x ++ y).cps.toList = x.cps.toList ++ y.cps.toList := by
  show (x.cps ++ y.cps).toList = _
  simp
theorem join_chars : ∀ l : List Nat, Txt.join "" (l.map fun c => (⟨#[c]⟩ : Str)) = ⟨l.toArray⟩
  | [] => by decide +kernel
  | [c] => by
    show Builtin.Str.glued _ _ = _
    rw [StrLaws.glued_eq_join]
    rfl
  | c :: d :: l => by
    have ih := join_chars (d :: l)
    show Builtin.Str.glued _ _ = _
    have ih' : Builtin.Str.glued "" ((d :: l).map fun c => (⟨#[c]⟩ : Str)) = ⟨(d :: l).toArray⟩ := ih
    rw [StrLaws.glued_eq_join] at ih' ⊢
    show (⟨#[c]⟩ : Str) ++ "" ++ Str.join "" ((d :: l).map fun c => (⟨#[c]⟩ : Str)) = _
    rw [ih']
    show (⟨(#[c] ++ #[]) ++ (d :: l).toArray⟩ : Str) = _
    simp
theorem cutS_to (z : Str) (i : Nat) (h : i ≤ z.length) : (cutS z none (some (i : Int))).cps.toList = z.cps.toList.take i := by
  unfold cutS
  rw [HT.sIx_none, HT.sIx_nat, Nat.min_eq_left h]
  simp
theorem cutS_from (z : Str) (i : Nat) (h : i ≤ z.length) : (cutS z (some (i : Int)) none).cps.toList = z.cps.toList.drop i := by
  unfold cutS
  rw [HT.sIx_none, HT.sIx_nat, Nat.min_eq_left h]
  have e : z.cps.toList.length = z.length := by simp [Str.length]
  show ((z.cps.toList.drop i).take (z.length - i)).toArray.toList = _
  rw [List.take_of_length_le (by rw [List.length_drop, e]; exact Nat.le_refl _)]
theorem len_cps (z : Str) : z.cps.toList.length = z.length := by simp [Str.length]
theorem sum_ones : ∀ cs : List Nat, ((cs.map fun c => (⟨#[c]⟩ : Str)).map (·.length)).sum = cs.length
  | [] => rfl
  | c :: cs => by
    have := sum_ones cs
    simp only [List.map_cons, List.sum_cons, List.length_cons, this]
    show 1 + cs.length = _
    omega
theorem cutV_from {xs : List V} {i : Int} (h0 : 0 ≤ i) (h : i ≤ xs.length) : cutV xs (some i) none = xs.drop i.toNat := by
  obtain ⟨j, rfl⟩ := Int.eq_ofNat_of_zero_le h0
  unfold cutV
  rw [HT.sIx_none, HT.sIx_nat, Nat.min_eq_left (by omega), List.take_of_length_le (by rw [List.length_drop]; exact Nat.le_refl _)]
  rfl
theorem cutV_to {xs : List V} {i : Int} (h0 : 0 ≤ i) : cutV xs none (some i) = xs.take i.toNat := by
  obtain ⟨j, rfl⟩ := Int.eq_ofNat_of_zero_le h0
  unfold cutV
  rw [HT.sIx_none, HT.sIx_nat, List.drop_zero]
  show xs.take (min j xs.length - 0) = xs.take j
  rw [Nat.sub_zero]
  by_cases e : j ≤ xs.length
  · rw [Nat.min_eq_left e]
  · rw [Nat.min_eq_right (by omega), List.take_of_length_le (Nat.le_refl _), List.take_of_length_le (by omega)]
theorem rd_letter {K : PySem.W.Frag} {z : Str} {j : Int} {H : Hp} {Q : VK} (hz : (decide (z.length = 26) && z.cps.toList.all fun c => decide (97 ≤ c) && decide (c ≤ 122)) = true) (h0 : 0 ≤ j) (h1 : j < 26)
    (h : ∀ c : Nat, 97 ≤ c → c ≤ 122 → z.cps.toList[j.toNat]? = some c → Q (.str ⟨#[c]⟩) H) : rIx K (.str z) (.int j) H Q := by
  simp only [Bool.and_eq_true, decide_eq_true_eq, List.all_eq_true] at hz
  obtain ⟨hl, ha⟩ := hz
  obtain ⟨i, rfl⟩ := Int.eq_ofNat_of_zero_le h0
  have hi : i < z.cps.toList.length := by rw [len_cps, hl]; omega
  have e := List.getElem?_eq_getElem hi
  have hc := ha _ (List.getElem_mem hi)
  exact Or.inr (Or.inr ⟨z, i, _, rfl, rfl, by rw [hl]; decide, atI_nat e, h _ hc.1 hc.2 e⟩)
section
variable {P : Program} {w : World} {K : PySem.W.Frag} {mg : Str → Option Value} {base : Heap}
theorem ok__law_names (T : TX K mg) {k : Nat} : FnOk P w K mg base CX0 (k + 2) T.d__law_names.f T.d__law_names.fd P__law_names sp_names := by
  have G__law_take : FnOk P w K mg base CX0 (k + 1) T.d__law_take.f T.d__law_take.fd P__law_take sp_take := ok__law_take T
  refine T.d__law_names.F.ok sc__law_names (fun vs H Q E h => ?_) (fun cdv A outer s H vs Q E hr h => ?_)
  · obtain ⟨b, n, rfl, _⟩ := h
    rfl
  · obtain ⟨b, n, rfl, hB, h0, h1, q⟩ := h
    have hu64 := hr.units
    refine ⟨_, (pss_cons (ps_set (i := 2) sc__law_names.nd rfl (Or.inr rfl) pe_str) (pss_cons (ps_set (i := 3) sc__law_names.nd rfl (Or.inl rfl) pe_str) (pss_cons (ps_set (i := 3) sc__law_names.nd rfl (Or.inl rfl) (pe_bm PySem.F.plainAttrs_str PySem.F.slot_str_split PySem.F.type_str_split mt_split (pe_op (r := rAddG K) op_addG (pv 3) pe_str) (pa_cons pe_str pa_nil))) (pss_cons (ps_asg (pe_tup (pa_cons (pe_call G__law_take (hr.mono (by omega)) rfl T.d__law_take.g T.d__law_take.F.kp T.d__law_take.b .nil pass0 (pa_cons (pv 0) (pa_cons pe_int pa_nil))) (pa_cons (pe_call G__law_take (hr.mono (by omega)) rfl T.d__law_take.g T.d__law_take.F.kp T.d__law_take.b .nil pass0 (pa_cons (pv 0) (pa_cons pe_int pa_nil))) pa_nil))) (pg_tup rfl (pgs_cons (pg_name (i := 4) sc__law_names.nd rfl (Or.inl rfl)) (pgs_cons (pg_name (i := 5) sc__law_names.nd rfl (Or.inr rfl)) pgs_nil)))) (pss_cons (ps_set (i := 6) sc__law_names.nd rfl (Or.inr rfl) (pe_bm PySem.F.plainAttrs_str PySem.F.slot_str_join PySem.F.type_str_join mt_join pe_str (pa_cons (pe_lc (own := [("_law_k", 8)]) (g := gName 8) (by rfl) sc__law_names.nd (pi_range1 (by rfl) T.b_range (pa_cons (pe_op (r := rAddG K) op_addG pe_int (pe_call G__law_take (hr.mono (by omega)) rfl T.d__law_take.g T.d__law_take.F.kp T.d__law_take.b .nil pass0 (pa_cons (pv 0) (pa_cons pe_int pa_nil)))) pa_nil)) (blkOk_by (own := [("_law_k", 8)]) (N := N__law_names) (sc := defScope s__law_names) (by decide +kernel)) (fun _ _ _ _ _ => pg_name (i := 8) sc__law_names.nd rfl (Or.inl rfl)) (fun _ _ _ _ _ => pts_nil) (fun _ _ _ _ _ => (pe_ix (r := rIx K) ix_seq (pv 2) (pe_call G__law_take (hr.mono (by omega)) rfl T.d__law_take.g T.d__law_take.F.kp T.d__law_take.b .nil pass0 (pa_cons (pv 0) (pa_cons pe_int pa_nil))) (fun _ _ => rfl)))) pa_nil))) (pss_cons (ps_set (i := 7) sc__law_names.nd rfl (Or.inr rfl) (pe_call G__law_take (hr.mono (by omega)) rfl T.d__law_take.g T.d__law_take.F.kp T.d__law_take.b .nil pass0 (pa_cons (pv 0) (pa_cons (pe_op (r := rAddG K) op_addG (pe_callB (r := rLenG K) call_lenG (by rfl) T.b_len bt_len (pa_cons (pv 6) pa_nil)) pe_int) pa_nil)))) (pss_cons (ps_if (pt_cmpR (r := rEqG K) (op_eqG hu64) (pv 4) pe_int (nomark _)) (pss_one (ps_ret (pe_slice (r := rSlG K) sl_G (pe_op (r := rAddG K) op_addG (pe_slice (r := rSlG K) sl_G (pv 3) (po_some (pv 5)) po_none) (pe_slice (r := rSlG K) sl_G (pv 3) po_none (po_some (pv 5)))) po_none (po_some (pv 1))))) pss_nil) (pss_cons (ps_if (pt_cmpR (r := rEqG K) (op_eqG hu64) (pv 4) pe_int (nomark _)) (pss_one (ps_ret (pe_lc (own := [("_law_k", 8)]) (g := gName 8) (by rfl) sc__law_names.nd (pi_range1 (by rfl) T.b_range (pa_cons (pv 1) pa_nil)) (blkOk_by (own := [("_law_k", 8)]) (N := N__law_names) (sc := defScope s__law_names) (by decide +kernel)) (fun _ _ _ _ _ => pg_name (i := 8) sc__law_names.nd rfl (Or.inl rfl)) (fun _ _ _ _ _ => pts_nil) (fun _ _ _ _ _ => (pe_ix (r := rIx K) ix_seq (pv 2) (pe_op op_mod (pe_callTy call_int1 (by rfl) T.b_int bt_int (pa_cons (pe_op (r := rAddG K) op_addG (pv 5) (pe_op op_mulG pe_int (pv 8))) pa_nil)) pe_int) (fun _ _ => rfl)))))) pss_nil) (pss_one (ps_ret (pe_lc (own := [("_law_k", 8)]) (g := gName 8) (by rfl) sc__law_names.nd (pi_range1 (by rfl) T.b_range (pa_cons (pv 1) pa_nil)) (blkOk_by (own := [("_law_k", 8)]) (N := N__law_names) (sc := defScope s__law_names) (by decide +kernel)) (fun _ _ _ _ _ => pg_name (i := 8) sc__law_names.nd rfl (Or.inl rfl)) (fun _ _ _ _ _ => pts_nil) (fun _ _ _ _ _ => (pe_op (r := rAddG K) op_addG (pe_op (r := rAddG K) op_addG (pe_slice (r := rSlG K) sl_G (pv 6) po_none (po_some (pv 7))) (pe_ix (r := rIx K) ix_seq (pv 2) (pe_op op_mod (pe_callTy call_int1 (by rfl) T.b_int bt_int (pa_cons (pe_op (r := rAddG K) op_addG (pv 5) (pe_op op_mulG pe_int (pv 8))) pa_nil)) pe_int) (fun _ _ => rfl))) (pe_slice (r := rSlG K) sl_G (pv 6) (po_some (pv 7)) po_none)))))))))))))), ?_⟩
    refine ⟨_, rfl, Or.inr (Or.inl ⟨_, _, rfl, rfl, by decide +kernel, rfl, _, _, rfl, rfl, by decide +kernel, by decide +kernel, ?_⟩)⟩
    refine rd_split (X := (cxOf CX0 P w K mg base N__law_names "_law_names" (defScope s__law_names) T.d__law_names.f cdv A outer s H E)) (fun ws => decide (ws.length = 20) && ws.all fun x => decide (Nm x)) (by decide +kernel) fun wp ws H1 hws nwp ewp m1 => ?_
    simp only [Bool.and_eq_true, decide_eq_true_eq, List.all_eq_true] at hws
    obtain ⟨hw20, hwN⟩ := hws
    refine ⟨.ref b, rfl, b, 4, rfl, hB.mv m1, by decide, by decide, fun way H2 hw0 hw1 d2 => ⟨.ref b, rfl, b, 20, rfl, d2.bag (hB.mv m1), by decide, by decide, fun turn H3 ht0 ht1 d3 => ?_⟩⟩
    refine ⟨(by decide : 2 ≤ sizeLine), fun p np => ⟨p, _, rfl, .inl (.inl upd_same), rfl, _, _, rfl, _, _, rfl, rfl, ?_⟩⟩
    have d14 := (d2.trans d3).trans (Dr.new (o := .tup [.int way, .int turn]) np)
    have hB4 := d14.bag (hB.mv m1)
    generalize upd H3 p (.tup [.int way, .int turn]) = H4 at d14 hB4 ⊢
    have hwb : wp ≠ b := (hB.fneq nwp)
    have ew4 : H4 wp = some (.lst (ws.map V.str)) := d14.get hwb ewp
    refine ⟨rfl, .ref b, rfl, b, 7, rfl, hB4, by decide, by decide, fun l H5 hl0 hl1 d5 => Or.inl ⟨1, l, rfl, rfl, 1 + l, rfl, by omega, by omega, fun D nD => ?_⟩⟩
    have hB5 := d5.bag hB4
    refine lc_range (lo := 0) (n := (1 + l).toNat) (fun i H6 => ∃ cs : List Nat, H6 D = some (.lst (cs.map fun c => V.str ⟨#[c]⟩)) ∧ cs.length = i ∧ (∀ c ∈ cs, 97 ≤ c ∧ c ≤ 122) ∧ Dr b H5 H6)
      ⟨[], upd_same, rfl, by simp, Dr.new nD⟩ (fun i H6 hi h6 => ?_) (fun H6 h6 => ?_)
    · obtain ⟨cs, e6, l6, c6, d6⟩ := h6
      refine ⟨rfl, _, rfl, .ref b, rfl, b, 26, rfl, d6.bag hB5, by decide, by decide, fun j H7 hj0 hj1 d7 => rd_letter (by decide +kernel) hj0 hj1 fun c hc0 hc1 _ => ?_⟩
      refine ⟨_, d7.get (hB5.fneq nD) e6, ?_, cs ++ [c], ?_, by simp [l6], ?_, (d6.trans d7).wr nD⟩
      · rw [List.length_map, l6]
        exact small1000 (by omega)
      · rw [upd_same, List.map_append]
        rfl
      · intro z hz
        rcases List.mem_append.mp hz with hz | hz
        · exact c6 z hz
        · rw [List.mem_singleton.mp hz]
          exact ⟨hc0, hc1⟩
    · obtain ⟨cs, e6, l6, c6, d6⟩ := h6
      have hmap : cs.map (fun c => V.str ⟨#[c]⟩) = (cs.map fun c => (⟨#[c]⟩ : Str)).map V.str := by rw [List.map_map]; rfl
      refine ⟨_, D, _, rfl, rfl, .inl (.inl (.inl (by rw [← hmap]; exact e6))), ?_, ?_⟩
      · rw [sum_ones, List.length_map, l6, show ("" : Str).length = 0 from by decide]
        omega
      · rw [join_chars]
        obtain ⟨B, hB0, hBl, hBc⟩ : ∃ B : Str, B = ⟨cs.toArray⟩ ∧ B.length = (1 + l).toNat ∧ ∀ c ∈ B.cps.toList, 97 ≤ c ∧ c ≤ 122 := ⟨_, rfl, by rw [← l6]; rfl, by simpa using c6⟩
        rw [← hB0]
        have hB6 := d6.bag hB5
        refine ⟨.ref b, rfl, .str B, rfl, Or.inr (Or.inl ⟨B, rfl, Nat.le_of_lt (small1000 (by omega)), Or.inl ⟨_, 1, rfl, rfl, b, _, rfl, hB6, by omega, by omega, fun pl H7 hp0 hp1 d7 => ?_⟩⟩)⟩
        have d17 := (d14.trans d5).trans (d6.trans d7)
        have ew7 : H7 wp = some (.lst (ws.map V.str)) := d17.get hwb ewp
        have dH7 : Dr b H H7 := (Dr.of m1).trans d17
        have hB7 : Bag H7 b := dH7.bag hB
        have lenL : ∀ c : Nat, (⟨#[c]⟩ : Str).length = 1 := fun _ => rfl
        have fresh : ∀ {p H'}, Mv [] H7 H' → H' p = none → H p = none := fun m e => dH7.free hB (m.free e)
        refine ⟨.int way, rfl, Or.inl ⟨rfl, _, rfl, ite2 (fun e => ?_) (fun e => ?_)⟩⟩
        · -- the words, turned
          refine ⟨.ref wp, rfl, .int turn, rfl, turn, rfl, Or.inl ⟨wp, _, rfl, .inl (.inl ew7), fun p1 np1 => ?_⟩⟩
          have n1 : wp ≠ p1 := ne_of_none ew7 np1
          refine ⟨.ref wp, rfl, .int turn, rfl, turn, rfl, Or.inl ⟨wp, _, rfl, .inl (.inl (by rw [upd_ne n1]; exact ew7)), fun p2 np2 => ?_⟩⟩
          have n2 : p1 ≠ p2 := ne_of_none upd_same np2
          rw [cutV_from ht0 (by rw [List.length_map]; omega), cutV_to ht0] at *
          refine Or.inr (Or.inr (Or.inr ⟨p1, p2, _, _, rfl, rfl, by rw [upd_ne n2, upd_same], upd_same, ?_, fun p3 np3 => ?_⟩))
          · rw [List.length_drop, List.length_take, List.length_map]
            exact Nat.le_of_lt (small1000 (by omega))
          · refine ⟨.int n, rfl, (n : Int), rfl, Or.inl ⟨p3, _, rfl, .inl (.inl upd_same), fun p4 np4 => ?_⟩⟩
            refine q p4 ((ws.drop turn.toNat ++ ws.take turn.toNat).take n) _ ?_ (fun x hx => ?_) (fresh (((Mv.new (S := []) np1).trans (Mv.new np2)).trans (Mv.new np3)) np4) ?_ (dH7.trans (Dr.of (((Mv.new np1).trans (Mv.new np2)).trans ((Mv.new np3).trans (Mv.new np4)))))
            · rw [List.length_take, List.length_append, List.length_drop, List.length_take]
              omega
            · have h := List.mem_of_mem_take hx
              rcases List.mem_append.mp h with h | h
              · exact hwN x (List.mem_of_mem_drop h)
              · exact hwN x (List.mem_of_mem_take h)
            · rw [upd_same, cutV_to (by omega), List.map_take, List.map_append, List.map_drop, List.map_take]
              rfl
        · refine ⟨.int way, rfl, Or.inl ⟨rfl, _, rfl, ite2 (fun e => ?_) (fun e => ?_)⟩⟩
          · refine ⟨.int n, rfl, (n : Int), rfl, by omega, by omega, fun D8 nD8 => ?_⟩
            refine lc_range (lo := 0) (n := (n : Int).toNat) (fun i H8 => ∃ xs : List Str, H8 D8 = some (.lst (xs.map V.str)) ∧ xs.length = i ∧ (∀ x ∈ xs, Nm x) ∧ Mv [] H7 H8)
              ⟨[], upd_same, rfl, by simp, .new nD8⟩ (fun i H8 hi h8 => ?_) (fun H8 h8 => ?_)
            · obtain ⟨xs, e8, l8, c8, m8⟩ := h8
              refine ⟨rfl, _, rfl, .int turn, rfl, _, rfl, Or.inl ⟨3, _, rfl, rfl, .inl ⟨by decide, by decide⟩, Or.inl ⟨turn, _, rfl, rfl, Or.inl ⟨_, rfl, _, _, rfl, rfl, (by decide : (0 : Int) < _), ?_⟩⟩⟩⟩
              refine rd_letter (by decide +kernel) (Int.emod_nonneg _ (by decide)) (Int.emod_lt_of_pos _ (by decide)) fun c hc0 hc1 _ => ?_
              refine ⟨_, e8, ?_, xs ++ [⟨#[c]⟩], ?_, by simp [l8], ?_, m8.wr nD8⟩
              · rw [List.length_map, l8]
                exact small1000 (by omega)
              · rw [upd_same, List.map_append]
                rfl
              · intro z hz
                rcases List.mem_append.mp hz with hz | hz
                · exact c8 z hz
                · rw [List.mem_singleton.mp hz]
                  exact ⟨by rw [lenL]; decide, by rw [lenL]; decide, by simpa using ⟨hc0, hc1⟩⟩
            · obtain ⟨xs, e8, l8, c8, m8⟩ := h8
              exact q D8 xs H8 (by omega) c8 (dH7.free hB nD8) e8 (dH7.trans (Dr.of m8))
          · refine ⟨.int n, rfl, (n : Int), rfl, by omega, by omega, fun D8 nD8 => ?_⟩
            obtain ⟨at', rfl⟩ := Int.eq_ofNat_of_zero_le hp0
            have hat : at' ≤ B.length := by omega
            refine lc_range (lo := 0) (n := (n : Int).toNat) (fun i H8 => ∃ xs : List Str, H8 D8 = some (.lst (xs.map V.str)) ∧ xs.length = i ∧ (∀ x ∈ xs, Nm x) ∧ Mv [] H7 H8)
              ⟨[], upd_same, rfl, by simp, .new nD8⟩ (fun i H8 hi h8 => ?_) (fun H8 h8 => ?_)
            · obtain ⟨xs, e8, l8, c8, m8⟩ := h8
              have hsz : B.length ≤ sizeLine := Nat.le_of_lt (small1000 (by omega))
              have l1 : (cutS B none (some (at' : Int))).length = at' := by rw [← len_cps, cutS_to B at' hat, List.length_take, len_cps]; omega
              have l2 : (cutS B (some (at' : Int)) none).length = B.length - at' := by rw [← len_cps, cutS_from B at' hat, List.length_drop, len_cps]
              refine ⟨rfl, .str B, rfl, _, rfl, _, rfl, Or.inr (Or.inr ⟨B, rfl, hsz, _, rfl, .int turn, rfl, _, rfl, Or.inl ⟨3, _, rfl, rfl, .inl ⟨by decide, by decide⟩, Or.inl ⟨turn, _, rfl, rfl, Or.inl ⟨_, rfl, _, _, rfl, rfl, (by decide : (0 : Int) < _), ?_⟩⟩⟩⟩)⟩
              refine rd_letter (by decide +kernel) (Int.emod_nonneg _ (by decide)) (Int.emod_lt_of_pos _ (by decide)) fun c hc0 hc1 _ => ?_
              refine Or.inr (Or.inl ⟨_, _, rfl, rfl, by rw [l1, lenL]; exact Nat.le_of_lt (small1000 (by omega)), .str B, rfl, _, rfl, _, rfl, Or.inr (Or.inr ⟨B, rfl, hsz, Or.inr (Or.inl ⟨_, _, rfl, rfl, ?_, ?_⟩)⟩)⟩)
              · rw [str_len_append, l1, l2, lenL]
                exact Nat.le_of_lt (small1000 (by omega))
              · refine ⟨_, e8, ?_, xs ++ [cutS B none (some (at' : Int)) ++ ⟨#[c]⟩ ++ cutS B (some (at' : Int)) none], ?_, by simp [l8], ?_, m8.wr nD8⟩
                · rw [List.length_map, l8]
                  exact small1000 (by omega)
                · rw [upd_same, List.map_append]
                  rfl
                · intro z hz
                  rcases List.mem_append.mp hz with hz | hz
                  · exact c8 z hz
                  · rw [List.mem_singleton.mp hz]
                    refine ⟨?_, ?_, fun d hd => ?_⟩
                    · rw [str_len_append, str_len_append, l1, l2, lenL]
                      omega
                    · rw [str_len_append, str_len_append, l1, l2, lenL]
                      omega
                    · rw [str_cps_append, str_cps_append, cutS_to B at' hat, cutS_from B at' hat] at hd
                      rcases List.mem_append.mp hd with hd | hd
                      · rcases List.mem_append.mp hd with hd | hd
                        · exact hBc d (List.mem_of_mem_take hd)
                        · have : d = c := by simpa using hd
                          rw [this]
                          exact ⟨hc0, hc1⟩
                      · exact hBc d (List.mem_of_mem_drop hd)
            · obtain ⟨xs, e8, l8, c8, m8⟩ := h8
              exact q D8 xs H8 (by omega) c8 (dH7.free hB nD8) e8 (dH7.trans (Dr.of m8))
end
end Fm
namespace Fm
open PySem PySem.Spec PyProof.Rows L2
def sp_term (K : PySem.W.Frag) (d : Nat) : Sp := fun vs H Q _ => ∃ (b nm : Addr) (xs : List Str) (many deep : Int), vs = [.ref b, .ref nm, .int many, .int deep] ∧ Bag H b ∧
  H nm = some (.lst (xs.map V.str)) ∧ nm ≠ b ∧ xs ≠ [] ∧ xs.length ≤ 1000 ∧ (∀ x ∈ xs, Nm x) ∧ 0 ≤ many ∧ many ≤ 1000000 ∧ deep.toNat < d ∧
  ∀ v (t : Tm) H', t.ok (fun i => 0 ≤ i ∧ i < many) → t.dep ≤ max deep.toNat 1 → (0 < many → t.dep ≤ deep.toNat) → Im K H' v t.d → Dr b H H' → Q v H'
local macro_rules | `(tactic| walk_at "nn") => `(tactic| dsimp only [tC, tNil, tCons, tCB, tCall, gName, tSeq, tAsg, tPar, tDrop, tRet])
section
variable {P : Program} {w : World} {K : PySem.W.Frag} {mg : Str → Option Value} {base : Heap}
theorem ok__law_term (T : TX K mg) : ∀ d : Nat, FnOk P w K mg base CX0 (d + 2) T.d__law_term.f T.d__law_term.fd P__law_term (sp_term K d)
  | 0 => ⟨fun vs H Q E h => by obtain ⟨_, _, _, _, _, _, _, _, _, _, _, _, _, _, h, _⟩ := h; omega, fun _ _ _ _ _ _ _ _ _ _ _ _ _ h => by obtain ⟨_, _, _, _, _, _, _, _, _, _, _, _, _, _, h, _⟩ := h; omega⟩
  | d + 1 => by
    have G__law_term := ok__law_term T d
    have G__law_take : FnOk P w K mg base CX0 1 T.d__law_take.f T.d__law_take.fd P__law_take sp_take := ok__law_take T
    refine T.d__law_term.F.ok sc__law_term (fun vs H Q E h => ?_) (fun cdv A outer s H vs Q E hr h => ?_)
    · obtain ⟨b, nm, xs, many, deep, rfl, _⟩ := h
      rfl
    · obtain ⟨b, nm, xs, many, deep, rfl, hB, hN, hnb, hx0, hx1, hxN, hm0, hm1, hd, q⟩ := h
      have hu64 := hr.units
      have hlen : 0 < xs.length := List.length_pos_iff.mpr hx0
      refine ⟨_, (pss_cons (ps_set (i := 4) sc__law_term.nd rfl (Or.inl rfl) (pe_call G__law_take (hr.mono (by omega)) rfl T.d__law_take.g T.d__law_take.F.kp T.d__law_take.b .nil pass0 (pa_cons (pv 0) (pa_cons pe_int pa_nil)))) (pss_cons (ps_if (PW.pt (pw_and (pt_cmpR op_gt (pv 2) pe_int (nomark _)) (pw_and1 (PW.pt (pw_or (pt_cmpR op_lt (pv 3) pe_int (nomark _)) (pw_or1 (pt_cmpR (r := rEqG K) (op_eqG hu64) (pv 4) pe_int (nomark _)))))))) (pss_one (ps_ret (pe_call G__law_take (hr.mono (by omega)) rfl T.d__law_take.g T.d__law_take.F.kp T.d__law_take.b .nil pass0 (pa_cons (pv 0) (pa_cons (pv 2) pa_nil))))) pss_nil) (pss_cons (ps_par (i := 5) (j := 6) rfl sc__law_term.nd rfl rfl (by decide) rfl rfl (pa_cons (pe_ix (r := rIx K) ix_seq (pv 1) (pe_call G__law_take (hr.mono (by omega)) rfl T.d__law_take.g T.d__law_take.F.kp T.d__law_take.b .nil pass0 (pa_cons (pv 0) (pa_cons (pe_callB (r := rLenG K) call_lenG (by rfl) T.b_len bt_len (pa_cons (pv 1) pa_nil)) pa_nil))) (fun _ _ => rfl)) (pa_cons (pe_call G__law_take (hr.mono (by omega)) rfl T.d__law_take.g T.d__law_take.F.kp T.d__law_take.b .nil pass0 (pa_cons (pv 0) (pa_cons pe_int pa_nil))) pa_nil)) rfl) (pss_cons (ps_if (PW.pt (pw_or (PW.pt (pw_and (pt_cmpR op_le (pv 3) pe_int (nomark _)) (pw_and1 (pt_cmpR (r := rEqG K) (op_eqG hu64) (pv 2) pe_int (nomark _))))) (pw_or1 (pt_cmpR (r := rEqG K) (op_eqG hu64) (pv 4) pe_int (nomark _))))) (pss_one (ps_ret (pe_tup (pa_cons (pv 5) pa_nil)))) pss_nil) (pss_one (ps_ret (pe_op (r := rAddG K) op_addG (pe_tup (pa_cons (pv 5) pa_nil)) (pe_callTy (r := rTupOf K) call_tupG (by rfl) T.b_tuple bt_tuple (pa_cons (pe_lc (own := [("_law_k", 7)]) (g := gName 7) (by rfl) sc__law_term.nd (pi_range1 (by rfl) T.b_range (pa_cons (pv 6) pa_nil)) (blkOk_by (own := [("_law_k", 7)]) (N := N__law_term) (sc := defScope s__law_term) (by decide +kernel)) (fun _ _ _ _ _ => pg_name (i := 7) sc__law_term.nd rfl (Or.inl rfl)) (fun _ _ _ _ _ => pts_nil) (fun _ _ _ _ _ => (pe_call G__law_term (hr.mono (by omega)) rfl T.d__law_term.g T.d__law_term.F.kp T.d__law_term.b .nil pass0 (pa_cons (pv 0) (pa_cons (pv 1) (pa_cons (pv 2) (pa_cons (pe_op op_sub (pv 3) pe_int) pa_nil))))))) pa_nil))))))))), ?_⟩
      refine ⟨.ref b, rfl, b, 4, rfl, hB, by decide, by decide, fun way H1 hw0 hw1 d1 => ?_⟩
      have hB1 := d1.bag hB
      have hN1 := d1.get hnb hN
      dsimp only [gName, tSeq, tPar]
      refine st_if (tb_and (tb_test (tv_I (tv_var rfl) tv_c)) (tb_or (tb_test (tv_I (tv_var rfl) tv_c)) (tb_test (tv_eqI (tv_var rfl) tv_c)))) ?_ ?_
      · -- an unknown
        intro e
        simp only [Bool.and_eq_true, decide_eq_true_eq] at e
        refine ⟨.ref b, rfl, .int many, rfl, b, many, rfl, hB1, e.1, hm1, fun i H2 hi0 hi1 d2 => ?_⟩
        exact q _ (.var i) H2 ⟨hi0, hi1⟩ (by simp [Tm.dep]) (fun _ => by simp [Tm.dep]) (Im.int i) (d1.trans d2)
      · intro e
        have e1 : ¬ (0 < many ∧ deep < 1) := fun z => by simp [z.1, z.2] at e
        refine ⟨.ref nm, rfl, .ref b, rfl, .ref nm, rfl, ?_⟩
        walk_at "nn"
        refine rd_len (.inl (.inl (.inl hN1))) ?_
        refine ⟨b, _, rfl, hB1, by rw [List.length_map]; omega, by rw [List.length_map]; omega, fun ni H2 hn0 hn1 d2 => ?_⟩
        rw [List.length_map] at hn1
        have hni : ni.toNat < xs.length := by omega
        have hB2 := d2.bag hB1
        have hN2 := d2.get hnb hN1
        refine rd_ixL (.inl (.inl hN2)) hn0 (v := .str xs[ni.toNat]) (by rw [List.getElem?_map, List.getElem?_eq_getElem hni]; rfl) ?_
        obtain ⟨nx, hnx, hNm⟩ : ∃ nx, nx = xs[ni.toNat] ∧ Nm nx := ⟨_, rfl, hxN _ (List.getElem_mem hni)⟩
        rw [← hnx]
        refine ⟨.ref b, rfl, b, 4, rfl, hB2, by decide, by decide, fun parts H3 hp0 hp1 d3 => ⟨_, _, rfl, ?_⟩⟩
        have hB3 := d3.bag hB2
        have hN3 := d3.get hnb hN2
        have d13 := (d1.trans d2).trans d3
        refine st_if (tb_or (tb_and (tb_test (tv_I (tv_var rfl) tv_c)) (tb_test (tv_eqI (tv_var rfl) tv_c))) (tb_test (tv_eqI (tv_var rfl) tv_c))) ?_ ?_
        · -- a constant
          intro e
          refine ⟨_, rfl, (by decide : 1 ≤ sizeLine), fun p np => ?_⟩
          refine q _ (.op nx []) _ ⟨hNm, by simp, trivial⟩ (by simp [Tm.dep, Tm.deps]; omega) (fun z => ?_) (Im.tup (.inl (.inl upd_same)) (Ims.cons (Im.str nx) Ims.nil)) (d13.trans (Dr.new np))
          simp only [Tm.dep, Tm.deps]
          omega
        · intro e
          have e2 : ¬ (deep ≤ 1 ∧ many = 0) := fun z => by simp [z.1, z.2] at e
          have hdeep : 1 ≤ deep := by omega
          refine ⟨_, rfl, (by decide : 1 ≤ sizeLine), fun p np => ?_⟩
          have d4 := d13.trans (Dr.new (o := .tup [.str nx]) np)
          have e4 : SqT K (upd H3 p (.tup [.str nx])) p [.str nx] := .inl (.inl upd_same)
          have hB4 := d4.bag hB
          have hN4 := d4.get hnb hN
          generalize upd H3 p (.tup [.str nx]) = H4 at d4 e4 hB4 hN4 ⊢
          refine ⟨.int parts, rfl, parts, rfl, by omega, by omega, fun D nD => ?_⟩
          refine lc_range (lo := 0) (n := parts.toNat) (fun i H5 => ∃ (vs : List V) (ts : List Tm), H5 D = some (.lst vs) ∧ Ims K H5 vs (Tm.ds ts) ∧ ts.length = i ∧ Tm.oks (fun i => 0 ≤ i ∧ i < many) ts ∧ Tm.deps ts ≤ max (deep - 1).toNat 1 ∧ (0 < many → Tm.deps ts ≤ (deep - 1).toNat) ∧ Dr b H4 H5)
            ⟨[], [], upd_same, Ims.nil, rfl, trivial, by simp [Tm.deps], fun _ => by simp [Tm.deps], Dr.new nD⟩ (fun i H5 hi h5 => ?_) (fun H5 h5 => ?_)
          · obtain ⟨vs, ts, e5, i5, l5, o5, p5, r5, d5⟩ := h5
            have hB5 := d5.bag hB4
            have hN5 := d5.get hnb hN4
            refine ⟨rfl, .ref b, rfl, .ref nm, rfl, .int many, rfl, .int deep, rfl, deep, 1, rfl, rfl, b, nm, xs, many, deep - 1, rfl, hB5, hN5, hnb, hx0, hx1, hxN, hm0, hm1, by omega, fun v t H6 ho hd1 hd2 him d6 => ?_⟩
            refine ⟨_, d6.get (hB4.fneq nD) e5, ?_, vs ++ [v], ts ++ [t], upd_same, ?_, by simp [l5], ?_, ?_, fun z => ?_, (d5.trans d6).wr nD⟩
            · rw [i5.length, Tm.ds_map, List.length_map, l5]
              exact small1000 (by omega)
            · rw [show Tm.ds (ts ++ [t]) = Tm.ds ts ++ [t.d] by simp [Tm.ds_map]]
              exact ((i5.mv d6.mv).append (Ims.cons him Ims.nil)).mv (Mv.set (S := [D]) (d6.get (hB4.fneq nD) e5) (by simp))
            · rw [Tm.oks_iff] at o5 ⊢
              intro y hy
              rcases List.mem_append.mp hy with hy | hy
              · exact o5 y hy
              · rw [List.mem_singleton.mp hy]
                exact ho
            · rw [Tm.deps_le] at p5 ⊢
              intro y hy
              rcases List.mem_append.mp hy with hy | hy
              · exact p5 y hy
              · rw [List.mem_singleton.mp hy]
                exact hd1
            · have r5' := r5 z
              have hd2' := hd2 z
              rw [Tm.deps_le] at r5' ⊢
              intro y hy
              rcases List.mem_append.mp hy with hy | hy
              · exact r5' y hy
              · rw [List.mem_singleton.mp hy]
                exact hd2'
          · obtain ⟨vs, ts, e5, i5, l5, o5, p5, r5, d5⟩ := h5
            walk_at "nn"
            refine rd_tupOf (.inl (.inl e5)) fun p6 H6 m6 e6 => ?_
            refine rd_cat (m6.sqT (d5.mv.sqT e4)) e6 ?_ fun p7 H7 m7 e7 => ?_
            · rw [i5.length, Tm.ds_map, List.length_map, l5]
              exact Nat.le_of_lt (small1000 (by simp; omega))
            · refine q _ (.op nx ts) H7 ⟨hNm, by omega, o5⟩ ?_ (fun z => ?_) (Im.tup e7 ?_) (d4.trans (d5.trans (Dr.of (m6.trans m7))))
              · simp only [Tm.dep]
                omega
              · have := r5 z
                simp only [Tm.dep]
                omega
              · exact Ims.cons (Im.str nx) ((i5.mv m6).mv m7)
end
end Fm
namespace Fm
open PySem PySem.Spec PyProof.Rows L2
local macro_rules | `(tactic| walk_at "nn") => `(tactic| dsimp only [tC, tNil, tCons, tCB, tCall, gName, tSeq, tAsg, tPar, tDrop, tRet])
def Look1 (K : PySem.W.Frag) (H : Hp) (vals : V) (P : Int → Prop) (f : Int → Tm) : Prop := ∃ a, vals = .ref a ∧
  ((∃ xs, SqL K H a xs ∧ ∀ i, P i → 0 ≤ i ∧ ∃ v, xs[i.toNat]? = some v ∧ Im K H v (f i).d) ∨
   (∃ xs, SqT K H a xs ∧ ∀ i, P i → 0 ≤ i ∧ ∃ v, xs[i.toNat]? = some v ∧ Im K H v (f i).d) ∨
   (∃ kvs, H a = some (.dK kvs) ∧ ∀ i, P i → ∃ v, valV kvs (.inl i) = some v ∧ Im K H v (f i).d))
theorem Look1.mv {K : PySem.W.Frag} {H H' : Hp} {vals : V} {P : Int → Prop} {f : Int → Tm} (h : Look1 K H vals P f) (m : Mv [] H H') : Look1 K H' vals P f := by
  obtain ⟨a, rfl, h⟩ := h
  refine ⟨a, rfl, ?_⟩
  rcases h with ⟨xs, h1, h2⟩ | ⟨xs, h1, h2⟩ | ⟨xs, h1, h2⟩
  · refine .inl ⟨xs, m.same.seq h1, fun i hi => ?_⟩
    obtain ⟨h0, v, hv, hm⟩ := h2 i hi
    exact ⟨h0, v, hv, hm.mv m⟩
  · refine .inr (.inl ⟨xs, m.sqT h1, fun i hi => ?_⟩)
    obtain ⟨h0, v, hv, hm⟩ := h2 i hi
    exact ⟨h0, v, hv, hm.mv m⟩
  · refine .inr (.inr ⟨xs, m.same _ _ h1, fun i hi => ?_⟩)
    obtain ⟨v, hv, hm⟩ := h2 i hi
    exact ⟨v, hv, hm.mv m⟩
def sp_put (K : PySem.W.Frag) (d : Nat) : Sp := fun vs H Q _ => ∃ (v vals : V) (t : Tm) (P : Int → Prop) (f : Int → Tm), vs = [v, vals] ∧ Im K H v t.d ∧ t.ok P ∧ t.dep < d ∧ Look1 K H vals P f ∧
  ∀ v' H', Mv [] H H' → Im K H' v' (t.put f).d → Q v' H'
section
variable {P : Program} {w : World} {K : PySem.W.Frag} {mg : Str → Option Value} {base : Heap}

theorem ok_put (T : TX K mg) : ∀ d : Nat, FnOk P w K mg base CX0 (d + 1) T.d_put.f T.d_put.fd P_put (sp_put K d)
  | 0 => ⟨fun vs H Q E h => by obtain ⟨_, _, _, _, _, _, _, _, h, _⟩ := h; omega, fun _ _ _ _ _ _ _ _ _ _ _ _ _ h => by obtain ⟨_, _, _, _, _, _, _, _, h, _⟩ := h; omega⟩
  | d + 1 => by
    have G_put := ok_put T d
    refine T.d_put.F.ok sc_put (fun vs H Q E h => ?_) (fun cdv A outer s H vs Q E hr h => ?_)
    · obtain ⟨_, _, _, _, _, rfl, _⟩ := h
      rfl
    · obtain ⟨v, vals, t, R, f, rfl, him, hok, hdp, hlk, q⟩ := h
      have hu1 := hu_of hr
      refine ⟨_, (pss_cons (ps_if (pt_val (pe_callB (r := rIsi K) call_isi (by rfl) T.b_isinstance bt_isinstance (pa_cons (pv 0) (pa_cons (pe_ty T.b_int bt_int) pa_nil)))) (pss_one (ps_ret (pe_or2 (pe_ix (r := rIx K) ix_seq (pv 1) (pv 0) (fun _ _ => rfl)) (pe_dget hu1 (pv 1) (pv 0) (fun _ _ => rfl))))) pss_nil) (pss_one (ps_ret (pe_op (r := rAddG K) op_addG (pe_slice (r := rSlG K) sl_G (pv 0) po_none (po_some pe_int)) (pe_callTy (r := rTupOf K) call_tupG (by rfl) T.b_tuple bt_tuple (pa_cons (pe_lc (own := [("part", 2)]) (g := gName 2) (by rfl) sc_put.nd (pi_seq (pe_slice (r := rSlG K) sl_G (pv 0) (po_some pe_int) po_none)) (blkOk_by (own := [("part", 2)]) (N := N_put) (sc := defScope s_put) (by decide +kernel)) (fun _ _ _ _ _ => pg_name (i := 2) sc_put.nd rfl (Or.inl rfl)) (fun _ _ _ _ _ => pts_nil) (fun _ _ _ _ _ => (pe_call G_put (hr.mono (by omega)) rfl T.d_put.g T.d_put.F.kp T.d_put.b .nil pass0 (pa_cons (pv 2) (pa_cons (pv 1) pa_nil))))) pa_nil)))))), ?_⟩
      refine ⟨v, rfl, ?_⟩
      walk_at "nn"
      refine rd_isInt him ?_
      refine ⟨_, rfl, ?_⟩
      cases t with
      | var i =>
        cases him.intI
        obtain ⟨a, rfl, hlk⟩ := hlk
        rcases hlk with ⟨xs, h1, h2⟩ | ⟨xs, h1, h2⟩ | ⟨xs, h1, h2⟩
        · obtain ⟨h0, y, hy, hm⟩ := h2 i hok
          exact Or.inl ⟨.ref a, rfl, .int i, rfl, rd_ixL h1 h0 hy (q _ _ .refl hm)⟩
        · obtain ⟨h0, y, hy, hm⟩ := h2 i hok
          exact Or.inl ⟨.ref a, rfl, .int i, rfl, rd_ixT h1 h0 hy (q _ _ .refl hm)⟩
        · obtain ⟨y, hy, hm⟩ := h2 i hok
          exact Or.inr ⟨.ref a, rfl, .int i, rfl, a, y, rfl, by rw [← hy]; exact DGet.k (k := .inl i) h1, q _ _ .refl hm⟩
      | op x ts =>
        obtain ⟨a, xs0, rfl, ha, hxs⟩ := him.tupI
        obtain ⟨x', xs, rfl, hx', hys⟩ := hxs.invD
        cases hx'.strI
        refine ⟨.ref a, rfl, 1, rfl, rd_slA ha fun p1 H1 m1 e1 => ⟨.ref a, rfl, 1, rfl, rd_sl1 (m1.sqT ha) fun p2 H2 m2 e2 => ⟨p2, rfl, Or.inr ⟨⟨_, e2⟩, fun D nD => ?_⟩⟩⟩⟩
        have m12 := m1.trans m2
        have hl : xs.length = ts.length := by rw [hys.length, Tm.ds_map, List.length_map]
        refine lc_tup (K := K) (a := p2) (xs := xs) (fun i H3 => ∃ ys, H3 D = some (.lst ys) ∧ Ims K H3 ys (Tm.ds ((ts.take i).map (Tm.put f))) ∧ Mv [] H2 H3)
          ⟨[], upd_same, Ims.nil, .new nD⟩ (fun i H3 _ h3 => ?_) (fun i z H3 hz h3 => ?_) (fun H3 h3 => ?_)
        · obtain ⟨ys, _, _, m3⟩ := h3
          exact m3.sqT e2
        · obtain ⟨ys, e3, i3, m3⟩ := h3
          obtain ⟨zd, hzd, hzi⟩ := hys.get hz
          rw [Tm.ds_map, List.getElem?_map] at hzd
          obtain ⟨zt, hzt, rfl⟩ := Option.map_eq_some_iff.mp hzd
          have hmem := List.mem_of_getElem? hzt
          refine ⟨rfl, z, rfl, vals, rfl, z, vals, zt, R, f, rfl, hzi.mv (m12.trans m3), Tm.oks_iff.mp hok.2.2 zt hmem, ?_, hlk.mv (m12.trans m3), fun y H4 m4 h4 => ?_⟩
          · have h5 := Tm.deps_le.mp (show Tm.deps ts ≤ Tm.deps ts from Nat.le_refl _) zt hmem
            simp only [Tm.dep] at hdp
            omega
          · have e4 := m4.same _ _ e3
            refine ⟨_, e4, ?_, ys ++ [y], upd_same, ?_, (m3.trans m4).wr nD⟩
            · have h6 := (List.getElem?_eq_some_iff.mp hzt).1
              have h7 := hok.2.1
              rw [i3.length, Tm.ds_map, List.length_map, List.length_map, List.length_take]
              exact small1000 (by omega)
            · rw [List.take_add_one, hzt]
              rw [show Tm.ds (List.map (Tm.put f) (ts.take i ++ (some zt).toList)) = Tm.ds ((ts.take i).map (Tm.put f)) ++ [(zt.put f).d] by simp [Tm.ds_map]]
              exact ((i3.mv m4).append (Ims.cons h4 Ims.nil)).mv (Mv.set (S := [D]) e4 (by simp))
        · obtain ⟨ys, e3, i3, m3⟩ := h3
          rw [hl, List.take_length] at i3
          walk_at "nn"
          refine rd_tupOf (.inl (.inl e3)) fun p4 H4 m4 e4 => ?_
          refine rd_cat (m4.sqT (m3.sqT (m2.sqT e1))) e4 ?_ fun p5 H5 m5 e5 => ?_
          · have h7 := hok.2.1
            rw [i3.length, Tm.ds_map, List.length_map, List.length_map]
            exact Nat.le_of_lt (small1000 (by simp; omega))
          · refine q _ H5 (((m12.trans m3).trans m4).trans m5) (Im.tup e5 (Ims.cons (Im.str x) ?_))
            rw [← Tm.puts_map] at i3
            exact (i3.mv m4).mv m5

theorem ok__law_put (T : TX K mg) : ∀ d : Nat, FnOk P w K mg base CX0 (d + 1) T.d__law_put.f T.d__law_put.fd P__law_put (sp_put K d)
  | 0 => ⟨fun vs H Q E h => by obtain ⟨_, _, _, _, _, _, _, _, h, _⟩ := h; omega, fun _ _ _ _ _ _ _ _ _ _ _ _ _ h => by obtain ⟨_, _, _, _, _, _, _, _, h, _⟩ := h; omega⟩
  | d + 1 => by
    have G__law_put := ok__law_put T d
    refine T.d__law_put.F.ok sc__law_put (fun vs H Q E h => ?_) (fun cdv A outer s H vs Q E hr h => ?_)
    · obtain ⟨_, _, _, _, _, rfl, _⟩ := h
      rfl
    · obtain ⟨v, vals, t, R, f, rfl, him, hok, hdp, hlk, q⟩ := h
      have hu1 := hu_of hr
      refine ⟨_, (pss_cons (ps_if (pt_val (pe_callB (r := rIsi K) call_isi (by rfl) T.b_isinstance bt_isinstance (pa_cons (pv 0) (pa_cons (pe_ty T.b_int bt_int) pa_nil)))) (pss_one (ps_ret (pe_or2 (pe_ix (r := rIx K) ix_seq (pv 1) (pv 0) (fun _ _ => rfl)) (pe_dget hu1 (pv 1) (pv 0) (fun _ _ => rfl))))) pss_nil) (pss_one (ps_ret (pe_op (r := rAddG K) op_addG (pe_slice (r := rSlG K) sl_G (pv 0) po_none (po_some pe_int)) (pe_callTy (r := rTupOf K) call_tupG (by rfl) T.b_tuple bt_tuple (pa_cons (pe_lc (own := [("_law_part", 2)]) (g := gName 2) (by rfl) sc__law_put.nd (pi_seq (pe_slice (r := rSlG K) sl_G (pv 0) (po_some pe_int) po_none)) (blkOk_by (own := [("_law_part", 2)]) (N := N__law_put) (sc := defScope s__law_put) (by decide +kernel)) (fun _ _ _ _ _ => pg_name (i := 2) sc__law_put.nd rfl (Or.inl rfl)) (fun _ _ _ _ _ => pts_nil) (fun _ _ _ _ _ => (pe_call G__law_put (hr.mono (by omega)) rfl T.d__law_put.g T.d__law_put.F.kp T.d__law_put.b .nil pass0 (pa_cons (pv 2) (pa_cons (pv 1) pa_nil))))) pa_nil)))))), ?_⟩
      refine ⟨v, rfl, ?_⟩
      walk_at "nn"
      refine rd_isInt him ?_
      refine ⟨_, rfl, ?_⟩
      cases t with
      | var i =>
        cases him.intI
        obtain ⟨a, rfl, hlk⟩ := hlk
        rcases hlk with ⟨xs, h1, h2⟩ | ⟨xs, h1, h2⟩ | ⟨xs, h1, h2⟩
        · obtain ⟨h0, y, hy, hm⟩ := h2 i hok
          exact Or.inl ⟨.ref a, rfl, .int i, rfl, rd_ixL h1 h0 hy (q _ _ .refl hm)⟩
        · obtain ⟨h0, y, hy, hm⟩ := h2 i hok
          exact Or.inl ⟨.ref a, rfl, .int i, rfl, rd_ixT h1 h0 hy (q _ _ .refl hm)⟩
        · obtain ⟨y, hy, hm⟩ := h2 i hok
          exact Or.inr ⟨.ref a, rfl, .int i, rfl, a, y, rfl, by rw [← hy]; exact DGet.k (k := .inl i) h1, q _ _ .refl hm⟩
      | op x ts =>
        obtain ⟨a, xs0, rfl, ha, hxs⟩ := him.tupI
        obtain ⟨x', xs, rfl, hx', hys⟩ := hxs.invD
        cases hx'.strI
        refine ⟨.ref a, rfl, 1, rfl, rd_slA ha fun p1 H1 m1 e1 => ⟨.ref a, rfl, 1, rfl, rd_sl1 (m1.sqT ha) fun p2 H2 m2 e2 => ⟨p2, rfl, Or.inr ⟨⟨_, e2⟩, fun D nD => ?_⟩⟩⟩⟩
        have m12 := m1.trans m2
        have hl : xs.length = ts.length := by rw [hys.length, Tm.ds_map, List.length_map]
        refine lc_tup (K := K) (a := p2) (xs := xs) (fun i H3 => ∃ ys, H3 D = some (.lst ys) ∧ Ims K H3 ys (Tm.ds ((ts.take i).map (Tm.put f))) ∧ Mv [] H2 H3)
          ⟨[], upd_same, Ims.nil, .new nD⟩ (fun i H3 _ h3 => ?_) (fun i z H3 hz h3 => ?_) (fun H3 h3 => ?_)
        · obtain ⟨ys, _, _, m3⟩ := h3
          exact m3.sqT e2
        · obtain ⟨ys, e3, i3, m3⟩ := h3
          obtain ⟨zd, hzd, hzi⟩ := hys.get hz
          rw [Tm.ds_map, List.getElem?_map] at hzd
          obtain ⟨zt, hzt, rfl⟩ := Option.map_eq_some_iff.mp hzd
          have hmem := List.mem_of_getElem? hzt
          refine ⟨rfl, z, rfl, vals, rfl, z, vals, zt, R, f, rfl, hzi.mv (m12.trans m3), Tm.oks_iff.mp hok.2.2 zt hmem, ?_, hlk.mv (m12.trans m3), fun y H4 m4 h4 => ?_⟩
          · have h5 := Tm.deps_le.mp (show Tm.deps ts ≤ Tm.deps ts from Nat.le_refl _) zt hmem
            simp only [Tm.dep] at hdp
            omega
          · have e4 := m4.same _ _ e3
            refine ⟨_, e4, ?_, ys ++ [y], upd_same, ?_, (m3.trans m4).wr nD⟩
            · have h6 := (List.getElem?_eq_some_iff.mp hzt).1
              have h7 := hok.2.1
              rw [i3.length, Tm.ds_map, List.length_map, List.length_map, List.length_take]
              exact small1000 (by omega)
            · rw [List.take_add_one, hzt]
              rw [show Tm.ds (List.map (Tm.put f) (ts.take i ++ (some zt).toList)) = Tm.ds ((ts.take i).map (Tm.put f)) ++ [(zt.put f).d] by simp [Tm.ds_map]]
              exact ((i3.mv m4).append (Ims.cons h4 Ims.nil)).mv (Mv.set (S := [D]) e4 (by simp))
        · obtain ⟨ys, e3, i3, m3⟩ := h3
          rw [hl, List.take_length] at i3
          walk_at "nn"
          refine rd_tupOf (.inl (.inl e3)) fun p4 H4 m4 e4 => ?_
          refine rd_cat (m4.sqT (m3.sqT (m2.sqT e1))) e4 ?_ fun p5 H5 m5 e5 => ?_
          · have h7 := hok.2.1
            rw [i3.length, Tm.ds_map, List.length_map, List.length_map]
            exact Nat.le_of_lt (small1000 (by simp; omega))
          · refine q _ H5 (((m12.trans m3).trans m4).trans m5) (Im.tup e5 (Ims.cons (Im.str x) ?_))
            rw [← Tm.puts_map] at i3
            exact (i3.mv m4).mv m5

end
end Fm
namespace Fm
open PySem PySem.Spec PyProof.Rows L2
local macro_rules | `(tactic| walk_at "nn") => `(tactic| dsimp only [tC, tNil, tCons, tCB, tCall, gName, tSeq, tAsg, tPar, tDrop, tRet])
theorem line5 {n : Nat} (h : n ≤ 100000) : n ≤ sizeLine := Nat.le_trans h (by decide)
theorem line5lt {n : Nat} (h : n ≤ 100000) : n < sizeLine := Nat.lt_of_le_of_lt h (by decide)
theorem Tm.lv_mem : ∀ {t : Tm} {ts : List Tm}, t ∈ ts → t.lv ≤ Tm.lvs ts
  | t, u :: ts, h => by
    rcases List.mem_cons.mp h with rfl | h
    · simp only [Tm.lvs]; omega
    · have := Tm.lv_mem h
      simp only [Tm.lvs]; omega
def sp_leavesR (K : PySem.W.Frag) (d : Nat) : Sp := fun vs H Q _ => ∃ (a : Addr) (xs : List V) (ts : List Tm), vs = [.ref a] ∧ (SqL K H a xs ∨ SqT K H a xs) ∧ Ims K H xs (Tm.ds ts) ∧ Tm.deps ts < d ∧ Tm.lvs ts ≤ 100000 ∧
  ∀ p H', H p = none → Mv [] H H' → H' p = some (.lst ((Tm.leavesL ts).map V.int)) → Q (.ref p) H'
def sp_sizeR (K : PySem.W.Frag) (d : Nat) : Sp := fun vs H Q _ => ∃ (a : Addr) (xs : List V) (ts : List Tm), vs = [.ref a] ∧ (SqL K H a xs ∨ SqT K H a xs) ∧ Ims K H xs (Tm.ds ts) ∧ Tm.deps ts < d ∧ ts.length ≤ 100000 ∧ Tm.oks (fun _ => True) ts ∧
  ∀ H', Mv [] H H' → Q (.int (Tm.sizes ts)) H'
section
variable {P : Program} {w : World} {K : PySem.W.Frag} {mg : Str → Option Value} {base : Heap}
end
end Fm
namespace Fm
open PySem PySem.Spec PyProof.Rows L2
local macro_rules | `(tactic| walk_at "nn") => `(tactic| dsimp only [tC, tNil, tCons, tCB, tCall, gName, tSeq, tAsg, tPar, tDrop, tRet])
local macro_rules | `(tactic| walk_at "nc") => `(tactic| dsimp only [tC, tNil, tCons, tCB])
structure Nms (H : Hp) (b nm : Addr) (xs : List Str) : Prop where
  at_ : H nm = some (.lst (xs.map V.str))
  ne : nm ≠ b
  some_ : xs ≠ []
  few : xs.length ≤ 1000
  ok : ∀ x ∈ xs, Nm x
theorem Nms.dr {H H' : Hp} {b nm : Addr} {xs : List Str} (h : Nms H b nm xs) (d : Dr b H H') : Nms H' b nm xs := ⟨d.get h.ne h.at_, h.ne, h.some_, h.few, h.ok⟩
def sp_alike (K : PySem.W.Frag) : Sp := fun vs H Q _ => ∃ (x y : V) (d : PyData), vs = [x, y] ∧ Dp K H x d ∧ Dp K H y d ∧ Shw d ∧ Q (.bl true) H
section
variable {P : Program} {w : World} {K : PySem.W.Frag} {mg : Str → Option Value} {base : Heap}
theorem ok__law_alike (T : TX K mg) {k : Nat} : FnOkG P w K mg base CX0 (k + 1) T.d__law_alike.f T.d__law_alike.fd P__law_alike (sp_alike K) := by
  refine okG T.d__law_alike.F sc__law_alike (fun vs H Q E h => ?_) (fun cdv A outer s H vs Q E hgd hr h => ?_)
  · obtain ⟨_, _, _, rfl, _⟩ := h
    rfl
  · obtain ⟨x, y, d, rfl, hx, hy, hs, q⟩ := h
    have hu64 := hr.units
    refine ⟨_, (pss_one (ps_ret (pe_and (pe_cmpR (r := rEqG K) (op_eqG hu64) (pv 0) (pv 1) (nomark _)) (pe_one (pe_cmpR (r := rEqG K) (op_eqG hu64) (pe_callB (r := rReprG K) (call_reprG hgd hu64) (by rfl) T.b_repr bt_repr (pa_cons (pv 0) pa_nil)) (pe_callB (r := rReprG K) (call_reprG hgd hu64) (by rfl) T.b_repr bt_repr (pa_cons (pv 1) pa_nil)) (nomark _)))))), ?_⟩
    have hf := fine_lay d hs.fi
    refine ⟨x, rfl, y, rfl, Or.inr ⟨d, d, hx, hy, hs.shaped, hs.shaped, _, rfl, ?_⟩⟩
    rw [hs.eqv]
    refine ⟨x, rfl, ?_⟩
    walk_at "nc"
    refine ⟨x, d, rfl, hx, hf.2.1, hf.2.2, hs.dp, hs.len, y, rfl, ?_⟩
    refine ⟨y, d, rfl, hy, hf.2.1, hf.2.2, hs.dp, hs.len, Or.inl ⟨rfl, ?_⟩⟩
    rw [decide_eq_true rfl]
    exact q
end
end Fm
namespace Fm
open PySem PySem.Spec PyProof.Rows L2
local macro_rules | `(tactic| walk_at "nn") => `(tactic| dsimp only [tC, tNil, tCons, tCB, tCall, gName, tSeq, tAsg, tPar, tDrop, tRet])
def Tm.nod (ts : List Tm) : Nat := Tm.sizes ts + Tm.lvs ts
theorem Tm.nod_len : ∀ ts : List Tm, ts.length ≤ Tm.nod ts
  | [] => Nat.zero_le _
  | t :: ts => by
    have h := Tm.nod_len ts
    have h1 : 1 ≤ t.size + t.lv := by cases t <;> simp [Tm.size, Tm.lv] <;> omega
    simp only [Tm.nod, Tm.sizes, Tm.lvs, List.length_cons] at *
    omega
theorem Tm.nod_append (ts us : List Tm) : Tm.nod (ts ++ us) = Tm.nod ts + Tm.nod us := by
  unfold Tm.nod
  rw [Tm.sizes_append, Tm.lvs_append]
  omega
theorem Tm.nod_op (x : Str) (us : List Tm) : Tm.nod [Tm.op x us] = Tm.nod us + 1 := by
  simp only [Tm.nod, Tm.sizes, Tm.lvs, Tm.size, Tm.lv]
  omega
theorem Tm.nod_var (i : Int) : Tm.nod [Tm.var i] = 1 := by simp [Tm.nod, Tm.sizes, Tm.lvs, Tm.size, Tm.lv]
theorem Tm.ds_append (ts us : List Tm) : Tm.ds (ts ++ us) = Tm.ds ts ++ Tm.ds us := by simp [Tm.ds_map]
section
variable {K : PySem.W.Frag} {H : Hp}
theorem Ims.reverse : ∀ {ds : List PyData} {vs : List V}, Ims K H vs ds → Ims K H vs.reverse ds.reverse
  | [], _, h => by rw [h.nilD]; exact Ims.nil
  | d :: ds, _, h => by
    obtain ⟨v, vs', rfl, h1, h2⟩ := h.invD
    rw [List.reverse_cons, List.reverse_cons]
    exact h2.reverse.append (Ims.cons h1 Ims.nil)
theorem Ims.last {vs : List V} {ds : List PyData} {d : PyData} (h : Ims K H vs (ds ++ [d])) : ∃ vs' v, vs = vs' ++ [v] ∧ Ims K H vs' ds ∧ Im K H v d := by
  have hr := h.reverse
  rw [List.reverse_append] at hr
  obtain ⟨v, vs', e, h1, h2⟩ := hr.invD
  refine ⟨vs'.reverse, v, ?_, ?_, h1⟩
  · have := congrArg List.reverse e
    simpa using this
  · have := h2.reverse
    simpa using this
theorem rd_neNil {l q : Addr} {ys : List V} {us : List Tm} {P : Int → Prop} {Q : VK} (hP : ∀ i, P i → i.natAbs < 10 ^ 40) (hl : H l = some (.lst ys)) (hq : H q = some (.lst [])) (hi : Ims K H ys (Tm.ds us)) (ho : Tm.oks P us) (hd : Tm.deps us ≤ 50)
    (h : Q (.bl (!us.isEmpty)) H) : rNeG K (.ref l) (.ref q) H Q := by
  have s1 : SeqAt.shaped (.list (Tm.ds us)) = true := by
    show (PyData.canLay0 (.list (Tm.ds us)) && decide (PyData.depth (.list (Tm.ds us)) ≤ 64)) = true
    have e := (fine_lay (.list (Tm.ds us)) (fine_ds hP us ho)).1
    have e2 : PyData.depth (.list (Tm.ds us)) ≤ 64 := by
      simp only [PyData.depth, depth_ds]
      omega
    rw [e, decide_eq_true e2]
    rfl
  refine Or.inr ⟨.list (Tm.ds us), .list [], .lst (.inl (.inl hl)) hi.dp, .lst (.inl (.inl hq)) .nil, s1, by decide, ?_⟩
  rw [eqv_nil]
  have e : (Tm.ds us).isEmpty = us.isEmpty := by cases us <;> simp [Tm.ds]
  rw [e]
  exact h
end
def sp_size (K : PySem.W.Frag) : Sp := fun vs H Q _ => ∃ (a : Addr) (xs : List V) (ts : List Tm) (P : Int → Prop), vs = [.ref a] ∧ (SqL K H a xs ∨ SqT K H a xs) ∧ Ims K H xs (Tm.ds ts) ∧ Tm.oks P ts ∧ (∀ i, P i → i.natAbs < 10 ^ 40) ∧ Tm.deps ts ≤ 50 ∧
  Tm.nod ts ≤ 100000 ∧ ∀ H', Mv [] H H' → Q (.int (Tm.sizes ts)) H'
def sp_leaves (K : PySem.W.Frag) : Sp := fun vs H Q _ => ∃ (a : Addr) (xs : List V) (ts : List Tm) (P : Int → Prop), vs = [.ref a] ∧ (SqL K H a xs ∨ SqT K H a xs) ∧ Ims K H xs (Tm.ds ts) ∧ Tm.oks P ts ∧ (∀ i, P i → i.natAbs < 10 ^ 40) ∧ Tm.deps ts ≤ 50 ∧
  Tm.nod ts ≤ 100000 ∧ ∀ p H', H p = none → Mv [] H H' → H' p = some (.lst ((Tm.leavesL ts).map V.int)) → Q (.ref p) H'
section
variable {P : Program} {w : World} {K : PySem.W.Frag} {mg : Str → Option Value} {base : Heap}
theorem ok_size (T : TX K mg) {k : Nat} : FnOk P w K mg base CX0 (k + 1) T.d_size.f T.d_size.fd P_size (sp_size K) := by
  refine T.d_size.F.ok sc_size (fun vs H Q E h => ?_) (fun cdv A outer s H vs Q E hr h => ?_)
  · obtain ⟨_, _, _, _, rfl, _⟩ := h
    rfl
  · obtain ⟨a, xs, ts, R, rfl, hS, hxs, hok, hR, hdp, hnd, q⟩ := h
    have hu64 := hr.units
    refine ⟨_, (pss_cons (ps_par (i := 1) (j := 2) rfl sc_size.nd rfl rfl (by decide) rfl rfl (pa_cons pe_int (pa_cons (pe_callTy (r := rListOf K) call_listG (by rfl) T.b_list bt_list (pa_cons (pv 0) pa_nil)) pa_nil)) rfl) (pss_cons (ps_while PassesOwn.never (pt_cmpR (r := rNeG K) (op_neG hu64) (pv 2) (pe_lst pa_nil) (nomark _)) (pss_cons (ps_set (i := 3) sc_size.nd rfl (Or.inl rfl) (pe_bm0 PySem.F.plainAttrs_list PySem.F.slot_list_pop PySem.F.type_list_pop mt_pop (pv 2))) (pss_one (ps_if (pt_not (pt_val (pe_callB (r := rIsi K) call_isi (by rfl) T.b_isinstance bt_isinstance (pa_cons (pv 3) (pa_cons (pe_ty T.b_int bt_int) pa_nil))))) (pss_cons (ps_set (i := 1) sc_size.nd rfl (Or.inl rfl) (pe_op (r := rAddG K) op_addG (pv 1) pe_int)) (pss_one (ps_expr (pe_bm PySem.F.plainAttrs_list PySem.F.slot_list_extend PySem.F.type_list_extend (r := rExtG K) mt_extendG (pv 2) (pa_cons (pe_slice (r := rSlG K) sl_G (pv 3) (po_some pe_int) po_none) pa_nil))))) pss_nil)))) (pss_one (ps_ret (pv 1))))), ?_⟩
    refine ⟨.ref a, rfl, ?_⟩
    walk_at "nn"
    refine rd_listOf hS fun l H1 nl m1 e1 => ⟨_, _, rfl, ?_⟩
    refine ⟨fun m σ H2 => ∃ (ys : List V) (us : List Tm) (n : Int) (y : Option V), σ = [some (.ref a), some (.int n), some (.ref l), y] ∧ H2 l = some (.lst ys) ∧ Ims K H2 ys (Tm.ds us) ∧ Tm.oks R us ∧ Tm.deps us ≤ 50 ∧
      n + (Tm.sizes us : Nat) = (Tm.sizes ts : Nat) ∧ Tm.nod us ≤ 100000 ∧ m = Tm.nod us ∧ Mv [] H H2, ⟨_, xs, ts, 0, none, rfl, e1, hxs.mv m1, hok, hdp, by omega, hnd, rfl, m1⟩, fun m σ H2 hW => ?_⟩
    obtain ⟨ys, us, n, y, rfl, e2, i2, o2, d2, s2, b2, rfl, m2⟩ := hW
    refine ⟨.ref l, rfl, Nat.zero_le _, fun q1 n1 => ?_⟩
    have nq : l ≠ q1 := ne_of_none e2 n1
    have m3 : Mv [] H2 (upd H2 q1 (.lst [])) := .new n1
    have e3 : upd H2 q1 (.lst []) l = some (.lst ys) := m3.same _ _ e2
    refine rd_neNil hR e3 upd_same (i2.mv m3) o2 d2 ?_
    have m23 := m2.trans m3
    have i3 := i2.mv m3
    generalize upd H2 q1 (.lst []) = H3 at m3 e3 m23 i3 ⊢
    refine ⟨_, rfl, ?_⟩
    rcases List.eq_nil_or_concat us with rfl | ⟨us', u, rfl⟩
    · refine ⟨.int n, rfl, ?_⟩
      have e : n = (Tm.sizes ts : Nat) := by
        simp only [Tm.sizes] at s2
        omega
      rw [e]
      exact q H3 m23
    · rw [List.concat_eq_append] at *
      rw [show (!(us' ++ [u]).isEmpty) = true by simp]
      rw [Tm.ds_append] at i3
      obtain ⟨ys', z, rfl, i4, hz⟩ := Ims.last (ds := Tm.ds us') (d := u.d) i3
      refine ⟨fun σ' H' => ∃ m', m' < Tm.nod (us' ++ [u]) ∧ _, fun _ _ h => h, ?_⟩
      refine ⟨.ref l, rfl, .inl ⟨rfl, _, .inl (.inl e3)⟩, l, _, z, rfl, rfl, e3, by simp, ?_⟩
      have m5 : Mv [l] H3 (upd H3 l (.lst (ys' ++ [z]).dropLast)) := .set e3 (by simp)
      have m25 : Mv [] H (upd H3 l (.lst (ys' ++ [z]).dropLast)) := m23.wr nl
      have e5 : upd H3 l (.lst (ys' ++ [z]).dropLast) l = some (.lst ys') := by rw [upd_same, List.dropLast_concat]
      generalize upd H3 l (.lst (ys' ++ [z]).dropLast) = H5 at m5 m25 e5 ⊢
      refine ⟨z, rfl, ?_⟩
      walk_at "nn"
      refine rd_isInt (hz.mv m5) ?_
      refine ⟨_, rfl, ?_⟩
      have o' : Tm.oks R us' ∧ u.ok R := ⟨Tm.oks_iff.mpr fun t ht => Tm.oks_iff.mp o2 t (by simp [ht]), Tm.oks_iff.mp o2 u (by simp)⟩
      have d' : Tm.deps us' ≤ 50 ∧ u.dep ≤ 50 := ⟨Tm.deps_le.mpr fun t ht => Tm.deps_le.mp d2 t (by simp [ht]), Tm.deps_le.mp d2 u (by simp)⟩
      rw [Tm.nod_append] at b2 ⊢
      rw [Tm.sizes_append] at s2
      cases u with
      | var i =>
        refine ⟨Tm.nod us', by rw [Tm.nod_var]; omega, ys', us', n, _, rfl, e5, i4.mv m5, o'.1, d'.1, ?_, by omega, rfl, m25⟩
        simp only [Tm.sizes, Tm.size] at s2
        omega
      | op x vs =>
        obtain ⟨a1, zs0, rfl, ha1, hzs0⟩ := (hz.mv m5).tupI
        obtain ⟨x', zs, rfl, hx', hzs⟩ := hzs0.invD
        refine ⟨.int n, rfl, Or.inl ⟨n, 1, rfl, rfl, ?_⟩⟩
        refine ⟨.ref l, rfl, .inl ⟨rfl, _, .inl (.inl e5)⟩, .ref a1, rfl, 1, rfl, rd_sl1 ha1 fun p6 H6 m6 e6 => ?_⟩
        have e7 := m6.same _ _ e5
        have hlen : zs.length = vs.length := by rw [hzs.length, Tm.ds_map, List.length_map]
        have hl' : ys'.length = us'.length := by rw [i4.length, Tm.ds_map, List.length_map]
        have h1 := Tm.nod_len vs
        have h2 := Tm.nod_len us'
        rw [Tm.nod_op] at b2 ⊢
        refine Or.inr ⟨l, p6, ys', zs, rfl, rfl, e7, e6, line5 (by omega), ?_⟩
        refine ⟨Tm.nod (us' ++ vs), by rw [Tm.nod_append]; omega, ys' ++ zs, us' ++ vs, n + 1, _, rfl, upd_same, ?_, ?_, ?_, ?_, by rw [Tm.nod_append]; omega, rfl, (m25.trans m6).wr nl⟩
        · rw [Tm.ds_append]
          exact (((i4.mv m5).mv m6).append (hzs.mv m6)).mv (Mv.set (S := [l]) e7 (by simp))
        · exact Tm.oks_iff.mpr fun t ht => (List.mem_append.mp ht).elim (Tm.oks_iff.mp o'.1 t) (Tm.oks_iff.mp o'.2.2.2 t)
        · have hd := d'.2
          simp only [Tm.dep] at hd
          exact Tm.deps_le.mpr fun t ht => (List.mem_append.mp ht).elim (Tm.deps_le.mp d'.1 t) (fun h => Tm.deps_le.mp (show Tm.deps vs ≤ 50 by omega) t h)
        · simp only [Tm.sizes, Tm.size] at s2
          rw [Tm.sizes_append]
          omega
end
end Fm
namespace Fm
open PySem PySem.Spec PyProof.Rows L2
local macro_rules | `(tactic| walk_at "nn") => `(tactic| dsimp only [tC, tNil, tCons, tCB, tCall, gName, tSeq, tAsg, tPar, tDrop, tRet])
section
variable {P : Program} {w : World} {K : PySem.W.Frag} {mg : Str → Option Value} {base : Heap}
end
end Fm
namespace Fm
open PySem PySem.Spec PyProof.Rows L2
local macro_rules | `(tactic| walk_at "nn") => `(tactic| dsimp only [tC, tNil, tCons, tCB, tCall, gName, tSeq, tAsg, tPar, tDrop, tRet])
local macro_rules | `(tactic| walk_at "nc") => `(tactic| dsimp only [tC, tNil, tCons, tCB])
def stpN (acc : List Int) (u : Int) : List Int := if u ∈ acc then acc else acc ++ [u]
def ordr (l : List Int) : List Int := l.foldl stpN []
mutual
theorem Tm.ok_on {P R : Int → Prop} : ∀ t : Tm, t.ok P → (∀ i ∈ t.leaves, R i) → t.ok R
  | .var i, _, h => h i (by simp [Tm.leaves])
  | .op x ts, k, h => ⟨k.1, k.2.1, Tm.oks_on ts k.2.2 fun i hi => h i (by simpa [Tm.leaves] using hi)⟩
theorem Tm.oks_on {P R : Int → Prop} : ∀ ts : List Tm, Tm.oks P ts → (∀ i ∈ Tm.leavesL ts, R i) → Tm.oks R ts
  | [], _, _ => trivial
  | t :: ts, k, h => ⟨Tm.ok_on t k.1 fun i hi => h i (by simp [Tm.leavesL, hi]), Tm.oks_on ts k.2 fun i hi => h i (by simp [Tm.leavesL, hi])⟩
end
def numF (o : List Int) (u : Int) : Tm := .var ((o.idxOf u : Nat) : Int)
def NumD (kvs : List (Key × V)) (o : List Int) : Prop := kvs.length = o.length ∧ ∀ u, valV kvs (.inl u) = if u ∈ o then some (.int ((o.idxOf u : Nat) : Int)) else none
theorem idx_new {o : List Int} {u x : Int} (h : x ∈ o) : (o ++ [u]).idxOf x = o.idxOf x := by
  rw [List.idxOf_append, if_pos h]
theorem idx_last {o : List Int} {u : Int} (h : u ∉ o) : (o ++ [u]).idxOf u = o.length := by
  rw [List.idxOf_append, if_neg h]
  simp
theorem NumD.stpN {kvs : List (Key × V)} {o : List Int} {u : Int} (h : NumD kvs o) (hu : u ∉ o) : NumD (putK kvs (.inl u) (.int ((o.length : Nat) : Int))) (o ++ [u]) := by
  have hn : valV kvs (.inl u) = none := by rw [h.2 u, if_neg hu]
  refine ⟨by rw [putK_new _ hn, List.length_append, List.length_append, h.1]; rfl, fun x => ?_⟩
  rw [valV_put, h.2 x]
  by_cases e : x = u
  · subst e
    rw [if_pos rfl, if_pos (by simp), idx_last hu]
  · rw [if_neg (fun z => e (Sum.inl.inj z))]
    by_cases hx : x ∈ o
    · rw [if_pos hx, if_pos (by simp [hx]), idx_new hx]
    · rw [if_neg hx, if_neg (by simp [hx, e])]
def sp_unknowns (K : PySem.W.Frag) : Sp := fun vs H Q _ => ∃ (a : Addr) (xs : List V) (ts : List Tm) (P : Int → Prop) (fw : List Int), vs = [.ref a] ∧ (SqL K H a xs ∨ SqT K H a xs) ∧ Ims K H xs (Tm.ds ts) ∧ Tm.oks P ts ∧ (∀ i, P i → i.natAbs < 10 ^ 40) ∧ Tm.deps ts ≤ 50 ∧
  Tm.nod ts ≤ 4000 ∧ (∀ i, P i → i ∈ fw) ∧ fw.length < 64 ∧ ∀ p H' (ns : List Int), H p = none → Mv [] H H' → H' p = some (.lst (ns.map V.int)) → ns.Pairwise (· < ·) → (∀ k, k ∈ ns ↔ k ∈ Tm.leavesL ts) → Q (.ref p) H'
def sp_numbered (K : PySem.W.Frag) : Sp := fun vs H Q _ => ∃ (a : Addr) (xs : List V) (ts : List Tm) (P : Int → Prop), vs = [.ref a] ∧ (SqL K H a xs ∨ SqT K H a xs) ∧ Ims K H xs (Tm.ds ts) ∧ Tm.oks P ts ∧ (∀ i, P i → i.natAbs < 10 ^ 40) ∧ Tm.deps ts ≤ 50 ∧
  Tm.nod ts ≤ 4000 ∧ ∀ p H' ys, H p = none → Mv [] H H' → H' p = some (.lst ys) → Ims K H' ys (Tm.ds (Tm.puts (numF (ordr (Tm.leavesL ts))) ts)) → Q (.ref p) H'
section
variable {P : Program} {w : World} {K : PySem.W.Frag} {mg : Str → Option Value} {base : Heap}
end
end Fm
namespace Fm
open PySem PySem.Spec PyProof.Rows L2
local macro_rules | `(tactic| walk_at "nn") => `(tactic| dsimp only [tC, tNil, tCons, tCB, tCall, gName, tSeq, tAsg, tPar, tDrop, tRet])
local macro_rules | `(tactic| walk_at "nc") => `(tactic| dsimp only [tC, tNil, tCons, tCB])
theorem hu65_of {k : Nat} {A : Around} (h : Room k A) : A.units + 65 < cLine := by
  have := h.un
  omega
def sp_kind (K : PySem.W.Frag) (f : Th → Bool) : Sp := fun vs H Q _ => ∃ (v : V) (t : Th) (b : Addr), vs = [v] ∧ Is K b H v t ∧ ∀ H', Mv [] H H' → Q (.bl (f t)) H'
section
variable {P : Program} {w : World} {K : PySem.W.Frag} {mg : Str → Option Value} {base : Heap}
theorem ok_is_integer (T : TX K mg) {k : Nat} : FnOk P w K mg base CX0 (k + 1) T.d_is_integer.f T.d_is_integer.fd P_is_integer (sp_kind K isWhole) := by
  refine T.d_is_integer.F.ok sc_is_integer (fun vs H Q E h => ?_) (fun cdv A outer s H vs Q E hr h => ?_)
  · obtain ⟨_, _, _, rfl, _⟩ := h
    rfl
  · obtain ⟨v, t, b, rfl, hv, q⟩ := h
    refine ⟨_, (pss_one (ps_ret (pe_and (pe_callB (r := rIsi K) call_isi (by rfl) T.b_isinstance bt_isinstance (pa_cons (pv 0) (pa_cons (pe_ty T.b_int bt_int) pa_nil))) (pe_one (pe_not (pe_callB (r := rIsi K) call_isi (by rfl) T.b_isinstance bt_isinstance (pa_cons (pv 0) (pa_cons (pe_ty T.b_bool bt_bool) pa_nil)))))))), ?_⟩
    refine ⟨v, rfl, ?_⟩
    walk_at "nn"
    refine rd_isi hv (kit_int t) ?_
    refine ⟨_, rfl, ?_⟩
    cases t with
    | int j =>
      refine ⟨v, rfl, ?_⟩
      walk_at "nc"
      exact rd_isi hv (kit_bool (.int j)) ⟨_, rfl, q H .refl⟩
    | bl c =>
      refine ⟨v, rfl, ?_⟩
      walk_at "nc"
      exact rd_isi hv (kit_bool (.bl c)) ⟨_, rfl, q H .refl⟩
    | non => exact q H .refl
    | str x => exact q H .refl
    | tup ts => exact q H .refl
    | lst => exact q H .refl
    | dct => exact q H .refl
theorem ok_is_name (T : TX K mg) {k : Nat} : FnOk P w K mg base CX0 (k + 1) T.d_is_name.f T.d_is_name.fd P_is_name (sp_kind K isNamed) := by
  refine T.d_is_name.F.ok sc_is_name (fun vs H Q E h => ?_) (fun cdv A outer s H vs Q E hr h => ?_)
  · obtain ⟨_, _, _, rfl, _⟩ := h
    rfl
  · obtain ⟨v, t, b, rfl, hv, q⟩ := h
    have hu65 := hu65_of hr
    refine ⟨_, (pss_cons (ps_if (PW.pt (pw_or (pt_not (pt_val (pe_callB (r := rIsi K) call_isi (by rfl) T.b_isinstance bt_isinstance (pa_cons (pv 0) (pa_cons (pe_ty T.b_str bt_str) pa_nil))))) (pw_or1 (pt_not (pt_chain op_le op_le pe_int (pe_callB (r := rLenG K) call_lenG (by rfl) T.b_len bt_len (pa_cons (pv 0) pa_nil)) (pe_glob rfl T.c_MOST_LETTERS T.r_MOST_LETTERS)))))) (pss_one (ps_ret pe_bl)) pss_nil) (pss_one (ps_ret (pe_callB (r := rAll K) (cr_all rfl) (by rfl) T.b_all bt_all (pa_cons (pe_lc (own := [("sign", 1)]) (g := gName 1) (by rfl) sc_is_name.nd (pi_str (pv 0)) (blkOk_by (own := [("sign", 1)]) (N := N_is_name) (sc := defScope s_is_name) (by decide +kernel)) (fun _ _ _ _ _ => pg_name (i := 1) sc_is_name.nd rfl (Or.inl rfl)) (fun _ _ _ _ _ => pts_nil) (fun _ _ _ _ _ => (pe_cmpR (r := rInG K) (op_inG hu65) (pv 1) (pe_glob rfl T.c_LETTERS T.r_LETTERS) rfl))) pa_nil))))), ?_⟩
    refine ⟨v, rfl, ?_⟩
    walk_at "nn"
    refine rd_isi hv (kit_str t) ?_
    refine ⟨_, rfl, ?_⟩
    cases t with
    | int j => exact q H .refl
    | bl c => exact q H .refl
    | non => exact q H .refl
    | tup ts => exact q H .refl
    | lst => exact q H .refl
    | dct => exact q H .refl
    | str x =>
      obtain ⟨rfl, hlen⟩ := hv
      refine ⟨.str x, rfl, ?_⟩
      walk_at "nc"
      refine Or.inr (Or.inl ⟨x, rfl, Nat.le_of_lt (small1000 (by omega)), 1, _, rfl, rfl, _, rfl, ite2 (fun e1 => ?_) (fun e1 => ?_)⟩)
      · refine ⟨_, 8, rfl, rfl, _, rfl, ite2 (fun e2 => ?_) (fun e2 => ?_)⟩
        · have e : isNamed (.str x) = false := by
            simp only [isNamed, nmd]
            have : ¬ x.length ≤ 8 := by simp at e2; omega
            rw [decide_eq_false this]
            simp
          rw [e] at q
          exact q H .refl
        · have h1 : 1 ≤ x.length := by simp at e1; omega
          have h2 : x.length ≤ 8 := by simp at e2; omega
          refine ⟨.str x, rfl, x, rfl, fun D nD => ?_⟩
          have hsz : x.cps.toList.length = x.cps.size := by simp
          have hsl : x.cps.size = x.length := rfl
          refine lc_it walk_str (fun i H1 => H1 D = some (.lst (((x.cps.toList.take i).map fun c => decide (c ∈ lettersS.cps.toList)).map V.bl)) ∧ Mv [] H H1) ⟨upd_same, .new nD⟩ (fun _ _ _ _ => trivial) (fun i y H1 H2 hi h1 hy => ?_) (fun H1 h1 => ?_)
          · obtain ⟨e1, m1⟩ := h1
            obtain ⟨rfl, c, hc, rfl⟩ := hy
            have hc' : x.cps.toList[i]? = some c := by simpa using hc
            refine ⟨rfl, .str ⟨#[c]⟩, rfl, Or.inr ⟨c, _, rfl, rfl, _, e1, ?_, ?_, m1.wr nD⟩⟩
            · rw [List.length_map, List.length_map, List.length_take]
              exact small1000 (by omega)
            · rw [upd_same, List.take_add_one, hc']
              simp
              rfl
          · obtain ⟨e1, m1⟩ := h1
            rw [← hsz, List.take_length] at e1
            refine ⟨D, _, rfl, .inl (.inl e1), ?_⟩
            have e : isNamed (.str x) = ((x.cps.toList.map fun c => decide (c ∈ lettersS.cps.toList)).all id) := by
              simp only [isNamed, nmd]
              rw [decide_eq_true h1, decide_eq_true h2, List.all_map]
              rfl
            rw [← e]
            exact q H1 m1
      · have e : isNamed (.str x) = false := by
          simp only [isNamed, nmd]
          have : ¬ 1 ≤ x.length := by simp at e1; omega
          rw [decide_eq_false this]
          simp
        rw [e] at q
        exact ⟨_, rfl, q H .refl⟩
end
end Fm
namespace Fm
open PySem PySem.Spec PyProof.Rows L2
local macro_rules | `(tactic| walk_at "nn") => `(tactic| dsimp only [tC, tNil, tCons, tCB, tCall, gName, tSeq, tAsg, tPar, tDrop, tRet])
local macro_rules | `(tactic| walk_at "nc") => `(tactic| dsimp only [tC, tNil, tCons, tCB])
theorem isTerms_append (ts us : List Th) : isTerms (ts ++ us) = (isTerms ts && isTerms us) := by
  rw [isTerms_all, isTerms_all, isTerms_all, List.all_append]
theorem Th.cnt_pos (t : Th) : 1 ≤ t.cnt := by cases t <;> simp [Th.cnt]
theorem Th.cnts_len : ∀ ts : List Th, ts.length ≤ Th.cnts ts
  | [] => Nat.zero_le _
  | t :: ts => by
    have := Th.cnts_len ts
    have := t.cnt_pos
    simp only [Th.cnts, List.length_cons]
    omega
def sp_isTerm (K : PySem.W.Frag) : Sp := fun vs H Q _ => ∃ (v : V) (t : Th) (b : Addr), vs = [v] ∧ Is K b H v t ∧ t.cnt ≤ 90000 ∧ ∀ H', Mv [] H H' → Q (.bl (isTerm t)) H'
section
variable {P : Program} {w : World} {K : PySem.W.Frag} {mg : Str → Option Value} {base : Heap}
theorem ok_is_term (T : TX K mg) {k : Nat} : FnOk P w K mg base CX0 (k + 2) T.d_is_term.f T.d_is_term.fd P_is_term (sp_isTerm K) := by
  have G_is_integer : FnOk P w K mg base CX0 1 T.d_is_integer.f T.d_is_integer.fd P_is_integer (sp_kind K isWhole) := ok_is_integer T
  have G_is_name : FnOk P w K mg base CX0 1 T.d_is_name.f T.d_is_name.fd P_is_name (sp_kind K isNamed) := ok_is_name T
  refine T.d_is_term.F.ok sc_is_term (fun vs H Q E h => ?_) (fun cdv A outer s H vs Q E hr h => ?_)
  · obtain ⟨_, _, _, rfl, _⟩ := h
    rfl
  · obtain ⟨v, t, b, rfl, hv, hcn, q⟩ := h
    have hu65 := hu65_of hr
    refine ⟨_, (pss_cons (ps_set (i := 1) sc_is_term.nd rfl (Or.inl rfl) (pe_lst (pa_cons (pv 0) pa_nil))) (pss_cons (ps_while PassesOwn.never (pt_cmpR (r := rNeNil K) (op_neNil (Nat.lt_of_le_of_lt (Nat.le_add_right _ 65) hu65)) (pv 1) (pe_lst pa_nil) (nomark _)) (pss_cons (ps_set (i := 2) sc_is_term.nd rfl (Or.inl rfl) (pe_bm0 PySem.F.plainAttrs_list PySem.F.slot_list_pop PySem.F.type_list_pop mt_pop (pv 1))) (pss_one (ps_if (pt_val (pe_call G_is_integer (hr.mono (by omega)) rfl T.d_is_integer.g T.d_is_integer.F.kp T.d_is_integer.b .nil pass0 (pa_cons (pv 2) pa_nil))) (pss_one (ps_if (pt_cmpR op_lt (pv 2) pe_int (nomark _)) (pss_one (ps_ret pe_bl)) pss_nil)) (pss_one (ps_if (PW.pt (pw_or (pt_not (pt_val (pe_callB (r := rIsi K) call_isi (by rfl) T.b_isinstance bt_isinstance (pa_cons (pv 2) (pa_cons (pe_ty T.b_tuple bt_tuple) pa_nil))))) (pw_or (pt_not (pt_chain op_le op_le pe_int (pe_callB (r := rLenG K) call_lenG (by rfl) T.b_len bt_len (pa_cons (pv 2) pa_nil)) (pe_op (r := rAddG K) op_addG pe_int (pe_glob rfl T.c_MOST_PARTS T.r_MOST_PARTS)))) (pw_or1 (pt_not (pt_val (pe_call G_is_name (hr.mono (by omega)) rfl T.d_is_name.g T.d_is_name.F.kp T.d_is_name.b .nil pass0 (pa_cons (pe_ix (r := rIx K) ix_seq (pv 2) pe_int (fun _ _ => rfl)) pa_nil)))))))) (pss_one (ps_ret pe_bl)) (pss_one (ps_expr (pe_bm PySem.F.plainAttrs_list PySem.F.slot_list_extend PySem.F.type_list_extend (r := rExtG K) mt_extendG (pv 1) (pa_cons (pe_slice (r := rSlG K) sl_G (pv 2) (po_some pe_int) po_none) pa_nil)))))))))) (pss_one (ps_ret pe_bl)))), ?_⟩
    refine ⟨v, rfl, (by decide : 1 ≤ sizeLine), fun l nl => ?_⟩
    refine ⟨fun m σ H2 => ∃ (ys : List V) (us : List Th) (y : Option V), σ = [some v, some (.ref l), y] ∧ H2 l = some (.lst ys) ∧ IsAll K b H ys us ∧ isTerms us = isTerm t ∧ Th.cnts us ≤ 90000 ∧ m = Th.cnts us ∧ Mv [] H H2,
      ⟨_, [v], [t], none, rfl, upd_same, IsAll.cons hv IsAll.nil, by simp [isTerms], by simp only [Th.cnts]; omega, rfl, .new nl⟩, fun m σ H2 hW => ?_⟩
    obtain ⟨ys, us, y, rfl, e2, i2, s2, b2, rfl, m2⟩ := hW
    refine ⟨.ref l, rfl, Nat.zero_le _, fun q1 n1 => ⟨l, q1, ys, rfl, rfl, .inl (.inl (same_new n1 _ _ e2)), .inl (.inl upd_same), ?_⟩⟩
    have m23 : Mv [] H (upd H2 q1 (.lst [])) := m2.trans (.new n1)
    have e3 : upd H2 q1 (.lst []) l = some (.lst ys) := same_new n1 _ _ e2
    generalize upd H2 q1 (.lst []) = H3 at m23 e3 ⊢
    refine ⟨_, rfl, ?_⟩
    rcases List.eq_nil_or_concat us with rfl | ⟨us', u, rfl⟩
    · have hy : ys = [] := i2
      subst hy
      rw [show isTerms ([] : List Th) = true from by simp [isTerms]] at s2
      rw [← s2] at q
      exact q H3 m23
    · rw [List.concat_eq_append] at *
      obtain ⟨ys', z, rfl, i4, hz⟩ := IsAll.last rfl i2
      rw [show (!(ys' ++ [z]).isEmpty) = true by simp]
      refine ⟨fun σ' H' => ∃ m', m' < Th.cnts (us' ++ [u]) ∧ _, fun _ _ h => h, ?_⟩
      refine ⟨.ref l, rfl, .inl ⟨rfl, _, .inl (.inl e3)⟩, l, _, z, rfl, rfl, e3, by simp, ?_⟩
      have m25 : Mv [] H (upd H3 l (.lst (ys' ++ [z]).dropLast)) := m23.wr nl
      have e5 : upd H3 l (.lst (ys' ++ [z]).dropLast) l = some (.lst ys') := by rw [upd_same, List.dropLast_concat]
      generalize upd H3 l (.lst (ys' ++ [z]).dropLast) = H5 at m25 e5 ⊢
      rw [Th.cnts_append] at b2 ⊢
      rw [isTerms_append] at s2
      have e1u : isTerms [u] = isTerm u := by simp [isTerms]
      have c1u : Th.cnts [u] = u.cnt := by simp [Th.cnts]
      rw [e1u] at s2
      rw [c1u] at b2 ⊢
      have hpos := u.cnt_pos
      have hbad : isTerm u = false → isTerm t = false := fun e => by rw [← s2, e, Bool.and_false]
      refine ⟨z, rfl, z, u, b, rfl, hz.mv0 m25, fun H6 m6 => ?_⟩
      have m26 := m25.trans m6
      have e6 := m6.same _ _ e5
      refine ⟨_, rfl, ?_⟩
      have bad : isTupT u = false → isWhole u = false → isTerm u = false := fun h1 h2 => by
        cases u <;> simp [isTupT, isWhole, isTerm] at *
      cases u with
      | int i =>
        cases (show z = V.int i from hz)
        refine ⟨.int i, rfl, i, 0, rfl, rfl, _, rfl, ite2 (fun e => ?_) (fun e => ?_)⟩
        · have h0 : ¬ 0 ≤ i := by simp at e; omega
          have e9 := hbad (by simp only [isTerm]; exact decide_eq_false h0)
          rw [e9] at q
          exact q H6 m26
        · have h0 : 0 ≤ i := by simp at e; omega
          refine ⟨Th.cnts us', by omega, ys', us', _, rfl, e6, i4, ?_, by omega, rfl, m26⟩
          rw [← s2]
          simp only [isTerm]
          rw [decide_eq_true h0, Bool.and_true]
      | tup ts =>
        obtain ⟨a1, zs0, rfl, ha1, hzs0⟩ := hz
        have hl0 := hzs0.length
        have ha6 := m26.sqT ha1
        refine ⟨.ref a1, rfl, ?_⟩
        walk_at "nn"
        refine rd_isi (show Is K b H6 (.ref a1) (.tup ts) from ⟨a1, zs0, rfl, ha6, hzs0.mv0 m26⟩) (kit_tup (.tup ts)) ⟨_, rfl, ?_⟩
        refine ⟨.ref a1, rfl, ?_⟩
        walk_at "nc"
        refine rd_len (.inr ha6) ⟨1, _, rfl, rfl, _, rfl, ite2 (fun e => ?_) (fun e => ?_)⟩
        · have h1 : 1 ≤ zs0.length := by simp at e; omega
          refine Or.inl ⟨1, 3, rfl, rfl, _, _, rfl, rfl, _, rfl, ite2 (fun e1 => ?_) (fun e1 => ?_)⟩
          · have h2 : ¬ zs0.length ≤ 4 := by simp at e1; omega
            have e9 := hbad (by
              cases ts with
              | nil => simp [isTerm]
              | cons t0 tr =>
                simp only [List.length_cons] at hl0
                simp only [isTerm]
                rw [decide_eq_false (show ¬ tr.length ≤ 3 by omega)]
                simp)
            rw [e9] at q
            exact q H6 m26
          · have h2 : zs0.length ≤ 4 := by simp at e1; omega
            cases ts with
            | nil =>
              simp only [List.length_nil] at hl0
              omega
            | cons t0 tr =>
              obtain ⟨z0, zs, rfl, hz0, hzs⟩ := hzs0
              simp only [List.length_cons] at hl0 h2
              refine ⟨.ref a1, rfl, rd_ixT ha6 (by decide) (v := z0) rfl ?_⟩
              refine ⟨z0, t0, b, rfl, hz0.mv0 m26, fun H7 m7 => ⟨_, rfl, ite2 (fun e2 => ?_) (fun e2 => ?_)⟩⟩
              · have e9 := hbad (by
                  simp only [isTerm]
                  rw [show isNamed t0 = false by simpa using e2]
                  simp)
                rw [e9] at q
                exact q H7 (m26.trans m7)
              · have m27 := m26.trans m7
                have e7 := m7.same _ _ e6
                refine ⟨.ref l, rfl, .inl ⟨rfl, _, .inl (.inl e7)⟩, .ref a1, rfl, 1, rfl, rd_sl1 (m27.sqT ha1) fun p8 H8 m8 e8 => ?_⟩
                have hl4 := i4.length
                have hc4 := Th.cnts_len us'
                simp only [Th.cnt, Th.cnts] at b2 ⊢
                have hpos0 := t0.cnt_pos
                have hczs := Th.cnts_len tr
                refine Or.inr ⟨l, p8, ys', zs, rfl, rfl, m8.same _ _ e7, e8, Nat.le_trans (show ys'.length + zs.length ≤ 100000 by omega) (by decide), ?_⟩
                refine ⟨Th.cnts (us' ++ tr), by rw [Th.cnts_append]; omega, ys' ++ zs, us' ++ tr, _, rfl, upd_same, i4.append hzs, ?_, by rw [Th.cnts_append]; omega, rfl, (m27.trans m8).wr nl⟩
                rw [← s2, isTerms_append]
                simp only [isTerm]
                rw [show isNamed t0 = true by simpa using e2, decide_eq_true (show tr.length ≤ 3 by omega)]
                rfl
        · have h1 : ¬ 1 ≤ zs0.length := by simp at e; omega
          have e9 := hbad (by
            cases ts with
            | nil => simp [isTerm]
            | cons t0 tr =>
              simp only [List.length_cons] at hl0
              omega)
          rw [e9] at q
          exact ⟨_, rfl, q H6 m26⟩
      | non =>
        refine ⟨z, rfl, ?_⟩
        walk_at "nn"
        refine rd_isi (hz.mv0 m26) (kit_tup .non) ⟨_, rfl, ?_⟩
        have e9 := hbad (by simp [isTerm])
        rw [e9] at q
        exact q H6 m26
      | bl c =>
        refine ⟨z, rfl, ?_⟩
        walk_at "nn"
        refine rd_isi (hz.mv0 m26) (kit_tup (.bl c)) ⟨_, rfl, ?_⟩
        have e9 := hbad (by simp [isTerm])
        rw [e9] at q
        exact q H6 m26
      | str x =>
        refine ⟨z, rfl, ?_⟩
        walk_at "nn"
        refine rd_isi (hz.mv0 m26) (kit_tup (.str x)) ⟨_, rfl, ?_⟩
        have e9 := hbad (by simp [isTerm])
        rw [e9] at q
        exact q H6 m26
      | lst =>
        refine ⟨z, rfl, ?_⟩
        walk_at "nn"
        refine rd_isi (hz.mv0 m26) (kit_tup .lst) ⟨_, rfl, ?_⟩
        have e9 := hbad (by simp [isTerm])
        rw [e9] at q
        exact q H6 m26
      | dct =>
        refine ⟨z, rfl, ?_⟩
        walk_at "nn"
        refine rd_isi (hz.mv0 m26) (kit_tup .dct) ⟨_, rfl, ?_⟩
        have e9 := hbad (by simp [isTerm])
        rw [e9] at q
        exact q H6 m26
end
end Fm
namespace Fm
open PySem PySem.Spec PyProof.Rows L2
local macro_rules | `(tactic| walk_at "nn") => `(tactic| dsimp only [tC, tNil, tCons, tCB, tCall, gName, tSeq, tAsg, tPar, tDrop, tRet])
local macro_rules | `(tactic| walk_at "nc") => `(tactic| dsimp only [tC, tNil, tCons, tCB])
def initS (x : Str) : Str := ⟨(x.cps.toList.take (x.length - 1)).toArray⟩
def dashed (x : Str) : Bool := decide (x.cps.toList.drop (x.length - 1) = [45])
def isOutc : Th → Bool
  | .str x => if dashed x = true then nmd (initS x) else nmd x
  | _ => false
def sp_vals (K : PySem.W.Frag) : Sp := fun vs H Q _ => ∃ (n : Int) (v : V) (t : Th) (b : Addr), vs = [.int n, v] ∧ Is K b H v t ∧ t.cnt ≤ 90000 ∧ ∀ H', Mv [] H H' → Q (.bl (match t with | .tup ts => decide ((ts.length : Int) = n) && isTerms ts | _ => false)) H'
section
variable {P : Program} {w : World} {K : PySem.W.Frag} {mg : Str → Option Value} {base : Heap}
end
end Fm
namespace Fm
open PySem PySem.Spec PyProof.Rows L2
local macro_rules | `(tactic| walk_at "nn") => `(tactic| dsimp only [tC, tNil, tCons, tCB, tCall, gName, tSeq, tAsg, tPar, tDrop, tRet])
local macro_rules | `(tactic| walk_at "nc") => `(tactic| dsimp only [tC, tNil, tCons, tCB])
section
variable {P : Program} {w : World} {K : PySem.W.Frag} {mg : Str → Option Value} {base : Heap}
end
end Fm
namespace Fm
open PySem PySem.Spec PyProof.Rows L2 SlX
local macro_rules | `(tactic| walk_at "nn") => `(tactic| dsimp only [tC, tNil, tCons, tCB, tCall, gName, tSeq, tAsg, tPar, tDrop, tRet])
local macro_rules | `(tactic| walk_at "nc") => `(tactic| dsimp only [tC, tNil, tCons, tCB, tCall])
abbrev P40 (i : Int) : Prop := 0 ≤ i ∧ i.natAbs < 10 ^ 40
def sp_show (K : PySem.W.Frag) (d : Nat) : Sp := fun vs H Q _ => ∃ (v : V) (t : Tm), vs = [v] ∧ Im K H v t.d ∧ t.ok P40 ∧ t.dep < d ∧ t.cx.length ≤ 100000 ∧ ∀ H', Mv [] H H' → Q (.str (SX.S t.cx)) H'
def sp_lis (K : PySem.W.Frag) (d : Nat) : Sp := fun vs H Q _ => ∃ (a : Addr) (xs : List V) (ts : List Tm), vs = [.ref a] ∧ SqT K H a xs ∧ Ims K H xs (Tm.ds ts) ∧ Tm.oks P40 ts ∧ Tm.deps ts < d ∧ (lisC ts).length ≤ 100000 ∧ ∀ H', Mv [] H H' → Q (.str (SX.S (lisC ts))) H'
theorem num_str {i : Int} (h : 0 ≤ i) : ((toString i : String) : Str) = SX.S (TL.numL i.toNat) := by
  obtain ⟨n, rfl⟩ := Int.eq_ofNat_of_zero_le h
  rw [Int.toNat_natCast]
  exact SX.num_S n
theorem num_log {i : Int} (h : i.natAbs < 10 ^ 40) : i.natAbs.log2 < 1920 := by
  exact Nat.lt_of_lt_of_le (PySem.Flt.log2_lt_of (k := 140) (by decide) (Nat.lt_trans h (by decide +kernel))) (by decide)
theorem joinL_part : ∀ {l : List (List Nat)} {p : List Nat}, p ∈ l → p.length ≤ (TL.joinL [44] l).length
  | [q], p, h => by
    rw [List.mem_singleton.mp h]
    exact Nat.le_refl _
  | q :: q' :: l, p, h => by
    simp only [TL.joinL, List.length_append]
    rcases List.mem_cons.mp h with rfl | h
    · omega
    · have := joinL_part h
      omega
theorem joinL_sum : ∀ (l : List (List Nat)), (l.map List.length).sum + (l.length - 1) = (TL.joinL [44] l).length
  | [] => rfl
  | [q] => by simp [TL.joinL]
  | q :: q' :: l => by
    have := joinL_sum (q' :: l)
    simp only [TL.joinL, List.length_append, List.map_cons, List.sum_cons, List.length_cons, List.length_nil] at this ⊢
    omega
theorem cx_part {t : Tm} {ts : List Tm} (h : t ∈ ts) : t.cx.length ≤ (lisC ts).length := by
  have := joinL_part (List.mem_map.mpr ⟨t, h, rfl⟩ : t.cx ∈ ts.map Tm.cx)
  unfold lisC
  rw [List.length_cons, List.length_append]
  omega
section
variable {P : Program} {w : World} {K : PySem.W.Frag} {mg : Str → Option Value} {base : Heap}
theorem ok_listed_of (T : TX K mg) {d k : Nat} (G_show_term : FnOk P w K mg base CX0 k T.d_show_term.f T.d_show_term.fd P_show_term (sp_show K d)) : FnOk P w K mg base CX0 (k + 1) T.d_listed.f T.d_listed.fd P_listed (sp_lis K d) := by
  refine T.d_listed.F.ok sc_listed (fun vs H Q E h => ?_) (fun cdv A outer s H vs Q E hr h => ?_)
  · obtain ⟨_, _, _, rfl, _⟩ := h
    rfl
  · obtain ⟨a, xs, ts, rfl, ha, hx, ho, hd, hl, q⟩ := h
    have hu64 := hr.units
    have hxl : xs.length = ts.length := by rw [hx.length, Tm.ds_map, List.length_map]
    refine ⟨_, (pss_one (ps_ret (pe_op (r := rAddG K) op_addG (pe_op (r := rAddG K) op_addG pe_str (pe_bm PySem.F.plainAttrs_str PySem.F.slot_str_join PySem.F.type_str_join mt_join pe_str (pa_cons (pe_lc (own := [("term", 1)]) (g := gName 1) (by rfl) sc_listed.nd (pi_seq (pv 0)) (blkOk_by (own := [("term", 1)]) (N := N_listed) (sc := defScope s_listed) (by decide +kernel)) (fun _ _ _ _ _ => pg_name (i := 1) sc_listed.nd rfl (Or.inl rfl)) (fun _ _ _ _ _ => pts_nil) (fun _ _ _ _ _ => (pe_call G_show_term (hr.mono (by omega)) rfl T.d_show_term.g T.d_show_term.F.kp T.d_show_term.b .nil pass0 (pa_cons (pv 1) pa_nil)))) pa_nil))) pe_str))), ?_⟩
    refine ⟨rfl, .ref a, rfl, a, rfl, ?_⟩
    have hjl := joinL_sum (ts.map Tm.cx)
    have hll : (lisC ts).length = (TL.joinL [44] (ts.map Tm.cx)).length + 2 := by simp [lisC]
    have htl : ts.length ≤ 100001 := by
      rw [List.length_map] at hjl
      omega
    refine lc_seq (xs := xs) (.inr ha) (fun i D H1 => H1 D = some (.lst ((((ts.take i).map Tm.cx).map SX.S).map V.str)) ∧ Mv [] H H1)
      (fun D nD => ⟨upd_same, .new nD⟩) (fun i D H1 nD h1 => h1.2) (fun D nD i x H1 hx1 h1 => ?_) (fun D H1 nD h1 => ?_)
    · obtain ⟨e1, m1⟩ := h1
      obtain ⟨xd, hxd, him⟩ := hx.get hx1
      rw [Tm.ds_map, List.getElem?_map] at hxd
      obtain ⟨u, hu, rfl⟩ := Option.map_eq_some_iff.mp hxd
      have hmem := List.mem_of_getElem? hu
      have hi := (List.getElem?_eq_some_iff.mp hu).1
      refine ⟨rfl, x, rfl, x, u, rfl, him.mv m1, Tm.oks_iff.mp ho u hmem, Nat.lt_of_le_of_lt (Tm.deps_le.mp (Nat.le_refl _) u hmem) hd, Nat.le_trans (cx_part hmem) hl, fun H2 m2 => ?_⟩
      have e2 := m2.same _ _ e1
      refine ⟨_, e2, ?_, ?_, (m1.trans m2).wr nD⟩
      · rw [List.length_map, List.length_map, List.length_map, List.length_take]
        exact Nat.lt_of_le_of_lt (show _ ≤ 100001 by omega) (by decide)
      · rw [upd_same, List.take_add_one, hu]
        simp
    · obtain ⟨e1, m1⟩ := h1
      rw [hxl, List.take_length] at e1
      refine ⟨_, D, _, rfl, rfl, .inl (.inl (.inl e1)), ?_, ?_⟩
      · have l1 : (("," : String) : Str).length = 1 := by decide +kernel
        rw [show (fun y : Str => y.length) = fun y : Str => y.length from rfl, SX.lens, List.length_map, List.length_map, l1]
        have h2 : ((ts.map Tm.cx).map fun x => x.length).sum = ((ts.map Tm.cx).map List.length).sum := rfl
        rw [List.length_map] at hjl
        rw [h2]
        omega
      · have ej : Txt.join "," ((ts.map Tm.cx).map SX.S) = SX.S (TL.joinL [44] (ts.map Tm.cx)) := by
          rw [show (("," : String) : Str) = SX.S [44] by decide +kernel]
          exact SX.join_S [44] _
        rw [ej]
        refine Or.inr (Or.inl ⟨_, _, rfl, rfl, ?_, ?_⟩)
        · rw [show (("(" : String) : Str) = SX.S [40] by decide +kernel, SX.S_len, SX.S_len]
          exact Nat.le_trans (show _ ≤ 100002 by simp; omega) (by decide)
        rw [show (("(" : String) : Str) = SX.S [40] by decide +kernel, SX.S_cat]
        refine Or.inr (Or.inl ⟨_, _, rfl, rfl, ?_, ?_⟩)
        · rw [show ((")" : String) : Str) = SX.S [41] by decide +kernel, SX.S_len, SX.S_len]
          exact Nat.le_trans (show _ ≤ 100003 by simp; omega) (by decide)
        rw [show ((")" : String) : Str) = SX.S [41] by decide +kernel, SX.S_cat]
        exact q H1 m1
theorem ok_show_term (T : TX K mg) : ∀ d : Nat, FnOk P w K mg base CX0 (2 * d + 1) T.d_show_term.f T.d_show_term.fd P_show_term (sp_show K d)
  | 0 => ⟨fun vs H Q E h => by obtain ⟨_, _, _, _, _, h, _⟩ := h; omega, fun _ _ _ _ _ _ _ _ _ _ _ _ _ h => by obtain ⟨_, _, _, _, _, h, _⟩ := h; omega⟩
  | d + 1 => by
    have G_listed : FnOk P w K mg base CX0 (2 * d + 2) T.d_listed.f T.d_listed.fd P_listed (sp_lis K d) := ok_listed_of T (ok_show_term T d)
    refine T.d_show_term.F.ok sc_show_term (fun vs H Q E h => ?_) (fun cdv A outer s H vs Q E hr h => ?_)
    · obtain ⟨_, _, rfl, _⟩ := h
      rfl
    · obtain ⟨v, t, rfl, him, ho, hd, hl, q⟩ := h
      have hu64 := hr.units
      refine ⟨_, (pss_cons (ps_if (pt_val (pe_callB (r := rIsi K) call_isi (by rfl) T.b_isinstance bt_isinstance (pa_cons (pv 0) (pa_cons (pe_ty T.b_int bt_int) pa_nil)))) (pss_one (ps_ret (pe_callTy call_str_int (by rfl) T.b_str bt_str (pa_cons (pv 0) pa_nil)))) pss_nil) (pss_one (ps_ret (pe_ifExp (pt_cmpR (r := rEqG K) (op_eqG hu64) (pe_callB (r := rLenG K) call_lenG (by rfl) T.b_len bt_len (pa_cons (pv 0) pa_nil)) pe_int (nomark _)) (pe_ix (r := rIx K) ix_seq (pv 0) pe_int (fun _ _ => rfl)) (pe_op (r := rAddG K) op_addG (pe_ix (r := rIx K) ix_seq (pv 0) pe_int (fun _ _ => rfl)) (pe_call G_listed (hr.mono (by omega)) rfl T.d_listed.g T.d_listed.F.kp T.d_listed.b .nil pass0 (pa_cons (pe_slice (r := rSlG K) sl_G (pv 0) (po_some pe_int) po_none) pa_nil))))))), ?_⟩
      refine ⟨v, rfl, ?_⟩
      walk_at "nn"
      refine rd_isInt him ?_
      refine ⟨_, rfl, ?_⟩
      cases t with
      | var i =>
        cases him.intI
        refine ⟨.int i, rfl, i, rfl, num_log ho.2, ?_⟩
        rw [num_str ho.1]
        exact q H .refl
      | op x ts =>
        obtain ⟨a, z1, rfl, ha, hz1⟩ := him.tupI
        obtain ⟨n1, xs, rfl, hn1, hxs⟩ := hz1.invD
        cases hn1.strI
        have hxl : xs.length = ts.length := by rw [hxs.length, Tm.ds_map, List.length_map]
        refine ⟨.ref a, rfl, ?_⟩
        walk_at "nc"
        refine rd_len (.inr ha) (Or.inl ⟨rfl, _, rfl, ?_⟩)
        cases ts with
        | nil =>
          rw [decide_eq_true (by rw [List.length_cons, hxl]; rfl)]
          refine ⟨.ref a, rfl, rd_ixT ha (by decide) (v := .str x) rfl ?_⟩
          have := q H .refl
          rwa [Tm.cx, Tm.cxP, List.append_nil, S_tl'] at this
        | cons u ts =>
          rw [decide_eq_false (fun z => by
            have := V.int.inj z
            rw [List.length_cons, hxl, List.length_cons] at this
            omega)]
          refine ⟨.ref a, rfl, rd_ixT ha (by decide) (v := .str x) rfl ⟨.ref a, rfl, 1, rfl, rd_sl1 ha fun p H1 m1 e1 => ?_⟩⟩
          have hxn : x.cps.toList.length ≤ 8 := by have := ho.1.2.1; simpa [Str.length] using this
          have hll : (lisC (u :: ts)).length ≤ 100000 := by
            rw [lisC_cons]
            rw [Tm.cx, List.length_append] at hl
            omega
          simp only [Tm.dep] at hd
          refine ⟨p, xs, u :: ts, rfl, e1, hxs.mv m1, ho.2.2, by omega, hll, fun H2 m2 => ?_⟩
          refine Or.inr (Or.inl ⟨_, _, rfl, rfl, ?_, ?_⟩)
          · have e1 : x.length = x.cps.toList.length := by simp [Str.length]
            have e2 : (SX.S (lisC (u :: ts))).length = (lisC (u :: ts)).length := SX.S_len _
            exact Nat.le_trans (show x.length + (SX.S (lisC (u :: ts))).length ≤ 100008 by omega) (by decide)
          have := q H2 (m1.trans m2)
          rw [Tm.cx, ← lisC_cons, ← SX.S_cat, S_tl'] at this
          exact this
theorem ok_listed (T : TX K mg) (d : Nat) : FnOk P w K mg base CX0 (2 * d + 2) T.d_listed.f T.d_listed.fd P_listed (sp_lis K d) := ok_listed_of T (ok_show_term T d)
theorem ok__law_listed_text_of (T : TX K mg) {d k : Nat} (G__law_term_text : FnOk P w K mg base CX0 k T.d__law_term_text.f T.d__law_term_text.fd P__law_term_text (sp_show K d)) : FnOk P w K mg base CX0 (k + 1) T.d__law_listed_text.f T.d__law_listed_text.fd P__law_listed_text (sp_lis K d) := by
  refine T.d__law_listed_text.F.ok sc__law_listed_text (fun vs H Q E h => ?_) (fun cdv A outer s H vs Q E hr h => ?_)
  · obtain ⟨_, _, _, rfl, _⟩ := h
    rfl
  · obtain ⟨a, xs, ts, rfl, ha, hx, ho, hd, hl, q⟩ := h
    have hu64 := hr.units
    have hxl : xs.length = ts.length := by rw [hx.length, Tm.ds_map, List.length_map]
    refine ⟨_, (pss_one (ps_ret (pe_op (r := rAddG K) op_addG (pe_op (r := rAddG K) op_addG pe_str (pe_bm PySem.F.plainAttrs_str PySem.F.slot_str_join PySem.F.type_str_join mt_join pe_str (pa_cons (pe_lc (own := [("_law_term_here", 1)]) (g := gName 1) (by rfl) sc__law_listed_text.nd (pi_seq (pv 0)) (blkOk_by (own := [("_law_term_here", 1)]) (N := N__law_listed_text) (sc := defScope s__law_listed_text) (by decide +kernel)) (fun _ _ _ _ _ => pg_name (i := 1) sc__law_listed_text.nd rfl (Or.inl rfl)) (fun _ _ _ _ _ => pts_nil) (fun _ _ _ _ _ => (pe_call G__law_term_text (hr.mono (by omega)) rfl T.d__law_term_text.g T.d__law_term_text.F.kp T.d__law_term_text.b .nil pass0 (pa_cons (pv 1) pa_nil)))) pa_nil))) pe_str))), ?_⟩
    refine ⟨rfl, .ref a, rfl, a, rfl, ?_⟩
    have hjl := joinL_sum (ts.map Tm.cx)
    have hll : (lisC ts).length = (TL.joinL [44] (ts.map Tm.cx)).length + 2 := by simp [lisC]
    have htl : ts.length ≤ 100001 := by
      rw [List.length_map] at hjl
      omega
    refine lc_seq (xs := xs) (.inr ha) (fun i D H1 => H1 D = some (.lst ((((ts.take i).map Tm.cx).map SX.S).map V.str)) ∧ Mv [] H H1)
      (fun D nD => ⟨upd_same, .new nD⟩) (fun i D H1 nD h1 => h1.2) (fun D nD i x H1 hx1 h1 => ?_) (fun D H1 nD h1 => ?_)
    · obtain ⟨e1, m1⟩ := h1
      obtain ⟨xd, hxd, him⟩ := hx.get hx1
      rw [Tm.ds_map, List.getElem?_map] at hxd
      obtain ⟨u, hu, rfl⟩ := Option.map_eq_some_iff.mp hxd
      have hmem := List.mem_of_getElem? hu
      have hi := (List.getElem?_eq_some_iff.mp hu).1
      refine ⟨rfl, x, rfl, x, u, rfl, him.mv m1, Tm.oks_iff.mp ho u hmem, Nat.lt_of_le_of_lt (Tm.deps_le.mp (Nat.le_refl _) u hmem) hd, Nat.le_trans (cx_part hmem) hl, fun H2 m2 => ?_⟩
      have e2 := m2.same _ _ e1
      refine ⟨_, e2, ?_, ?_, (m1.trans m2).wr nD⟩
      · rw [List.length_map, List.length_map, List.length_map, List.length_take]
        exact Nat.lt_of_le_of_lt (show _ ≤ 100001 by omega) (by decide)
      · rw [upd_same, List.take_add_one, hu]
        simp
    · obtain ⟨e1, m1⟩ := h1
      rw [hxl, List.take_length] at e1
      refine ⟨_, D, _, rfl, rfl, .inl (.inl (.inl e1)), ?_, ?_⟩
      · have l1 : (("," : String) : Str).length = 1 := by decide +kernel
        rw [show (fun y : Str => y.length) = fun y : Str => y.length from rfl, SX.lens, List.length_map, List.length_map, l1]
        have h2 : ((ts.map Tm.cx).map fun x => x.length).sum = ((ts.map Tm.cx).map List.length).sum := rfl
        rw [List.length_map] at hjl
        rw [h2]
        omega
      · have ej : Txt.join "," ((ts.map Tm.cx).map SX.S) = SX.S (TL.joinL [44] (ts.map Tm.cx)) := by
          rw [show (("," : String) : Str) = SX.S [44] by decide +kernel]
          exact SX.join_S [44] _
        rw [ej]
        refine Or.inr (Or.inl ⟨_, _, rfl, rfl, ?_, ?_⟩)
        · rw [show (("(" : String) : Str) = SX.S [40] by decide +kernel, SX.S_len, SX.S_len]
          exact Nat.le_trans (show _ ≤ 100002 by simp; omega) (by decide)
        rw [show (("(" : String) : Str) = SX.S [40] by decide +kernel, SX.S_cat]
        refine Or.inr (Or.inl ⟨_, _, rfl, rfl, ?_, ?_⟩)
        · rw [show ((")" : String) : Str) = SX.S [41] by decide +kernel, SX.S_len, SX.S_len]
          exact Nat.le_trans (show _ ≤ 100003 by simp; omega) (by decide)
        rw [show ((")" : String) : Str) = SX.S [41] by decide +kernel, SX.S_cat]
        exact q H1 m1
theorem ok__law_term_text (T : TX K mg) : ∀ d : Nat, FnOk P w K mg base CX0 (2 * d + 1) T.d__law_term_text.f T.d__law_term_text.fd P__law_term_text (sp_show K d)
  | 0 => ⟨fun vs H Q E h => by obtain ⟨_, _, _, _, _, h, _⟩ := h; omega, fun _ _ _ _ _ _ _ _ _ _ _ _ _ h => by obtain ⟨_, _, _, _, _, h, _⟩ := h; omega⟩
  | d + 1 => by
    have G__law_listed_text : FnOk P w K mg base CX0 (2 * d + 2) T.d__law_listed_text.f T.d__law_listed_text.fd P__law_listed_text (sp_lis K d) := ok__law_listed_text_of T (ok__law_term_text T d)
    refine T.d__law_term_text.F.ok sc__law_term_text (fun vs H Q E h => ?_) (fun cdv A outer s H vs Q E hr h => ?_)
    · obtain ⟨_, _, rfl, _⟩ := h
      rfl
    · obtain ⟨v, t, rfl, him, ho, hd, hl, q⟩ := h
      have hu64 := hr.units
      refine ⟨_, (pss_cons (ps_if (pt_val (pe_callB (r := rIsi K) call_isi (by rfl) T.b_isinstance bt_isinstance (pa_cons (pv 0) (pa_cons (pe_ty T.b_int bt_int) pa_nil)))) (pss_one (ps_ret (pe_callTy call_str_int (by rfl) T.b_str bt_str (pa_cons (pv 0) pa_nil)))) pss_nil) (pss_one (ps_ret (pe_ifExp (pt_cmpR (r := rEqG K) (op_eqG hu64) (pe_callB (r := rLenG K) call_lenG (by rfl) T.b_len bt_len (pa_cons (pv 0) pa_nil)) pe_int (nomark _)) (pe_ix (r := rIx K) ix_seq (pv 0) pe_int (fun _ _ => rfl)) (pe_op (r := rAddG K) op_addG (pe_ix (r := rIx K) ix_seq (pv 0) pe_int (fun _ _ => rfl)) (pe_call G__law_listed_text (hr.mono (by omega)) rfl T.d__law_listed_text.g T.d__law_listed_text.F.kp T.d__law_listed_text.b .nil pass0 (pa_cons (pe_slice (r := rSlG K) sl_G (pv 0) (po_some pe_int) po_none) pa_nil))))))), ?_⟩
      refine ⟨v, rfl, ?_⟩
      walk_at "nn"
      refine rd_isInt him ?_
      refine ⟨_, rfl, ?_⟩
      cases t with
      | var i =>
        cases him.intI
        refine ⟨.int i, rfl, i, rfl, num_log ho.2, ?_⟩
        rw [num_str ho.1]
        exact q H .refl
      | op x ts =>
        obtain ⟨a, z1, rfl, ha, hz1⟩ := him.tupI
        obtain ⟨n1, xs, rfl, hn1, hxs⟩ := hz1.invD
        cases hn1.strI
        have hxl : xs.length = ts.length := by rw [hxs.length, Tm.ds_map, List.length_map]
        refine ⟨.ref a, rfl, ?_⟩
        walk_at "nc"
        refine rd_len (.inr ha) (Or.inl ⟨rfl, _, rfl, ?_⟩)
        cases ts with
        | nil =>
          rw [decide_eq_true (by rw [List.length_cons, hxl]; rfl)]
          refine ⟨.ref a, rfl, rd_ixT ha (by decide) (v := .str x) rfl ?_⟩
          have := q H .refl
          rwa [Tm.cx, Tm.cxP, List.append_nil, S_tl'] at this
        | cons u ts =>
          rw [decide_eq_false (fun z => by
            have := V.int.inj z
            rw [List.length_cons, hxl, List.length_cons] at this
            omega)]
          refine ⟨.ref a, rfl, rd_ixT ha (by decide) (v := .str x) rfl ⟨.ref a, rfl, 1, rfl, rd_sl1 ha fun p H1 m1 e1 => ?_⟩⟩
          have hxn : x.cps.toList.length ≤ 8 := by have := ho.1.2.1; simpa [Str.length] using this
          have hll : (lisC (u :: ts)).length ≤ 100000 := by
            rw [lisC_cons]
            rw [Tm.cx, List.length_append] at hl
            omega
          simp only [Tm.dep] at hd
          refine ⟨p, xs, u :: ts, rfl, e1, hxs.mv m1, ho.2.2, by omega, hll, fun H2 m2 => ?_⟩
          refine Or.inr (Or.inl ⟨_, _, rfl, rfl, ?_, ?_⟩)
          · have e1 : x.length = x.cps.toList.length := by simp [Str.length]
            have e2 : (SX.S (lisC (u :: ts))).length = (lisC (u :: ts)).length := SX.S_len _
            exact Nat.le_trans (show x.length + (SX.S (lisC (u :: ts))).length ≤ 100008 by omega) (by decide)
          have := q H2 (m1.trans m2)
          rw [Tm.cx, ← lisC_cons, ← SX.S_cat, S_tl'] at this
          exact this
theorem ok__law_listed_text (T : TX K mg) (d : Nat) : FnOk P w K mg base CX0 (2 * d + 2) T.d__law_listed_text.f T.d__law_listed_text.fd P__law_listed_text (sp_lis K d) := ok__law_listed_text_of T (ok__law_term_text T d)
end
end Fm
namespace Fm
open PySem PySem.Spec PyProof.Rows L2 SlX
local macro_rules | `(tactic| walk_at "nn") => `(tactic| dsimp only [tC, tNil, tCons, tCB, tCall, gName, tSeq, tAsg, tPar, tDrop, tRet])
local macro_rules | `(tactic| walk_at "nc") => `(tactic| dsimp only [tC, tNil, tCons, tCB, tCall])
def sp_need : Sp := fun vs H Q _ => vs = [.bl true] ∧ Q .non H
abbrev wdV (w : List Nat) : V := .str (SX.S w)
def sp_readN : Sp := fun vs H Q _ => ∃ (w : List Nat) (n : Nat), vs = [wdV w] ∧ natI w = some n ∧ ∀ H', Mv [] H H' → Q (.int n) H'
def sp_toks : Sp := fun vs H Q _ => ∃ (l : List Nat), vs = [wdV l] ∧ l.length ≤ 200000 ∧ ∀ p H', H p = none → Mv [] H H' → H' p = some (.lst ((tkL l []).map wdV)) → Q (.ref p) H'
def sp_leaf (K : PySem.W.Frag) : Sp := fun vs H Q _ => ∃ (w : List Nat) (u : Tm), vs = [wdV w] ∧ w.length ≤ 900 ∧ leafI w = some u ∧ ∀ v H', Mv [] H H' → Im K H' v u.d → Q v H'
theorem natI_inv {w : List Nat} {n : Nat} (h : natI w = some n) : 0 < w.length ∧ w.length ≤ 40 ∧ w.all digC = true ∧ TL.numL n = w ∧ NumText.digitsVal w = n := by
  unfold natI at h
  split at h
  · rename_i hc
    cases h
    exact ⟨hc.1, hc.2.1, hc.2.2.1, hc.2.2.2, rfl⟩
  · cases h
theorem digC_mem (c : Nat) : decide (c ∈ (Str.ofString "0123456789").cps.toList) = digC c := by
  have h1 : (Str.ofString "0123456789").cps.toList = [48, 49, 50, 51, 52, 53, 54, 55, 56, 57] := by decide +kernel
  rw [h1]
  unfold digC
  rw [Bool.eq_iff_iff, Bool.and_eq_true, decide_eq_true_eq, decide_eq_true_eq, decide_eq_true_eq]
  simp only [List.mem_cons, List.not_mem_nil, or_false]
  omega
theorem isSg_mem (c : Nat) : decide (c ∈ (Str.ofString "(,)").cps.toList) = isSg c := by
  have h1 : (Str.ofString "(,)").cps.toList = [40, 44, 41] := by decide +kernel
  rw [h1]
  rfl
theorem wd_eq {a b : List Nat} : decide (wdV a = wdV b) = decide (a = b) := by
  rw [Bool.eq_iff_iff, decide_eq_true_eq, decide_eq_true_eq]
  exact ⟨fun h => SX.S_inj (V.str.inj h), fun h => by rw [h]⟩
theorem tkL_len : ∀ (l w : List Nat), (tkL l w).length ≤ 2 * l.length + 1 ∧ ∀ z ∈ tkL l w, z.length ≤ w.length + l.length + 1
  | [], w => by
    rw [tkL]
    split
    · exact ⟨by simp, fun z hz => by cases hz⟩
    · exact ⟨by simp, fun z hz => by rw [List.mem_singleton.mp hz]; omega⟩
  | c :: l, w => by
    rw [tkL]
    split
    · obtain ⟨h1, h2⟩ := tkL_len l []
      simp only [List.length_nil, Nat.zero_add] at h2
      refine ⟨?_, fun z hz => ?_⟩
      · rw [List.length_append]
        split <;> simp <;> omega
      · rcases List.mem_append.mp hz with hz | hz
        · split at hz
          · rw [List.mem_singleton.mp hz]
            simp
          · rcases List.mem_cons.mp hz with rfl | hz
            · simp
              omega
            · rw [List.mem_singleton.mp hz]
              simp
        · have := h2 z hz
          simp
          omega
    · obtain ⟨h1, h2⟩ := tkL_len l (w ++ [c])
      refine ⟨by simp; omega, fun z hz => ?_⟩
      have := h2 z hz
      simp at this ⊢
      omega
theorem dig_lt : ∀ (l : List Nat) (a : Nat), (∀ c ∈ l, c ≤ 57) → l.foldl (fun acc c => acc * 10 + (c - 48)) a + 1 ≤ (a + 1) * 10 ^ l.length
  | [], a, _ => by simp
  | c :: l, a, h => by
    have h1 := dig_lt l (a * 10 + (c - 48)) fun d hd => h d (List.mem_cons_of_mem _ hd)
    have h2 := h c List.mem_cons_self
    rw [List.foldl_cons, List.length_cons, Nat.pow_succ]
    have h3 : (a * 10 + (c - 48) + 1) * 10 ^ l.length ≤ ((a + 1) * 10) * 10 ^ l.length := Nat.mul_le_mul_right _ (by omega)
    rw [Nat.mul_assoc, Nat.mul_comm 10] at h3
    omega
theorem empty_wd : V.str (Str.ofString "") = wdV [] := congrArg V.str (by decide +kernel)
section
variable {P : Program} {w : World} {K : PySem.W.Frag} {mg : Str → Option Value} {base : Heap}
theorem ok_need (T : TX K mg) {k : Nat} : FnOk P w K mg base CX0 (k + 1) T.d_need.f T.d_need.fd P_need sp_need := by
  refine T.d_need.F.ok sc_need (fun vs H Q E h => ?_) (fun cdv A outer s H vs Q E hr h => ?_)
  · obtain ⟨rfl, _⟩ := h
    rfl
  · obtain ⟨rfl, q⟩ := h
    exact ⟨_, (pss_one (ps_if (pt_not (pt_val (pv 0))) (pss_one ps_never) pss_nil)), .bl true, rfl, _, rfl, q⟩
theorem ok_read_integer (T : TX K mg) {k : Nat} : FnOk P w K mg base CX0 (k + 2) T.d_read_integer.f T.d_read_integer.fd P_read_integer sp_readN := by
  have G_need : FnOk P w K mg base CX0 1 T.d_need.f T.d_need.fd P_need sp_need := ok_need (k := 0) T
  refine T.d_read_integer.F.ok sc_read_integer (fun vs H Q E h => ?_) (fun cdv A outer s H vs Q E hr h => ?_)
  · obtain ⟨_, _, rfl, _⟩ := h
    rfl
  · obtain ⟨wd, n, rfl, hn, q⟩ := h
    obtain ⟨h0, h40, hall, hnum, hval⟩ := natI_inv hn
    have hu64 := hr.units
    have hu65 := hu65_of hr
    refine ⟨_, (pss_cons (ps_set (i := 1) sc_read_integer.nd rfl (Or.inl rfl) (pe_ifExp (pt_cmpR (r := rEqG K) (op_eqG hu64) (pe_slice (r := rSlG K) sl_G (pv 0) po_none (po_some pe_int)) pe_str (nomark _)) (pe_slice (r := rSlG K) sl_G (pv 0) (po_some pe_int) po_none) (pv 0))) (pss_cons (ps_expr (pe_call G_need (hr.mono (by omega)) rfl T.d_need.g T.d_need.F.kp T.d_need.b .nil pass0 (pa_cons (pe_and (pe_chain op_lt op_le pe_int (pe_callB (r := rLenG K) call_lenG (by rfl) T.b_len bt_len (pa_cons (pv 1) pa_nil)) (pe_glob rfl T.c_MOST_DIGITS T.r_MOST_DIGITS)) (pe_one (pe_callB (r := rAll K) (cr_all rfl) (by rfl) T.b_all bt_all (pa_cons (pe_lc (own := [("sign", 2)]) (g := gName 2) (by rfl) sc_read_integer.nd (pi_str (pv 1)) (blkOk_by (own := [("sign", 2)]) (N := N_read_integer) (sc := defScope s_read_integer) (by decide +kernel)) (fun _ _ _ _ _ => pg_name (i := 2) sc_read_integer.nd rfl (Or.inl rfl)) (fun _ _ _ _ _ => pts_nil) (fun _ _ _ _ _ => (pe_cmpR (r := rInG K) (op_inG hu65) (pv 2) (pe_glob rfl T.c_DIGITS T.r_DIGITS) rfl))) pa_nil)))) pa_nil))) (pss_cons (ps_expr (pe_call G_need (hr.mono (by omega)) rfl T.d_need.g T.d_need.F.kp T.d_need.b .nil pass0 (pa_cons (pe_cmpR (r := rEqG K) (op_eqG hu64) (pe_callTy call_str_int (by rfl) T.b_str bt_str (pa_cons (pe_callTy call_int_str (by rfl) T.b_int bt_int (pa_cons (pv 0) pa_nil)) pa_nil)) (pv 0) (nomark _)) pa_nil))) (pss_one (ps_ret (pe_callTy call_int_str (by rfl) T.b_int bt_int (pa_cons (pv 0) pa_nil))))))), ?_⟩
    have hz : (SX.S wd).length ≤ sizeLine := by
      rw [SX.S_len]
      exact Nat.le_trans h40 (by decide)
    refine ⟨wdV wd, rfl, 1, rfl, Or.inr (Or.inr ⟨_, rfl, hz, Or.inl ⟨rfl, _, rfl, ?_⟩⟩)⟩
    rw [C8.cutS_slice, SX.slice_to (by decide)]
    have hne : ¬ (V.str (SX.S (wd.take (1 : Int).toNat)) = V.str (Str.ofString "-")) := fun z => by
      have z1 := congrArg (fun x : Str => x.cps.toList) (V.str.inj z)
      have h2 : (Str.ofString "-").cps.toList = [45] := by decide +kernel
      obtain ⟨c, r, rfl⟩ := List.exists_cons_of_ne_nil (List.length_pos_iff.mp h0)
      have z2 : [c] = [45] := z1.trans h2
      have hc := List.all_eq_true.mp hall c List.mem_cons_self
      rw [(List.cons.inj z2).1] at hc
      exact absurd hc (by decide)
    rw [decide_eq_false hne]
    refine ⟨wdV wd, rfl, ?_⟩
    refine ⟨wdV wd, rfl, ?_⟩
    walk_at "nc"
    refine Or.inr (Or.inl ⟨_, rfl, hz, 0, _, rfl, rfl, _, rfl, ?_⟩)
    rw [SX.S_len, decide_eq_true (by omega : (0 : Int) < (wd.length : Int))]
    refine ⟨_, 40, rfl, rfl, _, rfl, ?_⟩
    rw [decide_eq_true (by omega : (wd.length : Int) ≤ 40)]
    refine ⟨wdV wd, rfl, _, rfl, fun D nD => ?_⟩
    have hsz : (SX.S wd).cps.size = wd.length := by simp
    refine lc_it walk_str (fun i H1 => H1 D = some (.lst (((wd.take i).map digC).map V.bl)) ∧ Mv [] H H1) ⟨upd_same, .new nD⟩ (fun _ _ _ _ => trivial) (fun i y H1 H2 hi h1 hy => ?_) (fun H1 h1 => ?_)
    · obtain ⟨e1, m1⟩ := h1
      obtain ⟨rfl, c, hc, rfl⟩ := hy
      have hc' : wd[i]? = some c := by simpa using hc
      refine ⟨rfl, .str ⟨#[c]⟩, rfl, Or.inr ⟨c, _, rfl, rfl, _, e1, ?_, ?_, m1.wr nD⟩⟩
      · rw [List.length_map, List.length_map, List.length_take]
        exact small1000 (by omega)
      · rw [upd_same, List.take_add_one, hc', digC_mem]
        simp
    · obtain ⟨e1, m1⟩ := h1
      rw [hsz, List.take_length] at e1
      refine ⟨D, _, rfl, .inl (.inl e1), ?_⟩
      rw [show (wd.map digC).all id = wd.all digC by rw [List.all_map]; rfl, hall]
      refine ⟨rfl, ?_⟩
      have hit : PySem.intText? (SX.S wd) = some ((n : Nat) : Int) := by
        rw [← hval]
        exact SX.int_S (by simpa [digC] using hall) (List.length_pos_iff.mp h0) (by omega)
      have hl640 : (SX.S wd).length ≤ 640 := by rw [SX.S_len]; omega
      have hnd : ((n : Nat) : Int).natAbs < 10 ^ 40 := by
        have h1 := dig_lt wd 0 fun c hc => by
          have := List.all_eq_true.mp hall c hc
          unfold digC at this
          rw [Bool.and_eq_true, decide_eq_true_eq, decide_eq_true_eq] at this
          omega
        have h2 : 10 ^ wd.length ≤ 10 ^ 40 := Nat.pow_le_pow_right (by decide) h40
        unfold NumText.digitsVal at hval
        rw [hval] at h1
        omega
      refine ⟨wdV wd, rfl, _, _, rfl, hit, hl640, (n : Int), rfl, num_log hnd, wdV wd, rfl, Or.inl ⟨rfl, ?_⟩⟩
      rw [num_str (by omega), Int.toNat_natCast, hnum, decide_eq_true rfl]
      refine ⟨rfl, ?_⟩
      exact ⟨wdV wd, rfl, _, _, rfl, hit, hl640, q H1 m1⟩
theorem ok_tokens_of (T : TX K mg) {k : Nat} : FnOk P w K mg base CX0 (k + 1) T.d_tokens_of.f T.d_tokens_of.fd P_tokens_of sp_toks := by
  refine T.d_tokens_of.F.ok sc_tokens_of (fun vs H Q E h => ?_) (fun cdv A outer s H vs Q E hr h => ?_)
  · obtain ⟨_, rfl, _⟩ := h
    rfl
  · obtain ⟨l, rfl, hl, q⟩ := h
    have hu64 := hr.units
    have hu65 := hu65_of hr
    refine ⟨_, (pss_cons (ps_par (i := 1) (j := 2) rfl sc_tokens_of.nd rfl rfl (by decide) rfl rfl (pa_cons (pe_lst pa_nil) (pa_cons pe_str pa_nil)) rfl) (pss_cons (ps_for PassesOwn.never rfl (pi_str (pv 0)) (pg_name (i := 3) sc_tokens_of.nd rfl (Or.inl rfl)) (pss_one (ps_if (pt_cmpR (r := rInG K) (op_inG hu65) (pv 3) (pe_glob rfl T.c_SIGNS T.r_SIGNS) rfl) (pss_cons (ps_expr (pe_bm PySem.F.plainAttrs_list PySem.F.slot_list_extend PySem.F.type_list_extend (r := rExtG K) mt_extendG (pv 1) (pa_cons (pe_ifExp (pt_cmpR (r := rNeG K) (op_neG hu64) (pv 2) pe_str (nomark _)) (pe_lst (pa_cons (pv 2) (pa_cons (pv 3) pa_nil))) (pe_lst (pa_cons (pv 3) pa_nil))) pa_nil))) (pss_one (ps_set (i := 2) sc_tokens_of.nd rfl (Or.inl rfl) pe_str))) (pss_one (ps_set (i := 2) sc_tokens_of.nd rfl (Or.inl rfl) (pe_op (r := rAddG K) op_addG (pv 2) (pv 3))))))) (pss_one (ps_ret (pe_ifExp (pt_cmpR (r := rNeG K) (op_neG hu64) (pv 2) pe_str (nomark _)) (pe_op (r := rAddG K) op_addG (pv 1) (pe_lst (pa_cons (pv 2) pa_nil))) (pv 1)))))), ?_⟩
    have hsz : (SX.S l).cps.size = l.length := by simp
    refine ⟨Nat.zero_le _, fun D nD => ?_⟩
    have m0 : Mv [] H (upd H D (.lst [])) := .new nD
    have e0 : upd H D (.lst []) D = some (.lst []) := upd_same
    generalize upd H D (.lst []) = H0 at m0 e0 ⊢
    refine ⟨_, _, rfl, wdV l, rfl, _, rfl, ?_⟩
    refine for_it walk_str (fun i σ H1 => ∃ (fs : List (List Nat)) (wd : List Nat) (y : Option V), σ = [some (wdV l), some (.ref D), some (wdV wd), y] ∧ H1 D = some (.lst (fs.map wdV)) ∧ fs ++ tkL (l.drop i) wd = tkL l [] ∧ fs.length ≤ 2 * i ∧ wd.length ≤ i ∧ Mv [] H H1)
      ⟨[], [], none, rfl, e0, by simp, by simp, by simp, m0⟩ (fun _ _ _ _ _ => trivial) (fun i v σ H1 H2 hi h1 hv => ?_) (fun σ H1 h1 => ?_)
    · obtain ⟨fs, wd, y, rfl, e1, hf, hl1, hl2, m1⟩ := h1
      obtain ⟨rfl, c, hc, rfl⟩ := hv
      have hc' : l[i]? = some c := by simpa using hc
      have hil : i < l.length := (List.getElem?_eq_some_iff.mp hc').1
      have hdr : l.drop i = c :: l.drop (i + 1) := by
        rw [List.drop_eq_getElem_cons hil]
        congr 1
        exact (List.getElem?_eq_some_iff.mp hc').2
      rw [hdr, tkL] at hf
      refine ⟨.str ⟨#[c]⟩, rfl, Or.inr ⟨c, _, rfl, rfl, _, rfl, ?_⟩⟩
      rw [isSg_mem]
      have hlen : (fs.map wdV).length = fs.length := List.length_map ..
      cases hs : isSg c with
      | true =>
        rw [hs, if_pos rfl] at hf
        refine ⟨.ref D, rfl, .inl ⟨rfl, _, .inl (.inl e1)⟩, wdV wd, rfl, Or.inl ⟨rfl, _, rfl, ?_⟩⟩
        rw [empty_wd, wd_eq]
        by_cases hw : wd = []
        · subst hw
          rw [decide_eq_true rfl]
          refine ⟨.str ⟨#[c]⟩, rfl, (by decide : 1 ≤ sizeLine), fun q nq => ?_⟩
          refine Or.inl ⟨D, q, _, _, rfl, rfl, (Mv.new (S := []) nq).same _ _ e1, upd_same, by rw [hlen]; exact Nat.le_trans (show _ ≤ 400100 by simp; omega) (by decide), ?_⟩
          rw [if_pos rfl] at hf
          exact ⟨fs ++ [[c]], [], _, rfl, by rw [upd_same, List.map_append]; rfl, by rw [← hf, List.append_assoc], by rw [List.length_append]; simp; omega, by simp, (m1.trans (.new nq)).wr nD⟩
        · rw [decide_eq_false hw]
          refine ⟨wdV wd, rfl, .str ⟨#[c]⟩, rfl, (by decide : 2 ≤ sizeLine), fun q nq => ?_⟩
          refine Or.inl ⟨D, q, _, _, rfl, rfl, (Mv.new (S := []) nq).same _ _ e1, upd_same, by rw [hlen]; exact Nat.le_trans (show _ ≤ 400100 by simp; omega) (by decide), ?_⟩
          rw [if_neg hw] at hf
          exact ⟨fs ++ [wd, [c]], [], _, rfl, by rw [upd_same, List.map_append]; rfl, by rw [← hf, List.append_assoc], by rw [List.length_append]; simp; omega, by simp, (m1.trans (.new nq)).wr nD⟩
      | false =>
        rw [hs, if_neg (by simp)] at hf
        refine ⟨wdV wd, rfl, .str ⟨#[c]⟩, rfl, Or.inr (Or.inl ⟨_, _, rfl, rfl, ?_, ?_⟩)⟩
        · rw [SX.S_len]
          exact Nat.le_trans (show wd.length + 1 ≤ 200100 by omega) (by decide)
        · refine ⟨fs, wd ++ [c], some (.str ⟨#[c]⟩), ?_, e1, hf, by omega, by simp; omega, m1⟩
          rw [show SX.S wd ++ (⟨#[c]⟩ : Str) = SX.S (wd ++ [c]) from SX.S_cat wd [c]]
          rfl
    · obtain ⟨fs, wd, y, rfl, e1, hf, hl1, hl2, m1⟩ := h1
      rw [hsz, List.drop_length, tkL] at hf
      have hlen : (fs.map wdV).length = fs.length := List.length_map ..
      refine ⟨wdV wd, rfl, Or.inl ⟨rfl, _, rfl, ?_⟩⟩
      rw [empty_wd, wd_eq]
      by_cases hw : wd = []
      · subst hw
        rw [decide_eq_true rfl]
        rw [if_pos rfl, List.append_nil] at hf
        rw [hf] at e1
        exact ⟨.ref D, rfl, q D H1 nD m1 e1⟩
      · rw [decide_eq_false hw]
        rw [if_neg hw] at hf
        refine ⟨.ref D, rfl, wdV wd, rfl, (by decide : 1 ≤ sizeLine), fun q1 nq1 => ?_⟩
        refine rd_catL ((Mv.new (S := []) nq1).same _ _ e1) upd_same (by rw [hlen]; exact Nat.le_trans (show _ ≤ 400100 by simp; omega) (by decide)) fun p H2 np m2 e2 => ?_
        refine q p H2 ((m1.trans (.new nq1)).free np) ((m1.trans (.new nq1)).trans m2) ?_
        rw [e2, ← hf, List.map_append]
        rfl
theorem leafI_inv {wd : List Nat} {u : Tm} (h : leafI wd = some u) : ∃ c r, wd = c :: r ∧ ((digC c = true ∧ ∃ n : Nat, natI wd = some n ∧ u = .var n) ∨ (digC c = false ∧ nmd (SX.S wd) = true ∧ u = .op (SX.S wd) [])) := by
  cases wd with
  | nil => cases h
  | cons c r =>
    refine ⟨c, r, rfl, ?_⟩
    unfold leafI at h
    simp only at h
    cases hc : digC c with
    | true =>
      rw [hc, if_pos rfl] at h
      obtain ⟨i, hi, rfl⟩ := Option.map_eq_some_iff.mp h
      unfold intI at hi
      split at hi
      · rename_i heq
        cases heq
        exact absurd hc (by decide)
      · obtain ⟨n, hn, rfl⟩ := Option.map_eq_some_iff.mp hi
        exact .inl ⟨rfl, n, hn, rfl⟩
    | false =>
      rw [hc, if_neg (by simp)] at h
      split at h
      · rename_i hn
        cases h
        exact .inr ⟨rfl, hn, rfl⟩
      · cases h
theorem ok_leaf (T : TX K mg) {k : Nat} : FnOk P w K mg base CX0 (k + 3) T.d_leaf.f T.d_leaf.fd P_leaf (sp_leaf K) := by
  have G_need : FnOk P w K mg base CX0 1 T.d_need.f T.d_need.fd P_need sp_need := ok_need (k := 0) T
  have G_read_integer : FnOk P w K mg base CX0 2 T.d_read_integer.f T.d_read_integer.fd P_read_integer sp_readN := ok_read_integer (k := 0) T
  have G_is_name : FnOk P w K mg base CX0 1 T.d_is_name.f T.d_is_name.fd P_is_name (sp_kind K isNamed) := ok_is_name T
  refine T.d_leaf.F.ok sc_leaf (fun vs H Q E h => ?_) (fun cdv A outer s H vs Q E hr h => ?_)
  · obtain ⟨_, _, rfl, _⟩ := h
    rfl
  · obtain ⟨wd, u, rfl, hl, hu, q⟩ := h
    have hu64 := hr.units
    have hu65 := hu65_of hr
    refine ⟨_, (pss_cons (ps_if (pt_cmpR (r := rInG K) (op_inG hu65) (pe_ix (r := rIx K) ix_seq (pv 0) pe_int (fun _ _ => rfl)) (pe_glob rfl T.c_DIGITS T.r_DIGITS) rfl) (pss_one (ps_ret (pe_call G_read_integer (hr.mono (by omega)) rfl T.d_read_integer.g T.d_read_integer.F.kp T.d_read_integer.b .nil pass0 (pa_cons (pv 0) pa_nil)))) pss_nil) (pss_cons (ps_expr (pe_call G_need (hr.mono (by omega)) rfl T.d_need.g T.d_need.F.kp T.d_need.b .nil pass0 (pa_cons (pe_call G_is_name (hr.mono (by omega)) rfl T.d_is_name.g T.d_is_name.F.kp T.d_is_name.b .nil pass0 (pa_cons (pv 0) pa_nil)) pa_nil))) (pss_one (ps_ret (pe_tup (pa_cons (pv 0) pa_nil)))))), ?_⟩
    have hz : (SX.S wd).length ≤ sizeLine := by
      rw [SX.S_len]
      exact Nat.le_trans hl (by decide)
    obtain ⟨c, r, hcr, hcase⟩ := leafI_inv hu
    refine ⟨wdV wd, rfl, Or.inr (Or.inr ⟨_, 0, c, rfl, rfl, hz, by rw [hcr]; exact atI_nat (j := 0) (by simp), ?_⟩)⟩
    refine Or.inr ⟨c, _, rfl, rfl, _, rfl, ?_⟩
    rw [digC_mem]
    rcases hcase with ⟨hc, n, hn, rfl⟩ | ⟨hc, hn, rfl⟩
    · rw [hc]
      exact ⟨wdV wd, rfl, wd, n, rfl, hn, fun H1 m1 => q _ H1 m1 (.int _)⟩
    · rw [hc]
      refine ⟨wdV wd, rfl, wdV wd, .str (SX.S wd), 0, rfl, ⟨rfl, by rw [SX.S_len]; omega⟩, fun H1 m1 => ?_⟩
      rw [show isNamed (.str (SX.S wd)) = true from hn]
      refine ⟨rfl, wdV wd, rfl, (by decide : 1 ≤ sizeLine), fun p np => ?_⟩
      exact q _ _ (m1.trans (.new np)) (Im.tup (.inl (.inl upd_same)) (Ims.cons (.str _) Ims.nil))
end
end Fm
namespace Fm
open PySem PySem.Spec PyProof.Rows L2
theorem no0 {X : Cx} : ∀ (H : Hp) (s : Shared) (e : Value) (s' : Shared), CX0 X.stack H s E0 e s' → False := fun _ _ _ _ h => h
end Fm
namespace Fm
open PySem PySem.Spec PyProof.Rows L2 SlX
local macro_rules | `(tactic| walk_at "nn") => `(tactic| dsimp only [tC, tNil, tCons, tCB, tCall, gName, tSeq, tAsg, tPar, tDrop, tRet])
local macro_rules | `(tactic| walk_at "nc") => `(tactic| dsimp only [tC, tNil, tCons, tCB, tCall])
def TokOk (w : List Nat) : Prop := (∃ c, w = [c]) ∨ ((∀ c ∈ w, isSg c = false) ∧ w ≠ [])
theorem tkL_ok : ∀ (l w : List Nat), (∀ c ∈ w, isSg c = false) → ∀ z ∈ tkL l w, TokOk z
  | [], w, hw, z, hz => by
    rw [tkL] at hz
    split at hz
    · cases hz
    · rw [List.mem_singleton.mp hz]
      exact .inr ⟨hw, by assumption⟩
  | c :: l, w, hw, z, hz => by
    rw [tkL] at hz
    split at hz
    · rcases List.mem_append.mp hz with hz | hz
      · split at hz
        · exact .inl ⟨c, List.mem_singleton.mp hz⟩
        · rcases List.mem_cons.mp hz with rfl | hz
          · exact .inr ⟨hw, by assumption⟩
          · exact .inl ⟨c, List.mem_singleton.mp hz⟩
      · exact tkL_ok l [] (fun _ h => by cases h) z hz
    · rename_i hc
      refine tkL_ok l (w ++ [c]) (fun d hd => ?_) z hz
      rcases List.mem_append.mp hd with hd | hd
      · exact hw d hd
      · rw [List.mem_singleton.mp hd]
        simpa using hc
theorem tkL_mem : ∀ (l w : List Nat) (z : List Nat), z ∈ tkL l w → ∀ c ∈ z, c ∈ w ∨ c ∈ l
  | [], w, z, hz, c, hc => by
    rw [tkL] at hz
    split at hz
    · cases hz
    · rw [List.mem_singleton.mp hz] at hc
      exact .inl hc
  | d :: l, w, z, hz, c, hc => by
    rw [tkL] at hz
    split at hz
    · rcases List.mem_append.mp hz with hz | hz
      · split at hz
        · rw [List.mem_singleton.mp hz, List.mem_singleton] at hc
          exact .inr (by rw [hc]; exact List.mem_cons_self)
        · rcases List.mem_cons.mp hz with rfl | hz
          · exact .inl hc
          · rw [List.mem_singleton.mp hz, List.mem_singleton] at hc
            exact .inr (by rw [hc]; exact List.mem_cons_self)
      · rcases tkL_mem l [] z hz c hc with h | h
        · cases h
        · exact .inr (List.mem_cons_of_mem _ h)
    · rcases tkL_mem l (w ++ [d]) z hz c hc with h | h
      · rcases List.mem_append.mp h with h | h
        · exact .inl h
        · exact .inr (by rw [List.mem_singleton.mp h]; exact List.mem_cons_self)
      · exact .inr (List.mem_cons_of_mem _ h)
theorem in_signs {w : List Nat} (h : TokOk w) : (!(Builtin.Str.occurrences (Str.ofString "(,)") (SX.S w) 0 (Str.ofString "(,)").length 1).isEmpty) = decide (w.length = 1 ∧ w.all isSg = true) := by
  rcases h with ⟨c, rfl⟩ | ⟨h1, h2⟩
  · rw [show SX.S [c] = (⟨#[c]⟩ : Str) from rfl, PySem.StrLaws.found_one, isSg_mem, Bool.eq_iff_iff, decide_eq_true_eq]
    simp
  · rw [decide_eq_false (word_no h1 h2), Bool.eq_false_iff]
    intro z
    obtain ⟨i, hi1, hi2⟩ := (PySem.StrLaws.found_iff _ _).mp z
    rw [PySem.StrLaws.subAt_eq] at hi2
    have e := eq_of_beq hi2
    obtain ⟨c, r, rfl⟩ := List.exists_cons_of_ne_nil h2
    have hm : c ∈ (Str.ofString "(,)").cps.toList := by
      have : c ∈ List.take (SX.S (c :: r)).length (List.drop i (Str.ofString "(,)").cps.toList) := by
        rw [e]
        simp
      exact List.mem_of_mem_drop (List.mem_of_mem_take this)
    have h3 := h1 c List.mem_cons_self
    rw [← isSg_mem, decide_eq_false_iff_not] at h3
    exact h3 hm
structure OpAt (K : PySem.W.Frag) (S : List Addr) (H : Hp) (L : List (Addr × Str × List Tm)) : Prop where
  nd : (L.map (·.1)).Nodup
  out : ∀ e ∈ L, e.1 ∉ S
  at_ : ∀ e ∈ L, ∃ vs, H e.1 = some (.lst (.str e.2.1 :: vs)) ∧ Ims K H vs (Tm.ds e.2.2)
theorem OpAt.mv {K : PySem.W.Frag} {S : List Addr} {H H' : Hp} {L : List (Addr × Str × List Tm)} (h : OpAt K S H L) (m : Mv S H H') : OpAt K S H' L :=
  ⟨h.nd, h.out, fun e he => let ⟨vs, h1, h2⟩ := h.at_ e he; ⟨vs, m.keep _ _ (h.out e he) h1, h2.mv m⟩⟩
theorem OpAt.mv0 {K : PySem.W.Frag} {S : List Addr} {H H' : Hp} {L : List (Addr × Str × List Tm)} (h : OpAt K S H L) (m : Mv [] H H') : OpAt K S H' L := h.mv (m.mono (by simp))
abbrev opV (e : Addr × Str × List Tm) : V := .ref e.1
def opsOf (L : List (Addr × Str × List Tm)) : List (Str × List Tm) := L.reverse.map (·.2)
theorem opsOf_snoc (L : List (Addr × Str × List Tm)) (e : Addr × Str × List Tm) : opsOf (L ++ [e]) = e.2 :: opsOf L := by simp [opsOf]
theorem opsOf_nil {L : List (Addr × Str × List Tm)} (h : opsOf L = []) : L = [] := by
  unfold opsOf at h
  simpa using h
theorem opsOf_cons {L : List (Addr × Str × List Tm)} {f : Str} {us : List Tm} {r : List (Str × List Tm)} (h : opsOf L = (f, us) :: r) : ∃ L' a, L = L' ++ [(a, f, us)] ∧ opsOf L' = r := by
  rcases List.eq_nil_or_concat L with rfl | ⟨L', e, rfl⟩
  · simp [opsOf] at h
  · rw [List.concat_eq_append, opsOf_snoc] at h
    obtain ⟨h1, h2⟩ := List.cons.inj h
    refine ⟨L', e.1, ?_, h2⟩
    rw [List.concat_eq_append]
    congr 2
    exact Prod.ext rfl h1
inductive TvAt (K : PySem.W.Frag) (H : Hp) : V → Option Tm → Prop
  | no : TvAt K H .non none
  | is {v : V} {t : Tm} : Im K H v t.d → TvAt K H v (some t)
theorem TvAt.mv {K : PySem.W.Frag} {S : List Addr} {H H' : Hp} {v : V} {o : Option Tm} (h : TvAt K H v o) (m : Mv S H H') : TvAt K H' v o := by
  cases h with
  | no => exact .no
  | is h => exact .is (h.mv m)
theorem im_notNone {K : PySem.W.Frag} {H : Hp} {v : V} {t : Tm} (h : Im K H v t.d) : v ≠ .non := by
  cases t with
  | var i => cases h.intI; simp
  | op x ts =>
    obtain ⟨a, xs, rfl, _⟩ := h.tupI
    simp
def sp_parsed (K : PySem.W.Frag) : Sp := fun vs H Q _ => ∃ (tl : Addr) (ws : List (List Nat)) (t : Tm), vs = [.ref tl] ∧ H tl = some (.lst (ws.map wdV)) ∧ ws.length ≤ 500000 ∧ (∀ w ∈ ws, TokOk w ∧ w.length ≤ 900 ∧ ∀ c ∈ w, c < 128) ∧ runI ws [] none false = some t ∧ ∀ v H', Mv [] H H' → Im K H' v t.d → Q v H'
theorem shaped_fi15 {d : PyData} (h : fine d) (hd : PyData.depth d ≤ 64) : SeqAt.shaped d = true := by
  show (PyData.canLay0 d && decide (PyData.depth d ≤ 64)) = true
  rw [(fine_lay d h).1, decide_eq_true hd]
  rfl
theorem wd_shaped {ws : List (List Nat)} (h : ∀ w ∈ ws, ∀ c ∈ w, c < 128) : SeqAt.shaped (.list (ws.map fun w => PyData.str (SX.S w))) = true := by
  have hs : ∀ w : List Nat, (∀ c ∈ w, c < 128) → PyData.strOk (SX.S w) = true := fun w hw => by
    unfold PyData.strOk
    simp only [SX.S, Array.all_toList.symm, List.all_eq_true]
    intro c hc
    have := hw c hc
    simp
    omega
  refine shaped_fi15 ?_ ?_
  · induction ws with
    | nil => trivial
    | cons w ws ih => exact ⟨hs w (h w List.mem_cons_self), ih fun z hz => h z (List.mem_cons_of_mem _ hz)⟩
  · have : ∀ ws : List (List Nat), PyData.depthAll (ws.map fun w => PyData.str (SX.S w)) = 0 := fun ws => by
      induction ws with
      | nil => rfl
      | cons w ws ih => simp [PyData.depthAll, PyData.depth, ih]
    simp only [PyData.depth]
    have := this ws
    omega
theorem dp_words {K : PySem.W.Frag} {H : Hp} : ∀ ws : List (List Nat), DpAll K H (ws.map wdV) (ws.map fun w => PyData.str (SX.S w))
  | [] => .nil
  | w :: ws => .cons (.str _) (dp_words ws)
theorem comma_wd : V.str (Str.ofString ",") = wdV [44] := congrArg V.str (by decide +kernel)
theorem close_wd : V.str (Str.ofString ")") = wdV [41] := congrArg V.str (by decide +kernel)
theorem open_wd : V.str (Str.ofString "(") = wdV [40] := congrArg V.str (by decide +kernel)
theorem cut_mid {ws : List (List Nat)} {k : Nat} : cutV (ws.map wdV) (some ((k : Int) + 1)) (some ((k : Int) + 2)) = ((ws.drop (k + 1)).take 1).map wdV := by
  rw [show (k : Int) + 1 = ((k + 1 : Nat) : Int) by omega, show (k : Int) + 2 = ((k + 2 : Nat) : Int) by omega]
  unfold cutV
  rw [HT.sIx_nat, HT.sIx_nat, ← List.map_drop, ← List.map_take, List.length_map]
  congr 1
  by_cases h : k + 1 < ws.length
  · rw [Nat.min_eq_left (by omega), Nat.min_eq_left (by omega)]
    congr 1
    omega
  · rw [List.drop_of_length_le (by omega), List.drop_of_length_le (by omega)]
    simp
theorem head_eqv {l : List (List Nat)} : PyData.eqv (.list ((l.take 1).map fun w => PyData.str (SX.S w))) (.list ([[40]].map fun w => PyData.str (SX.S w))) = decide (l.head? = some [40]) := by
  cases l with
  | nil => rfl
  | cons a l =>
    rw [Bool.eq_iff_iff, decide_eq_true_eq]
    simp only [List.take_succ_cons, List.take_zero, List.map_cons, List.map_nil, PyData.eqv, PyData.eqvAll, List.head?_cons, Option.some.injEq, Bool.and_true, beq_iff_eq]
    exact ⟨fun h => SX.S_inj h, fun h => by rw [h]⟩
theorem runI_some (w : List Nat) (r : List (List Nat)) (op : List (Str × List Tm)) (t : Tm) : runI (w :: r) op (some t) false = if w = [44] then (match op with
      | (f, us) :: op' => runI r ((f, us ++ [t]) :: op') none false
      | [] => none)
    else if w = [41] then (match op with
      | (f, us) :: op' => runI r op' (some (.op f (us ++ [t]))) false
      | [] => none)
    else none := by
  cases op <;> rw [runI]
section
variable {P : Program} {w : World} {K : PySem.W.Frag} {mg : Str → Option Value} {base : Heap}
theorem ok_parsed (T : TX K mg) {k : Nat} : FnOk P w K mg base CX0 (k + 4) T.d_parsed.f T.d_parsed.fd P_parsed (sp_parsed K) := by
  have G_need : FnOk P w K mg base CX0 1 T.d_need.f T.d_need.fd P_need sp_need := ok_need (k := 0) T
  have G_leaf : FnOk P w K mg base CX0 3 T.d_leaf.f T.d_leaf.fd P_leaf (sp_leaf K) := ok_leaf (k := 0) T
  have G_is_name : FnOk P w K mg base CX0 1 T.d_is_name.f T.d_is_name.fd P_is_name (sp_kind K isNamed) := ok_is_name T
  refine T.d_parsed.F.ok sc_parsed (fun vs H Q E h => ?_) (fun cdv A outer s H vs Q E hr h => ?_)
  · obtain ⟨_, _, _, rfl, _⟩ := h
    rfl
  · obtain ⟨tl, ws, res, rfl, htl, hwl, hws, hrun, q⟩ := h
    have hu64 := hr.units
    have hu65 := hu65_of hr
    have hwsl : (ws.map wdV).length = ws.length := List.length_map ..
    refine ⟨_, (pss_cons (ps_par3 (i := 1) (j := 2) (l := 3) rfl sc_parsed.nd rfl rfl rfl (by decide) (by decide) (by decide) rfl rfl rfl (pa_cons (pe_lst pa_nil) (pa_cons pe_non (pa_cons pe_int pa_nil))) rfl) (pss_cons (ps_while PassesOwn.never (pt_cmpR op_lt (pv 3) (pe_callB (r := rLenG K) call_lenG (by rfl) T.b_len bt_len (pa_cons (pv 0) pa_nil)) (nomark _)) (pss_cons (ps_set (i := 4) sc_parsed.nd rfl (Or.inl rfl) (pe_ix (r := rIx K) ix_seq (pv 0) (pv 3) (fun _ _ => rfl))) (Evl.pss_cut (ps_if (pt_cmpR op_isN (pv 2) pe_non (nomark _)) (pss_cons (ps_expr (pe_call G_need (hr.mono (by omega)) rfl T.d_need.g T.d_need.F.kp T.d_need.b .nil pass0 (pa_cons (pe_cmpR op_notin_str (pv 4) (pe_glob rfl T.c_SIGNS T.r_SIGNS) rfl) pa_nil))) (pss_one (ps_if (pt_cmpR (r := rEqG K) (op_eqG hu64) (pe_slice (r := rSlG K) sl_G (pv 0) (po_some (pe_op (r := rAddG K) op_addG (pv 3) pe_int)) (po_some (pe_op (r := rAddG K) op_addG (pv 3) pe_int))) (pe_lst (pa_cons pe_str pa_nil)) (nomark _)) (pss_cons (ps_expr (pe_call G_need (hr.mono (by omega)) rfl T.d_need.g T.d_need.F.kp T.d_need.b .nil pass0 (pa_cons (pe_call G_is_name (hr.mono (by omega)) rfl T.d_is_name.g T.d_is_name.F.kp T.d_is_name.b .nil pass0 (pa_cons (pv 4) pa_nil)) pa_nil))) (pss_cons (ps_expr (pe_bm PySem.F.plainAttrs_list PySem.F.slot_list_append PySem.F.type_list_append mt_append (pv 1) (pa_cons (pe_lst (pa_cons (pv 4) pa_nil)) pa_nil))) (pss_one (ps_set (i := 3) sc_parsed.nd rfl (Or.inl rfl) (pe_op (r := rAddG K) op_addG (pv 3) pe_int))))) (pss_one (ps_set (i := 2) sc_parsed.nd rfl (Or.inl rfl) (pe_call G_leaf (hr.mono (by omega)) rfl T.d_leaf.g T.d_leaf.F.kp T.d_leaf.b .nil pass0 (pa_cons (pv 4) pa_nil))))))) (pss_one (ps_if (pt_cmpR (r := rEqG K) (op_eqG hu64) (pv 4) pe_str (nomark _)) (pss_cons (ps_expr (pe_call G_need (hr.mono (by omega)) rfl T.d_need.g T.d_need.F.kp T.d_need.b .nil pass0 (pa_cons (pe_cmpR (r := rNeNil K) (op_neNil (Nat.lt_of_le_of_lt (Nat.le_add_right _ 65) hu65)) (pv 1) (pe_lst pa_nil) (nomark _)) pa_nil))) (pss_cons (ps_expr (pe_bm PySem.F.plainAttrs_list PySem.F.slot_list_append PySem.F.type_list_append mt_append (pe_ix (r := rIx K) ix_seq (pv 1) (pe_un un_neg pe_int) (fun _ _ => rfl)) (pa_cons (pv 2) pa_nil))) (pss_one (ps_set (i := 2) sc_parsed.nd rfl (Or.inl rfl) pe_non)))) (pss_cons (ps_expr (pe_call G_need (hr.mono (by omega)) rfl T.d_need.g T.d_need.F.kp T.d_need.b .nil pass0 (pa_cons (pe_and (pe_cmpR (r := rEqG K) (op_eqG hu64) (pv 4) pe_str (nomark _)) (pe_one (pe_cmpR (r := rNeNil K) (op_neNil (Nat.lt_of_le_of_lt (Nat.le_add_right _ 65) hu65)) (pv 1) (pe_lst pa_nil) (nomark _)))) pa_nil))) (pss_one (ps_set (i := 2) sc_parsed.nd rfl (Or.inl rfl) (pe_callTy (r := rTupOf K) call_tupG (by rfl) T.b_tuple bt_tuple (pa_cons (pe_op (r := rAddG K) op_addG (pe_bm0 PySem.F.plainAttrs_list PySem.F.slot_list_pop PySem.F.type_list_pop mt_pop (pv 1)) (pe_lst (pa_cons (pv 2) pa_nil))) pa_nil)))))))) (pss_one (ps_set (i := 3) sc_parsed.nd rfl (Or.inl rfl) (pe_op (r := rAddG K) op_addG (pv 3) pe_int)))))) (pss_cons (ps_expr (pe_call G_need (hr.mono (by omega)) rfl T.d_need.g T.d_need.F.kp T.d_need.b .nil pass0 (pa_cons (pe_and (pe_cmpR op_notN (pv 2) pe_non (nomark _)) (pe_one (pe_cmpR (r := rEqNil K) (op_eqNil (Nat.lt_of_le_of_lt (Nat.le_add_right _ 65) hu65)) (pv 1) (pe_lst pa_nil) (nomark _)))) pa_nil))) (pss_one (ps_ret (pv 2)))))), ?_⟩
    refine ⟨Nat.zero_le _, fun D nD => ?_⟩
    have m0 : Mv [] H (upd H D (.lst [])) := .new nD
    have e0 : upd H D (.lst []) D = some (.lst []) := upd_same
    have hDt : tl ≠ D := ne_of_none htl nD
    generalize upd H D (.lst []) = H0 at m0 e0 ⊢
    refine ⟨_, _, _, rfl, ?_⟩
    refine ⟨fun m σ H2 => ∃ (at_ : Nat) (L : List (Addr × Str × List Tm)) (t : Option Tm) (tv : V) (y4 : Option V), σ = [some (.ref tl), some (.ref D), some tv, some (.int at_), y4] ∧ at_ ≤ ws.length ∧ m = ws.length - at_ ∧ H2 D = some (.lst (L.map opV)) ∧
      OpAt K [D, tl] H2 L ∧ TvAt K H2 tv t ∧ runI (ws.drop at_) (opsOf L) t false = some res ∧ L.length ≤ at_ ∧ (∀ e ∈ L, e.2.2.length ≤ at_ ∧ H e.1 = none) ∧ Mv [] H H2,
      ⟨_, 0, [], none, .non, none, rfl, Nat.zero_le _, rfl, e0, ⟨List.nodup_nil, fun _ h => (by cases h), fun _ h => (by cases h)⟩, .no, hrun, Nat.zero_le _, fun _ h => (by cases h), m0⟩, fun m σ H2 hW => ?_⟩
    obtain ⟨at_, L, t, tv, y4, rfl, ha, rfl, e2, o2, t2, r2, hL, hLe, m2⟩ := hW
    have f2 := m2.same _ _ htl
    refine ⟨.int at_, rfl, .ref tl, rfl, ?_⟩
    walk_at "nc"
    refine rd_len (.inl (.inl (.inl f2))) ⟨_, _, rfl, rfl, _, rfl, ?_⟩
    rw [hwsl]
    by_cases hlt : at_ < ws.length
    · rw [decide_eq_true (by omega : (at_ : Int) < (ws.length : Int))]
      refine ⟨fun σ' H' => ∃ m', m' < ws.length - at_ ∧ _, fun _ _ h => h, ?_⟩
      obtain ⟨wd, hwd⟩ : ∃ wd, ws[at_]? = some wd := ⟨_, List.getElem?_eq_getElem hlt⟩
      have hdr : ws.drop at_ = wd :: ws.drop (at_ + 1) := by
        rw [List.drop_eq_getElem_cons hlt]
        congr 1
        exact (List.getElem?_eq_some_iff.mp hwd).2
      obtain ⟨hok, hlen, hasc⟩ := hws wd (List.mem_of_getElem? hwd)
      rw [hdr] at r2
      refine ⟨.ref tl, rfl, .int at_, rfl, rd_ixL (.inl (.inl f2)) (by omega) (v := wdV wd) (by rw [Int.toNat_natCast, List.getElem?_map, hwd]; rfl) ?_⟩
      refine ⟨fun σ' H' => ∃ (at2 : Nat) (L' : List (Addr × Str × List Tm)) (t' : Option Tm) (tv' : V), σ' = [some (.ref tl), some (.ref D), some tv', some (.int at2), some (wdV wd)] ∧ at_ ≤ at2 ∧ at2 + 1 ≤ ws.length ∧ H' D = some (.lst (L'.map opV)) ∧
        OpAt K [D, tl] H' L' ∧ TvAt K H' tv' t' ∧ runI (ws.drop (at2 + 1)) (opsOf L') t' false = some res ∧ L'.length ≤ at2 + 1 ∧ (∀ e ∈ L', e.2.2.length ≤ at2 + 1 ∧ H e.1 = none) ∧ Mv [] H H', ?_, ?_⟩
      · refine ⟨tv, rfl, rfl, _, rfl, ?_⟩
        cases t2 with
        | no =>
          rw [decide_eq_true rfl]
          rw [runI] at r2
          have hns : ¬ (wd.length = 1 ∧ wd.all isSg = true) := fun z => by
            rw [if_pos z] at r2
            cases r2
          rw [if_neg hns] at r2
          refine ⟨wdV wd, rfl, _, _, rfl, rfl, ?_⟩
          rw [in_signs hok, decide_eq_false hns]
          refine ⟨rfl, ?_⟩
          refine ⟨.ref tl, rfl, .int at_, rfl, Or.inl ⟨at_, 1, rfl, rfl, _, rfl, .int at_, rfl, Or.inl ⟨at_, 2, rfl, rfl, _, rfl, Or.inl ⟨tl, _, rfl, .inl (.inl f2), fun p np => ?_⟩⟩⟩⟩
          rw [cut_mid]
          have m3 : Mv [] H2 (upd H2 p (.lst (((ws.drop (at_ + 1)).take 1).map wdV))) := .new np
          have e3 : upd H2 p (.lst (((ws.drop (at_ + 1)).take 1).map wdV)) p = some (.lst (((ws.drop (at_ + 1)).take 1).map wdV)) := upd_same
          generalize upd H2 p (.lst (((ws.drop (at_ + 1)).take 1).map wdV)) = H3 at m3 e3 ⊢
          refine ⟨(by decide : 1 ≤ sizeLine), fun p4 np4 => ?_⟩
          have m4 : Mv [] H3 (upd H3 p4 (.lst [.str (Str.ofString "(")])) := .new np4
          have e4 : upd H3 p4 (.lst [.str (Str.ofString "(")]) p4 = some (.lst ([[40]].map wdV)) := by rw [upd_same, open_wd]; rfl
          generalize upd H3 p4 (.lst [.str (Str.ofString "(")]) = H4 at m4 e4 ⊢
          have m24 := m3.trans m4
          have hasc1 : ∀ w ∈ (ws.drop (at_ + 1)).take 1, ∀ c ∈ w, c < 128 := fun w hw => (hws w (List.mem_of_mem_drop (List.mem_of_mem_take hw))).2.2
          refine Or.inr ⟨_, _, .lst (.inl (.inl (m4.same _ _ e3))) (dp_words _), .lst (.inl (.inl e4)) (dp_words _), wd_shaped hasc1, wd_shaped (by simp), _, rfl, ?_⟩
          rw [head_eqv]
          have e24 := m24.same _ _ e2
          have o24 := o2.mv0 m24
          by_cases hh : (ws.drop (at_ + 1)).head? = some [40]
          · rw [decide_eq_true hh]
            rw [if_pos hh] at r2
            have hnm : nmd (SX.S wd) = true := Classical.byContradiction fun z => by
              rw [if_neg z] at r2
              cases r2
            rw [if_pos hnm] at r2
            refine ⟨wdV wd, rfl, wdV wd, .str (SX.S wd), 0, rfl, ⟨rfl, by rw [SX.S_len]; omega⟩, fun H5 m5 => ?_⟩
            rw [show isNamed (.str (SX.S wd)) = true from hnm]
            refine ⟨rfl, ?_⟩
            have e5 := m5.same _ _ e24
            refine ⟨.ref D, rfl, .inl ⟨rfl, _, .inl (.inl e5)⟩, wdV wd, rfl, (by decide : 1 ≤ sizeLine), fun a na => ?_⟩
            have m6 : Mv [] H5 (upd H5 a (.lst [wdV wd])) := .new na
            have e6 : upd H5 a (.lst [wdV wd]) a = some (.lst [wdV wd]) := upd_same
            have haD : a ≠ D := (ne_of_none e5 na).symm
            have hat : a ≠ tl := (ne_of_none (m5.same _ _ (m24.same _ _ f2)) na).symm
            have hna : ∀ e ∈ L, e.1 ≠ a := fun e he z => by
              obtain ⟨vs, h1, _⟩ := (o24.mv0 m5).at_ e he
              rw [z, na] at h1
              cases h1
            generalize upd H5 a (.lst [wdV wd]) = H6 at m6 e6 ⊢
            have m26 := (m24.trans m5).trans m6
            have e56 := m6.same _ _ e5
            refine ⟨D, _, .ref a, rfl, rfl, e56, by rw [List.length_map]; exact Nat.lt_of_le_of_lt (show _ ≤ 500000 by omega) (by decide), ?_⟩
            have m7 : Mv [D] H6 (upd H6 D (.lst (L.map opV ++ [.ref a]))) := .set e56 (by simp)
            refine ⟨.int at_, rfl, Or.inl ⟨at_, 1, rfl, rfl, ?_⟩⟩
            have hlt2 : at_ + 1 < ws.length := by
              have hne : ws.drop (at_ + 1) ≠ [] := by
                intro z
                rw [z] at hh
                cases hh
              have := List.length_pos_iff.mpr hne
              rw [List.length_drop] at this
              omega
            have hdr2 : ws.drop (at_ + 1) = [40] :: ws.drop (at_ + 1 + 1) := by
              rw [List.drop_eq_getElem_cons hlt2] at hh ⊢
              simp only [List.head?_cons, Option.some.injEq] at hh
              rw [hh]
            rw [hdr2, runI] at r2
            refine ⟨at_ + 1, L ++ [(a, SX.S wd, [])], none, .non, rfl, by omega, by omega, by rw [upd_same, List.map_append]; rfl, ?_, .no, by rw [opsOf_snoc]; exact r2, by rw [List.length_append]; simp; omega, fun e he => ?_, (m2.trans m26).wr nD⟩
            · refine ⟨?_, fun e he => ?_, fun e he => ?_⟩
              · rw [List.map_append, List.nodup_append]
                refine ⟨o24.nd, by simp, fun x hx y hy => ?_⟩
                obtain ⟨e, he, rfl⟩ := List.mem_map.mp hx
                simp only [List.map_cons, List.map_nil, List.mem_singleton] at hy
                rw [hy]
                exact hna e he
              · rcases List.mem_append.mp he with he | he
                · exact o24.out e he
                · rw [List.mem_singleton.mp he]
                  simp [haD, hat]
              · rcases List.mem_append.mp he with he | he
                · obtain ⟨vs, h1, h2⟩ := (o24.mv0 (m5.trans m6)).at_ e he
                  exact ⟨vs, m7.keep _ _ (fun z => o24.out e he (by rw [List.mem_singleton.mp z]; simp)) h1, h2.mv m7⟩
                · rw [List.mem_singleton.mp he]
                  exact ⟨[], m7.keep _ _ (by simpa using haD) e6, Ims.nil⟩
            · rcases List.mem_append.mp he with he | he
              · have := hLe e he
                exact ⟨by omega, this.2⟩
              · rw [List.mem_singleton.mp he]
                exact ⟨by simp, (m2.trans (m24.trans m5)).free na⟩
          · rw [decide_eq_false hh]
            rw [if_neg hh] at r2
            obtain ⟨u, hu⟩ : ∃ u, leafI wd = some u := by
              cases h : leafI wd with
              | none => rw [h] at r2; cases r2
              | some u => exact ⟨u, rfl⟩
            rw [hu] at r2
            refine ⟨wdV wd, rfl, wd, u, rfl, hlen, hu, fun v H5 m5 im5 => ?_⟩
            have m25 := m24.trans m5
            exact ⟨at_, L, some u, v, rfl, Nat.le_refl _, by omega, m25.same _ _ e2, o2.mv0 m25, .is im5, r2, by omega, fun e he => ⟨by have := (hLe e he).1; omega, (hLe e he).2⟩, m2.trans m25⟩
        | @is _ u hu =>
          rw [decide_eq_false (im_notNone hu)]
          rw [runI_some] at r2
          refine ⟨wdV wd, rfl, Or.inl ⟨rfl, _, rfl, ?_⟩⟩
          rw [comma_wd, wd_eq]
          by_cases hw : wd = [44]
          · rw [decide_eq_true hw]
            rw [if_pos hw] at r2
            obtain ⟨f, us, op', hop⟩ : ∃ f us op', opsOf L = (f, us) :: op' := by
              cases h : opsOf L with
              | nil => rw [h] at r2; cases r2
              | cons e op' => exact ⟨e.1, e.2, op', rfl⟩
            rw [hop] at r2
            obtain ⟨L', a, rfl, hop'⟩ := opsOf_cons hop
            obtain ⟨vs, ha1, ha2⟩ := o2.at_ (a, f, us) (by simp)
            have hae := hLe (a, f, us) (by simp)
            have haS := o2.out (a, f, us) (by simp)
            dsimp only at ha1 ha2 hae haS
            have haD : a ≠ D := fun z => haS (by rw [z]; simp)
            have hvl : vs.length = us.length := by rw [ha2.length, Tm.ds_map, List.length_map]
            refine ⟨.ref D, rfl, Nat.zero_le _, fun q1 nq1 => ⟨D, q1, _, rfl, rfl, .inl (.inl ((Mv.new (S := []) nq1).same _ _ e2)), .inl (.inl upd_same), by simp, ?_⟩⟩
            have m3 : Mv [] H2 (upd H2 q1 (.lst [])) := .new nq1
            generalize upd H2 q1 (.lst []) = H3 at m3 ⊢
            have e3 := m3.same _ _ e2
            have ha3 := m3.same _ _ ha1
            rw [List.map_append] at e3
            refine ⟨.ref D, rfl, 1, rfl, Or.inl ⟨D, _, -1, .ref a, rfl, rfl, .inl (.inl e3), atI_last _ _, .inl ⟨rfl, _, .inl (.inl ha3)⟩, tv, rfl, a, _, tv, rfl, rfl, ha3, by rw [List.length_cons, hvl]; exact Nat.lt_of_le_of_lt (show _ ≤ 500001 by omega) (by decide), ?_⟩⟩
            have m4 : Mv [a] H3 (upd H3 a (.lst (.str f :: vs ++ [tv]))) := .set ha3 (by simp)
            have hnd := o2.nd
            rw [List.map_append, List.nodup_append] at hnd
            have hne : ∀ e ∈ L', e.1 ≠ a := fun e he z => hnd.2.2 e.1 (List.mem_map.mpr ⟨e, he, rfl⟩) a (by simp) z
            refine ⟨at_, L' ++ [(a, f, us ++ [u])], none, .non, rfl, Nat.le_refl _, by omega, by rw [upd_ne haD.symm, e3, List.map_append]; rfl, ⟨?_, fun e he => ?_, fun e he => ?_⟩, .no, by rw [opsOf_snoc, hop']; exact r2, by rw [List.length_append] at hL ⊢; simp at hL ⊢; omega, fun e he => ?_, (m2.trans m3).wr hae.2⟩
            · have := o2.nd
              rw [List.map_append] at this ⊢
              exact this
            · rcases List.mem_append.mp he with he | he
              · exact o2.out e (by simp [he])
              · rw [List.mem_singleton.mp he]
                exact haS
            · rcases List.mem_append.mp he with he | he
              · obtain ⟨vs', h1, h2⟩ := o2.at_ e (by simp [he])
                exact ⟨vs', m4.keep _ _ (by simpa using hne e he) (m3.same _ _ h1), (h2.mv m3).mv m4⟩
              · rw [List.mem_singleton.mp he]
                refine ⟨vs ++ [tv], upd_same, ?_⟩
                dsimp only
                rw [Tm.ds_append]
                exact ((ha2.mv m3).append (Ims.cons (hu.mv m3) Ims.nil)).mv m4
            · rcases List.mem_append.mp he with he | he
              · have := hLe e (by simp [he])
                exact ⟨by omega, this.2⟩
              · rw [List.mem_singleton.mp he]
                dsimp only
                exact ⟨by rw [List.length_append]; simp; omega, hae.2⟩
          · rw [decide_eq_false hw]
            rw [if_neg hw] at r2
            have hw2 : wd = [41] := Classical.byContradiction fun z => by
              rw [if_neg z] at r2
              cases r2
            rw [if_pos hw2] at r2
            obtain ⟨f, us, op', hop⟩ : ∃ f us op', opsOf L = (f, us) :: op' := by
              cases h : opsOf L with
              | nil => rw [h] at r2; cases r2
              | cons e op' => exact ⟨e.1, e.2, op', rfl⟩
            rw [hop] at r2
            obtain ⟨L', a, rfl, hop'⟩ := opsOf_cons hop
            obtain ⟨vs, ha1, ha2⟩ := o2.at_ (a, f, us) (by simp)
            have hae := hLe (a, f, us) (by simp)
            dsimp only at ha1 ha2 hae
            have hvl : vs.length = us.length := by rw [ha2.length, Tm.ds_map, List.length_map]
            refine ⟨wdV wd, rfl, Or.inl ⟨rfl, _, rfl, ?_⟩⟩
            rw [close_wd, wd_eq, decide_eq_true hw2]
            refine ⟨.ref D, rfl, Nat.zero_le _, fun q1 nq1 => ⟨D, q1, _, rfl, rfl, .inl (.inl ((Mv.new (S := []) nq1).same _ _ e2)), .inl (.inl upd_same), by simp, ?_⟩⟩
            have m3 : Mv [] H2 (upd H2 q1 (.lst [])) := .new nq1
            generalize upd H2 q1 (.lst []) = H3 at m3 ⊢
            have e3 := m3.same _ _ e2
            have ha3 := m3.same _ _ ha1
            rw [List.map_append] at e3
            have haD : a ≠ D := fun z => o2.out (a, f, us) (by simp) (by rw [z]; simp)
            refine ⟨.ref D, rfl, .inl ⟨rfl, _, .inl (.inl e3)⟩, D, _, .ref a, rfl, rfl, e3, by simp, ?_⟩
            have m4 : Mv [D] H3 (upd H3 D (.lst (L'.map opV ++ [(a, f, us)].map opV).dropLast)) := .set e3 (by simp)
            have e4 : upd H3 D (.lst (L'.map opV ++ [(a, f, us)].map opV).dropLast) D = some (.lst (L'.map opV)) := by rw [upd_same]; simp
            have ha4 := m4.keep _ _ (by simpa using haD) ha3
            have m24 : Mv [] H (upd H3 D (.lst (L'.map opV ++ [(a, f, us)].map opV).dropLast)) := (m2.trans m3).wr nD
            have m34 : Mv [D] H2 (upd H3 D (.lst (L'.map opV ++ [(a, f, us)].map opV).dropLast)) := (m3.mono (by simp)).trans m4
            generalize upd H3 D (.lst (L'.map opV ++ [(a, f, us)].map opV).dropLast) = H4 at m4 e4 ha4 m24 m34 ⊢
            refine ⟨tv, rfl, (by decide : 1 ≤ sizeLine), fun q2 nq2 => ?_⟩
            have m5 : Mv [] H4 (upd H4 q2 (.lst [tv])) := .new nq2
            have e5 : upd H4 q2 (.lst [tv]) q2 = some (.lst [tv]) := upd_same
            generalize upd H4 q2 (.lst [tv]) = H5 at m5 e5 ⊢
            refine rd_catL (m5.same _ _ ha4) e5 (by rw [List.length_cons, hvl]; exact Nat.le_trans (show _ ≤ 500002 by simp; omega) (by decide)) fun p6 H6 n6 m6 e6 => ?_
            walk_at "nc"
            refine rd_tupOf (.inl (.inl e6)) fun p7 H7 m7 e7 => ?_
            have m47 := m5.trans (m6.trans m7)
            have m27 := m34.trans (m47.mono (by simp))
            refine ⟨at_, L', some (.op f (us ++ [u])), .ref p7, rfl, Nat.le_refl _, by omega, m47.same _ _ e4, ⟨?_, fun e he => o2.out e (by simp [he]), fun e he => ?_⟩, .is ?_, by rw [hop']; exact r2, by rw [List.length_append] at hL; omega, fun e he => ?_, m24.trans m47⟩
            · have := o2.nd
              rw [List.map_append, List.nodup_append] at this
              exact this.1
            · obtain ⟨vs', h1, h2⟩ := o2.at_ e (by simp [he])
              have hne := o2.out e (by simp [he])
              exact ⟨vs', m27.keep _ _ (fun z => hne (by rw [List.mem_singleton.mp z]; simp)) h1, h2.mv m27⟩
            · refine Im.tup e7 ?_
              rw [Tm.ds_append]
              exact Ims.cons (.str f) ((ha2.mv m27).append (Ims.cons (hu.mv m27) Ims.nil))
            · have := hLe e (by simp [he])
              exact ⟨by omega, this.2⟩
      · rintro σ' H' ⟨at2, L', t', tv', rfl, h1, h2, h3, h4, h5, h6, h7, h9, h8⟩
        refine ⟨.int at2, rfl, Or.inl ⟨at2, 1, rfl, rfl, ?_⟩⟩
        exact ⟨ws.length - (at2 + 1), by omega, at2 + 1, L', t', tv', _, rfl, h2, rfl, h3, h4, h5, h6, h7, h9, h8⟩
    · rw [decide_eq_false (by omega : ¬ (at_ : Int) < (ws.length : Int))]
      rw [List.drop_of_length_le (by omega), runI] at r2
      have hop : opsOf L = [] := Classical.byContradiction fun z => by
        rw [if_neg z] at r2
        cases r2
      rw [if_pos hop] at r2
      subst r2
      cases t2 with
      | @is _ u hu =>
        obtain rfl := opsOf_nil hop
        refine ⟨tv, rfl, rfl, _, rfl, ?_⟩
        rw [decide_eq_false (im_notNone hu)]
        refine ⟨.ref D, rfl, Nat.zero_le _, fun q1 nq1 => ⟨D, q1, [], rfl, rfl, .inl (.inl ((Mv.new (S := []) nq1).same _ _ e2)), .inl (.inl upd_same), rfl, ?_⟩⟩
        exact ⟨tv, rfl, q tv _ (m2.trans (.new nq1)) (hu.mv (Mv.new (S := []) nq1))⟩
end
end Fm
namespace Fm
open PySem PySem.Spec PyProof.Rows L2
local macro_rules | `(tactic| walk_at "nn") => `(tactic| dsimp only [tC, tNil, tCons, tCB, tCall, gName, tSeq, tAsg, tPar, tDrop, tRet])
local macro_rules | `(tactic| walk_at "nc") => `(tactic| dsimp only [tC, tNil, tCons, tCB, tCall])
mutual
def under (many : Int) : Th → Bool
  | .int i => decide (i < many)
  | .tup (_ :: ts) => unders many ts
  | _ => true
def unders (many : Int) : List Th → Bool
  | [] => true
  | t :: ts => under many t && unders many ts
end
theorem unders_append (many : Int) (ts us : List Th) : unders many (ts ++ us) = (unders many ts && unders many us) := by
  induction ts with
  | nil => simp [unders]
  | cons t ts ih => simp [unders, ih, Bool.and_assoc]
def sp_termOver (K : PySem.W.Frag) : Sp := fun vs H Q _ => ∃ (many : Int) (v : V) (t : Th) (b : Addr), vs = [.int many, v] ∧ Is K b H v t ∧ t.cnt ≤ 90000 ∧ ∀ H', Mv [] H H' → Q (.bl (isTerm t && under many t)) H'
section
variable {P : Program} {w : World} {K : PySem.W.Frag} {mg : Str → Option Value} {base : Heap}
theorem ok_is_term_over (T : TX K mg) {k : Nat} : FnOk P w K mg base CX0 (k + 3) T.d_is_term_over.f T.d_is_term_over.fd P_is_term_over (sp_termOver K) := by
  have G_is_term : FnOk P w K mg base CX0 2 T.d_is_term.f T.d_is_term.fd P_is_term (sp_isTerm K) := ok_is_term T
  refine T.d_is_term_over.F.ok sc_is_term_over (fun vs H Q E h => ?_) (fun cdv A outer s H vs Q E hr h => ?_)
  · obtain ⟨_, _, _, _, rfl, _⟩ := h
    rfl
  · obtain ⟨many, v, t, b, rfl, hv, hcn, q⟩ := h
    have hu65 := hu65_of hr
    refine ⟨_, (pss_cons (ps_if (pt_not (pt_val (pe_call G_is_term (hr.mono (by omega)) rfl T.d_is_term.g T.d_is_term.F.kp T.d_is_term.b .nil pass0 (pa_cons (pv 1) pa_nil)))) (pss_one (ps_ret pe_bl)) pss_nil) (pss_cons (ps_set (i := 2) sc_is_term_over.nd rfl (Or.inl rfl) (pe_lst (pa_cons (pv 1) pa_nil))) (pss_cons (ps_while PassesOwn.never (pt_cmpR (r := rNeNil K) (op_neNil (Nat.lt_of_le_of_lt (Nat.le_add_right _ 65) hu65)) (pv 2) (pe_lst pa_nil) (nomark _)) (pss_cons (ps_set (i := 3) sc_is_term_over.nd rfl (Or.inl rfl) (pe_bm0 PySem.F.plainAttrs_list PySem.F.slot_list_pop PySem.F.type_list_pop mt_pop (pv 2))) (pss_one (ps_if (pt_not (pt_val (pe_callB (r := rIsi K) call_isi (by rfl) T.b_isinstance bt_isinstance (pa_cons (pv 3) (pa_cons (pe_ty T.b_int bt_int) pa_nil))))) (pss_one (ps_expr (pe_bm PySem.F.plainAttrs_list PySem.F.slot_list_extend PySem.F.type_list_extend (r := rExtG K) mt_extendG (pv 2) (pa_cons (pe_slice (r := rSlG K) sl_G (pv 3) (po_some pe_int) po_none) pa_nil)))) (pss_one (ps_if (pt_cmpR op_ge (pv 3) (pv 0) (nomark _)) (pss_one (ps_ret pe_bl)) pss_nil)))))) (pss_one (ps_ret pe_bl))))), ?_⟩
    refine ⟨v, rfl, v, t, b, rfl, hv, hcn, fun H1 m1 => ⟨_, rfl, ite2 (fun e1 => ?_) (fun e1 => ?_)⟩⟩
    · have e9 : isTerm t = false := by simpa using e1
      rw [e9] at q
      exact q H1 m1
    have e9 : isTerm t = true := by simpa using e1
    rw [e9] at q
    refine ⟨v, rfl, (by decide : 1 ≤ sizeLine), fun l nl => ?_⟩
    have nl0 := m1.free nl
    refine ⟨fun m σ H2 => ∃ (ys : List V) (us : List Th) (y : Option V), σ = [some (.int many), some v, some (.ref l), y] ∧ H2 l = some (.lst ys) ∧ IsAll K b H ys us ∧ isTerms us = true ∧ unders many us = under many t ∧ Th.cnts us ≤ 90000 ∧ m = Th.cnts us ∧ Mv [] H H2,
      ⟨_, [v], [t], none, rfl, upd_same, IsAll.cons hv IsAll.nil, by simp [isTerms, e9], by simp [unders], by simp only [Th.cnts]; omega, rfl, m1.trans (.new nl)⟩, fun m σ H2 hW => ?_⟩
    obtain ⟨ys, us, y, rfl, e2, i2, s2, t2, b2, rfl, m2⟩ := hW
    refine ⟨.ref l, rfl, Nat.zero_le _, fun q1 n1 => ⟨l, q1, ys, rfl, rfl, .inl (.inl (same_new n1 _ _ e2)), .inl (.inl upd_same), ?_⟩⟩
    have m23 : Mv [] H (upd H2 q1 (.lst [])) := m2.trans (.new n1)
    have e3 : upd H2 q1 (.lst []) l = some (.lst ys) := same_new n1 _ _ e2
    generalize upd H2 q1 (.lst []) = H3 at m23 e3 ⊢
    refine ⟨_, rfl, ?_⟩
    rcases List.eq_nil_or_concat us with rfl | ⟨us', u, rfl⟩
    · have hy : ys = [] := i2
      subst hy
      rw [show unders many ([] : List Th) = true from by simp [unders]] at t2
      rw [← t2] at q
      exact q H3 m23
    · rw [List.concat_eq_append] at *
      obtain ⟨ys', z, rfl, i4, hz⟩ := IsAll.last rfl i2
      rw [show (!(ys' ++ [z]).isEmpty) = true by simp]
      refine ⟨fun σ' H' => ∃ m', m' < Th.cnts (us' ++ [u]) ∧ _, fun _ _ h => h, ?_⟩
      refine ⟨.ref l, rfl, .inl ⟨rfl, _, .inl (.inl e3)⟩, l, _, z, rfl, rfl, e3, by simp, ?_⟩
      have m25 : Mv [] H (upd H3 l (.lst (ys' ++ [z]).dropLast)) := m23.wr nl0
      have e5 : upd H3 l (.lst (ys' ++ [z]).dropLast) l = some (.lst ys') := by rw [upd_same, List.dropLast_concat]
      generalize upd H3 l (.lst (ys' ++ [z]).dropLast) = H5 at m25 e5 ⊢
      rw [Th.cnts_append] at b2 ⊢
      rw [isTerms_append, Bool.and_eq_true] at s2
      rw [unders_append] at t2
      have e1u : isTerms [u] = isTerm u := by simp [isTerms]
      have c1u : Th.cnts [u] = u.cnt := by simp [Th.cnts]
      rw [e1u] at s2
      rw [show unders many [u] = under many u by simp [unders]] at t2
      rw [c1u] at b2 ⊢
      have hpos := u.cnt_pos
      refine ⟨z, rfl, ?_⟩
      walk_at "nn"
      refine rd_isi (hz.mv0 m25) (kit_int u) ⟨_, rfl, ?_⟩
      cases u with
      | int i =>
        cases (show z = V.int i from hz)
        refine ⟨.int i, rfl, .int many, rfl, i, many, rfl, rfl, _, rfl, ite2 (fun e => ?_) (fun e => ?_)⟩
        · have h0 : ¬ i < many := by simp at e; omega
          rw [show under many t = false by rw [← t2]; simp only [under]; rw [decide_eq_false h0, Bool.and_false]] at q
          exact q H5 m25
        · have h0 : i < many := by simp at e; omega
          refine ⟨Th.cnts us', by omega, ys', us', _, rfl, e5, i4, s2.1, ?_, by omega, rfl, m25⟩
          rw [← t2]
          simp only [under]
          rw [decide_eq_true h0, Bool.and_true]
      | tup ts =>
        obtain ⟨a1, zs0, rfl, ha1, hzs0⟩ := hz
        cases ts with
        | nil => simp [isTerm] at s2
        | cons t0 tr =>
          obtain ⟨z0, zs, rfl, hz0, hzs⟩ := hzs0
          have s3 : isTerms tr = true ∧ tr.length ≤ 3 := by
            have := s2.2
            simp only [isTerm, Bool.and_eq_true, decide_eq_true_eq] at this
            exact ⟨this.2, this.1.2⟩
          have hlz := hzs.length
          refine ⟨.ref l, rfl, .inl ⟨rfl, _, .inl (.inl e5)⟩, .ref a1, rfl, 1, rfl, rd_sl1 (m25.sqT ha1) fun p8 H8 m8 e8 => ?_⟩
          have hl4 := i4.length
          have hc4 := Th.cnts_len us'
          simp only [Th.cnt, Th.cnts] at b2 ⊢
          have hpos0 := t0.cnt_pos
          have hczs := Th.cnts_len tr
          refine Or.inr ⟨l, p8, ys', zs, rfl, rfl, m8.same _ _ e5, e8, Nat.le_trans (show ys'.length + zs.length ≤ 100000 by omega) (by decide), ?_⟩
          refine ⟨Th.cnts (us' ++ tr), by rw [Th.cnts_append]; omega, ys' ++ zs, us' ++ tr, _, rfl, upd_same, i4.append hzs, ?_, ?_, by rw [Th.cnts_append]; omega, rfl, (m25.trans m8).wr nl0⟩
          · rw [isTerms_append, s2.1, s3.1]
            rfl
          · rw [← t2, unders_append]
            simp only [under]
      | non => simp [isTerm] at s2
      | bl c => simp [isTerm] at s2
      | str x => simp [isTerm] at s2
      | lst => simp [isTerm] at s2
      | dct => simp [isTerm] at s2
end
mutual
theorem isTerm_th {R : Int → Prop} (hR : ∀ i, R i → 0 ≤ i) : ∀ t : Tm, t.ok R → isTerm t.th = true
  | .var i, h => by simpa [Tm.th, isTerm] using hR i h
  | .op x ts, h => by
    simp only [Tm.th, isTerm, isNamed, nmd_nm h.1, isTerms_ths hR ts h.2.2, Bool.true_and, Bool.and_true, ths_len, decide_eq_true_eq]
    exact h.2.1
theorem isTerms_ths {R : Int → Prop} (hR : ∀ i, R i → 0 ≤ i) : ∀ ts : List Tm, Tm.oks R ts → isTerms (Tm.ths ts) = true
  | [], _ => by simp [Tm.ths, isTerms]
  | t :: ts, h => by simp [Tm.ths, isTerms, isTerm_th hR t h.1, isTerms_ths hR ts h.2]
theorem ths_len : ∀ ts : List Tm, (Tm.ths ts).length = ts.length
  | [] => by simp [Tm.ths]
  | t :: ts => by simp [Tm.ths, ths_len ts]
end
mutual
theorem under_th {R : Int → Prop} {n : Int} (hR : ∀ i, R i → i < n) : ∀ t : Tm, t.ok R → under n t.th = true
  | .var i, h => by simpa [Tm.th, under] using hR i h
  | .op x ts, h => by
    simp only [Tm.th, under]
    exact unders_ths hR ts h.2.2
theorem unders_ths {R : Int → Prop} {n : Int} (hR : ∀ i, R i → i < n) : ∀ ts : List Tm, Tm.oks R ts → unders n (Tm.ths ts) = true
  | [], _ => by simp [Tm.ths, unders]
  | t :: ts, h => by simp [Tm.ths, unders, under_th hR t h.1, unders_ths hR ts h.2]
end
mutual
theorem cnt_th : ∀ t : Tm, t.th.cnt ≤ t.cst + t.lv
  | .var i => by simp [Tm.th, Th.cnt, Tm.lv]
  | .op x ts => by
    have := cnts_ths ts
    simp only [Tm.th, Th.cnt, Th.cnts, Tm.cst, Tm.lv]
    omega
theorem cnts_ths : ∀ ts : List Tm, Th.cnts (Tm.ths ts) ≤ Tm.csts ts + Tm.lvs ts
  | [] => by simp [Tm.ths, Th.cnts]
  | t :: ts => by
    have := cnt_th t
    have := cnts_ths ts
    simp only [Tm.ths, Th.cnts, Tm.csts, Tm.lvs]
    omega
end
end Fm
namespace Fm
open PySem PySem.Spec PyProof.Rows L2
namespace Tm
mutual
theorem put_put (f g : Int → Tm) : ∀ t : Tm, put g (put f t) = put (fun i => put g (f i)) t
  | .var _ => by simp [put]
  | .op _ ts => by simp [put, puts_puts f g ts]
theorem puts_puts (f g : Int → Tm) : ∀ ts : List Tm, puts g (puts f ts) = puts (fun i => put g (f i)) ts
  | [] => by simp [puts]
  | t :: ts => by simp [puts, put_put f g t, puts_puts f g ts]
end
mutual
theorem put_id : ∀ t : Tm, put .var t = t
  | .var _ => by simp [put]
  | .op _ ts => by simp [put, puts_id ts]
theorem puts_id : ∀ ts : List Tm, puts .var ts = ts
  | [] => by simp [puts]
  | t :: ts => by simp [puts, put_id t, puts_id ts]
end
mutual
theorem size_put (f : Int → Tm) : ∀ t : Tm, size (put f t) = size t + ((leaves t).map fun i => size (f i)).sum
  | .var _ => by simp [put, size, leaves]
  | .op _ ts => by
    simp only [put, size, leaves, sizes_puts f ts]
    omega
theorem sizes_puts (f : Int → Tm) : ∀ ts : List Tm, sizes (puts f ts) = sizes ts + ((leavesL ts).map fun i => size (f i)).sum
  | [] => by simp [puts, sizes, leavesL]
  | t :: ts => by
    simp only [puts, sizes, leavesL, size_put f t, sizes_puts f ts, List.map_append, List.sum_append]
    omega
end
mutual
theorem lv_le {P : Int → Prop} : ∀ t : Tm, ok P t → lv t ≤ 2 * size t + 1
  | .var _, _ => by simp [lv, size]
  | .op _ ts, h => by
    have := lvs_le ts h.2.2
    have := h.2.1
    simp only [lv, size]
    omega
theorem lvs_le {P : Int → Prop} : ∀ ts : List Tm, oks P ts → lvs ts ≤ 2 * sizes ts + ts.length
  | [], _ => by simp [lvs]
  | t :: ts, h => by
    have := lv_le t h.1
    have := lvs_le ts h.2
    simp only [lvs, sizes, List.length_cons]
    omega
end
theorem size_le {t : Tm} : ∀ {ts : List Tm}, t ∈ ts → size t ≤ sizes ts
  | u :: ts, h => by
    rcases List.mem_cons.mp h with rfl | h
    · simp only [sizes]; omega
    · have := size_le h
      simp only [sizes]; omega
theorem sizes_small {P : Int → Prop} : ∀ (n : Nat) (t : Tm), ok P t → dep t ≤ n → 2 * size t + 1 ≤ 3 ^ n := by
  intro n
  induction n with
  | zero =>
    intro t h hd
    cases t with
    | var i => simp [size]
    | op x ts => simp [dep] at hd
  | succ n ih =>
    intro t h hd
    have hp : 1 ≤ 3 ^ n := Nat.one_le_pow _ _ (by decide)
    cases t with
    | var i =>
      simp only [size, Nat.pow_succ]
      omega
    | op x ts =>
      have hs : ∀ us : List Tm, oks P us → deps us ≤ n → 2 * sizes us + us.length ≤ us.length * 3 ^ n := by
        intro us
        induction us with
        | nil => intro _ _; simp [sizes]
        | cons u us ih2 =>
          intro ho hdd
          have h1 := ih u ho.1 (by simp only [deps] at hdd; omega)
          have h2 := ih2 ho.2 (by simp only [deps] at hdd; omega)
          simp only [sizes, List.length_cons, Nat.add_mul, Nat.one_mul]
          omega
      have h1 := hs ts h.2.2 (by simp only [dep] at hd; omega)
      have h3 := h.2.1
      simp only [size, Nat.pow_succ]
      generalize 3 ^ n = m at *
      have : ts.length = 0 ∨ ts.length = 1 ∨ ts.length = 2 ∨ ts.length = 3 := by omega
      rcases this with e | e | e | e <;> rw [e] at h1 <;> omega
end Tm
def vat (vs : List Tm) (i : Int) : Tm := (vs[i.toNat]?).getD (.var i)
def chAt (chs : List (Int × Tm)) (i : Nat) : Tm := ((chs.find? fun c => c.1 == (i : Int)).map (·.2)).getD (.var i)
def chT (n : Nat) (chs : List (Int × Tm)) : List Tm := (List.range n).map (chAt chs)
def chg (vs : List Tm) (chs : List (Int × Tm)) : List Tm := (chT vs.length chs).map (Tm.put (vat vs))
structure ChDp (many : Int) (dc : Nat) (chs : List (Int × Tm)) : Prop where
  ok : ∀ c ∈ chs, c.2.ok fun i => 0 ≤ i ∧ i < many
  dp : ∀ c ∈ chs, c.2.dep ≤ dc
end Fm
namespace Fm
open PySem PySem.Spec PyProof.Rows L2 SlX
section
variable {X : Cx} {K : PySem.W.Frag} {o e : Expr} {es : List Expr} {to : TE} {t : TA} {apos cpos : Pos} {T id : String} {name f : Str} {r : V → List V → Hp → VK → Prop}
theorem pe_slC (hK : X.K = K) (he : PE X e to) (hb : attributeBase e f X.env (eval e X.env) = eval e X.env := by rfl) : PE X (.Attribute e f apos) (SlX.tSl K to f) := by
  subst hK
  exact pe_sl he hb
end
structure TotO {κ : Type} (le : κ → κ → Bool) : Prop where
  tr : ∀ a b c, le a b = true → le b c = true → le a c = true
  to : ∀ a b, (le a b || le b a) = true
  an : ∀ a b, le a b = true → le b a = true → a = b
def leS (x y : Str) : Bool := !decide (y.cps.toList < x.cps.toList)
def leZ (i j : Int) : Bool := decide (i ≤ j)
section
variable {α κ : Type} {le : κ → κ → Bool} {k : α → κ}
def srt (le : κ → κ → Bool) (k : α → κ) (xs : List α) : List α := xs.mergeSort fun a b => le (k a) (k b)
end
section
variable {κ : Type} [DecidableEq κ]
theorem valV_mem {kvs : List (κ × V)} {k : κ} {v : V} (n : (kvs.map (·.1)).Nodup) (h : (k, v) ∈ kvs) : valV kvs k = some v := by
  induction kvs with
  | nil => exact absurd h List.not_mem_nil
  | cons p r ih =>
    rw [List.map_cons, List.nodup_cons] at n
    rcases List.mem_cons.mp h with rfl | h
    · exact valV_pos rfl
    · rw [valV_neg (fun e => n.1 (by rw [e]; exact List.mem_map.mpr ⟨_, h, rfl⟩))]
      exact ih n.2 h
theorem valV_none {kvs : List (κ × V)} {k : κ} (h : k ∉ kvs.map (·.1)) : valV kvs k = none := by
  induction kvs with
  | nil => rfl
  | cons p r ih =>
    rw [List.map_cons, List.mem_cons, not_or] at h
    rw [valV_neg (fun e => h.1 e.symm)]
    exact ih h.2
theorem putK_new {kvs : List (κ × V)} {k : κ} {v : V} (h : k ∉ kvs.map (·.1)) : putK kvs k v = kvs ++ [(k, v)] := by
  unfold putK
  rw [valV_any, valV_none h]
  rfl
end
section
variable {K : PySem.W.Frag} {H : Hp}
end
section
variable {X : Cx}
def rNeE : R2 := fun x y H Q => ∃ (a b : Addr) (kvs : List (L2.Key × V)), x = .ref a ∧ y = .ref b ∧ H a = some (.dK kvs) ∧ H b = some (.dK []) ∧ Q (.bl (!kvs.isEmpty)) H
def rEqE : R2 := fun x y H Q => ∃ (a b : Addr) (kvs : List (L2.Key × V)), x = .ref a ∧ y = .ref b ∧ H a = some (.dK kvs) ∧ H b = some (.dK []) ∧ Q (.bl kvs.isEmpty) H
end
section
variable {b p : Addr} {H H' : Hp} {o : HO}
theorem Dr.getK (d : Dr b H H') (hB : Bag H b) (h : H p = some o) (ho : ∀ xs, o ≠ .lst xs) : H' p = some o := by
  refine d.get ?_ h
  rintro rfl
  obtain ⟨xs, e⟩ := hB.lst
  rw [e] at h
  exact ho xs (Option.some.inj h).symm
theorem Mv.put {d : Addr} {u o : HO} (h : H d = some u) (hu : ∀ xs, u ≠ .tup xs) (hv : ∀ o xs, u ≠ .frz o (.tup xs)) : Mv [d] H (upd H d o) := by
  refine ⟨fun a xs r => ?_, fun a o n e => ?_⟩
  · have hd : a ≠ d := by
      rintro rfl
      rcases r with r | ⟨o, r⟩
      · rw [h] at r
        exact hu xs (Option.some.inj r)
      · rw [h] at r
        exact hv o xs (Option.some.inj r)
    exact r.imp (fun r => by rw [upd_ne hd]; exact r) fun ⟨o, r⟩ => ⟨o, by rw [upd_ne hd]; exact r⟩
  · rw [upd_ne (fun z => n (by rw [z]; exact List.mem_singleton.mpr rfl))]
    exact e
theorem slO_nolst {a C dx : Addr} {vs : List (Option V)} (xs : List V) : SlO a C dx vs ≠ .lst xs := fun z => by
  unfold SlO at z
  cases z
theorem Slt.mv {a C dx : Addr} {vs : List (Option V)} (h : Slt H a C dx vs) (m : Mv [] H H') : Slt H' a C dx vs := h.imp (fun h => ⟨m.same _ _ h.1, h.2⟩) fun h => ⟨m.same _ _ h.1, m.same _ _ h.2⟩
theorem Slt.dr {a C dx : Addr} {vs : List (Option V)} (h : Slt H a C dx vs) (d : Dr b H H') (hB : Bag H b) : Slt H' a C dx vs :=
  h.imp (fun h => ⟨d.getK hB h.1 (fun _ z => by cases z), h.2⟩) fun h => ⟨d.getK hB h.1 slO_nolst, d.getK hB h.2 (fun _ z => by cases z)⟩
end
structure ActR where
  nm : Str
  ar : Int
  outs : List (Str × Int)
structure ActA where
  r : ActR
  a : Addr
  o : Addr
def ActA.kv (z : ActA) : L2.Key × V := (.inr z.r.nm, .ref z.a)
structure ActsAt (K : PySem.W.Frag) (H : Hp) (d : Addr) (zs : List ActA) : Prop where
  at_ : H d = some (.dK (zs.map ActA.kv))
  nd : (zs.map (·.r.nm)).Nodup
  tup : ∀ z ∈ zs, SqT K H z.a [.int z.r.ar, .ref z.o]
  out : ∀ z ∈ zs, H z.o = some (.dK (z.r.outs.map rowK))
  ond : ∀ z ∈ zs, (z.r.outs.map (·.1)).Nodup
section
variable {K : PySem.W.Frag} {H H' : Hp} {b d : Addr} {zs : List ActA}
theorem ActsAt.mv (h : ActsAt K H d zs) (m : Mv [] H H') : ActsAt K H' d zs := ⟨m.same _ _ h.at_, h.nd, fun z hz => m.sqT (h.tup z hz), fun z hz => m.same _ _ (h.out z hz), h.ond⟩
theorem ActsAt.dr (h : ActsAt K H d zs) (m : Dr b H H') (hB : Bag H b) : ActsAt K H' d zs :=
  ⟨m.getK hB h.at_ (fun _ z => by cases z), h.nd, fun z hz => m.mv.sqT (h.tup z hz), fun z hz => m.getK hB (h.out z hz) (fun _ z => by cases z), h.ond⟩
theorem kv_keys (zs : List ActA) : (zs.map ActA.kv).map (·.1) = (zs.map (·.r.nm)).map Sum.inr := by
  rw [List.map_map, List.map_map]
  rfl
theorem nd_inr {xs : List Str} (n : xs.Nodup) : (xs.map (Sum.inr : Str → L2.Key)).Nodup := by
  refine List.Pairwise.map _ (fun a b h => ?_) n
  exact fun e => h (Sum.inr.inj e)
theorem ActsAt.nk (h : ActsAt K H d zs) : ((zs.map ActA.kv).map (·.1)).Nodup := by
  rw [kv_keys]
  exact nd_inr h.nd
theorem ActsAt.val (h : ActsAt K H d zs) {z : ActA} (hz : z ∈ zs) : valV (zs.map ActA.kv) (.inr z.r.nm) = some (.ref z.a) := valV_mem h.nk (List.mem_map.mpr ⟨z, hz, rfl⟩)
end
def ActR.norm (r : ActR) : ActR := { r with outs := srt leS (·.1) r.outs }
def normW (rs : List ActR) : List ActR := srt leS (·.nm) (rs.map ActR.norm)
def WldAt (K : PySem.W.Frag) (H : Hp) (C x : Addr) (rs : List ActR) : Prop := ∃ dx d zs, Slt H x C dx [some (.ref d)] ∧ ActsAt K H d zs ∧ zs.map (·.r) = rs
section
variable {K : PySem.W.Frag} {H H' : Hp} {b C x : Addr} {rs : List ActR}
theorem WldAt.mv (h : WldAt K H C x rs) (m : Mv [] H H') : WldAt K H' C x rs := by
  obtain ⟨dx, d, zs, h1, h2, h3⟩ := h
  exact ⟨dx, d, zs, Slt.mv h1 m, h2.mv m, h3⟩
theorem WldAt.dr (h : WldAt K H C x rs) (m : Dr b H H') (hB : Bag H b) : WldAt K H' C x rs := by
  obtain ⟨dx, d, zs, h1, h2, h3⟩ := h
  exact ⟨dx, d, zs, Slt.dr h1 m hB, h2.dr m hB, h3⟩
end
end Fm
namespace Fm
open PySem PySem.Spec PyProof.Rows L2 SlX
local macro_rules | `(tactic| walk_at "nn") => `(tactic| dsimp only [tC, tNil, tCons, tCB, tCall, gName, tSeq, tAsg, tPar, tDrop, tRet])
local macro_rules | `(tactic| walk_at "nc") => `(tactic| dsimp only [tC, tNil, tCons, tCB, tCall])
def On (x : Str) : Prop := isOutc (.str x) = true ∧ x.length ≤ 9
structure ActR.ok (r : ActR) : Prop where
  nm : Nm r.nm
  ar0 : 0 ≤ r.ar
  ar2 : r.ar ≤ 2
  o1 : 1 ≤ r.outs.length
  o6 : r.outs.length ≤ 6
  on : ∀ e ∈ r.outs, On e.1 ∧ 0 ≤ e.2 ∧ e.2 ≤ 2
def within (m : Int) : Th → Bool
  | .int i => decide (0 ≤ i) && decide (i ≤ m)
  | _ => false
def sp_within (K : PySem.W.Frag) : Sp := fun vs H Q _ => ∃ (v : V) (t : Th) (b : Addr) (m : Int), vs = [v, .int m] ∧ Is K b H v t ∧ ∀ H', Mv [] H H' → Q (.bl (within m t)) H'
def sp_outs : Sp := fun vs H Q _ => ∃ (o : Addr) (rows : List (Str × Int)), vs = [.ref o] ∧ H o = some (.dK (rows.map rowK)) ∧ (rows.map (·.1)).Nodup ∧ 1 ≤ rows.length ∧ rows.length ≤ 6 ∧ (∀ e ∈ rows, On e.1 ∧ 0 ≤ e.2 ∧ e.2 ≤ 2) ∧ ∀ H', Mv [] H H' → Q (.bl true) H'
def sp_act (K : PySem.W.Frag) : Sp := fun vs H Q _ => ∃ (r : ActR) (a o : Addr), vs = [.ref a] ∧ SqT K H a [.int r.ar, .ref o] ∧ H o = some (.dK (r.outs.map rowK)) ∧ (r.outs.map (·.1)).Nodup ∧ r.ok ∧ ∀ H', Mv [] H H' → Q (.bl true) H'
theorem tyx_sqT {K : PySem.W.Frag} {H : Hp} {a : Addr} {xs : List V} (h : SqT K H a xs) : TyX K H (.ref a) (.type "tuple") := by
  rcases h with (hs | ⟨o, hs⟩) | ⟨o, its, n, hk, hc, _⟩
  · exact .base (.tup hs)
  · exact .fTuple hs
  · exact .kTuple hk hc
section
variable {P : Program} {w : World} {K : PySem.W.Frag} {mg : Str → Option Value} {base : Heap}
end
end Fm
namespace Fm
open PySem PySem.Spec PyProof.Rows L2 SlX
local macro_rules | `(tactic| walk_at "nn") => `(tactic| dsimp only [tC, tNil, tCons, tCB, tCall, gName, tSeq, tAsg, tPar, tDrop, tRet])
local macro_rules | `(tactic| walk_at "nc") => `(tactic| dsimp only [tC, tNil, tCons, tCB, tCall])
def WldF (K : PySem.W.Frag) (H0 H : Hp) (C x : Addr) (rs : List ActR) : Prop := ∃ dx d zs, Slt H x C dx [some (.ref d)] ∧ ActsAt K H d zs ∧ zs.map (·.r) = rs ∧ H0 d = none ∧ ∀ z ∈ zs, H0 z.o = none
theorem WldF.at_ {K : PySem.W.Frag} {H0 H : Hp} {C x : Addr} {rs : List ActR} (h : WldF K H0 H C x rs) : WldAt K H C x rs := by
  obtain ⟨dx, d, zs, h1, h2, h3, _⟩ := h
  exact ⟨dx, d, zs, h1, h2, h3⟩
def sp_World (K : PySem.W.Frag) (C : Addr) : Sp := fun vs H Q _ => ∃ (x dx d : Addr) (zs : List ActA) (H0 : Hp), vs = [.ref x, .ref d] ∧ H = upd (upd H0 dx (.own x)) x (.ins C dx []) ∧ H0 x = none ∧ H0 dx = none ∧ dx ≠ x ∧ ActsAt K H0 d zs ∧ (∀ z ∈ zs, z.r.ok) ∧ zs.length < 60 ∧
  ∀ H', Mv [] H0 H' → WldF K H0 H' C x (normW (zs.map (·.r))) → Q .non H'
section
variable {P : Program} {w : World} {K : PySem.W.Frag} {mg : Str → Option Value} {base : Heap}
end
end Fm
namespace Fm
open PySem PySem.Spec PyProof.Rows L2 SlX
local macro_rules | `(tactic| walk_at "nn") => `(tactic| dsimp only [tC, tNil, tCons, tCB, tCall, gName, tSeq, tAsg, tPar, tDrop, tRet])
local macro_rules | `(tactic| walk_at "nc") => `(tactic| dsimp only [tC, tNil, tCons, tCB, tCall])
def sp_Wacts (K : PySem.W.Frag) (C : Addr) : Sp := fun vs H Q _ => ∃ (x : Addr) (rs : List ActR), vs = [.ref x] ∧ WldAt K H C x rs ∧ ∀ p, H p = none → Q (.ref p) (upd H p (.lst ((rs.map (·.nm)).map V.str)))
def sp_Wargs (K : PySem.W.Frag) (C : Addr) : Sp := fun vs H Q _ => ∃ (x : Addr) (rs : List ActR) (r : ActR), vs = [.ref x, .str r.nm] ∧ WldAt K H C x rs ∧ r ∈ rs ∧ Q (.int r.ar) H
def sp_Wouts (K : PySem.W.Frag) (C : Addr) : Sp := fun vs H Q _ => ∃ (x : Addr) (rs : List ActR) (r : ActR), vs = [.ref x, .str r.nm] ∧ WldAt K H C x rs ∧ r ∈ rs ∧ ∀ p, H p = none → Q (.ref p) (upd H p (.lst ((r.outs.map (·.1)).map V.str)))
def sp_Wbrings (K : PySem.W.Frag) (C : Addr) : Sp := fun vs H Q _ => ∃ (x : Addr) (rs : List ActR) (r : ActR) (y : Str) (i : Int), vs = [.ref x, .str r.nm, .str y] ∧ WldAt K H C x rs ∧ r ∈ rs ∧ (y, i) ∈ r.outs ∧ Q (.int i) H
section
variable {P : Program} {w : World} {K : PySem.W.Frag} {mg : Str → Option Value} {base : Heap}
end
end Fm
namespace Fm
open PySem PySem.Spec PyProof.Rows L2 SlX
local macro_rules | `(tactic| walk_at "nn") => `(tactic| dsimp only [tC, tNil, tCons, tCB, tCall, gName, tSeq, tAsg, tPar, tDrop, tRet])
local macro_rules | `(tactic| walk_at "nc") => `(tactic| dsimp only [tC, tNil, tCons, tCB, tCall])
inductive Sta where
  | set (chs : List (Int × Tm)) (goal : Int)
  | ask (act : Str) (ts : List Tm) (ways : List (Str × List Int × Int))
  | fin (word : Str) (ts : List Tm)
def chD (c : Int × Tm) : PyData := .tuple [.int c.1, c.2.d]
def wayD (w : Str × List Int × Int) : PyData := .tuple [.str w.1, .tuple (w.2.1.map .int), .int w.2.2]
def Sta.d : Sta → PyData
  | .set chs goal => .tuple [.str "set", .tuple (chs.map chD), .int goal]
  | .ask act ts ways => .tuple [.str "ask", .str act, .tuple (Tm.ds ts), .tuple (ways.map wayD)]
  | .fin word ts => .tuple [.str "end", .str word, .tuple (Tm.ds ts)]
def TmOver (many : Int) (t : Tm) : Prop := t.ok (fun i => 0 ≤ i ∧ i < many) ∧ t.th.cnt ≤ 5000 ∧ t.dep ≤ 50
def ChOk (many : Int) (chs : List (Int × Tm)) : Prop := (chs.map (·.1)).Nodup ∧ chs.length ≤ 24 ∧ ∀ c ∈ chs, 0 ≤ c.1 ∧ c.1 < many ∧ TmOver many c.2
def WayOk (r : ActR) (many places : Int) (w : Str × List Int × Int) : Prop := ∃ i, (w.1, i) ∈ r.outs ∧ (w.2.1.length : Int) = i ∧ w.2.1.Nodup ∧ (∀ j ∈ w.2.1, 0 ≤ j ∧ j < many) ∧ 0 ≤ w.2.2 ∧ w.2.2 < places
structure AskOk (r : ActR) (many places : Int) (ts : List Tm) (ways : List (Str × List Int × Int)) : Prop where
  len : (ts.length : Int) = r.ar
  ts : ∀ t ∈ ts, TmOver many t
  pm : (ways.map (·.1)).Perm (r.outs.map (·.1))
  ways : ∀ w ∈ ways, WayOk r many places w
def Sta.ok (rs : List ActR) (many places : Int) : Sta → Prop
  | .set chs goal => ChOk many chs ∧ 0 ≤ goal ∧ goal < places
  | .ask act ts ways => ∃ r ∈ rs, r.nm = act ∧ AskOk r many places ts ways
  | .fin word ts => Nm word ∧ ts.length ≤ 2 ∧ ∀ t ∈ ts, TmOver many t
structure WOk (rs : List ActR) : Prop where
  ok : ∀ r ∈ rs, r.ok
  nd : (rs.map (·.nm)).Nodup
  few : rs.length < 60
  ond : ∀ r ∈ rs, (r.outs.map (·.1)).Nodup
  pw : ∀ r ∈ rs, (r.outs.map (·.1)).Pairwise fun a b => leS a b = true
def inPl (places : Int) : Th → Bool
  | .int i => decide (0 ≤ i) && decide (i < places)
  | _ => false
def sp_diff (K : PySem.W.Frag) : Sp := fun vs H Q _ => ∃ (many : Int) (a : Addr) (ns : List Int), vs = [.int many, .ref a] ∧ SqT K H a (ns.map V.int) ∧ ns.Nodup ∧ ns.length ≤ 1000 ∧ (∀ i ∈ ns, 0 ≤ i ∧ i < many) ∧ ∀ H', Mv [] H H' → Q (.bl true) H'
def sp_termsOver (K : PySem.W.Frag) : Sp := fun vs H Q _ => ∃ (many : Int) (v : V) (ts : List Tm), vs = [.int many, v] ∧ Im K H v (.tuple (Tm.ds ts)) ∧ ts.length ≤ 1000 ∧ (∀ t ∈ ts, TmOver many t) ∧ ∀ H', Mv [] H H' → Q (.bl true) H'
def sp_place (K : PySem.W.Frag) : Sp := fun vs H Q _ => ∃ (places : Int) (v : V) (t : Th) (b : Addr), vs = [.int places, v] ∧ Is K b H v t ∧ ∀ H', Mv [] H H' → Q (.bl (inPl places t)) H'
def sp_pair (K : PySem.W.Frag) : Sp := fun vs H Q _ => ∃ (v : V) (d e : PyData), vs = [v] ∧ Im K H v (.tuple [d, e]) ∧ Q (.bl true) H
section
variable {P : Program} {w : World} {K : PySem.W.Frag} {mg : Str → Option Value} {base : Heap}
end
end Fm
namespace Fm
open PySem PySem.Spec PyProof.Rows L2 SlX
local macro_rules | `(tactic| walk_at "nn") => `(tactic| dsimp only [tC, tNil, tCons, tCB, tCall, gName, tSeq, tAsg, tPar, tDrop, tRet])
local macro_rules | `(tactic| walk_at "nc") => `(tactic| dsimp only [tC, tNil, tCons, tCB, tCall])
def sp_set (K : PySem.W.Frag) : Sp := fun vs H Q _ => ∃ (many places : Int) (v : V) (chs : List (Int × Tm)) (goal : Int), vs = [.int many, .int places, v] ∧ Im K H v (Sta.set chs goal).d ∧ ChOk many chs ∧ 0 ≤ goal ∧ goal < places ∧ ∀ H', Mv [] H H' → Q (.bl true) H'
def sp_end (K : PySem.W.Frag) : Sp := fun vs H Q _ => ∃ (many : Int) (v : V) (word : Str) (ts : List Tm), vs = [.int many, v] ∧ Im K H v (Sta.fin word ts).d ∧ Nm word ∧ ts.length ≤ 2 ∧ (∀ t ∈ ts, TmOver many t) ∧ ∀ H', Mv [] H H' → Q (.bl true) H'
def sp_way (K : PySem.W.Frag) (C : Addr) : Sp := fun vs H Q _ => ∃ (x : Addr) (many places : Int) (v : V) (rs : List ActR) (r : ActR) (wy : Str × List Int × Int), vs = [.ref x, .int many, .int places, .str r.nm, v] ∧ WldAt K H C x rs ∧ r ∈ rs ∧ Im K H v (wayD wy) ∧ WayOk r many places wy ∧
  (∀ e ∈ r.outs, 0 ≤ e.2 ∧ e.2 ≤ 2) ∧ ∀ H', Mv [] H H' → Q (.bl true) H'
section
variable {P : Program} {w : World} {K : PySem.W.Frag} {mg : Str → Option Value} {base : Heap}
end
end Fm
namespace Fm
open PySem PySem.Spec PyProof.Rows L2 SlX
local macro_rules | `(tactic| walk_at "nn") => `(tactic| dsimp only [tC, tNil, tCons, tCB, tCall, gName, tSeq, tAsg, tPar, tDrop, tRet])
local macro_rules | `(tactic| walk_at "nc") => `(tactic| dsimp only [tC, tNil, tCons, tCB, tCall])
def sp_ask (K : PySem.W.Frag) (C : Addr) : Sp := fun vs H Q _ => ∃ (x : Addr) (many places : Int) (v : V) (rs : List ActR) (r : ActR) (ts : List Tm) (ways : List (Str × List Int × Int)), vs = [.ref x, .int many, .int places, v] ∧ WldAt K H C x rs ∧ WOk rs ∧ r ∈ rs ∧ Im K H v (Sta.ask r.nm ts ways).d ∧ AskOk r many places ts ways ∧
  ∀ H', Mv [] H H' → Q (.bl true) H'
section
variable {P : Program} {w : World} {K : PySem.W.Frag} {mg : Str → Option Value} {base : Heap}
end
end Fm
namespace Fm
open PySem PySem.Spec PyProof.Rows L2 SlX
local macro_rules | `(tactic| walk_at "nn") => `(tactic| dsimp only [tC, tNil, tCons, tCB, tCall, gName, tSeq, tAsg, tPar, tDrop, tRet])
local macro_rules | `(tactic| walk_at "nc") => `(tactic| dsimp only [tC, tNil, tCons, tCB, tCall])
section
variable {P : Program} {w : World} {K : PySem.W.Frag} {mg : Str → Option Value} {base : Heap}
end
end Fm
namespace Fm
open PySem PySem.Spec PyProof.Rows L2 SlX
local macro_rules | `(tactic| walk_at "nn") => `(tactic| dsimp only [tC, tNil, tCons, tCB, tCall, gName, tSeq, tAsg, tPar, tDrop, tRet])
local macro_rules | `(tactic| walk_at "nc") => `(tactic| dsimp only [tC, tNil, tCons, tCB, tCall])
def kI : V → Int
  | .int i => i
  | _ => 0
def kS : V → Str
  | .str x => x
  | _ => ""
def Sta.ord : Sta → Sta
  | .set chs goal => .set (srt leZ (·.1) chs) goal
  | .ask act ts ways => .ask act ts (srt leS (·.1) ways)
  | .fin word ts => .fin word ts
def Sta.keyed : Sta → Prop
  | .set chs _ => (chs.map (·.1)).Nodup ∧ chs.length ≤ 1000
  | .ask _ _ ways => (ways.map (·.1)).Nodup ∧ ways.length ≤ 1000
  | .fin _ _ => True
def sp_stmt (K : PySem.W.Frag) (C : Addr) : Sp := fun vs H Q _ => ∃ (x : Addr) (many places : Int) (v : V) (rs : List ActR) (st : Sta), vs = [.ref x, .int many, .int places, v] ∧ WldAt K H C x rs ∧ WOk rs ∧ Im K H v st.d ∧ st.ok rs many places ∧ many ≤ 1000000 ∧ places ≤ 1000000 ∧
  ∀ H', Mv [] H H' → Q (.bl true) H'
theorem sta_tup : ∀ st : Sta, ∃ y e es, st.d = .tuple (.str y :: e :: es)
  | .set _ _ => ⟨_, _, _, rfl⟩
  | .ask _ _ _ => ⟨_, _, _, rfl⟩
  | .fin _ _ => ⟨_, _, _, rfl⟩
section
variable {P : Program} {w : World} {K : PySem.W.Frag} {mg : Str → Option Value} {base : Heap}
end
end Fm
namespace Fm
open PySem PySem.Spec PyProof.Rows L2 SlX
local macro_rules | `(tactic| walk_at "nn") => `(tactic| dsimp only [tC, tNil, tCons, tCB, tCall, gName, tSeq, tAsg, tPar, tDrop, tRet])
local macro_rules | `(tactic| walk_at "nc") => `(tactic| dsimp only [tC, tNil, tCons, tCB, tCall])
def sp_first_of (K : PySem.W.Frag) : Sp := fun vs H Q _ => ∃ (a : Addr) (x : V) (xs : List V), vs = [.ref a] ∧ SqT K H a (x :: xs) ∧ Q x H
def sp_ordered (K : PySem.W.Frag) : Sp := fun vs H Q _ => ∃ (v : V) (st : Sta), vs = [v] ∧ Im K H v st.d ∧ st.keyed ∧ ∀ v' H', Mv [] H H' → Im K H' v' st.ord.d → Q v' H'
section
variable {P : Program} {w : World} {K : PySem.W.Frag} {mg : Str → Option Value} {base : Heap}
end
end Fm
namespace Fm
open PySem PySem.Spec PyProof.Rows L2 SlX
local macro_rules | `(tactic| walk_at "nn") => `(tactic| dsimp only [tC, tNil, tCons, tCB, tCall, gName, tSeq, tAsg, tPar, tDrop, tRet])
local macro_rules | `(tactic| walk_at "nc") => `(tactic| dsimp only [tC, tNil, tCons, tCB, tCall])
section
variable {H0 H : Hp} {x dx C : Addr} {vs : List (Option V)}
theorem Mv.sl (m : Mv [] H0 H) (nx : H0 x = none) (ndx : H0 dx = none) : Mv [] H0 (slH H x C dx vs) := by
  unfold slH
  exact (m.wr ndx).wr nx
theorem Mv.slP {u u2 : HO} (hne : dx ≠ x) (hx : H x = some u) (h1 : ∀ xs, u ≠ .tup xs) (h2 : ∀ o xs, u ≠ .frz o (.tup xs)) (hd : H dx = some u2) (h3 : ∀ xs, u2 ≠ .tup xs) (h4 : ∀ o xs, u2 ≠ .frz o (.tup xs)) : Mv [x, dx] H (slH H x C dx vs) := by
  have m1 : Mv [x, dx] H (upd H dx (.xd [])) := (Mv.put hd h3 h4).mono (by simp)
  have m2 : Mv [x, dx] (upd H dx (.xd [])) (slH H x C dx vs) := (Mv.put (u := u) (by rw [upd_ne hne.symm]; exact hx) h1 h2).mono (by simp)
  exact m1.trans m2
theorem slH_x : slH H x C dx vs x = some (SlO x C dx vs) := upd_same
theorem slH_dx (hne : dx ≠ x) : slH H x C dx vs dx = some (.xd []) := by
  unfold slH
  rw [upd_ne hne]
  exact upd_same
theorem slO_notup {xs : List V} : SlO x C dx vs ≠ .tup xs := fun z => by
  unfold SlO at z
  cases z
theorem slO_nofrz {o : Obj} {xs : List V} : SlO x C dx vs ≠ .frz o (.tup xs) := fun z => by
  unfold SlO at z
  cases z
theorem Mv.slA (hne : dx ≠ x) (hx : H x = some (.ins C dx [])) (hd : H dx = some (.own x)) {us : List (Option V)} : Mv [x, dx] H (slH H x C dx us) := .slP hne hx (fun _ z => by cases z) (fun _ _ z => by cases z) hd (fun _ z => by cases z) (fun _ _ z => by cases z)
theorem Mv.slB (hne : dx ≠ x) (hx : H x = some (SlO x C dx vs)) (hd : H dx = some (.xd [])) {us : List (Option V)} : Mv [x, dx] H (slH H x C dx us) := .slP hne hx (fun _ => slO_notup) (fun _ _ => slO_nofrz) hd (fun _ z => by cases z) (fun _ _ z => by cases z)
end
def CodAt (K : PySem.W.Frag) (H : Hp) (C CW x wx : Addr) (rs : List ActR) (many given : Int) (sts : List Sta) : Prop := ∃ dx l xs, Slt H x C dx [some (.int given), some (.ref l), some (.int many), some (.ref wx)] ∧ WldAt K H CW wx rs ∧ H l = some (.lst xs) ∧ Ims K H xs (sts.map Sta.d)
def CodL (K : PySem.W.Frag) (H : Hp) (C CW l x wx : Addr) (rs : List ActR) (many given : Int) (sts : List Sta) : Prop := ∃ dx xs, Slt H x C dx [some (.int given), some (.ref l), some (.int many), some (.ref wx)] ∧ WldAt K H CW wx rs ∧ H l = some (.lst xs) ∧ Ims K H xs (sts.map Sta.d)
theorem CodL.at_ {K : PySem.W.Frag} {H : Hp} {C CW l x wx : Addr} {rs : List ActR} {many given : Int} {sts : List Sta} : CodL K H C CW l x wx rs many given sts → CodAt K H C CW x wx rs many given sts := fun ⟨dx, xs, h⟩ => ⟨dx, l, xs, h⟩
theorem Slt.put {H : Hp} {p a C dx : Addr} {o : HO} {zs : List V} {vs : List (Option V)} (h : Slt H a C dx vs) (hp : H p = some (.lst zs)) : Slt (upd H p o) a C dx vs := by
  have ne : ∀ {q u}, H q = some u → (∀ xs, u ≠ .lst xs) → q ≠ p := fun e n z => by
    subst z
    rw [hp] at e
    exact n _ (Option.some.inj e).symm
  rcases h with ⟨h1, h2⟩ | ⟨h1, h2⟩
  · exact .inl ⟨by rw [upd_ne (ne h1 (fun _ z => by cases z))]; exact h1, h2⟩
  · exact .inr ⟨by rw [upd_ne (ne h1 slO_nolst)]; exact h1, by rw [upd_ne (ne h2 (fun _ z => by cases z))]; exact h2⟩
theorem CodL.put {K : PySem.W.Frag} {H : Hp} {C CW l x wx p : Addr} {o : HO} {zs : List V} {rs : List ActR} {many given : Int} {sts : List Sta} (h : CodL K H C CW l x wx rs many given sts) (hp : H p = some (.lst zs)) (hl : l ≠ p) (hW : WldAt K (upd H p o) CW wx rs) : CodL K (upd H p o) C CW l x wx rs many given sts := by
  obtain ⟨dx, xs, h1, _, h3, h4⟩ := h
  exact ⟨dx, xs, Slt.put h1 hp, hW, by rw [upd_ne hl]; exact h3, h4.mv (Mv.set (S := [p]) hp (by simp))⟩
theorem Bag.ne_sta {K : PySem.W.Frag} {H : Hp} {b l : Addr} {xs : List V} {sts : List Sta} (hB : Bag H b) (hl : H l = some (.lst xs)) (hx : Ims K H xs (sts.map Sta.d)) : l ≠ b := by
  rintro rfl
  obtain ⟨c, s, m, k, ns, h1, _⟩ := hB
  rw [h1] at hl
  have := Option.some.inj hl
  injection this with this
  subst this
  cases sts with
  | nil => have := hx.nilD; cases this
  | cons st sts =>
    obtain ⟨v, vs, e, h2, _⟩ := hx.invD
    cases e
    obtain ⟨y, e1, es, hst⟩ := sta_tup st
    rw [hst] at h2
    obtain ⟨a, xs, e, _⟩ := h2.tupI
    cases e
section
variable {K : PySem.W.Frag} {H H' : Hp} {b C CW x wx : Addr} {rs : List ActR} {many given : Int} {sts : List Sta}
theorem CodAt.mv (h : CodAt K H C CW x wx rs many given sts) (m : Mv [] H H') : CodAt K H' C CW x wx rs many given sts := by
  obtain ⟨dx, l, xs, h1, h2, h3, h4⟩ := h
  exact ⟨dx, l, xs, Slt.mv h1 m, h2.mv m, m.same _ _ h3, h4.mv m⟩
theorem CodL.dr {l : Addr} (h : CodL K H C CW l x wx rs many given sts) (m : Dr b H H') (hB : Bag H b) : CodL K H' C CW l x wx rs many given sts := by
  obtain ⟨dx, xs, h1, h2, h3, h4⟩ := h
  exact ⟨dx, xs, Slt.dr h1 m hB, h2.dr m hB, m.get (hB.ne_sta h3 h4) h3, h4.mv m.mv⟩
theorem CodAt.dr (h : CodAt K H C CW x wx rs many given sts) (m : Dr b H H') (hB : Bag H b) : CodAt K H' C CW x wx rs many given sts := by
  obtain ⟨dx, l, xs, h1, h2, h3, h4⟩ := h
  exact ⟨dx, l, xs, Slt.dr h1 m hB, h2.dr m hB, m.get (hB.ne_sta h3 h4) h3, h4.mv m.mv⟩
end
def sp_Code (K : PySem.W.Frag) (C CW : Addr) : Sp := fun vs H Q _ => ∃ (x dx wx sl : Addr) (rs : List ActR) (many given : Int) (xs : List V) (sts : List Sta) (H0 : Hp), vs = [.ref x, .ref wx, .int many, .int given, .ref sl] ∧ H = upd (upd H0 dx (.own x)) x (.ins C dx []) ∧ H0 x = none ∧ H0 dx = none ∧ dx ≠ x ∧
  WldAt K H0 CW wx rs ∧ WOk rs ∧ 0 ≤ many ∧ many ≤ 24 ∧ 0 ≤ given ∧ given ≤ many ∧ (H0 sl = some (.lst xs) ∨ SqT K H0 sl xs) ∧ Ims K H0 xs (sts.map Sta.d) ∧ (∀ st ∈ sts, st.ok rs many sts.length) ∧ 0 < sts.length ∧ sts.length ≤ 1000 ∧
  ∀ l H', Mv [] H0 H' → H0 l = none → CodL K H' C CW l x wx rs many given (sts.map Sta.ord) → Q .non H'
theorem Mv.seq {K : PySem.W.Frag} {H H' : Hp} {a : Addr} {xs : List V} (m : Mv [] H H') (h : SqL K H a xs ∨ SqT K H a xs) : SqL K H' a xs ∨ SqT K H' a xs := h.imp (fun h => m.same.seq h) fun h => m.sqT h
section
variable {P : Program} {w : World} {K : PySem.W.Frag} {mg : Str → Option Value} {base : Heap}
end
end Fm
namespace Fm
open PySem PySem.Spec PyProof.Rows L2 SlX
local macro_rules | `(tactic| walk_at "nn") => `(tactic| dsimp only [tC, tNil, tCons, tCB, tCall, gName, tSeq, tAsg, tPar, tDrop, tRet])
local macro_rules | `(tactic| walk_at "nc") => `(tactic| dsimp only [tC, tNil, tCons, tCB, tCall])
def sp_stAt (K : PySem.W.Frag) (C CW D : Addr) : Sp := fun vs H Q E => ∃ (x wx : Addr) (rs : List ActR) (many given : Int) (sts : List Sta) (i : Int), vs = [.ref x, .int i] ∧ CodAt K H C CW x wx rs many given sts ∧
  (0 ≤ i → i < sts.length → ∀ v st H', sts[i.toNat]? = some st → Mv [] H H' → Im K H' v st.d → Q v H') ∧
  (¬ (0 ≤ i ∧ i < sts.length) → ∀ d H', Mv [] H H' → H' d = none → E (.ref D) (some d) (upd H' d (.xd [("place", .int i)])))
def isSet (sts : List Sta) (p : Int) : Bool := match sts[p.toNat]? with
  | some (.set _ _) => true
  | _ => false
def stp (sts : List Sta) (p : Int) : Int := match sts[p.toNat]? with
  | some (.set _ g) => g
  | _ => p
def orb (sts : List Sta) (p : Int) : Nat → Int
  | 0 => p
  | n + 1 => stp sts (orb sts p n)
def Shows (sts : List Sta) (p : Int) : Option Int → Prop
  | some q => ∃ n, orb sts p n = q ∧ isSet sts q = false
  | none => ∀ n, isSet sts (orb sts p n) = true
def optV : Option Int → V
  | some i => .int i
  | none => .non
def sp_showing (K : PySem.W.Frag) (C CW D : Addr) : Sp := fun vs H Q E => ∃ (x wx : Addr) (rs : List ActR) (many given : Int) (sts : List Sta) (i : Int), vs = [.ref x, .int i] ∧ CodAt K H C CW x wx rs many given sts ∧ sts.length ≤ 1000 ∧ (∀ chs g, Sta.set chs g ∈ sts → 0 ≤ g ∧ g < sts.length) ∧
  (0 ≤ i → i < sts.length → ∀ r H', Shows sts i r → Mv [] H H' → Q (optV r) H') ∧
  (¬ (0 ≤ i ∧ i < sts.length) → ∀ d H', Mv [] H H' → H' d = none → E (.ref D) (some d) (upd H' d (.xd [("place", .int i)])))
section
variable {P : Program} {w : World} {K : PySem.W.Frag} {mg : Str → Option Value} {base : Heap}
end
end Fm
namespace Fm
open PySem PySem.Spec PyProof.Rows L2 SlX
local macro_rules | `(tactic| walk_at "nn") => `(tactic| dsimp only [tC, tNil, tCons, tCB, tCall, gName, tSeq, tAsg, tPar, tDrop, tRet])
local macro_rules | `(tactic| walk_at "nc") => `(tactic| dsimp only [tC, tNil, tCons, tCB, tCall])
def fit (i : Int) : Prop := i.natAbs < 10 ^ 40
structure VsOk (us : List Tm) : Prop where
  ok : Tm.oks fit us
  dp : Tm.deps us ≤ 50
  nd : Tm.nod us ≤ 10000
structure TsOk (many : Int) (ts : List Tm) : Prop where
  ok : Tm.oks (fun i => 0 ≤ i ∧ i < many) ts
  dp : Tm.deps ts ≤ 50
  nd : Tm.nod ts ≤ 10000
theorem Tm.nod_mem {t : Tm} {ts : List Tm} (h : t ∈ ts) : Tm.nod [t] ≤ Tm.nod ts := by
  have h1 := Tm.size_le h
  have h2 := Tm.lv_mem h
  simp only [Tm.nod, Tm.sizes, Tm.lvs]
  omega
theorem VsOk.one {us : List Tm} (h : VsOk us) {t : Tm} (ht : t ∈ us) : Tm.oks fit [t] ∧ Tm.deps [t] ≤ 50 ∧ Tm.nod [t] ≤ 10000 := by
  refine ⟨⟨Tm.oks_iff.mp h.ok t ht, trivial⟩, ?_, Nat.le_trans (Tm.nod_mem ht) h.nd⟩
  have := Tm.deps_le.mp h.dp t ht
  simp only [Tm.deps]
  omega
def sp_putAll (K : PySem.W.Frag) (d : Nat) : Sp := fun vs H Q _ => ∃ (a c : Addr) (xs ys : List V) (ts us : List Tm), vs = [.ref a, .ref c] ∧ (SqL K H a xs ∨ SqT K H a xs) ∧ Ims K H xs (Tm.ds ts) ∧ (SqL K H c ys ∨ SqT K H c ys) ∧ Ims K H ys (Tm.ds us) ∧
  Tm.oks (fun i => 0 ≤ i ∧ i < us.length) ts ∧ Tm.deps ts < d ∧ ts.length ≤ 1000 ∧ ∀ p zs H', Mv [] H H' → SqT K H' p zs → Ims K H' zs (Tm.ds (ts.map (Tm.put (vat us)))) → Q (.ref p) H'
def sp_sizePut (K : PySem.W.Frag) : Sp := fun vs H Q _ => ∃ (a c : Addr) (xs ys : List V) (ts us : List Tm), vs = [.ref a, .ref c] ∧ (SqL K H a xs ∨ SqT K H a xs) ∧ Ims K H xs (Tm.ds ts) ∧ (SqL K H c ys ∨ SqT K H c ys) ∧ Ims K H ys (Tm.ds us) ∧
  TsOk us.length ts ∧ VsOk us ∧ us.length ≤ 1000 ∧ ∀ H', Mv [] H H' → Q (.int (Tm.sizes (ts.map (Tm.put (vat us))))) H'
section
variable {P : Program} {w : World} {K : PySem.W.Frag} {mg : Str → Option Value} {base : Heap}
end
end Fm
namespace Fm
open PySem PySem.Spec PyProof.Rows L2
theorem paired_snoc {α β : Type} {F : α → β → Prop} : ∀ {l₁ : List α} {l₂ : List β} {a : α} {b : β}, Paired F l₁ l₂ → F a b → Paired F (l₁ ++ [a]) (l₂ ++ [b])
  | _, _, _, _, .nil, h => .cons h .nil
  | _, _, _, _, .cons x t, h => .cons x (paired_snoc t h)
theorem paired_len {α β : Type} {F : α → β → Prop} : ∀ {l₁ : List α} {l₂ : List β}, Paired F l₁ l₂ → l₁.length = l₂.length
  | _, _, .nil => rfl
  | _, _, .cons _ t => by simp [paired_len t]
theorem paired_bl {f : Th → Bool} : ∀ {ys : List V} {ts : List Th}, Paired (fun y t => y = V.bl (f t)) ys ts → ys = (ts.map f).map V.bl
  | _, _, .nil => rfl
  | _, _, .cons h t => by rw [h, paired_bl t]; rfl
theorem lc_th {K : PySem.W.Frag} {a b : Addr} {xs : List V} {ts : List Th} {g : TG} {tt : TT} {te : TE} {vs : List Nat} {σ : L2.St} {H : Hp} {Qd : Addr → Hp → Prop} (c : Th → Bool) (Rel : V → Th → Prop) (hS : SqL K H a xs ∨ SqT K H a xs) (hI : IsAll K b H xs ts) (hlen : ts.length ≤ 90000)
    (hs : ∀ x t H' (Q : VK) (R : Hp → Prop), t ∈ ts → Is K b H x t → Mv [] H H' → (c t = true → ∀ y H4, Rel y t → Mv [] H' H4 → Q y H4) → (c t = false → ∀ H4, Mv [] H' H4 → R H4) →
      g x (wipe σ vs) H' fun σ2 H2 => wipe σ2 vs = wipe σ vs ∧ tt σ2 H2 fun k H3 => if k = true then te σ2 H3 Q else R H3)
    (hd : ∀ D ys H', H D = none → H' D = some (.lst ys) → Paired Rel ys (ts.filter c) → Mv [] H H' → Qd D H') :
    ((∃ xs, SqL K H a xs) ∧ ∀ D, H D = none → ∃ W : Nat → Nat → Hp → Prop, (∃ m, W 0 m (upd H D (.lst []))) ∧ ∀ i m H, W i m H →
      ((Itl K a).stop i H ∧ Qd D H) ∨ ((Itl K a).go i H ∧ ∃ Nx : Hp → Prop, (∀ H', Nx H' → ∃ m', m' < m ∧ W (i + 1) m' H') ∧ ∀ x H', (Itl K a).yld i H x H' → g x (wipe σ vs) H' fun σ2 H2 => wipe σ2 vs = wipe σ vs ∧ tt σ2 H2 fun k H3 =>
        if k = true then te σ2 H3 fun y H4 => ∃ acc, H4 D = some (.lst acc) ∧ acc.length < sizeLine ∧ Nx (upd H4 D (.lst (acc ++ [y]))) else Nx H3)) ∨
    ((∃ xs, SqT K H a xs) ∧ ∀ D, H D = none → ∃ W : Nat → Nat → Hp → Prop, (∃ m, W 0 m (upd H D (.lst []))) ∧ ∀ i m H, W i m H →
      ((Itt K a).stop i H ∧ Qd D H) ∨ ((Itt K a).go i H ∧ ∃ Nx : Hp → Prop, (∀ H', Nx H' → ∃ m', m' < m ∧ W (i + 1) m' H') ∧ ∀ x H', (Itt K a).yld i H x H' → g x (wipe σ vs) H' fun σ2 H2 => wipe σ2 vs = wipe σ vs ∧ tt σ2 H2 fun k H3 =>
        if k = true then te σ2 H3 fun y H4 => ∃ acc, H4 D = some (.lst acc) ∧ acc.length < sizeLine ∧ Nx (upd H4 D (.lst (acc ++ [y]))) else Nx H3)) := by
  have hxl := hI.length
  refine lc_seq hS (fun i D H1 => ∃ ys, H1 D = some (.lst ys) ∧ Paired Rel ys ((ts.take i).filter c) ∧ Mv [] H H1)
    (fun D nD => ⟨[], upd_same, .nil, .new nD⟩) (fun i D H1 nD h1 => h1.choose_spec.2.2) (fun D nD i x H1 hx h1 => ?_) (fun D H1 nD h1 => ?_)
  · obtain ⟨ys, e1, i1, m1⟩ := h1
    obtain ⟨t, ht, him⟩ := hI.get hx
    have hil := (List.getElem?_eq_some_iff.mp ht).1
    have htk : ts.take (i + 1) = ts.take i ++ [t] := by rw [List.take_add_one, ht]; rfl
    refine hs x t H1 _ _ (List.mem_of_getElem? ht) him m1 (fun hc y H4 hy m4 => ?_) (fun hc H3 m3 => ?_)
    · have e4 := m4.same _ _ e1
      refine ⟨ys, e4, ?_, ys ++ [y], upd_same, ?_, (m1.trans m4).wr nD⟩
      · rw [paired_len i1]
        have h3 : ((ts.take i).filter c).length ≤ (ts.take i).length := List.length_filter_le _ _
        rw [List.length_take] at h3
        exact Nat.lt_of_le_of_lt (show _ ≤ 90000 by omega) (by decide)
      · rw [htk, List.filter_append]
        simp only [List.filter_cons, hc, if_true, List.filter_nil]
        exact paired_snoc i1 hy
    · refine ⟨ys, m3.same _ _ e1, ?_, m1.trans m3⟩
      rw [htk, List.filter_append]
      simp only [List.filter_cons, hc, Bool.false_eq_true, if_false, List.filter_nil, List.append_nil]
      exact i1
  · obtain ⟨ys, e1, i1, m1⟩ := h1
    rw [hxl, List.take_length] at i1
    exact hd D ys H1 nD e1 i1 m1
end Fm
namespace Fm
open PySem PySem.Spec PyProof.Rows L2 SlX
local macro_rules | `(tactic| walk_at "nn") => `(tactic| dsimp only [tC, tNil, tCons, tCB, tCall, gName, tSeq, tAsg, tPar, tDrop, tRet])
local macro_rules | `(tactic| walk_at "nc") => `(tactic| dsimp only [tC, tNil, tCons, tCB, tCall])
inductive RcV (K : PySem.W.Frag) (b C : Addr) (H : Hp) : V → Option (List V × List Th) → Prop
  | lst {a : Addr} {xs : List V} {ts : List Th} : a ≠ b → H a = some (.lst xs) → IsAll K b H xs ts → RcV K b C H (.ref a) (some (xs, ts))
  | tup {a : Addr} {xs : List V} {ts : List Th} : SqT K H a xs → IsAll K b H xs ts → RcV K b C H (.ref a) (some (xs, ts))
  | odd {v : V} {t : Th} : Is K b H v t → isLstT t = false → isTupT t = false → RcV K b C H v none
  | ins {a dx : Addr} {vs : List (Option V)} : Slt H a C dx vs → RcV K b C H (.ref a) none
def recWrong (tm : Th) (rows : Option (List V × List Th)) : Option Nat :=
  match tm with
  | .int many => if many < 0 then some 0 else match rows with
    | some r => if (r.2.all fun t => isTerm t && under many t) = true then none else some 1
    | none => some 1
  | _ => some 0
def RecAt (K : PySem.W.Frag) (H : Hp) (C x : Addr) (many : Int) (ts : List Tm) : Prop := ∃ dx p xs, Slt H x C dx [some (.ref p), some (.int many)] ∧ SqT K H p xs ∧ Ims K H xs (Tm.ds ts)
section
variable {K : PySem.W.Frag} {H H' : Hp} {b C x : Addr}
theorem RcV.mv0 {v : V} {o : Option (List V × List Th)} (h : RcV K b C H v o) (m : Mv [] H H') : RcV K b C H' v o := by
  cases h with
  | lst h0 h1 h2 => exact .lst h0 (m.same _ _ h1) (h2.mv0 m)
  | tup h1 h2 => exact .tup (m.sqT h1) (h2.mv0 m)
  | odd h h1 h2 => exact .odd (h.mv0 m) h1 h2
  | ins h => exact .ins (Slt.mv h m)
theorem RecAt.mv {many : Int} {ts : List Tm} (h : RecAt K H C x many ts) (m : Mv [] H H') : RecAt K H' C x many ts := by
  obtain ⟨dx, p, xs, h1, h2, h3⟩ := h
  exact ⟨dx, p, xs, Slt.mv h1 m, m.sqT h2, h3.mv m⟩
theorem RecAt.dr {many : Int} {ts : List Tm} (h : RecAt K H C x many ts) (m : Dr b H H') (hB : Bag H b) : RecAt K H' C x many ts := by
  obtain ⟨dx, p, xs, h1, h2, h3⟩ := h
  exact ⟨dx, p, xs, Slt.dr h1 m hB, m.mv.sqT h2, h3.mv m.mv⟩
theorem rd_isTX {v : V} {o : Option (List V × List Th)} {p : Addr} {Q : VK} (h : RcV K b C H v o) (hp : H p = some (.tup [.ty "list", .ty "tuple"])) (hc : SCls K C) (hi : SIsi K C) (hn : PySem.W.kitAny K (.ref C) [.type "list", .type "tuple"] = some false) (q : Q (.bl o.isSome) H) : rIsiTX K [v, .ref p] H Q := by
  have key : (∃ t c, TyX K H v t ∧ PySem.W.kitAny K t [.type "list", .type "tuple"] = some c ∧ c = o.isSome) ∨ ∃ a dx vs, v = .ref a ∧ Slt H a C dx vs ∧ o = none := by
    cases h with
    | lst h0 h1 h2 => exact .inl ⟨_, true, .base (.lst h1), kitAny_cons (b := true) (kit_ty (b := "list") (by decide +kernel)) (fun z => by cases z) (fun _ => rfl), rfl⟩
    | tup h1 h2 => exact .inl ⟨_, true, tyx_sqT h1, kitAny_cons (r := true) (kit_ty (a := "tuple") (b := "list") (r := false) (by decide +kernel)) (fun _ => kitAny_cons (b := true) (kit_ty (by decide +kernel)) (fun z => by cases z) (fun _ => rfl)) (fun z => by cases z), rfl⟩
    | @odd _ t h h1 h2 =>
      refine .inl ⟨_, false, tyx_is h, kitAny_cons (kit_ty (kit_lst t)) (fun _ => kitAny_cons (kit_ty (kit_tup t)) (fun _ => rfl) (fun e => ?_)) (fun e => ?_), rfl⟩
      · rw [h2] at e
        cases e
      · rw [h1] at e
        cases e
    | ins h => exact .inr ⟨_, _, _, rfl, h, rfl⟩
  rcases key with ⟨t, c, ht, hk, rfl⟩ | ⟨a, dx, vs, rfl, hs, rfl⟩
  · exact .inl ⟨_, p, _, t, [.type "list", .type "tuple"], o.isSome, rfl, hp, .cons (.ty "list") (.cons (.ty "tuple") .nil), ht, hk, q⟩
  · exact .inr ⟨a, C, dx, vs, p, _, [.type "list", .type "tuple"], false, rfl, hp, .cons (.ty "list") (.cons (.ty "tuple") .nil), hs, hc, hi, hn, q⟩
end
theorem rd_tupSq {K : PySem.W.Frag} {H : Hp} {a : Addr} {xs : List V} {Q : VK} (h : SqL K H a xs ∨ SqT K H a xs) (q : ∀ p H', Mv [] H H' → SqT K H' p xs → Q (.ref p) H') : rTupOf K [.ref a] H Q :=
  h.elim (fun h => rd_tupOf h q) fun h => ⟨a, xs, rfl, .inr ⟨h, q a H .refl h⟩⟩
def sp_RecT (K : PySem.W.Frag) (C EW : Addr) : Sp := fun vs H Q E => ∃ (x dx : Addr) (mv tv : V) (b : Addr) (tm : Th) (rows : Option (List V × List Th)) (H0 : Hp), vs = [.ref x, mv, tv] ∧ H = upd (upd H0 dx (.own x)) x (.ins C dx []) ∧ H0 x = none ∧ H0 dx = none ∧ dx ≠ x ∧
  Is K b H0 mv tm ∧ RcV K b C H0 tv rows ∧ (∀ r, rows = some r → r.2.length ≤ 90000 ∧ ∀ t ∈ r.2, t.cnt ≤ 90000) ∧
  (∀ k : Nat, recWrong tm rows = some k → ∀ dd H', Mv [] H0 H' → H' dd = none → E (.ref EW) (some dd) (upd H' dd (.xd [("place", .int (k : Nat))]))) ∧
  ∀ many r, tm = .int many → rows = some r → recWrong tm rows = none → ∀ p H', Mv [] H0 H' → Slt H' x C dx [some (.ref p), some (.int many)] → SqT K H' p r.1 → Q .non H'
section
variable {P : Program} {w : World} {K : PySem.W.Frag} {mg : Str → Option Value} {base : Heap}
theorem ok_Recipe___init__ (T : TX K mg) (Y : TY P K mg) {k : Nat} : FnOk P w K mg base (CX P w) (k + 5) T.d_Recipe___init__.f T.d_Recipe___init__.fd P_Recipe___init__ (sp_RecT K T.C_Recipe Y.C_Wrong) := by
  have G_is_integer : FnOk P w K mg base CX0 1 T.d_is_integer.f T.d_is_integer.fd P_is_integer (sp_kind K isWhole) := ok_is_integer T
  have G_is_term_over : FnOk P w K mg base CX0 3 T.d_is_term_over.f T.d_is_term_over.fd P_is_term_over (sp_termOver K) := ok_is_term_over T
  refine T.d_Recipe___init__.F.okX sc_Recipe___init__ (fun vs H Q E h => ?_) (fun cdv A outer s H vs Q E hr h => ?_)
  · obtain ⟨_, _, _, _, _, _, _, _, rfl, _⟩ := h
    rfl
  · obtain ⟨x, dx, mv, tv, b, tm, rows, H0, rfl, eH, nx, ndx, hne, hm0, hT0, hbd, qW, q⟩ := h
    have hu65 := hu65_of hr
    have hu64 := hr.units
    refine ⟨_, (pss_cons (ps_if (PW.pt (pw_or (pt_not (pt_val (pe_call G_is_integer (hr.mono (by omega)) rfl T.d_is_integer.g T.d_is_integer.F.kp T.d_is_integer.b .nil pass0 (pa_cons (pv 1) pa_nil)))) (pw_or1 (pt_cmpR op_lt (pv 1) pe_int (nomark _))))) (pss_one (ps_raise rfl (takes_of rfl rfl rfl rfl) (pmk_x Y.x_Wrong hr (pa_cons pe_int pa_nil)))) pss_nil) (pss_cons (ps_if (PW.pt (pw_or (pt_not (pt_val (pe_callB (r := rIsiTX K) call_isiTX (by rfl) T.b_isinstance bt_isinstance (pa_cons (pv 2) (pa_cons (pe_tup (pa_cons (pe_ty T.b_list bt_list) (pa_cons (pe_ty T.b_tuple bt_tuple) pa_nil))) pa_nil))))) (pw_or1 (pt_not (pt_val (pe_callB (r := rAll K) (cr_all rfl) (by rfl) T.b_all bt_all (pa_cons (pe_lc (own := [("term", 3)]) (g := gName 3) (by rfl) sc_Recipe___init__.nd (pi_seq (pv 2)) (blkOk_by (own := [("term", 3)]) (N := N_Recipe___init__) (sc := defScope s_Recipe___init__) (by decide +kernel)) (fun _ _ _ _ _ => pg_name (i := 3) sc_Recipe___init__.nd rfl (Or.inl rfl)) (fun _ _ _ _ _ => pts_nil) (fun _ _ _ _ _ => (pe_call G_is_term_over (hr.mono (by omega)) rfl T.d_is_term_over.g T.d_is_term_over.F.kp T.d_is_term_over.b .nil pass0 (pa_cons (pv 1) (pa_cons (pv 3) pa_nil))))) pa_nil))))))) (pss_one (ps_raise rfl (takes_of rfl rfl rfl rfl) (pmk_x Y.x_Wrong hr (pa_cons pe_int pa_nil)))) pss_nil) (pss_cons (ps_sl (pv 0) (pv 1)) (pss_one (ps_sl (pv 0) (pe_callTy (r := rTupOf K) call_tupG (by rfl) T.b_tuple bt_tuple (pa_cons (pv 2) pa_nil))))))), ?_⟩
    have mH : Mv [] H0 H := by
      rw [eH]
      exact (Mv.new ndx).wr nx
    have hx : H x = some (.ins T.C_Recipe dx []) := by rw [eH]; exact upd_same
    have hdx : H dx = some (.own x) := by rw [eH, upd_ne hne]; exact upd_same
    clear eH
    have hm := hm0.mv0 mH
    have hT := hT0.mv0 mH
    have wrong : ∀ (k : Nat) H1, recWrong tm rows = some k → Mv [] H H1 → ∀ dd, H1 dd = none → E (.ref Y.C_Wrong) (some dd) (upd H1 dd (.xd [("place", .int (k : Nat))])) := fun k H1 hk m1 dd nd => qW k hk dd H1 (mH.trans m1) nd
    refine ⟨mv, rfl, mv, tm, b, rfl, hm, fun H1 m1 => ⟨_, rfl, ?_⟩⟩
    cases htm : isWhole tm with
    | false =>
      refine ⟨.int 0, rfl, fun dd nd => wrong 0 H1 ?_ m1 dd nd⟩
      cases tm <;> first | rfl | cases htm
    | true =>
      obtain ⟨many, rfl⟩ : ∃ i, tm = .int i := by
        cases tm <;> first | exact ⟨_, rfl⟩ | cases htm
      cases (show mv = V.int many from hm)
      refine ⟨.int many, rfl, many, 0, rfl, rfl, _, rfl, ite2 (fun e0 => ?_) (fun e0 => ?_)⟩
      · have h0 : many < 0 := by simpa using e0
        refine ⟨.int 0, rfl, fun dd nd => wrong 0 H1 ?_ m1 dd nd⟩
        show (if many < 0 then some 0 else _) = _
        rw [if_pos h0]
      have h0 : ¬ many < 0 := by simpa using e0
      refine ⟨tv, rfl, (by decide : 2 ≤ sizeLine), fun p5 np5 => ?_⟩
      have m5 : Mv [] H (upd H1 p5 (.tup [.ty "list", .ty "tuple"])) := m1.trans (.new np5)
      have e5 : upd H1 p5 (.tup [.ty "list", .ty "tuple"]) p5 = some (.tup [.ty "list", .ty "tuple"]) := upd_same
      generalize upd H1 p5 (.tup [.ty "list", .ty "tuple"]) = H5 at m5 e5 ⊢
      have hT5 := hT.mv0 m5
      walk_at "nn"
      refine rd_isTX hT5 e5 T.c_Recipe T.is_Recipe (kitAny_no T.nl_Recipe T.nt_Recipe) ?_
      refine ⟨_, rfl, ?_⟩
      cases hrows : rows with
      | none =>
        refine ⟨.int 1, rfl, fun dd nd => wrong 1 H5 ?_ m5 dd nd⟩
        rw [hrows]
        show (if many < 0 then some 0 else _) = _
        rw [if_neg h0]
      | some r =>
        obtain ⟨xs, ts⟩ := r
        subst hrows
        obtain ⟨sl, rfl, hSq0, hxs0⟩ : ∃ sl, tv = .ref sl ∧ (SqL K H0 sl xs ∨ SqT K H0 sl xs) ∧ IsAll K b H0 xs ts := by
          cases hT0 with
          | lst h0 h1 h2 => exact ⟨_, rfl, .inl (.inl (.inl h1)), h2⟩
          | tup h1 h2 => exact ⟨_, rfl, .inr h1, h2⟩
        have hSq := (mH.trans m5).seq hSq0
        have hxs := hxs0.mv0 (mH.trans m5)
        obtain ⟨hl, hcn⟩ := hbd _ rfl
        refine ⟨.ref sl, rfl, sl, rfl, ?_⟩
        refine lc_th (K := K) (b := b) (fun _ => true) (fun y t => y = V.bl (isTerm t && under many t)) hSq hxs hl (fun y t H6 Q' R hm' hy m6 k1 _ => ?_) (fun D ys H6 nD e6 hp m6 => ?_)
        · exact ⟨rfl, .int many, rfl, y, rfl, many, y, t, b, rfl, hy.mv0 m6, hcn t hm', fun H7 m7 => k1 rfl _ H7 rfl m7⟩
        · rw [List.filter_eq_self.mpr fun _ _ => rfl] at hp
          rw [paired_bl hp] at e6
          have m06 := m5.trans m6
          refine ⟨D, _, rfl, .inl (.inl e6), ?_⟩
          have ea : (ts.map fun t => isTerm t && under many t).all id = ts.all fun t => isTerm t && under many t := by rw [List.all_map]; rfl
          rw [ea]
          refine ⟨_, rfl, ite2 (fun e1 => ?_) (fun e1 => ?_)⟩
          · refine ⟨.int 1, rfl, fun dd nd => wrong 1 H6 ?_ m06 dd nd⟩
            show (if many < 0 then some 0 else if _ then none else some 1) = _
            rw [if_neg h0, if_neg (by simpa using e1)]
          · have hgood : recWrong (.int many) (some (xs, ts)) = none := by
              show (if many < 0 then some 0 else if _ then none else some 1) = _
              rw [if_neg h0, if_pos (by simpa using e1)]
            have hx6 := m06.same _ _ hx
            have hd6 := m06.same _ _ hdx
            refine ⟨.int many, rfl, .ref x, rfl, x, T.C_Recipe, dx, T.p_Recipe_its_variables, [], 1, rfl, Or.inl ⟨hx6, rfl⟩, T.c_Recipe, T.sl_Recipe_its_variables, ?_⟩
            have m7 := (mH.trans m06).sl (C := T.C_Recipe) (vs := putS 1 (.int many) []) nx ndx
            have k7 := Mv.slA hne hx6 hd6 (us := putS 1 (.int many) [])
            have hx7 := slH_x (H := H6) (x := x) (C := T.C_Recipe) (dx := dx) (vs := putS 1 (.int many) [])
            have hd7 := slH_dx (H := H6) (C := T.C_Recipe) (vs := putS 1 (.int many) []) hne
            have hs7 := slH_slt (H := H6) (C := T.C_Recipe) (vs := putS 1 (.int many) []) hne
            generalize slH H6 x T.C_Recipe dx (putS 1 (.int many) []) = H7 at k7 m7 hx7 hd7 hs7 ⊢
            refine ⟨.ref sl, rfl, ?_⟩
            walk_at "nc"
            refine rd_tupSq (m7.seq hSq0) fun p H8 m8 e8 => ?_
            have hx8 := m8.same _ _ hx7
            have hd8 := m8.same _ _ hd7
            refine ⟨.ref x, rfl, x, T.C_Recipe, dx, T.p_Recipe_its_terms, _, 0, rfl, Slt.mv hs7 m8, T.c_Recipe, T.sl_Recipe_its_terms, ?_⟩
            have m9 := (m7.trans m8).sl (C := T.C_Recipe) (vs := putS 0 (.ref p) (putS 1 (.int many) [])) nx ndx
            have k9 := Mv.slB hne hx8 hd8 (us := putS 0 (.ref p) (putS 1 (.int many) []))
            have hs9 := slH_slt (H := H8) (C := T.C_Recipe) (vs := putS 0 (.ref p) (putS 1 (.int many) [])) hne
            generalize slH H8 x T.C_Recipe dx (putS 0 (.ref p) (putS 1 (.int many) [])) = H9 at m9 k9 hs9 ⊢
            exact q many _ rfl rfl hgood p H9 m9 hs9 (k9.sqT e8)
end
end Fm
namespace Fm
open PySem PySem.Spec PyProof.Rows L2
open AutoSeq1 (wpAny_loadPart')
open PySem.MeetsSeq PySem.MeetsSeq2 PySem.MeetsSeq3 PySem.SeqRoads2
def EqW (prog : Program) (w : PySem.World) (A : Around) (s : Shared) (y x : Value) (b : Bool) : Prop := ∀ (E : Value → Shared → Prop) (Q : Bool → Shared → Prop), Q b s → wpAny (model prog w) A (eqBool y x) Q E s
section
variable {prog : Program} {w : PySem.World} {A : Around} {s : Shared} {E : Value → Shared → Prop}
end
inductive HitsW (prog : Program) (w : PySem.World) (A : Around) (s : Shared) (kb : List (L2.Key × Value)) : List (L2.Key × Value) → Bool → Prop
  | done : HitsW prog w A s kb [] true
  | lacks {k : L2.Key} {v : Value} {r : List (L2.Key × Value)} : valueAt kb k = none → HitsW prog w A s kb ((k, v) :: r) false
  | meets {k : L2.Key} {v y : Value} {r : List (L2.Key × Value)} {e b : Bool} : valueAt kb k = some y → EqW prog w A s v y e → HitsW prog w A s kb r b → HitsW prog w A s kb ((k, v) :: r) (e && b)
section
variable {prog : Program} {w : PySem.World} {A : Around} {s : Shared} {E : Value → Shared → Prop}
theorem HitsW.inv {kb r : List (L2.Key × Value)} {k : L2.Key} {v : Value} {b : Bool} (h : HitsW prog w A s kb ((k, v) :: r) b) : (valueAt kb k = none ∧ b = false) ∨ ∃ y e b', valueAt kb k = some y ∧ EqW prog w A s v y e ∧ HitsW prog w A s kb r b' ∧ b = (e && b') := by
  cases h with
  | lacks h => exact .inl ⟨h, rfl⟩
  | meets h1 h2 h3 => exact .inr ⟨_, _, _, h1, h2, h3, rfl⟩
end
end Fm
namespace Fm
open PySem PySem.Spec PyProof.Rows L2
def lk (b : List (Str × Int)) (x : Str) : Option Int := (b.find? fun e => decide (e.1 = x)).map (·.2)
def hitO (b : List (Str × Int)) (e : Str × Int) : Bool := match lk b e.1 with
  | some j => e.2 == j
  | none => false
def outsEq (a b : List (Str × Int)) : Bool := a.length == b.length && a.all (hitO b)
def actEq (r q : ActR) : Bool := r.ar == q.ar && outsEq r.outs q.outs
def hitA (qs : List ActR) (r : ActR) : Bool := match qs.find? fun q => decide (q.nm = r.nm) with
  | some q => actEq r q
  | none => false
def rsEq (rs qs : List ActR) : Bool := rs.length == qs.length && rs.all (hitA qs)
section
variable {X : Cx} {pins : List (Addr × Obj)} {σ : L2.St} {H : Hp} {s : Shared}
def rEqA (K : PySem.W.Frag) : R2 := fun x y H Q => ∃ d e zs ys, x = .ref d ∧ y = .ref e ∧ ActsAt K H d zs ∧ ActsAt K H e ys ∧ Q (.bl (rsEq (zs.map (·.r)) (ys.map (·.r)))) H
end
end Fm
namespace Fm
open PySem PySem.Spec PyProof.Rows L2 SlX
local macro_rules | `(tactic| walk_at "nn") => `(tactic| dsimp only [tC, tNil, tCons, tCB, tCall, gName, tSeq, tAsg, tPar, tDrop, tRet])
local macro_rules | `(tactic| walk_at "nc") => `(tactic| dsimp only [tC, tNil, tCons, tCB, tCall])
def rIsiX (K : PySem.W.Frag) (u : Value) : List V → Hp → VK → Prop := fun xs H Q => rIsiSl K u xs H Q ∨ rIsi K xs H Q
theorem call_isiX {X : Cx} (u : Value) : CallR X (.builtin "isinstance") (rIsiX X.K u) := CallR.or (call_isiSl u) call_isi
def plainTy (T : String) : Bool := match fastBuiltinMro T with
  | some l => l.all fun v => match v with | .ref _ => false | _ => true
  | none => false
theorem sub_plain {K : PySem.W.Frag} {T : String} {C : Addr} (h : plainTy T = true) : PySem.W.subIn K (.type T) (.ref C) = some false := by
  unfold plainTy at h
  show (fastBuiltinMro T).map _ = some false
  cases e : fastBuiltinMro T with
  | none => rw [e] at h; cases h
  | some l =>
    rw [e] at h
    show some (l.contains (.ref C)) = some false
    congr 1
    cases hc : l.contains (.ref C) with
    | false => rfl
    | true =>
      have hm : Value.ref C ∈ l := by simpa using hc
      have := List.all_eq_true.mp h _ hm
      cases this
theorem kitOne_plain {K : PySem.W.Frag} {T : String} {C : Addr} (h : plainTy T = true) (hc : PySem.W.isClsIn K C = true) (ht : PySem.W.typeIn K (.ref C) = some (.type "type")) : PySem.W.kitOne K (.type T) (.ref C) = some false := by
  unfold PySem.W.kitOne
  rw [if_neg (by simp)]
  show (if _ then _ else _) = _
  rw [if_pos ?_]
  · exact sub_plain h
  · rw [ht]
    unfold PySem.W.isClsIn at hc
    simp [hc]
def sp_WorldEq (K : PySem.W.Frag) (C : Addr) : Sp := fun vs H Q _ => ∃ (x : Addr) (rs : List ActR) (y : V), vs = [.ref x, y] ∧ WldAt K H C x rs ∧
  ((∃ x2 rs2, y = .ref x2 ∧ WldAt K H C x2 rs2 ∧ Q (.bl (rsEq rs rs2)) H) ∨ ∃ T, TyX K H y (.type T) ∧ plainTy T = true ∧ Q (.bl false) H)
section
variable {P : Program} {w : World} {K : PySem.W.Frag} {mg : Str → Option Value} {base : Heap}
end
end Fm
namespace Fm
open PySem PySem.Spec PyProof.Rows L2 SlX
local macro_rules | `(tactic| walk_at "nn") => `(tactic| dsimp only [tC, tNil, tCons, tCB, tCall, gName, tSeq, tAsg, tPar, tDrop, tRet])
local macro_rules | `(tactic| walk_at "nc") => `(tactic| dsimp only [tC, tNil, tCons, tCB, tCall])
def tsD (ts : List Tm) : PyData := .tuple (Tm.ds ts)
def over (n : Int) (i : Int) : Prop := 0 ≤ i ∧ i < n
def varsT (n : Nat) : List Tm := (List.range n).map fun i => Tm.var (i : Nat)
def sp_Recvars (K : PySem.W.Frag) (C : Addr) : Sp := fun vs H Q _ => ∃ (x : Addr) (many : Int) (ts : List Tm), vs = [.ref x] ∧ RecAt K H C x many ts ∧ Q (.int many) H
def sp_Recterms (K : PySem.W.Frag) (C : Addr) : Sp := fun vs H Q _ => ∃ (x : Addr) (many : Int) (ts : List Tm), vs = [.ref x] ∧ RecAt K H C x many ts ∧ ∀ v, Im K H v (tsD ts) → Q v H
def sp_Reclen (K : PySem.W.Frag) (C : Addr) : Sp := fun vs H Q _ => ∃ (x : Addr) (many : Int) (ts : List Tm), vs = [.ref x] ∧ RecAt K H C x many ts ∧ Q (.int ts.length) H
def sp_Reckeep (K : PySem.W.Frag) (C : Addr) : Sp := fun vs H Q _ => ∃ (many : Int), vs = [.int many] ∧ 0 ≤ many ∧ many ≤ 1000 ∧ ∀ x H', Mv [] H H' → RecAt K H' C x many (varsT many.toNat) → Q (.ref x) H'
def sp_Reccall (K : PySem.W.Frag) (C : Addr) (d : Nat) : Sp := fun vs H Q _ => ∃ (x c : Addr) (many : Int) (ts us : List Tm) (ys : List V), vs = [.ref x, .ref c] ∧ RecAt K H C x many ts ∧ (SqL K H c ys ∨ SqT K H c ys) ∧ Ims K H ys (Tm.ds us) ∧
  Tm.oks (fun i => 0 ≤ i ∧ i < us.length) ts ∧ Tm.deps ts < d ∧ ts.length ≤ 1000 ∧ ∀ v H', Mv [] H H' → Im K H' v (tsD (ts.map (Tm.put (vat us)))) → Q v H'
def sp_Recmul (K : PySem.W.Frag) (C EU : Addr) (d : Nat) : Sp := fun vs H Q E => ∃ (x y : Addr) (many wide : Int) (ts us : List Tm), vs = [.ref x, .ref y] ∧ RecAt K H C x many ts ∧ RecAt K H C y wide us ∧ 0 ≤ many ∧ ts.length ≤ 1000 ∧
  (wide ≠ ts.length → E (.ref EU) none H) ∧
  (wide = ts.length → Tm.oks (fun i => 0 ≤ i ∧ i < many) ts ∧ Tm.oks (fun i => 0 ≤ i ∧ i < ts.length) us ∧ Tm.deps us < d ∧ us.length ≤ 1000 ∧ (∀ t ∈ us.map (Tm.put (vat ts)), t.cst + t.lv ≤ 90000) ∧ ∀ z H', Mv [] H H' → RecAt K H' C z many (us.map (Tm.put (vat ts))) → Q (.ref z) H')
def recEq (many many2 : Int) (ts ts2 : List Tm) : Bool := decide (many = many2) && PyData.eqv (tsD ts) (tsD ts2)
def sp_RecipeEq (K : PySem.W.Frag) (C : Addr) : Sp := fun vs H Q _ => ∃ (x : Addr) (many : Int) (ts : List Tm) (y : V), vs = [.ref x, y] ∧ RecAt K H C x many ts ∧ SeqAt.shaped (tsD ts) = true ∧
  ((∃ x2 many2 ts2, y = .ref x2 ∧ RecAt K H C x2 many2 ts2 ∧ SeqAt.shaped (tsD ts2) = true ∧ Q (.bl (recEq many many2 ts ts2)) H) ∨ (∃ T, TyX K H y (.type T) ∧ plainTy T = true ∧ Q (.bl false) H))
def recText (many : Int) (ts : List Tm) : Str := Str.ofString "Recipe(" ++ (PyData.int many).shown ++ Str.ofString ", " ++ (tsD ts).shown ++ Str.ofString ")"
def sp_Recrepr (K : PySem.W.Frag) (C : Addr) : Sp := fun vs H Q _ => ∃ (x : Addr) (many : Int) (ts : List Tm), vs = [.ref x] ∧ RecAt K H C x many ts ∧ many.natAbs < 10 ^ 40 ∧ Shw (tsD ts) ∧ Q (.str (recText many ts)) H
theorem ths_map : ∀ ts : List Tm, Tm.ths ts = ts.map Tm.th
  | [] => by simp [Tm.ths]
  | t :: ts => by simp [Tm.ths, ths_map ts]
theorem rec_good {many : Int} {ts : List Tm} {xs : List V} (hm : 0 ≤ many) (ho : Tm.oks (fun i => 0 ≤ i ∧ i < many) ts) (hl : ts.length ≤ 90000) (hc : ∀ t ∈ ts, t.cst + t.lv ≤ 90000) :
    recWrong (.int many) (some (xs, Tm.ths ts)) = none ∧ (Tm.ths ts).length ≤ 90000 ∧ ∀ t ∈ Tm.ths ts, t.cnt ≤ 90000 := by
  refine ⟨?_, by rw [ths_len]; exact hl, fun t ht => ?_⟩
  · show (if many < 0 then some 0 else if _ then none else some 1) = _
    rw [if_neg (by omega), if_pos ?_]
    rw [List.all_eq_true]
    intro t ht
    rw [ths_map] at ht
    obtain ⟨u, hu, rfl⟩ := List.mem_map.mp ht
    have h1 := Tm.oks_iff.mp ho u hu
    rw [isTerm_th (fun i h => h.1) u h1, under_th (fun i h => h.2) u h1]
    rfl
  · rw [ths_map] at ht
    obtain ⟨u, hu, rfl⟩ := List.mem_map.mp ht
    have := cnt_th u
    have := hc u hu
    omega
def vv : Tm → V
  | .var i => .int i
  | _ => .non
theorem RecAt.tm {K : PySem.W.Frag} {H : Hp} {C x : Addr} {many : Int} {ts : List Tm} (h : RecAt K H C x many ts) : ∃ dx p xs, Slt H x C dx [some (.ref p), some (.int many)] ∧ SqT K H p xs ∧ Ims K H xs (Tm.ds ts) ∧ xs.length = ts.length := by
  obtain ⟨dx, p, xs, h1, h2, h3⟩ := h
  exact ⟨dx, p, xs, h1, h2, h3, by rw [h3.length, Tm.ds_map, List.length_map]⟩
section
variable {P : Program} {w : World} {K : PySem.W.Frag} {mg : Str → Option Value} {base : Heap}
theorem ok_Recipe_variables (T : TX K mg) {k : Nat} : FnOk P w K mg base CX0 (k + 1) T.d_Recipe_variables.f T.d_Recipe_variables.fd P_Recipe_variables (sp_Recvars K T.C_Recipe) := by
  refine T.d_Recipe_variables.F.ok sc_Recipe_variables (fun vs H Q E h => ?_) (fun cdv A outer s H vs Q E hr h => ?_)
  · obtain ⟨_, _, _, rfl, _⟩ := h
    rfl
  · obtain ⟨x, many, ts, rfl, hR, q⟩ := h
    obtain ⟨dx, p, xs, hs, hp, hx, hl⟩ := hR.tm
    refine ⟨_, (pss_one (ps_ret (pe_slC (K := K) rfl (pv 0)))), ?_⟩
    exact ⟨.ref x, rfl, x, T.C_Recipe, dx, T.p_Recipe_its_variables, _, 1, .int many, rfl, hs, T.c_Recipe, T.sl_Recipe_its_variables, rfl, q⟩
theorem ok_Recipe_terms (T : TX K mg) {k : Nat} : FnOk P w K mg base CX0 (k + 1) T.d_Recipe_terms.f T.d_Recipe_terms.fd P_Recipe_terms (sp_Recterms K T.C_Recipe) := by
  refine T.d_Recipe_terms.F.ok sc_Recipe_terms (fun vs H Q E h => ?_) (fun cdv A outer s H vs Q E hr h => ?_)
  · obtain ⟨_, _, _, rfl, _⟩ := h
    rfl
  · obtain ⟨x, many, ts, rfl, hR, q⟩ := h
    obtain ⟨dx, p, xs, hs, hp, hx, hl⟩ := hR.tm
    refine ⟨_, (pss_one (ps_ret (pe_slC (K := K) rfl (pv 0)))), ?_⟩
    exact ⟨.ref x, rfl, x, T.C_Recipe, dx, T.p_Recipe_its_terms, _, 0, .ref p, rfl, hs, T.c_Recipe, T.sl_Recipe_its_terms, rfl, q _ (.tup hp hx)⟩
end
end Fm
namespace Fm
open PySem PySem.Spec PyProof.Rows L2 SlX
local macro_rules | `(tactic| walk_at "nn") => `(tactic| dsimp only [tC, tNil, tCons, tCB, tCall, gName, tSeq, tAsg, tPar, tDrop, tRet])
local macro_rules | `(tactic| walk_at "nc") => `(tactic| dsimp only [tC, tNil, tCons, tCB, tCall])
section
variable {P : Program} {w : World} {K : PySem.W.Frag} {mg : Str → Option Value} {base : Heap}
theorem ok_Recipe___eq__ (T : TX K mg) {k : Nat} : FnOk P w K mg base CX0 (k + 1) T.d_Recipe___eq__.f T.d_Recipe___eq__.fd P_Recipe___eq__ (sp_RecipeEq K T.C_Recipe) := by
  refine T.d_Recipe___eq__.F.ok sc_Recipe___eq__ (fun vs H Q E h => ?_) (fun cdv A outer s H vs Q E hr h => ?_)
  · obtain ⟨_, _, _, _, rfl, _⟩ := h
    rfl
  · obtain ⟨x, many, ts, y, rfl, hR, hsh, h⟩ := h
    obtain ⟨dx, p, xs, hs, hp, hx, hl⟩ := hR.tm
    have hu64 := hr.units
    refine ⟨_, (pss_cons (ps_if (PW.pt (pw_or (pt_not (pt_val (pe_callB (r := rIsiX K (.ref T.C_Recipe)) (call_isiX (.ref T.C_Recipe)) (by rfl) T.b_isinstance bt_isinstance (pa_cons (pv 1) (pa_cons (pe_glob rfl T.g_Recipe (show L2.RelV (.ref T.C_Recipe) _ from rfl)) pa_nil))))) (pw_or1 (pt_cmpR (r := rNeG K) (op_neG hu64) (pe_slC (K := K) rfl (pv 0)) (pe_slC (K := K) rfl (pv 1)) (nomark _))))) (pss_one (ps_ret pe_bl)) pss_nil) (pss_one (ps_ret (pe_cmpR (r := rEqG K) (op_eqG hu64) (pe_slC (K := K) rfl (pv 0)) (pe_slC (K := K) rfl (pv 1)) (nomark _))))), ?_⟩
    rcases h with ⟨x2, many2, ts2, rfl, hR2, hsh2, q⟩ | ⟨ty, ht, hpl, q⟩
    · obtain ⟨dx2, p2, xs2, hs2, hp2, hx2, hl2⟩ := hR2.tm
      refine ⟨.ref x2, rfl, ?_⟩
      walk_at "nc"
      refine Or.inl ⟨x2, T.C_Recipe, dx2, _, .ref T.C_Recipe, true, rfl, rfl, fun _ h => h, hs2, T.c_Recipe, T.is_Recipe, kitOne_self _, ?_⟩
      refine ⟨_, rfl, ?_⟩
      refine ⟨.ref x, rfl, x, T.C_Recipe, dx, T.p_Recipe_its_variables, _, 1, .int many, rfl, hs, T.c_Recipe, T.sl_Recipe_its_variables, rfl, ?_⟩
      refine ⟨.ref x2, rfl, x2, T.C_Recipe, dx2, T.p_Recipe_its_variables, _, 1, .int many2, rfl, hs2, T.c_Recipe, T.sl_Recipe_its_variables, rfl, ?_⟩
      refine Or.inl ⟨rfl, _, rfl, ite2 (fun e => ?_) (fun e => ?_)⟩
      · have hn : many ≠ many2 := fun z => by rw [z] at e; simp at e
        rw [show recEq many many2 ts ts2 = false by unfold recEq; rw [decide_eq_false hn]; rfl] at q
        exact q
      have hn : many = many2 := by simpa using e
      refine ⟨.ref x, rfl, x, T.C_Recipe, dx, T.p_Recipe_its_terms, _, 0, .ref p, rfl, hs, T.c_Recipe, T.sl_Recipe_its_terms, rfl, ?_⟩
      refine ⟨.ref x2, rfl, x2, T.C_Recipe, dx2, T.p_Recipe_its_terms, _, 0, .ref p2, rfl, hs2, T.c_Recipe, T.sl_Recipe_its_terms, rfl, ?_⟩
      refine Or.inr ⟨_, _, (Im.tup hp hx).dp, (Im.tup hp2 hx2).dp, hsh, hsh2, ?_⟩
      rw [show recEq many many2 ts ts2 = PyData.eqv (tsD ts) (tsD ts2) by unfold recEq; rw [decide_eq_true hn]; rfl] at q
      exact q
    · refine ⟨y, rfl, ?_⟩
      walk_at "nc"
      refine Or.inr ⟨y, .ref T.C_Recipe, .type ty, .ref T.C_Recipe, false, rfl, .own _, ht, kitOne_plain hpl T.c_Recipe.ic T.ty_Recipe, ?_⟩
      exact ⟨_, rfl, q⟩
end
end Fm
namespace Fm
open PySem PySem.Spec PyProof.Rows L2 SlX
local macro_rules | `(tactic| walk_at "nn") => `(tactic| dsimp only [tC, tNil, tCons, tCB, tCall, gName, tSeq, tAsg, tPar, tDrop, tRet])
local macro_rules | `(tactic| walk_at "nc") => `(tactic| dsimp only [tC, tNil, tCons, tCB, tCall])
structure TxF (ts : List Tm) : Prop where
  ok : Tm.oks P40 ts
  dep : Tm.deps ts ≤ 20
  nod : Tm.nod ts ≤ 900
  siz : ∀ t ∈ ts, t.size ≤ 200
def sp_needT (K : PySem.W.Frag) : Sp := fun vs H Q _ => ∃ (v : V) (t : Tm), vs = [v] ∧ Im K H v t.d ∧ TxF [t] ∧ ∀ H', Mv [] H H' → Q .non H'
def sp_readT (K : PySem.W.Frag) : Sp := fun vs H Q _ => ∃ (t : Tm), vs = [wdV t.cx] ∧ TxF [t] ∧ ∀ v H', Mv [] H H' → Im K H' v t.d → Q v H'
def sp_readL (K : PySem.W.Frag) : Sp := fun vs H Q _ => ∃ (ts : List Tm), vs = [wdV (lisC ts)] ∧ TxF ts ∧ ts.length ≤ 100 ∧ ∀ v H', Mv [] H H' → Im K H' v (tsD ts) → Q v H'
theorem num_len {i : Int} (h : P40 i) : (TL.numL i.toNat).length ≤ 40 := TL.numL_len (by decide) (by have := h.2; omega)
theorem txF_cx {t : Tm} (h : TxF [t]) : t.cx.length ≤ 80000 := by
  have h1 := cx_len t h.ok.1 fun i hi => num_len (Tm.ok_leaves t h.ok.1 i hi)
  have h2 := h.nod
  unfold Tm.nod at h2
  simp only [Tm.sizes, Tm.lvs] at h2
  omega
theorem txF_lis {ts : List Tm} (h : TxF ts) : (lisC ts).length ≤ 80000 := by
  cases ts with
  | nil => decide
  | cons t ts =>
    rw [lisC_cons]
    have h1 := cxP_len (t :: ts) h.ok fun i hi => num_len (Tm.oks_leaves _ h.ok i hi)
    have h2 := h.nod
    unfold Tm.nod at h2
    omega
theorem TxF.one {ts : List Tm} {t : Tm} (h : TxF ts) (ht : t ∈ ts) : TxF [t] := by
  obtain ⟨a, b, rfl⟩ := List.append_of_mem ht
  refine ⟨⟨Tm.oks_iff.mp h.ok t ht, trivial⟩, ?_, ?_, fun u hu => h.siz u (by rw [List.mem_singleton.mp hu]; exact ht)⟩
  · have := Tm.deps_le.mp h.dep t ht
    simp only [Tm.deps]
    omega
  · have := h.nod
    rw [Tm.nod_append, show t :: b = [t] ++ b from rfl, Tm.nod_append] at this
    omega
mutual
theorem cx_asc : ∀ t : Tm, t.ok P40 → ∀ c ∈ t.cx, c < 128
  | .var i, _, c, hc => by
    have := TL.numL_digits i.toNat c hc
    omega
  | .op x ts, h, c, hc => by
    rw [Tm.cx, List.mem_append] at hc
    rcases hc with hc | hc
    · have := h.1.2.2 c hc
      omega
    · exact cxP_asc ts h.2.2 c hc
theorem cxP_asc : ∀ ts : List Tm, Tm.oks P40 ts → ∀ c ∈ Tm.cxP ts, c < 128
  | [], _, c, hc => by cases hc
  | t :: ts, h, c, hc => by
    rw [Tm.cxP, List.mem_cons, List.mem_append] at hc
    rcases hc with rfl | hc | hc
    · decide
    · exact cx_asc t h.1 c hc
    · exact cxs_asc ts h.2 c hc
theorem cxs_asc : ∀ ts : List Tm, Tm.oks P40 ts → ∀ c ∈ Tm.cxs ts, c < 128
  | [], _, c, hc => by
    rw [Tm.cxs, List.mem_singleton] at hc
    omega
  | t :: ts, h, c, hc => by
    rw [Tm.cxs, List.mem_cons, List.mem_append] at hc
    rcases hc with rfl | hc | hc
    · decide
    · exact cx_asc t h.1 c hc
    · exact cxs_asc ts h.2 c hc
end
mutual
theorem tk_short : ∀ t : Tm, t.ok P40 → ∀ z ∈ t.tk, z.length ≤ 40
  | .var i, h, z, hz => by
    rw [Tm.tk, List.mem_singleton] at hz
    rw [hz]
    exact num_len h
  | .op x ts, h, z, hz => by
    rw [Tm.tk, List.mem_cons] at hz
    rcases hz with rfl | hz
    · have := h.1.2.1
      have e : x.cps.toList.length = x.length := by simp [Str.length]
      omega
    · exact tkP_short ts h.2.2 z hz
theorem tkP_short : ∀ ts : List Tm, Tm.oks P40 ts → ∀ z ∈ Tm.tkP ts, z.length ≤ 40
  | [], _, z, hz => by cases hz
  | t :: ts, h, z, hz => by
    rw [Tm.tkP, List.mem_cons, List.mem_append] at hz
    rcases hz with rfl | hz | hz
    · decide
    · exact tk_short t h.1 z hz
    · exact tks_short ts h.2 z hz
theorem tks_short : ∀ ts : List Tm, Tm.oks P40 ts → ∀ z ∈ Tm.tks ts, z.length ≤ 40
  | [], _, z, hz => by
    rw [Tm.tks, List.mem_singleton] at hz
    rw [hz]
    decide
  | t :: ts, h, z, hz => by
    rw [Tm.tks, List.mem_cons, List.mem_append] at hz
    rcases hz with rfl | hz | hz
    · decide
    · exact tk_short t h.1 z hz
    · exact tks_short ts h.2 z hz
end
theorem tk_all {t : Tm} (h : t.ok P40) : ∀ w ∈ tkL t.cx [], TokOk w ∧ w.length ≤ 900 ∧ ∀ c ∈ w, c < 128 := fun w hw => by
  refine ⟨tkL_ok _ [] (fun _ h => by cases h) w hw, ?_, fun c hc => ?_⟩
  · have e := tk_cx t [] h trivial
    rw [List.append_nil] at e
    rw [e] at hw
    have : tkL [] [] = [] := rfl
    rw [this, List.append_nil] at hw
    have := tk_short t h w hw
    omega
  · rcases tkL_mem _ _ w hw c hc with h1 | h1
    · cases h1
    · exact cx_asc t h c h1
mutual
theorem th_nodN : ∀ t : Tm, t.th.cnt ≤ 2 * t.size + t.lv
  | .var i => by simp [Tm.th, Th.cnt, Tm.lv]
  | .op x ts => by
    have := ths_nodN ts
    simp only [Tm.th, Th.cnt, Th.cnts, Tm.size, Tm.lv]
    omega
theorem ths_nodN : ∀ ts : List Tm, Th.cnts (Tm.ths ts) ≤ 2 * Tm.sizes ts + Tm.lvs ts
  | [] => by simp [Tm.ths, Th.cnts]
  | t :: ts => by
    have h1 := th_nodN t
    have h2 := ths_nodN ts
    simp only [Tm.ths, Th.cnts, Tm.sizes, Tm.lvs]
    omega
end
theorem read_many {x : Str} (hx : Nm x) {t : Tm} {ts : List Tm} (h : Tm.oks P40 (t :: ts)) : runI (tkL (x.cps.toList ++ Tm.cxP (t :: ts)) []) [] none false = some (.op x (t :: ts)) := by
  obtain ⟨h1, h2⟩ := name_sgs hx
  have e := tk_cxP (t :: ts) [] x.cps.toList h2 h trivial
  rw [List.append_nil] at e
  rw [tkL_word _ _ _ h1, List.nil_append, e]
  show runI (x.cps.toList :: [40] :: ((t.tk ++ Tm.tks ts) ++ [])) [] none false = _
  rw [runI_open hx, List.append_assoc, runI_tk t _ _ h.1 (noOp_tks ts []), runI_tks ts [] [] x [] t h.2]
  simp [runI]
theorem many_all {x : Str} (hx : Nm x) {t : Tm} {ts : List Tm} (h : Tm.oks P40 (t :: ts)) : ∀ w ∈ tkL (x.cps.toList ++ Tm.cxP (t :: ts)) [], TokOk w ∧ w.length ≤ 900 ∧ ∀ c ∈ w, c < 128 := fun w hw => by
  obtain ⟨h1, h2⟩ := name_sgs hx
  refine ⟨tkL_ok _ [] (fun _ h => by cases h) w hw, ?_, fun c hc => ?_⟩
  · have e := tk_cxP (t :: ts) [] x.cps.toList h2 h trivial
    rw [List.append_nil] at e
    rw [tkL_word _ _ _ h1, List.nil_append, e, show tkL [] [] = [] from rfl, List.append_nil] at hw
    rcases List.mem_cons.mp hw with rfl | hw
    · have := hx.2.1
      have e : x.cps.toList.length = x.length := by simp [Str.length]
      omega
    · have := tkP_short _ h w hw
      omega
  · rcases tkL_mem _ _ w hw c hc with h1 | h1
    · cases h1
    · rcases List.mem_append.mp h1 with h1 | h1
      · have := hx.2.2 c h1
        omega
      · exact cxP_asc _ h c h1
theorem rd_isStrW {K : PySem.W.Frag} {H : Hp} {x : Str} {Q : VK} (q : Q (.bl true) H) : rIsi K [.str x, .ty "str"] H Q := ⟨.str x, .ty "str", _, _, true, rfl, .ty "str", .base (.str x), kit_ty (by decide +kernel), q⟩
section
variable {P : Program} {w : World} {K : PySem.W.Frag} {mg : Str → Option Value} {base : Heap}
theorem ok_need_term (T : TX K mg) {k : Nat} : FnOk P w K mg base CX0 (k + 3) T.d_need_term.f T.d_need_term.fd P_need_term (sp_needT K) := by
  have G_need : FnOk P w K mg base CX0 1 T.d_need.f T.d_need.fd P_need sp_need := ok_need (k := 0) T
  have G_is_term : FnOk P w K mg base CX0 2 T.d_is_term.f T.d_is_term.fd P_is_term (sp_isTerm K) := ok_is_term T
  have G_size : FnOk P w K mg base CX0 1 T.d_size.f T.d_size.fd P_size (sp_size K) := ok_size T
  refine T.d_need_term.F.ok sc_need_term (fun vs H Q E h => ?_) (fun cdv A outer s H vs Q E hr h => ?_)
  · obtain ⟨_, _, rfl, _⟩ := h
    rfl
  · obtain ⟨v, t, rfl, him, hF, q⟩ := h
    refine ⟨_, (pss_one (ps_expr (pe_call G_need (hr.mono (by omega)) rfl T.d_need.g T.d_need.F.kp T.d_need.b .nil pass0 (pa_cons (pe_and (pe_call G_is_term (hr.mono (by omega)) rfl T.d_is_term.g T.d_is_term.F.kp T.d_is_term.b .nil pass0 (pa_cons (pv 0) pa_nil)) (pe_one (pe_cmpR op_le (pe_call G_size (hr.mono (by omega)) rfl T.d_size.g T.d_size.F.kp T.d_size.b .nil pass0 (pa_cons (pe_lst (pa_cons (pv 0) pa_nil)) pa_nil)) (pe_glob rfl T.c_MOST_OPERATIONS T.r_MOST_OPERATIONS) (nomark _)))) pa_nil)))), ?_⟩
    obtain ⟨y, ys, e, hI, _⟩ : IsAll K 0 H [v] (Tm.ths [t]) := IsAll.of_ims [t] [v] (Tm.oks_mono (fun i h => h) _ hF.ok) (Ims.cons him Ims.nil)
    obtain ⟨rfl, rfl⟩ := List.cons.inj e
    have hcnt : t.th.cnt ≤ 90000 := by
      have h1 := th_nodN t
      have h2 := hF.nod
      unfold Tm.nod at h2
      simp only [Tm.sizes, Tm.lvs] at h2
      omega
    refine ⟨v, rfl, v, t.th, 0, rfl, hI, hcnt, fun H1 m1 => ?_⟩
    rw [isTerm_th (fun i h => h.1) t hF.ok.1]
    refine ⟨_, rfl, ?_⟩
    refine ⟨v, rfl, (by decide : 1 ≤ sizeLine), fun p np => ?_⟩
    have m2 : Mv [] H1 (upd H1 p (.lst [v])) := .new np
    have e2 : upd H1 p (.lst [v]) p = some (.lst [v]) := upd_same
    generalize upd H1 p (.lst [v]) = H2 at m2 e2 ⊢
    refine ⟨p, [v], [t], P40, rfl, .inl (.inl (.inl e2)), Ims.cons ((him.mv m1).mv m2) Ims.nil, hF.ok, fun i h => h.2, Nat.le_trans hF.dep (by decide), Nat.le_trans hF.nod (by decide), fun H3 m3 => ?_⟩
    have hs := hF.siz t List.mem_cons_self
    refine ⟨_, 200, rfl, rfl, ?_⟩
    show sp_need ([V.bl (decide (((Tm.sizes [t] : Nat) : Int) ≤ 200))] ++ []) H3 _ E0
    rw [decide_eq_true (by simp only [Tm.sizes]; omega : ((Tm.sizes [t] : Nat) : Int) ≤ 200)]
    exact ⟨rfl, q H3 (m1.trans (m2.trans m3))⟩
theorem ok_read_term (T : TX K mg) {k : Nat} : FnOk P w K mg base CX0 (k + 5) T.d_read_term.f T.d_read_term.fd P_read_term (sp_readT K) := by
  have G_need : FnOk P w K mg base CX0 1 T.d_need.f T.d_need.fd P_need sp_need := ok_need (k := 0) T
  have G_tokens_of : FnOk P w K mg base CX0 1 T.d_tokens_of.f T.d_tokens_of.fd P_tokens_of sp_toks := ok_tokens_of (k := 0) T
  have G_parsed : FnOk P w K mg base CX0 4 T.d_parsed.f T.d_parsed.fd P_parsed (sp_parsed K) := ok_parsed (k := 0) T
  have G_need_term : FnOk P w K mg base CX0 3 T.d_need_term.f T.d_need_term.fd P_need_term (sp_needT K) := ok_need_term (k := 0) T
  refine T.d_read_term.F.ok sc_read_term (fun vs H Q E h => ?_) (fun cdv A outer s H vs Q E hr h => ?_)
  · obtain ⟨_, rfl, _⟩ := h
    rfl
  · obtain ⟨t, rfl, hF, q⟩ := h
    refine ⟨_, (pss_cons (ps_expr (pe_call G_need (hr.mono (by omega)) rfl T.d_need.g T.d_need.F.kp T.d_need.b .nil pass0 (pa_cons (pe_callB (r := rIsi K) call_isi (by rfl) T.b_isinstance bt_isinstance (pa_cons (pv 0) (pa_cons (pe_ty T.b_str bt_str) pa_nil))) pa_nil))) (pss_cons (ps_set (i := 1) sc_read_term.nd rfl (Or.inl rfl) (pe_call G_parsed (hr.mono (by omega)) rfl T.d_parsed.g T.d_parsed.F.kp T.d_parsed.b .nil pass0 (pa_cons (pe_call G_tokens_of (hr.mono (by omega)) rfl T.d_tokens_of.g T.d_tokens_of.F.kp T.d_tokens_of.b .nil pass0 (pa_cons (pv 0) pa_nil)) pa_nil))) (pss_cons (ps_expr (pe_call G_need_term (hr.mono (by omega)) rfl T.d_need_term.g T.d_need_term.F.kp T.d_need_term.b .nil pass0 (pa_cons (pv 1) pa_nil))) (pss_one (ps_ret (pv 1)))))), ?_⟩
    have hl := txF_cx hF
    refine ⟨wdV t.cx, rfl, ?_⟩
    walk_at "nc"
    refine rd_isStrW ⟨rfl, ?_⟩
    refine ⟨wdV t.cx, rfl, t.cx, rfl, by omega, fun p H1 np m1 e1 => ⟨p, _, t, rfl, e1, by have := (tkL_len t.cx []).1; omega, tk_all hF.ok.1, read_cx hF.ok.1, fun v H2 m2 im => ?_⟩⟩
    refine ⟨v, rfl, v, t, rfl, im, hF, fun H3 m3 => ?_⟩
    exact ⟨v, rfl, q v H3 (m1.trans (m2.trans m3)) (im.mv m3)⟩
theorem ok_read_listed (T : TX K mg) {k : Nat} : FnOk P w K mg base CX0 (k + 51) T.d_read_listed.f T.d_read_listed.fd P_read_listed (sp_readL K) := by
  have G_need : FnOk P w K mg base CX0 1 T.d_need.f T.d_need.fd P_need sp_need := ok_need (k := 0) T
  have G_tokens_of : FnOk P w K mg base CX0 1 T.d_tokens_of.f T.d_tokens_of.fd P_tokens_of sp_toks := ok_tokens_of (k := 0) T
  have G_parsed : FnOk P w K mg base CX0 4 T.d_parsed.f T.d_parsed.fd P_parsed (sp_parsed K) := ok_parsed (k := 0) T
  have G_need_term : FnOk P w K mg base CX0 3 T.d_need_term.f T.d_need_term.fd P_need_term (sp_needT K) := ok_need_term (k := 0) T
  have G_listed : FnOk P w K mg base CX0 50 T.d_listed.f T.d_listed.fd P_listed (sp_lis K 24) := ok_listed T 24
  refine T.d_read_listed.F.ok sc_read_listed (fun vs H Q E h => ?_) (fun cdv A outer s H vs Q E hr h => ?_)
  · obtain ⟨_, rfl, _⟩ := h
    rfl
  · obtain ⟨ts, rfl, hF, hl, q⟩ := h
    have hu64 := hr.units
    refine ⟨_, (pss_cons (ps_if (pt_cmpR (r := rEqG K) (op_eqG hu64) (pv 0) pe_str (nomark _)) (pss_one (ps_ret (pe_tup pa_nil))) pss_nil) (pss_cons (ps_expr (pe_call G_need (hr.mono (by omega)) rfl T.d_need.g T.d_need.F.kp T.d_need.b .nil pass0 (pa_cons (pe_cmpR (r := rEqG K) (op_eqG hu64) (pe_slice (r := rSlG K) sl_G (pv 0) po_none (po_some pe_int)) pe_str (nomark _)) pa_nil))) (pss_cons (ps_set (i := 1) sc_read_listed.nd rfl (Or.inl rfl) (pe_slice (r := rSlG K) sl_G (pe_call G_parsed (hr.mono (by omega)) rfl T.d_parsed.g T.d_parsed.F.kp T.d_parsed.b .nil pass0 (pa_cons (pe_call G_tokens_of (hr.mono (by omega)) rfl T.d_tokens_of.g T.d_tokens_of.F.kp T.d_tokens_of.b .nil pass0 (pa_cons (pe_op (r := rAddG K) op_addG pe_str (pv 0)) pa_nil)) pa_nil)) (po_some pe_int) po_none)) (pss_cons (ps_for PassesOwn.never rfl (pi_seq (pv 1)) (pg_name (i := 2) sc_read_listed.nd rfl (Or.inl rfl)) (pss_one (ps_expr (pe_call G_need_term (hr.mono (by omega)) rfl T.d_need_term.g T.d_need_term.F.kp T.d_need_term.b .nil pass0 (pa_cons (pv 2) pa_nil))))) (pss_cons (ps_expr (pe_call G_need (hr.mono (by omega)) rfl T.d_need.g T.d_need.F.kp T.d_need.b .nil pass0 (pa_cons (pe_cmpR (r := rEqG K) (op_eqG hu64) (pe_call G_listed (hr.mono (by omega)) rfl T.d_listed.g T.d_listed.F.kp T.d_listed.b .nil pass0 (pa_cons (pv 1) pa_nil)) (pv 0) (nomark _)) pa_nil))) (pss_one (ps_ret (pv 1)))))))), ?_⟩
    have hlc := txF_lis hF
    have hz : (SX.S (lisC ts)).length ≤ sizeLine := by
      rw [SX.S_len]
      exact Nat.le_trans hlc (by decide)
    refine ⟨wdV (lisC ts), rfl, Or.inl ⟨rfl, _, rfl, ?_⟩⟩
    rw [show V.str (Str.ofString "()") = wdV [40, 41] from congrArg V.str (by decide +kernel), wd_eq]
    cases ts with
    | nil =>
      rw [decide_eq_true (by rfl)]
      refine ⟨(by decide : 0 ≤ sizeLine), fun p np => ?_⟩
      exact q _ _ (.new np) (Im.tup (.inl (.inl upd_same)) Ims.nil)
    | cons t ts =>
      have hne : lisC (t :: ts) ≠ [40, 41] := fun z => by
        rw [lisC_cons, Tm.cxP] at z
        have h1 := (List.cons.inj z).2
        have h2 := congrArg List.length h1
        rw [List.length_append] at h2
        have h3 : 0 < t.cx.length := by
          cases t with
          | var i => exact List.length_pos_iff.mpr (TL.numL_ne _)
          | op x us =>
            rw [Tm.cx, List.length_append]
            have := List.length_pos_iff.mpr (name_sgs hF.ok.1.1).2
            omega
        have h4 : 0 < (Tm.cxs ts).length := by cases ts <;> simp [Tm.cxs]
        simp at h2
        omega
      rw [decide_eq_false hne]
      refine ⟨wdV (lisC (t :: ts)), rfl, 1, rfl, Or.inr (Or.inr ⟨_, rfl, hz, Or.inl ⟨rfl, ?_⟩⟩)⟩
      rw [C8.cutS_slice, SX.slice_to (by decide), open_wd]
      rw [show decide (V.str (SX.S ((lisC (t :: ts)).take (1 : Int).toNat)) = wdV [40]) = true from decide_eq_true (by rw [lisC_cons, Tm.cxP]; rfl)]
      refine ⟨rfl, ?_⟩
      have hf : Nm (Str.ofString "f") := by decide +kernel
      have hfc : (Str.ofString "f").cps.toList = [102] := by decide +kernel
      refine ⟨wdV (lisC (t :: ts)), rfl, Or.inr (Or.inl ⟨_, _, rfl, rfl, ?_, ?_⟩)⟩
      · rw [SX.S_len]
        exact Nat.le_trans (show (Str.ofString "f").length + (lisC (t :: ts)).length ≤ 100000 by rw [show (Str.ofString "f").length = 1 by decide +kernel]; omega) (by decide)
      have ecat : Str.ofString "f" ++ SX.S (lisC (t :: ts)) = SX.S ((Str.ofString "f").cps.toList ++ Tm.cxP (t :: ts)) := by
        rw [lisC_cons, ← SX.S_cat, S_tl']
      rw [ecat]
      have hlen : ((Str.ofString "f").cps.toList ++ Tm.cxP (t :: ts)).length ≤ 80001 := by
        rw [List.length_append, hfc, ← lisC_cons]
        simp
        omega
      refine ⟨_, rfl, by omega, fun p H1 np m1 e1 => ⟨p, _, .op (Str.ofString "f") (t :: ts), rfl, e1, by have := (tkL_len ((Str.ofString "f").cps.toList ++ Tm.cxP (t :: ts)) []).1; omega, many_all hf hF.ok, read_many hf hF.ok, fun v H2 m2 im => ?_⟩⟩
      obtain ⟨a, z1, rfl, ha, hz1⟩ := im.tupI
      obtain ⟨n1, xs, rfl, hn1, hxs⟩ := hz1.invD
      cases hn1.strI
      refine ⟨1, rfl, rd_sl1 ha fun p3 H3 m3 e3 => ?_⟩
      have i3 := hxs.mv m3
      have hxl : xs.length = (t :: ts).length := by rw [hxs.length, Tm.ds_map, List.length_map]
      have m03 := m1.trans (m2.trans m3)
      refine ⟨.ref p3, rfl, p3, rfl, Or.inr ⟨⟨_, e3⟩, ?_⟩⟩
      refine for_tup (K := K) (a := p3) (xs := xs) (fun i σ H4 => ∃ (y2 : Option V), σ = [some (wdV (lisC (t :: ts))), some (.ref p3), y2] ∧ Mv [] H3 H4)
        ⟨none, rfl, .refl⟩ (fun i σ H4 _ h4 => ?_) (fun i x σ H4 hx h4 => ?_) (fun σ H4 h4 => ?_)
      · obtain ⟨_, _, m4⟩ := h4
        exact m4.sqT e3
      · obtain ⟨y2, rfl, m4⟩ := h4
        obtain ⟨xd, hxd, him⟩ := i3.get hx
        rw [Tm.ds_map, List.getElem?_map] at hxd
        obtain ⟨u, hu, rfl⟩ := Option.map_eq_some_iff.mp hxd
        exact ⟨x, rfl, x, u, rfl, him.mv m4, hF.one (List.mem_of_getElem? hu), fun H5 m5 => ⟨_, rfl, m4.trans m5⟩⟩
      · obtain ⟨y2, rfl, m4⟩ := h4
        have hdep := hF.dep
        refine ⟨.ref p3, rfl, p3, xs, t :: ts, rfl, m4.sqT e3, i3.mv m4, hF.ok, by omega, by omega, fun H5 m5 => ?_⟩
        refine ⟨wdV (lisC (t :: ts)), rfl, Or.inl ⟨rfl, ?_⟩⟩
        rw [decide_eq_true rfl]
        refine ⟨rfl, .ref p3, rfl, ?_⟩
        exact q _ H5 (m03.trans (m4.trans m5)) (Im.tup ((m4.trans m5).sqT e3) (i3.mv (m4.trans m5)))
end
end Fm
namespace Fm
open PySem PySem.Spec PyProof.Rows L2 SlX
local macro_rules | `(tactic| walk_at "nn") => `(tactic| dsimp only [tC, tNil, tCons, tCB, tCall, gName, tSeq, tAsg, tPar, tDrop, tRet])
local macro_rules | `(tactic| walk_at "nc") => `(tactic| dsimp only [tC, tNil, tCons, tCB, tCall])
def recC (many : Int) (ts : List Tm) : List Nat := TL.numL many.toNat ++ (32 :: lisC ts)
def movP (ns : List Int) (kd : Str) (many : Int) (ts : List Tm) : List (List Nat) := ns.map (fun i => TL.numL i.toNat) ++ [kd.cps.toList, TL.numL many.toNat, lisC ts]
def movC (ns : List Int) (kd : Str) (many : Int) (ts : List Tm) : List Nat := TL.joinL [32] (movP ns kd many ts)
structure MovF (ns : List Int) (kd : Str) (many : Int) (ts : List Tm) : Prop where
  len : ns.length = 4
  num : ∀ i ∈ ns, P40 i
  kind : kd = Str.ofString "may" ∨ kd = Str.ofString "must"
  mny : P40 many
  tx : TxF ts
  few : ts.length ≤ 100
  over : Tm.oks (fun i => 0 ≤ i ∧ i < many) ts
def MovAt (K : PySem.W.Frag) (H : Hp) (C : Addr) (a : Addr) (ns : List Int) (kd : Str) (many : Int) (ts : List Tm) : Prop := ∃ rc, SqT K H a (ns.map V.int ++ [.ref rc, .str kd]) ∧ RecAt K H C rc many ts
def sp_isMov (K : PySem.W.Frag) (C : Addr) : Sp := fun vs H Q _ => ∃ (a : Addr) (ns : List Int) (kd : Str) (many : Int) (ts : List Tm), vs = [.ref a] ∧ MovAt K H C a ns kd many ts ∧ MovF ns kd many ts ∧ ∀ H', Mv [] H H' → Q (.bl true) H'
def sp_shRec (K : PySem.W.Frag) (C : Addr) : Sp := fun vs H Q _ => ∃ (x : Addr) (many : Int) (ts : List Tm), vs = [.ref x] ∧ RecAt K H C x many ts ∧ P40 many ∧ TxF ts ∧ ∀ H', Mv [] H H' → Q (wdV (recC many ts)) H'
def sp_shMov (K : PySem.W.Frag) (C : Addr) : Sp := fun vs H Q _ => ∃ (a : Addr) (ns : List Int) (kd : Str) (many : Int) (ts : List Tm), vs = [.ref a] ∧ MovAt K H C a ns kd many ts ∧ MovF ns kd many ts ∧ ∀ H', Mv [] H H' → Q (wdV (movC ns kd many ts)) H'
def sp_lmov (K : PySem.W.Frag) : Sp := fun vs H Q _ => ∃ (a t : Addr) (xs : List V) (ns : List Int) (kd : Str) (many : Int) (ts : List Tm), vs = [.ref a, .str kd, .int many, .ref t] ∧ SqT K H a (ns.map V.int) ∧ SqT K H t xs ∧ Ims K H xs (Tm.ds ts) ∧ MovF ns kd many ts ∧ ∀ H', Mv [] H H' → Q (wdV (movC ns kd many ts)) H'
def sp_rdMov (K : PySem.W.Frag) (C : Addr) : Sp := fun vs H Q _ => ∃ (ns : List Int) (kd : Str) (many : Int) (ts : List Tm), vs = [wdV (movC ns kd many ts)] ∧ MovF ns kd many ts ∧ ∀ a H', Mv [] H H' → MovAt K H' C a ns kd many ts → Q (.ref a) H'
theorem rd_isTupW {K : PySem.W.Frag} {H : Hp} {a : Addr} {xs : List V} {Q : VK} (h : SqT K H a xs) (q : Q (.bl true) H) : rIsi K [.ref a, .ty "tuple"] H Q := ⟨.ref a, .ty "tuple", _, _, true, rfl, .ty "tuple", tyx_sqT h, kit_ty (a := "tuple") (by decide +kernel), q⟩
mutual
theorem cst_nodN : ∀ t : Tm, t.cst + 2 ≤ 96 * Tm.nod [t]
  | .var i => by rw [Tm.nod_var]; simp [Tm.cst]
  | .op x ts => by
    have := csts_nodN ts
    rw [Tm.nod_op]
    simp only [Tm.cst]
    omega
theorem csts_nodN : ∀ ts : List Tm, Tm.csts ts ≤ 96 * Tm.nod ts
  | [] => by simp [Tm.csts]
  | t :: ts => by
    have h1 := cst_nodN t
    have h2 := csts_nodN ts
    have e : Tm.nod (t :: ts) = Tm.nod [t] + Tm.nod ts := by rw [show t :: ts = [t] ++ ts from rfl, Tm.nod_append]
    rw [e]
    simp only [Tm.csts]
    omega
end
theorem movP_len {ns : List Int} {kd : Str} {many : Int} {ts : List Tm} (h : MovF ns kd many ts) : ((movP ns kd many ts).map List.length).sum ≤ 80300 ∧ (movP ns kd many ts).length = 7 := by
  obtain ⟨n0, n1, n2, n3, rfl⟩ : ∃ n0 n1 n2 n3, ns = [n0, n1, n2, n3] := by
    have := h.len
    match ns, this with
    | [n0, n1, n2, n3], _ => exact ⟨n0, n1, n2, n3, rfl⟩
  have a0 := num_len (h.num n0 (by simp))
  have a1 := num_len (h.num n1 (by simp))
  have a2 := num_len (h.num n2 (by simp))
  have a3 := num_len (h.num n3 (by simp))
  have a4 := num_len h.mny
  have a5 := txF_lis h.tx
  have a6 : kd.cps.toList.length ≤ 4 := by
    rcases h.kind with e | e <;> (rw [e]; decide +kernel)
  refine ⟨?_, rfl⟩
  show (TL.numL n0.toNat).length + ((TL.numL n1.toNat).length + ((TL.numL n2.toNat).length + ((TL.numL n3.toNat).length + (kd.cps.toList.length + ((TL.numL many.toNat).length + ((lisC ts).length + 0)))))) ≤ 80300
  omega
theorem joinL_sum32 : ∀ (l : List (List Nat)), (l.map List.length).sum + (l.length - 1) = (TL.joinL [32] l).length
  | [] => rfl
  | [q] => by simp [TL.joinL]
  | q :: q' :: l => by
    have := joinL_sum32 (q' :: l)
    simp only [TL.joinL, List.length_append, List.map_cons, List.sum_cons, List.length_cons, List.length_nil] at this ⊢
    omega
theorem joinL_two (a b : List Nat) : ∀ l : List (List Nat), TL.joinL [32] (l ++ [a ++ 32 :: b]) = TL.joinL [32] (l ++ [a, b])
  | [] => by simp [TL.joinL]
  | [p] => by simp [TL.joinL]
  | p :: q :: l => by
    have := joinL_two a b (q :: l)
    simp only [List.cons_append, TL.joinL] at this ⊢
    rw [this]
theorem join_mov {ns : List Int} {kd : Str} {many : Int} {ts : List Tm} : Txt.join (Str.ofString " ") ((movP ns kd many ts).map SX.S) = SX.S (movC ns kd many ts) := by
  rw [show Str.ofString " " = SX.S [32] by decide +kernel, SX.join_S]
  rfl
mutual
theorem cx_sp : ∀ t : Tm, t.ok P40 → ∀ c ∈ t.cx, c ≠ 32
  | .var i, _, c, hc => by
    have := TL.numL_digits i.toNat c hc
    omega
  | .op x ts, h, c, hc => by
    rw [Tm.cx, List.mem_append] at hc
    rcases hc with hc | hc
    · have := h.1.2.2 c hc
      omega
    · exact cxP_sp ts h.2.2 c hc
theorem cxP_sp : ∀ ts : List Tm, Tm.oks P40 ts → ∀ c ∈ Tm.cxP ts, c ≠ 32
  | [], _, c, hc => by cases hc
  | t :: ts, h, c, hc => by
    rw [Tm.cxP, List.mem_cons, List.mem_append] at hc
    rcases hc with rfl | hc | hc
    · decide
    · exact cx_sp t h.1 c hc
    · exact cxs_sp ts h.2 c hc
theorem cxs_sp : ∀ ts : List Tm, Tm.oks P40 ts → ∀ c ∈ Tm.cxs ts, c ≠ 32
  | [], _, c, hc => by
    rw [Tm.cxs, List.mem_singleton] at hc
    omega
  | t :: ts, h, c, hc => by
    rw [Tm.cxs, List.mem_cons, List.mem_append] at hc
    rcases hc with rfl | hc | hc
    · decide
    · exact cx_sp t h.1 c hc
    · exact cxs_sp ts h.2 c hc
end
theorem movP_sp {ns : List Int} {kd : Str} {many : Int} {ts : List Tm} (h : MovF ns kd many ts) : ∀ p ∈ movP ns kd many ts, (32 : Nat) ∉ p := fun p hp hm => by
  have hn : ∀ n, (32 : Nat) ∉ TL.numL n := fun n => TL.numL_free (by decide)
  rw [movP, List.mem_append] at hp
  rcases hp with hp | hp
  · obtain ⟨i, _, rfl⟩ := List.mem_map.mp hp
    exact hn _ hm
  · simp only [List.mem_cons, List.not_mem_nil, or_false] at hp
    rcases hp with rfl | rfl | rfl
    · rcases h.kind with e | e <;> (rw [e] at hm; exact absurd hm (by decide +kernel))
    · exact hn _ hm
    · cases ts with
      | nil => exact absurd hm (by decide)
      | cons t ts =>
        rw [lisC_cons] at hm
        exact cxP_sp _ h.tx.ok _ hm rfl
theorem split_mov {ns : List Int} {kd : Str} {many : Int} {ts : List Tm} (h : MovF ns kd many ts) : Txt.split (SX.S (movC ns kd many ts)) (Str.ofString " ") = (movP ns kd many ts).map SX.S := by
  have hl := (movP_len h).2
  rw [show Str.ofString " " = SX.S [32] by decide +kernel, SX.split_S (by simp) (by decide), movC, TL.spl_join (fun z => by rw [z] at hl; cases hl) (movP_sp h)]
theorem nilT95 {K : PySem.W.Frag} {σ : L2.St} {x : V} {H : Hp} {Q : VK} (h : rTupOf K [x] H Q) : tNil σ H (fun xs H2 => rTupOf K (x :: xs) H2 Q) := h
section
variable {P : Program} {w : World} {K : PySem.W.Frag} {mg : Str → Option Value} {base : Heap}
theorem ok_show_recipe (T : TX K mg) {k : Nat} : FnOk P w K mg base CX0 (k + 51) T.d_show_recipe.f T.d_show_recipe.fd P_show_recipe (sp_shRec K T.C_Recipe) := by
  have G_listed : FnOk P w K mg base CX0 50 T.d_listed.f T.d_listed.fd P_listed (sp_lis K 24) := ok_listed T 24
  have G_Recipe_variables : FnOk P w K mg base CX0 1 T.d_Recipe_variables.f T.d_Recipe_variables.fd P_Recipe_variables (sp_Recvars K T.C_Recipe) := ok_Recipe_variables T
  have G_Recipe_terms : FnOk P w K mg base CX0 1 T.d_Recipe_terms.f T.d_Recipe_terms.fd P_Recipe_terms (sp_Recterms K T.C_Recipe) := ok_Recipe_terms T
  refine T.d_show_recipe.F.ok sc_show_recipe (fun vs H Q E h => ?_) (fun cdv A outer s H vs Q E hr h => ?_)
  · obtain ⟨_, _, _, rfl, _⟩ := h
    rfl
  · obtain ⟨x, many, ts, rfl, hR, hm, hF, q⟩ := h
    obtain ⟨dx, p, xs, hs, hp, hx⟩ := id hR
    refine ⟨_, (pss_one (ps_ret (pe_joined (PJ.cons (pe_fmt (pe_propSl (pv 0) T.c_Recipe T.d_Recipe_variables.at_ T.d_Recipe_variables.get T.d_Recipe_variables.tk T.d_Recipe_variables.rc (fnR_of G_Recipe_variables T.d_Recipe_variables.b) (hr.mono (by omega)) no0)) (PJ.cons pe_str (PJ.cons (pe_fmt (pe_call G_listed (hr.mono (by omega)) rfl T.d_listed.g T.d_listed.F.kp T.d_listed.b .nil pass0 (pa_cons (pe_propSl (pv 0) T.c_Recipe T.d_Recipe_terms.at_ T.d_Recipe_terms.get T.d_Recipe_terms.tk T.d_Recipe_terms.rc (fnR_of G_Recipe_terms T.d_Recipe_terms.b) (hr.mono (by omega)) no0) pa_nil))) PJ.nil)))))), ?_⟩
    have hlc := txF_lis hF
    have hd := hF.dep
    refine ⟨.ref x, rfl, x, dx, _, rfl, hs, x, many, ts, rfl, hR, Or.inr ⟨many, rfl, num_log hm.2, ?_⟩⟩
    rw [num_str hm.1]
    have hnl := num_len hm
    have hsz : ∀ n : Nat, n ≤ 100000 → n ≤ sizeLine := fun n h => Nat.le_trans h (by decide)
    refine ⟨_, rfl, hsz _ (by show (SX.S [] ++ SX.S (TL.numL many.toNat)).length ≤ 100000; rw [SX.S_cat, SX.S_len, List.nil_append]; omega), ?_⟩
    rw [show Str.ofString " " = SX.S [32] by decide +kernel]
    refine ⟨_, rfl, hsz _ (by show (SX.S [] ++ SX.S (TL.numL many.toNat) ++ SX.S [32]).length ≤ 100000; rw [SX.S_cat, SX.S_cat, SX.S_len, List.nil_append, List.length_append]; simp; omega), ?_⟩
    refine ⟨.ref x, rfl, x, dx, _, rfl, hs, x, many, ts, rfl, hR, fun v im => ?_⟩
    obtain ⟨g, gs, rfl, hg, hgs⟩ := im.tupI
    refine ⟨g, gs, ts, rfl, hg, hgs, hF.ok, by omega, by omega, fun H1 m1 => Or.inl ⟨_, rfl, hsz _ (by rw [SX.S_len]; omega), ?_⟩⟩
    have e1 : Str.empty ++ SX.S (TL.numL many.toNat) ++ SX.S [32] = SX.S (TL.numL many.toNat ++ [32]) := by
      rw [show Str.empty ++ SX.S (TL.numL many.toNat) = SX.S (TL.numL many.toNat) from SX.S_cat [] _, SX.S_cat]
    rw [e1]
    refine ⟨_, rfl, hsz _ (by rw [SX.S_cat, SX.S_len, List.length_append, List.length_append]; simp; omega), ?_⟩
    have := q H1 m1
    rw [SX.S_cat]
    rwa [show TL.numL many.toNat ++ [32] ++ lisC ts = recC many ts by rw [recC, List.append_assoc]; rfl]
theorem ok_is_move (T : TX K mg) {k : Nat} : FnOk P w K mg base CX0 (k + 3) T.d_is_move.f T.d_is_move.fd P_is_move (sp_isMov K T.C_Recipe) := by
  have G_is_integer : FnOk P w K mg base CX0 1 T.d_is_integer.f T.d_is_integer.fd P_is_integer (sp_kind K isWhole) := ok_is_integer T
  refine T.d_is_move.F.ok sc_is_move (fun vs H Q E h => ?_) (fun cdv A outer s H vs Q E hr h => ?_)
  · obtain ⟨_, _, _, _, _, rfl, _⟩ := h
    rfl
  · obtain ⟨a, ns, kd, many, ts, rfl, ⟨rc, ha, hR⟩, hF, q⟩ := h
    have hu64 := hr.units
    have hu65 := hu65_of hr
    refine ⟨_, (pss_cons (ps_if (PW.pt (pw_or (pt_not (pt_val (pe_callB (r := rIsi K) call_isi (by rfl) T.b_isinstance bt_isinstance (pa_cons (pv 0) (pa_cons (pe_ty T.b_tuple bt_tuple) pa_nil))))) (pw_or1 (pt_cmpR (r := rNeG K) (op_neG hu64) (pe_callB (r := rLenG K) call_lenG (by rfl) T.b_len bt_len (pa_cons (pv 0) pa_nil)) pe_int (nomark _))))) (pss_one (ps_ret pe_bl)) pss_nil) (pss_cons (ps_if (pt_not (pt_val (pe_callB (r := rAll K) (cr_all rfl) (by rfl) T.b_all bt_all (pa_cons (pe_lc (own := [("number", 1)]) (g := gName 1) (by rfl) sc_is_move.nd (pi_seq (pe_slice (r := rSlG K) sl_G (pv 0) po_none (po_some pe_int))) (blkOk_by (own := [("number", 1)]) (N := N_is_move) (sc := defScope s_is_move) (by decide +kernel)) (fun _ _ _ _ _ => pg_name (i := 1) sc_is_move.nd rfl (Or.inl rfl)) (fun _ _ _ _ _ => pts_nil) (fun _ _ _ _ _ => (pe_and (pe_call G_is_integer (hr.mono (by omega)) rfl T.d_is_integer.g T.d_is_integer.F.kp T.d_is_integer.b .nil pass0 (pa_cons (pv 1) pa_nil)) (pe_one (pe_cmpR op_ge (pv 1) pe_int (nomark _)))))) pa_nil)))) (pss_one (ps_ret pe_bl)) pss_nil) (pss_one (ps_ret (pe_and (pe_callB (r := rIsiSl K (.ref T.C_Recipe)) (call_isiSl (.ref T.C_Recipe)) (by rfl) T.b_isinstance bt_isinstance (pa_cons (pe_ix (r := rIx K) ix_seq (pv 0) pe_int (fun _ _ => rfl)) (pa_cons (pe_glob rfl T.g_Recipe (show L2.RelV (.ref T.C_Recipe) _ from rfl)) pa_nil))) (pe_and (pe_callB (r := rIsi K) call_isi (by rfl) T.b_isinstance bt_isinstance (pa_cons (pe_ix (r := rIx K) ix_seq (pv 0) pe_int (fun _ _ => rfl)) (pa_cons (pe_ty T.b_str bt_str) pa_nil))) (pe_one (pe_cmpR (r := rIn K false) op_in_seq (pe_ix (r := rIx K) ix_seq (pv 0) pe_int (fun _ _ => rfl)) (pe_glob rfl T.c_KINDS (show L2.RelV (.ref T.a_KINDS) _ from rfl)) rfl)))))))), ?_⟩
    obtain ⟨n0, n1, n2, n3, rfl⟩ : ∃ n0 n1 n2 n3, ns = [n0, n1, n2, n3] := by
      have := hF.len
      match ns, this with
      | [n0, n1, n2, n3], _ => exact ⟨n0, n1, n2, n3, rfl⟩
    obtain ⟨dx, p, xs, hs, hp, hx⟩ := id hR
    refine ⟨.ref a, rfl, ?_⟩
    walk_at "nc"
    refine rd_isTupW ha ⟨_, rfl, ?_⟩
    refine ⟨.ref a, rfl, ?_⟩
    walk_at "nc"
    refine rd_len (.inr ha) (Or.inl ⟨rfl, _, rfl, ?_⟩)
    rw [show (!decide (V.int ((([n0, n1, n2, n3].map V.int ++ [.ref rc, .str kd] : List V).length : Nat) : Int) = V.int 6)) = false from rfl]
    refine ⟨.ref a, rfl, 4, rfl, ?_⟩
    refine rd_slT ha fun p1 H1 m1 e1 => ?_
    have e1 : SqT K H1 p1 ([n0, n1, n2, n3].map V.int) := by
      rw [show (4 : Int) = ((4 : Nat) : Int) from rfl, cut_hi] at e1
      exact e1
    refine ⟨p1, rfl, ?_⟩
    refine lc_seq (xs := [n0, n1, n2, n3].map V.int) (.inr e1) (fun i D H2 => H2 D = some (.lst (List.replicate i (.bl true))) ∧ Mv [] H1 H2)
      (fun D nD => ⟨upd_same, .new nD⟩) (fun i D H2 nD h2 => h2.2) (fun D nD i x H2 hx h2 => ?_) (fun D H2 nD h2 => ?_)
    · obtain ⟨e2, m2⟩ := h2
      rw [List.getElem?_map] at hx
      obtain ⟨u, hu, rfl⟩ := Option.map_eq_some_iff.mp hx
      have hi := (List.getElem?_eq_some_iff.mp hu).1
      have h0 := (hF.num u (List.mem_of_getElem? hu)).1
      refine ⟨rfl, .int u, rfl, .int u, .int u, 0, rfl, rfl, fun H3 m3 => ?_⟩
      refine ⟨_, rfl, ?_⟩
      refine ⟨.int u, rfl, u, 0, rfl, rfl, _, m3.same _ _ e2, ?_, ?_, (m2.trans m3).wr nD⟩
      · rw [List.length_replicate]
        exact line5lt (by simp at hi; omega)
      · show upd H3 D _ D = _
        rw [upd_same, List.replicate_succ']
        show some (HO.lst (List.replicate i (V.bl true) ++ [V.bl (decide (0 ≤ u))])) = _
        rw [decide_eq_true h0]
    · obtain ⟨e2, m2⟩ := h2
      refine ⟨D, [true, true, true, true], rfl, .inl (.inl e2), ?_⟩
      refine ⟨_, rfl, ?_⟩
      have m12 := m1.trans m2
      have ha2 := m12.sqT ha
      refine ⟨.ref a, rfl, rd_ixT ha2 (by decide) (v := .ref rc) rfl ?_⟩
      refine ⟨rc, T.C_Recipe, dx, _, .ref T.C_Recipe, true, rfl, rfl, fun _ h => h, Slt.mv hs m12, T.c_Recipe, T.is_Recipe, kitOne_self _, ?_⟩
      refine ⟨_, rfl, ?_⟩
      refine ⟨.ref a, rfl, rd_ixT ha2 (by decide) (v := .str kd) rfl ?_⟩
      walk_at "nc"
      refine rd_isStrW ?_
      refine ⟨_, rfl, ?_⟩
      refine ⟨.ref a, rfl, rd_ixT ha2 (by decide) (v := .str kd) rfl ?_⟩
      refine ⟨_, _, rfl, .inr (T.q_KINDS H2), rfl, rfl, ?_⟩
      have hin : inV (.str kd) [.str "may", .str "must"] = true := by
        rcases hF.kind with h | h <;> (rw [h]; decide +kernel)
      show Q (.bl (if false = true then _ else inV (.str kd) [.str "may", .str "must"])) H2
      rw [hin]
      exact q H2 m12
theorem ok_show_move (T : TX K mg) {k : Nat} : FnOk P w K mg base CX0 (k + 52) T.d_show_move.f T.d_show_move.fd P_show_move (sp_shMov K T.C_Recipe) := by
  have G_show_recipe : FnOk P w K mg base CX0 51 T.d_show_recipe.f T.d_show_recipe.fd P_show_recipe (sp_shRec K T.C_Recipe) := ok_show_recipe (k := 0) T
  refine T.d_show_move.F.ok sc_show_move (fun vs H Q E h => ?_) (fun cdv A outer s H vs Q E hr h => ?_)
  · obtain ⟨_, _, _, _, _, rfl, _⟩ := h
    rfl
  · obtain ⟨a, ns, kd, many, ts, rfl, ⟨rc, ha, hR⟩, hF, q⟩ := h
    obtain ⟨hsum, hlen⟩ := movP_len hF
    refine ⟨_, (pss_one (ps_ret (pe_bm PySem.F.plainAttrs_str PySem.F.slot_str_join PySem.F.type_str_join mt_join pe_str (pa_cons (pe_op (r := rAddG K) op_addG (pe_lc (own := [("number", 1)]) (g := gName 1) (by rfl) sc_show_move.nd (pi_seq (pe_slice (r := rSlG K) sl_G (pv 0) po_none (po_some pe_int))) (blkOk_by (own := [("number", 1)]) (N := N_show_move) (sc := defScope s_show_move) (by decide +kernel)) (fun _ _ _ _ _ => pg_name (i := 1) sc_show_move.nd rfl (Or.inl rfl)) (fun _ _ _ _ _ => pts_nil) (fun _ _ _ _ _ => (pe_callTy call_str_int (by rfl) T.b_str bt_str (pa_cons (pv 1) pa_nil)))) (pe_lst (pa_cons (pe_ix (r := rIx K) ix_seq (pv 0) pe_int (fun _ _ => rfl)) (pa_cons (pe_call G_show_recipe (hr.mono (by omega)) rfl T.d_show_recipe.g T.d_show_recipe.F.kp T.d_show_recipe.b .nil pass0 (pa_cons (pe_ix (r := rIx K) ix_seq (pv 0) pe_int (fun _ _ => rfl)) pa_nil)) pa_nil)))) pa_nil)))), ?_⟩
    have hnl := hF.len
    refine ⟨rfl, .ref a, rfl, 4, rfl, ?_⟩
    refine rd_slT ha fun p1 H1 m1 e1 => ?_
    have e1 : SqT K H1 p1 (ns.map V.int) := by
      rw [show (4 : Int) = ((4 : Nat) : Int) from rfl, cut_hi, List.take_append_of_le_length (by rw [List.length_map]; omega), List.take_of_length_le (by rw [List.length_map]; omega)] at e1
      exact e1
    refine ⟨p1, rfl, ?_⟩
    refine lc_seq (xs := ns.map V.int) (.inr e1) (fun i D H2 => H2 D = some (.lst (((ns.take i).map fun i => TL.numL i.toNat).map wdV)) ∧ Mv [] H1 H2)
      (fun D nD => ⟨upd_same, .new nD⟩) (fun i D H2 nD h2 => h2.2) (fun D nD i x H2 hx h2 => ?_) (fun D H2 nD h2 => ?_)
    · obtain ⟨e2, m2⟩ := h2
      rw [List.getElem?_map] at hx
      obtain ⟨u, hu, rfl⟩ := Option.map_eq_some_iff.mp hx
      have hi := (List.getElem?_eq_some_iff.mp hu).1
      have h0 := hF.num u (List.mem_of_getElem? hu)
      refine ⟨rfl, .int u, rfl, u, rfl, num_log h0.2, _, e2, ?_, ?_, m2.wr nD⟩
      · rw [List.length_map, List.length_map, List.length_take]
        exact line5lt (by omega)
      · rw [upd_same, List.take_add_one, hu, num_str h0.1]
        simp
    · obtain ⟨e2, m2⟩ := h2
      rw [List.length_map, List.take_length] at e2
      have m12 := m1.trans m2
      have ha2 := m12.sqT ha
      have hk5 : (ns.map V.int ++ [.ref rc, .str kd] : List V)[(5 : Int).toNat]? = some (.str kd) := by
        rw [show (5 : Int).toNat = 5 from rfl, List.getElem?_append_right (by rw [List.length_map]; omega), List.length_map, hnl]
        rfl
      have hk4 : (ns.map V.int ++ [.ref rc, .str kd] : List V)[(4 : Int).toNat]? = some (.ref rc) := by
        rw [show (4 : Int).toNat = 4 from rfl, List.getElem?_append_right (by rw [List.length_map]; omega), List.length_map, hnl]
        rfl
      refine ⟨.ref a, rfl, rd_ixT ha2 (by decide) hk5 ⟨.ref a, rfl, rd_ixT ha2 (by decide) hk4 ?_⟩⟩
      refine ⟨rc, many, ts, rfl, hR.mv m12, hF.mny, hF.tx, fun H3 m3 => ⟨(by decide : 2 ≤ sizeLine), fun p4 np4 => ?_⟩⟩
      have m4 : Mv [] H3 (upd H3 p4 (.lst [.str kd, wdV (recC many ts)])) := .new np4
      have e4 : upd H3 p4 (.lst [.str kd, wdV (recC many ts)]) p4 = some (.lst [.str kd, wdV (recC many ts)]) := upd_same
      generalize upd H3 p4 (.lst [.str kd, wdV (recC many ts)]) = H4 at m4 e4 ⊢
      refine rd_catL ((m3.trans m4).same _ _ e2) e4 (by rw [List.length_map, List.length_map, hnl]; exact (by decide : 4 + 2 ≤ sizeLine)) fun p5 H5 n5 m5 e5 => ?_
      have hys : (((ns.map fun i => TL.numL i.toNat).map wdV) ++ [.str kd, wdV (recC many ts)] : List V) = (((ns.map fun i => TL.numL i.toNat) ++ [kd.cps.toList, recC many ts]).map SX.S).map V.str := by
        rw [List.map_append, List.map_append, List.map_map]
        congr 1
        rw [List.map_map, List.map_map]
        rfl
      rw [hys] at e5
      refine ⟨_, p5, _, rfl, rfl, .inl (.inl (.inl e5)), ?_, ?_⟩
      · rw [SX.lens, List.length_map, show (Str.ofString " ").length = 1 by decide +kernel]
        have h1 : ((movP ns kd many ts).map List.length).sum = ((ns.map fun i => TL.numL i.toNat).map List.length).sum + (kd.cps.toList.length + ((TL.numL many.toNat).length + (lisC ts).length)) := by
          rw [movP, List.map_append, List.sum_append]
          simp
        have h2 : ((((ns.map fun i => TL.numL i.toNat) ++ [kd.cps.toList, recC many ts])).map fun x => x.length).sum = ((ns.map fun i => TL.numL i.toNat).map List.length).sum + (kd.cps.toList.length + (recC many ts).length) := by
          rw [List.map_append, List.sum_append]
          simp
        rw [h2, List.length_append, List.length_map, hnl]
        have h3 : (recC many ts).length = (TL.numL many.toNat).length + ((lisC ts).length + 1) := by rw [recC, List.length_append]; rfl
        have e9 : ([kd.cps.toList, recC many ts] : List (List Nat)).length = 2 := rfl
        rw [e9]
        omega
      · have ej : Txt.join (Str.ofString " ") (((ns.map fun i => TL.numL i.toNat) ++ [kd.cps.toList, recC many ts]).map SX.S) = SX.S (movC ns kd many ts) := by
          rw [show Str.ofString " " = SX.S [32] by decide +kernel, SX.join_S, movC, movP, recC]
          have := joinL_two (TL.numL many.toNat) (lisC ts) ((ns.map fun i => TL.numL i.toNat) ++ [kd.cps.toList])
          rw [List.append_assoc, List.append_assoc] at this
          exact congrArg SX.S this
        rw [ej]
        exact q H5 (m12.trans (m3.trans (m4.trans m5)))
theorem ok__law_move_text (T : TX K mg) {k : Nat} : FnOk P w K mg base CX0 (k + 51) T.d__law_move_text.f T.d__law_move_text.fd P__law_move_text (sp_lmov K) := by
  have G__law_listed_text : FnOk P w K mg base CX0 50 T.d__law_listed_text.f T.d__law_listed_text.fd P__law_listed_text (sp_lis K 24) := ok__law_listed_text T 24
  refine T.d__law_move_text.F.ok sc__law_move_text (fun vs H Q E h => ?_) (fun cdv A outer s H vs Q E hr h => ?_)
  · obtain ⟨_, _, _, _, _, _, _, rfl, _⟩ := h
    rfl
  · obtain ⟨a, t, xs, ns, kd, many, ts, rfl, ha, ht, hxs, hF, q⟩ := h
    obtain ⟨hsum, hlen⟩ := movP_len hF
    have hnl := hF.len
    have hd := hF.tx.dep
    have hlc := txF_lis hF.tx
    refine ⟨_, (pss_one (ps_ret (pe_bm PySem.F.plainAttrs_str PySem.F.slot_str_join PySem.F.type_str_join mt_join pe_str (pa_cons (pe_op (r := rAddG K) op_addG (pe_lc (own := [("_law_one", 4)]) (g := gName 4) (by rfl) sc__law_move_text.nd (pi_seq (pv 0)) (blkOk_by (own := [("_law_one", 4)]) (N := N__law_move_text) (sc := defScope s__law_move_text) (by decide +kernel)) (fun _ _ _ _ _ => pg_name (i := 4) sc__law_move_text.nd rfl (Or.inl rfl)) (fun _ _ _ _ _ => pts_nil) (fun _ _ _ _ _ => (pe_callTy call_str_int (by rfl) T.b_str bt_str (pa_cons (pv 4) pa_nil)))) (pe_lst (pa_cons (pv 1) (pa_cons (pe_callTy call_str_int (by rfl) T.b_str bt_str (pa_cons (pv 2) pa_nil)) (pa_cons (pe_call G__law_listed_text (hr.mono (by omega)) rfl T.d__law_listed_text.g T.d__law_listed_text.F.kp T.d__law_listed_text.b .nil pass0 (pa_cons (pv 3) pa_nil)) pa_nil))))) pa_nil)))), ?_⟩
    refine ⟨rfl, .ref a, rfl, a, rfl, ?_⟩
    refine lc_seq (xs := ns.map V.int) (.inr ha) (fun i D H2 => H2 D = some (.lst (((ns.take i).map fun i => TL.numL i.toNat).map wdV)) ∧ Mv [] H H2)
      (fun D nD => ⟨upd_same, .new nD⟩) (fun i D H2 nD h2 => h2.2) (fun D nD i x H2 hx h2 => ?_) (fun D H2 nD h2 => ?_)
    · obtain ⟨e2, m2⟩ := h2
      rw [List.getElem?_map] at hx
      obtain ⟨u, hu, rfl⟩ := Option.map_eq_some_iff.mp hx
      have hi := (List.getElem?_eq_some_iff.mp hu).1
      have h0 := hF.num u (List.mem_of_getElem? hu)
      refine ⟨rfl, .int u, rfl, u, rfl, num_log h0.2, _, e2, ?_, ?_, m2.wr nD⟩
      · rw [List.length_map, List.length_map, List.length_take]
        exact line5lt (by omega)
      · rw [upd_same, List.take_add_one, hu, num_str h0.1]
        simp
    · obtain ⟨e2, m2⟩ := h2
      rw [List.length_map, List.take_length] at e2
      refine ⟨.str kd, rfl, .int many, rfl, many, rfl, num_log hF.mny.2, .ref t, rfl, t, xs, ts, rfl, m2.sqT ht, hxs.mv m2, hF.tx.ok, by omega, by omega, fun H3 m3 => ⟨(by decide : 3 ≤ sizeLine), fun p4 np4 => ?_⟩⟩
      rw [num_str hF.mny.1]
      have m4 : Mv [] H3 (upd H3 p4 (.lst [.str kd, wdV (TL.numL many.toNat), wdV (lisC ts)])) := .new np4
      have e4 : upd H3 p4 (.lst [.str kd, wdV (TL.numL many.toNat), wdV (lisC ts)]) p4 = some (.lst [.str kd, wdV (TL.numL many.toNat), wdV (lisC ts)]) := upd_same
      generalize upd H3 p4 (.lst [.str kd, wdV (TL.numL many.toNat), wdV (lisC ts)]) = H4 at m4 e4 ⊢
      refine rd_catL ((m3.trans m4).same _ _ e2) e4 (by rw [List.length_map, List.length_map, hnl]; exact (by decide : 4 + 3 ≤ sizeLine)) fun p5 H5 n5 m5 e5 => ?_
      have hys : (((ns.map fun i => TL.numL i.toNat).map wdV) ++ [.str kd, wdV (TL.numL many.toNat), wdV (lisC ts)] : List V) = ((movP ns kd many ts).map SX.S).map V.str := by
        rw [movP, List.map_append, List.map_append, List.map_map]
        congr 1
        rw [List.map_map, List.map_map]
        rfl
      rw [hys] at e5
      refine ⟨_, p5, _, rfl, rfl, .inl (.inl (.inl e5)), ?_, ?_⟩
      · rw [SX.lens, List.length_map, show (Str.ofString " ").length = 1 by decide +kernel, hlen]
        have h2 : ((movP ns kd many ts).map fun x => x.length).sum = ((movP ns kd many ts).map List.length).sum := rfl
        rw [h2]
        omega
      · rw [join_mov]
        exact q H5 (m2.trans (m3.trans (m4.trans m5)))
theorem ok_read_move (T : TX K mg) (Y : TY P K mg) {k : Nat} : FnOk P w K mg base CX0 (k + 53) T.d_read_move.f T.d_read_move.fd P_read_move (sp_rdMov K T.C_Recipe) := by
  have G_need : FnOk P w K mg base CX0 1 T.d_need.f T.d_need.fd P_need sp_need := ok_need (k := 0) T
  have G_read_integer : FnOk P w K mg base CX0 2 T.d_read_integer.f T.d_read_integer.fd P_read_integer sp_readN := ok_read_integer (k := 0) T
  have G_read_listed : FnOk P w K mg base CX0 51 T.d_read_listed.f T.d_read_listed.fd P_read_listed (sp_readL K) := ok_read_listed (k := 0) T
  have G_Recipe___init__ : FnOk P w K mg base (CX P w) 5 T.d_Recipe___init__.f T.d_Recipe___init__.fd P_Recipe___init__ (sp_RecT K T.C_Recipe Y.C_Wrong) := ok_Recipe___init__ T Y
  have G_is_move : FnOk P w K mg base CX0 3 T.d_is_move.f T.d_is_move.fd P_is_move (sp_isMov K T.C_Recipe) := ok_is_move (k := 0) T
  refine T.d_read_move.F.ok sc_read_move (fun vs H Q E h => ?_) (fun cdv A outer s H vs Q E hr h => ?_)
  · obtain ⟨_, _, _, _, rfl, _⟩ := h
    rfl
  · obtain ⟨ns, kd, many, ts, rfl, hF, q⟩ := h
    have hu64 := hr.units
    obtain ⟨hsum, hlen⟩ := movP_len hF
    have hjs := joinL_sum32 (movP ns kd many ts)
    have hcl : (movC ns kd many ts).length ≤ 80310 := by
      rw [hlen] at hjs
      unfold movC
      omega
    have hnl := hF.len
    refine ⟨_, (pss_cons (ps_expr (pe_call G_need (hr.mono (by omega)) rfl T.d_need.g T.d_need.F.kp T.d_need.b .nil pass0 (pa_cons (pe_callB (r := rIsi K) call_isi (by rfl) T.b_isinstance bt_isinstance (pa_cons (pv 0) (pa_cons (pe_ty T.b_str bt_str) pa_nil))) pa_nil))) (pss_cons (ps_set (i := 1) sc_read_move.nd rfl (Or.inl rfl) (pe_bm PySem.F.plainAttrs_str PySem.F.slot_str_split PySem.F.type_str_split mt_split (pv 0) (pa_cons pe_str pa_nil))) (pss_cons (ps_expr (pe_call G_need (hr.mono (by omega)) rfl T.d_need.g T.d_need.F.kp T.d_need.b .nil pass0 (pa_cons (pe_cmpR (r := rEqG K) (op_eqG hu64) (pe_callB (r := rLenG K) call_lenG (by rfl) T.b_len bt_len (pa_cons (pv 1) pa_nil)) pe_int (nomark _)) pa_nil))) (pss_cons (ps_setLc (i := 2) (own := [("word", 7)]) (g := gName 7) (by rfl) sc_read_move.nd rfl rfl (sw_true rfl rfl rfl (by decide +kernel)) (pi_seq (pe_slice (r := rSlG K) sl_G (pv 1) po_none (po_some pe_int))) (blkOk_by (own := [("word", 7)]) (N := N_read_move) (sc := defScope s_read_move) (by decide +kernel)) (fun _ _ _ _ _ => pg_name (i := 7) sc_read_move.nd rfl (Or.inl rfl)) (fun _ _ _ _ _ => pts_nil) (fun _ _ _ _ _ => (pe_call G_read_integer (hr.mono (by omega)) rfl T.d_read_integer.g T.d_read_integer.F.kp T.d_read_integer.b .nil pass0 (pa_cons (pv 7) pa_nil)))) (pss_cons (ps_par (i := 3) (j := 4) rfl sc_read_move.nd rfl rfl (by decide) rfl rfl (pa_cons (pe_call G_read_integer (hr.mono (by omega)) rfl T.d_read_integer.g T.d_read_integer.F.kp T.d_read_integer.b .nil pass0 (pa_cons (pe_ix (r := rIx K) ix_seq (pv 1) pe_int (fun _ _ => rfl)) pa_nil)) (pa_cons (pe_call G_read_listed (hr.mono (by omega)) rfl T.d_read_listed.g T.d_read_listed.F.kp T.d_read_listed.b .nil pass0 (pa_cons (pe_ix (r := rIx K) ix_seq (pv 1) pe_int (fun _ _ => rfl)) pa_nil)) pa_nil)) rfl) (pss_cons (ps_try_thru0 (pss_one (ps_set (i := 5) sc_read_move.nd rfl (Or.inl rfl) (pe_makeS ⟨T.mk_Recipe, T.d_Recipe___init__.M.at_, T.d_Recipe___init__.M.fn, T.k_Recipe⟩ G_Recipe___init__ (hr.mono (by omega)) rfl T.g_Recipe T.d_Recipe___init__.b (fun σ => passAt takes0 σ) (pa_cons (pv 3) (pa_cons (pv 4) pa_nil)))))) (pss_cons (ps_set (i := 6) sc_read_move.nd rfl (Or.inl rfl) (pe_op (r := rAddG K) op_addG (pe_callTy (r := rTupOf K) call_tupG (by rfl) T.b_tuple bt_tuple (pa_cons (pv 2) pa_nil)) (pe_tup (pa_cons (pv 5) (pa_cons (pe_ix (r := rIx K) ix_seq (pv 1) pe_int (fun _ _ => rfl)) pa_nil))))) (pss_cons (ps_expr (pe_call G_need (hr.mono (by omega)) rfl T.d_need.g T.d_need.F.kp T.d_need.b .nil pass0 (pa_cons (pe_call G_is_move (hr.mono (by omega)) rfl T.d_is_move.g T.d_is_move.F.kp T.d_is_move.b .nil pass0 (pa_cons (pv 6) pa_nil)) pa_nil))) (pss_one (ps_ret (pv 6))))))))))), ?_⟩
    refine ⟨wdV (movC ns kd many ts), rfl, ?_⟩
    walk_at "nc"
    refine rd_isStrW ⟨rfl, ?_⟩
    refine ⟨wdV (movC ns kd many ts), rfl, rfl, _, _, rfl, rfl, rfl, ?_, fun p np => ?_⟩
    · rw [SX.S_len]
      exact Nat.le_trans (show _ ≤ 80320 by omega) (by decide)
    rw [split_mov hF]
    have m1 : Mv [] H (upd H p (.lst (((movP ns kd many ts).map SX.S).map V.str))) := .new np
    have e1 : upd H p (.lst (((movP ns kd many ts).map SX.S).map V.str)) p = some (.lst ((movP ns kd many ts).map wdV)) := by rw [upd_same, List.map_map]; rfl
    generalize upd H p (.lst (((movP ns kd many ts).map SX.S).map V.str)) = H1 at m1 e1 ⊢
    refine ⟨.ref p, rfl, ?_⟩
    walk_at "nc"
    refine rd_len (.inl (.inl (.inl e1))) (Or.inl ⟨rfl, ?_⟩)
    rw [List.length_map, hlen]
    refine ⟨rfl, ?_⟩
    refine ⟨.ref p, rfl, 4, rfl, Or.inl ⟨p, _, rfl, .inl (.inl e1), fun p2 np2 => ?_⟩⟩
    rw [show (4 : Int) = ((4 : Nat) : Int) from rfl, cut_hi]
    have e2' : ((movP ns kd many ts).map wdV).take 4 = (ns.map fun i => TL.numL i.toNat).map wdV := by
      rw [movP, List.map_append, List.take_append_of_le_length (by rw [List.length_map, List.length_map]; omega), List.take_of_length_le (by rw [List.length_map, List.length_map]; omega)]
    rw [e2']
    have m2 : Mv [] H1 (upd H1 p2 (.lst ((ns.map fun i => TL.numL i.toNat).map wdV))) := .new np2
    have e2 : upd H1 p2 (.lst ((ns.map fun i => TL.numL i.toNat).map wdV)) p2 = some (.lst ((ns.map fun i => TL.numL i.toNat).map wdV)) := upd_same
    generalize upd H1 p2 (.lst ((ns.map fun i => TL.numL i.toNat).map wdV)) = H2 at m2 e2 ⊢
    refine ⟨p2, rfl, ?_⟩
    refine lc_seq (xs := (ns.map fun i => TL.numL i.toNat).map wdV) (.inl (.inl (.inl e2))) (fun i D H3 => H3 D = some (.lst ((ns.take i).map V.int)) ∧ Mv [] H2 H3)
      (fun D nD => ⟨upd_same, .new nD⟩) (fun i D H3 nD h3 => h3.2) (fun D nD i x H3 hx h3 => ?_) (fun D H3 nD h3 => ?_)
    · obtain ⟨e3, m3⟩ := h3
      rw [List.getElem?_map, List.getElem?_map] at hx
      obtain ⟨w', hw', rfl⟩ := Option.map_eq_some_iff.mp hx
      obtain ⟨u, hu, rfl⟩ := Option.map_eq_some_iff.mp hw'
      have hi := (List.getElem?_eq_some_iff.mp hu).1
      have h0 := hF.num u (List.mem_of_getElem? hu)
      refine ⟨rfl, _, rfl, _, u.toNat, rfl, natI_num (by have := h0.2; omega), fun H4 m4 => ?_⟩
      have e4 := m4.same _ _ e3
      refine ⟨_, e4, ?_, ?_, (m3.trans m4).wr nD⟩
      · rw [List.length_map, List.length_take]
        exact line5lt (by omega)
      · rw [upd_same, List.take_add_one, hu, show ((u.toNat : Nat) : Int) = u by have := h0.1; omega]
        simp
    · obtain ⟨e3, m3⟩ := h3
      rw [List.length_map, List.length_map, List.take_length] at e3
      have m13 := m2.trans m3
      have e13 := m13.same _ _ e1
      have hk : ∀ (i : Nat), ((movP ns kd many ts).map wdV)[4 + i]? = (([kd.cps.toList, TL.numL many.toNat, lisC ts] : List (List Nat)).map wdV)[i]? := fun i => by
        rw [movP, List.map_append, List.getElem?_append_right (by rw [List.length_map, List.length_map]; omega), List.length_map, List.length_map, hnl]
        congr 1
        omega
      refine ⟨.ref p, rfl, rd_ixL (.inl (.inl e13)) (by decide) (v := wdV (TL.numL many.toNat)) (hk 1) ?_⟩
      refine ⟨_, many.toNat, rfl, natI_num (by have := hF.mny.2; omega), fun H4 m4 => ?_⟩
      rw [show ((many.toNat : Nat) : Int) = many by have := hF.mny.1; omega]
      have e14 := m4.same _ _ e13
      refine ⟨.ref p, rfl, rd_ixL (.inl (.inl e14)) (by decide) (v := wdV (lisC ts)) (hk 2) ?_⟩
      refine ⟨ts, rfl, hF.tx, hF.few, fun v H5 m5 im => ?_⟩
      obtain ⟨g, gs, rfl, hg, hgs⟩ := im.tupI
      refine ⟨_, _, rfl, ?_⟩
      refine ⟨.int many, rfl, .ref g, rfl, ?_⟩
      intro z dz nz ndz hne
      have hm0 := hF.mny.1
      obtain ⟨hgood, hbd⟩ := rec_good (xs := gs) hm0 hF.over (by have := hF.few; omega) (fun t ht => by
        have h1 := (hF.tx.one ht)
        have h2 := cst_nodN t
        have h3 := h1.nod
        have h4 : t.lv ≤ Tm.nod [t] := by
          unfold Tm.nod
          simp only [Tm.sizes, Tm.lvs]
          omega
        omega)
      have hall : IsAll K z H5 gs (Tm.ths ts) := IsAll.of_ims ts gs hF.tx.ok hgs
      refine ⟨z, dz, .int many, .ref g, z, .int many, _, H5, rfl, rfl, nz, ndz, hne, rfl, .tup hg hall, fun r hr' => ?_, fun k hk => ?_, fun many' r h1 h2 h3 p4 H6 m6 s6 e6 => ?_⟩
      · cases hr'
        exact hbd
      · rw [hgood] at hk
        cases hk
      · cases h1
        cases h2
        refine ⟨rfl, ?_⟩
        have m36 := m4.trans (m5.trans m6)
        have hR : RecAt K H6 T.C_Recipe z many ts := ⟨dz, p4, gs, s6, e6, hgs.mv m6⟩
        have e36 := m36.same _ _ e3
        have e16 := (m5.trans m6).same _ _ e14
        refine ⟨.ref D, rfl, nilT95 (rd_tupOf (.inl (.inl e36)) fun p7 H7 m7 e7 => ⟨.ref z, rfl, .ref p, rfl, rd_ixL (.inl (.inl (m7.same _ _ e16))) (by decide) (v := wdV kd.cps.toList) (hk 0) ⟨(by decide : 2 ≤ sizeLine), fun p8 np8 => ?_⟩⟩)⟩
        have m8 : Mv [] H7 (upd H7 p8 (.tup [.ref z, wdV kd.cps.toList])) := .new np8
        have e8 : SqT K (upd H7 p8 (.tup [.ref z, wdV kd.cps.toList])) p8 [.ref z, wdV kd.cps.toList] := .inl (.inl upd_same)
        generalize upd H7 p8 (.tup [.ref z, wdV kd.cps.toList]) = H8 at m8 e8 ⊢
        refine rd_cat (m8.sqT e7) e8 (by rw [List.length_map, hnl]; exact (by decide : 4 + 2 ≤ sizeLine)) fun p9 H9 m9 e9 => ?_
        rw [show wdV kd.cps.toList = V.str kd from congrArg V.str (S_tl' kd)] at e9
        have hA : MovAt K H9 T.C_Recipe p9 ns kd many ts := ⟨z, e9, hR.mv (m7.trans (m8.trans m9))⟩
        have m09 := ((m1.trans m13).trans m36).trans (m7.trans (m8.trans m9))
        refine ⟨.ref p9, rfl, p9, ns, kd, many, ts, rfl, hA, hF, fun H10 m10 => ⟨rfl, .ref p9, rfl, ?_⟩⟩
        exact q p9 H10 (m09.trans m10) ⟨z, m10.sqT e9, (hR.mv (m7.trans (m8.trans m9))).mv m10⟩
end
end Fm
namespace Fm
open PySem PySem.Spec PyProof.Rows L2 SlX
local macro_rules | `(tactic| walk_at "nn") => `(tactic| dsimp only [tC, tNil, tCons, tCB, tCall, gName, tSeq, tAsg, tPar, tDrop, tRet])
local macro_rules | `(tactic| walk_at "nc") => `(tactic| dsimp only [tC, tNil, tCons, tCB, tCall])
def sp_law (K : PySem.W.Frag) : Sp := fun vs H Q _ => ∃ (a : Addr) (ns : List Int), vs = [.ref a] ∧ SqL K H a (ns.map V.int) ∧ ns.length ≤ 63 ∧ ∀ H', Q (.bl true) H'
def smL : List Int := [0, 1, 10, 99, 10 ^ 39 + 7, 10 ^ 40 - 1]
def nbL : List Int := [0, 1, 9, 10, 10 ^ 39]
theorem smL_p40 : ∀ i ∈ smL, P40 i := by
  intro i hi
  simp only [smL, List.mem_cons, List.not_mem_nil, or_false] at hi
  rcases hi with rfl | rfl | rfl | rfl | rfl | rfl <;> exact ⟨by decide +kernel, by decide +kernel⟩
theorem nbL_p40 : ∀ i ∈ nbL, P40 i := by
  intro i hi
  simp only [nbL, List.mem_cons, List.not_mem_nil, or_false] at hi
  rcases hi with rfl | rfl | rfl | rfl | rfl <;> exact ⟨by decide +kernel, by decide +kernel⟩
mutual
theorem nod_dep95 {R : Int → Prop} : ∀ (n : Nat) (t : Tm), t.ok R → t.dep ≤ n → 2 * Tm.nod [t] + 1 ≤ 3 ^ (n + 1)
  | n, .var i, _, _ => by
    have := Nat.one_le_pow n 3 (by decide)
    rw [Tm.nod_var, Nat.pow_succ]
    omega
  | 0, .op x ts, _, h => by simp [Tm.dep] at h
  | n + 1, .op x ts, k, h => by
    have h1 := nods_dep95 n ts k.2.2 (by simp only [Tm.dep] at h; omega)
    have h3 := k.2.1
    have h4 := Nat.one_le_pow (n + 1) 3 (by decide)
    rw [Tm.nod_op, Nat.pow_succ]
    have h4 : ts.length = 0 ∨ ts.length = 1 ∨ ts.length = 2 ∨ ts.length = 3 := by omega
    rcases h4 with e | e | e | e <;> (rw [e] at h1; omega)
theorem nods_dep95 {R : Int → Prop} : ∀ (n : Nat) (ts : List Tm), Tm.oks R ts → Tm.deps ts ≤ n → 2 * Tm.nod ts + ts.length ≤ ts.length * 3 ^ (n + 1)
  | _, [], _, _ => by simp [Tm.nod, Tm.sizes, Tm.lvs]
  | n, t :: ts, k, h => by
    simp only [Tm.deps] at h
    have h1 := nod_dep95 n t k.1 (by omega)
    have h2 := nods_dep95 n ts k.2 (by omega)
    rw [show t :: ts = [t] ++ ts from rfl, Tm.nod_append]
    simp only [List.length_append, List.length_cons, List.length_nil, Nat.add_mul]
    omega
end
theorem txF_few {ts : List Tm} (ho : Tm.oks P40 ts) (hd : Tm.deps ts ≤ 4) (hn : Tm.nod ts ≤ 200) : TxF ts := by
  refine ⟨ho, by omega, by omega, fun t ht => ?_⟩
  obtain ⟨a, b, rfl⟩ := List.append_of_mem ht
  rw [Tm.nod_append, show t :: b = [t] ++ b from rfl, Tm.nod_append] at hn
  have : t.size ≤ Tm.nod [t] := by
    unfold Tm.nod
    simp only [Tm.sizes, Tm.lvs]
    omega
  omega
theorem oks_snoc95 {R : Int → Prop} {ts : List Tm} {t : Tm} (h : Tm.oks R ts) (ht : t.ok R) : Tm.oks R (ts ++ [t]) := Tm.oks_iff.mpr fun u hu => (List.mem_append.mp hu).elim (Tm.oks_iff.mp h u) fun hu => by rw [List.mem_singleton.mp hu]; exact ht
theorem deps_snoc95 {n : Nat} {ts : List Tm} {t : Tm} (h : Tm.deps ts ≤ n) (ht : t.dep ≤ n) : Tm.deps (ts ++ [t]) ≤ n := Tm.deps_le.mpr fun u hu => (List.mem_append.mp hu).elim (Tm.deps_le.mp h u) fun hu => by rw [List.mem_singleton.mp hu]; exact ht
theorem strOk_asc {l : List Nat} (h : ∀ c ∈ l, c < 128) : PyData.strOk (SX.S l) = true := by
  unfold PyData.strOk
  simp only [SX.S, Array.all_toList.symm, List.all_eq_true]
  intro c hc
  have := h c hc
  simp
  omega
theorem shw_told {t : Tm} (h : TxF [t]) : Shw (.list [.str (SX.S t.cx), t.d]) := by
  have h1 := txF_cx h
  have h2 := csts_nodN [t]
  have h3 := h.nod
  have h4 : Tm.lvs [t] ≤ Tm.nod [t] := by unfold Tm.nod; omega
  have h5 := wl_ds [t] h.ok
  have h6 := h.dep
  refine ⟨⟨strOk_asc (cx_asc t h.ok.1), fine_d (fun i h => h.2) t h.ok.1, trivial⟩, ?_, ?_⟩
  · have := depth_d t
    simp only [Tm.deps] at h6
    simp only [PyData.depth, PyData.depthAll]
    omega
  · simp only [Tm.ds, wls] at h5
    simp only [wl, wls, SX.S_len]
    omega
structure RcvF (vr : Int) (ts : List Tm) : Prop where
  vrk : P40 vr
  tx : TxF ts
  few : ts.length ≤ 6
  over : Tm.oks (fun i => 0 ≤ i ∧ i < vr) ts
theorem rcv_drawn {vr : Int} {ts : List Tm} (h0 : 0 ≤ vr) (h1 : vr ≤ 6) (ho : Tm.oks (fun i => 0 ≤ i ∧ i < vr) ts) (hd : Tm.deps ts ≤ 2) (hl : ts.length ≤ 6) : RcvF vr ts := by
  have h2 := nods_dep95 2 ts ho hd
  have h3 : ts.length * 3 ^ (2 + 1) ≤ 6 * 3 ^ (2 + 1) := Nat.mul_le_mul_right _ hl
  refine ⟨⟨h0, Nat.lt_of_le_of_lt (show vr.natAbs ≤ 100 by omega) (by decide)⟩, txF_few (Tm.oks_mono (fun i h => ⟨h.1, Nat.lt_of_le_of_lt (show i.natAbs ≤ 100 by omega) (by decide)⟩) ts ho) (by omega) (by omega), hl, ho⟩
theorem rcv_far {x : Str} (hx : Nm x) : RcvF (10 ^ 39) [.var 0, .op x [.var (10 ^ 39 - 1)]] := by
  have h0 : Tm.oks P40 [.var 0, .op x [.var (10 ^ 39 - 1)]] := ⟨⟨by decide, by decide +kernel⟩, ⟨hx, by simp, ⟨by decide +kernel, by decide +kernel⟩, trivial⟩, trivial⟩
  refine ⟨⟨by decide +kernel, by decide +kernel⟩, txF_few h0 (by simp [Tm.deps, Tm.dep]) (by simp [Tm.nod, Tm.sizes, Tm.lvs, Tm.size, Tm.lv]), by simp, ⟨by decide, by decide +kernel⟩, ⟨hx, by simp, ⟨by decide +kernel, by decide +kernel⟩, trivial⟩, trivial⟩
theorem movAt_mv {K : PySem.W.Frag} {H H' : Hp} {C a : Addr} {ns : List Int} {kd : Str} {many : Int} {ts : List Tm} (h : MovAt K H C a ns kd many ts) (m : Mv [] H H') : MovAt K H' C a ns kd many ts := let ⟨rc, h1, h2⟩ := h; ⟨rc, m.sqT h1, h2.mv m⟩
theorem hk5_95 {ms : List Int} {x : V} {kd : Str} (h : ms.length = 4) : (ms.map V.int ++ [x, .str kd] : List V)[(5 : Int).toNat]? = some (.str kd) := by
  rw [show (5 : Int).toNat = 5 from rfl, List.getElem?_append_right (by rw [List.length_map]; omega), List.length_map, h]
  rfl
theorem hk4_95 {ms : List Int} {x : V} {kd : Str} (h : ms.length = 4) : (ms.map V.int ++ [x, .str kd] : List V)[(4 : Int).toNat]? = some x := by
  rw [show (4 : Int).toNat = 4 from rfl, List.getElem?_append_right (by rw [List.length_map]; omega), List.length_map, h]
  rfl
theorem ims_int95 {K : PySem.W.Frag} {H : Hp} : ∀ ms : List Int, Ims K H (ms.map V.int) (ms.map PyData.int)
  | [] => Ims.nil
  | m :: ms => Ims.cons (.int m) (ims_int95 ms)
theorem joinL_mem {l : List (List Nat)} : ∀ {c : Nat}, c ∈ TL.joinL [32] l → c = 32 ∨ ∃ p ∈ l, c ∈ p := by
  induction l with
  | nil => intro c hc; cases hc
  | cons p l ih =>
    intro c hc
    cases l with
    | nil => exact .inr ⟨p, List.mem_cons_self, hc⟩
    | cons q l =>
      simp only [TL.joinL, List.mem_append, List.mem_singleton] at hc
      rcases hc with hc | hc | hc
      · exact .inr ⟨p, List.mem_cons_self, hc⟩
      · exact .inl hc
      · rcases ih hc with h | ⟨r, hr, h⟩
        · exact .inl h
        · exact .inr ⟨r, List.mem_cons_of_mem _ hr, h⟩
theorem movC_asc {ns : List Int} {kd : Str} {many : Int} {ts : List Tm} (h : MovF ns kd many ts) : ∀ c ∈ movC ns kd many ts, c < 128 := fun c hc => by
  rcases joinL_mem hc with rfl | ⟨p, hp, hc⟩
  · decide
  · rw [movP, List.mem_append] at hp
    rcases hp with hp | hp
    · obtain ⟨i, _, rfl⟩ := List.mem_map.mp hp
      have := TL.numL_digits _ c hc
      omega
    · simp only [List.mem_cons, List.not_mem_nil, or_false] at hp
      rcases hp with rfl | rfl | rfl
      · have hN : Nm kd := by rcases h.kind with e | e <;> (rw [e]; decide +kernel)
        have := hN.2.2 c hc
        omega
      · have := TL.numL_digits _ c hc
        omega
      · cases ts with
        | nil =>
          have : c ∈ ([40, 41] : List Nat) := hc
          simp at this
          omega
        | cons t ts =>
          rw [lisC_cons] at hc
          exact cxP_asc _ h.tx.ok c hc
theorem fine_ints95 : ∀ ms : List Int, (∀ u ∈ ms, P40 u) → fineAll (ms.map PyData.int) ∧ PyData.depthAll (ms.map PyData.int) = 0 ∧ wls (ms.map PyData.int) = 43 * ms.length
  | [], _ => ⟨trivial, rfl, rfl⟩
  | m :: ms, h => by
    obtain ⟨h1, h2, h3⟩ := fine_ints95 ms fun u hu => h u (List.mem_cons_of_mem _ hu)
    refine ⟨⟨(h m List.mem_cons_self).2, h1⟩, by simp [PyData.depthAll, PyData.depth, h2], ?_⟩
    simp only [List.map_cons, wls, wl, h3, List.length_cons]
    omega
theorem shw_mk {ms : List Int} {kd : Str} (h4 : ms.length = 4) (h : ∀ u ∈ ms, P40 u) (hk : kd = Str.ofString "may" ∨ kd = Str.ofString "must") : Shw (.list [.tuple (ms.map PyData.int), .str kd]) := by
  obtain ⟨h1, h2, h3⟩ := fine_ints95 ms h
  refine ⟨⟨h1, ?_, trivial⟩, by simp [PyData.depth, PyData.depthAll, h2], ?_⟩
  · rcases hk with rfl | rfl <;> (show PyData.strOk _ = true; decide +kernel)
  · have : kd.length ≤ 4 := by rcases hk with rfl | rfl <;> decide +kernel
    simp only [wl, wls, h3]
    omega
theorem shaped_ts95 {ts : List Tm} (h : TxF ts) : SeqAt.shaped (tsD ts) = true := by
  have hd := h.dep
  show (PyData.canLay0 (.tuple (Tm.ds ts)) && decide (PyData.depth (.tuple (Tm.ds ts)) ≤ 64)) = true
  have e2 : PyData.depth (.tuple (Tm.ds ts)) ≤ 64 := by
    simp only [PyData.depth, depth_ds]
    omega
  rw [(fine_lay (.tuple (Tm.ds ts)) (fine_ds (fun _ h => h.2) ts h.ok)).1, decide_eq_true e2]
  rfl
theorem recEq_self {many : Int} {ts : List Tm} (h : TxF ts) : recEq many many ts ts = true := by
  unfold recEq
  rw [decide_eq_true rfl, SeqAt.eqv_refl _ (fine_lay _ (show fine (tsD ts) from fine_ds (fun _ h => h.2) _ h.ok)).1]
  rfl
section
variable {P : Program} {w : World} {K : PySem.W.Frag} {mg : Str → Option Value} {base : Heap}
theorem ok_law (T : TX K mg) (Y : TY P K mg) : FnOkG P w K mg base CX0 60 T.d_law.f T.d_law.fd P_law (sp_law K) := by
  have G__law_bag : FnOk P w K mg base CX0 1 T.d__law_bag.f T.d__law_bag.fd P__law_bag (sp_bag K) := ok__law_bag T
  have G__law_names : FnOk P w K mg base CX0 2 T.d__law_names.f T.d__law_names.fd P__law_names sp_names := ok__law_names T
  have G__law_take : FnOk P w K mg base CX0 1 T.d__law_take.f T.d__law_take.fd P__law_take sp_take := ok__law_take T
  have G__law_term : FnOk P w K mg base CX0 7 T.d__law_term.f T.d__law_term.fd P__law_term (sp_term K 5) := ok__law_term T 5
  have G__law_put : FnOk P w K mg base CX0 7 T.d__law_put.f T.d__law_put.fd P__law_put (sp_put K 6) := ok__law_put T 6
  have G__law_alike : FnOkG P w K mg base CX0 1 T.d__law_alike.f T.d__law_alike.fd P__law_alike (sp_alike K) := ok__law_alike T
  have G_show_term : FnOk P w K mg base CX0 49 T.d_show_term.f T.d_show_term.fd P_show_term (sp_show K 24) := ok_show_term T 24
  have G__law_term_text : FnOk P w K mg base CX0 49 T.d__law_term_text.f T.d__law_term_text.fd P__law_term_text (sp_show K 24) := ok__law_term_text T 24
  have G_read_term : FnOk P w K mg base CX0 5 T.d_read_term.f T.d_read_term.fd P_read_term (sp_readT K) := ok_read_term (k := 0) T
  have G_show_move : FnOk P w K mg base CX0 52 T.d_show_move.f T.d_show_move.fd P_show_move (sp_shMov K T.C_Recipe) := ok_show_move (k := 0) T
  have G__law_move_text : FnOk P w K mg base CX0 51 T.d__law_move_text.f T.d__law_move_text.fd P__law_move_text (sp_lmov K) := ok__law_move_text (k := 0) T
  have G_read_move : FnOk P w K mg base CX0 53 T.d_read_move.f T.d_read_move.fd P_read_move (sp_rdMov K T.C_Recipe) := ok_read_move (k := 0) T Y
  have G_Recipe___init__ : FnOk P w K mg base (CX P w) 5 T.d_Recipe___init__.f T.d_Recipe___init__.fd P_Recipe___init__ (sp_RecT K T.C_Recipe Y.C_Wrong) := ok_Recipe___init__ T Y
  have G_Recipe___eq__ : FnOk P w K mg base CX0 1 T.d_Recipe___eq__.f T.d_Recipe___eq__.fd P_Recipe___eq__ (sp_RecipeEq K T.C_Recipe) := ok_Recipe___eq__ T
  refine okG T.d_law.F sc_law (fun vs H Q E h => ?_) (fun cdv A outer s H vs Q E hgd hr h => ?_)
  · obtain ⟨_, _, rfl, _⟩ := h
    rfl
  · obtain ⟨a, sns, rfl, hS, hl63, q⟩ := h
    have hu64 := hr.units
    have hu65 := hu65_of hr
    refine ⟨_, (pss_cons (ps_set (i := 1) sc_law.nd rfl (Or.inr rfl) (pe_call G__law_bag (hr.mono (by omega)) rfl T.d__law_bag.g T.d__law_bag.F.kp T.d__law_bag.b .nil pass0 (pa_cons (pv 0) pa_nil))) (pss_cons (ps_for PassesOwn.never rfl (pi_range1 (by rfl) T.b_range (pa_cons pe_int pa_nil)) (pg_name (i := 2) sc_law.nd rfl (Or.inl rfl)) (pss_cons (ps_asg (pe_tup (pa_cons (pe_call G__law_names (hr.mono (by omega)) rfl T.d__law_names.g T.d__law_names.F.kp T.d__law_names.b .nil pass0 (pa_cons (pv 1) (pa_cons pe_int pa_nil))) (pa_cons (pe_lst (pa_cons pe_int (pa_cons pe_int (pa_cons pe_int (pa_cons pe_int (pa_cons (pe_op (r := rAddG K) op_addG (pe_op op_pow pe_int pe_int) pe_int) (pa_cons (pe_op op_sub (pe_op op_pow pe_int pe_int) pe_int) pa_nil))))))) pa_nil))) (pg_tup rfl (pgs_cons (pg_name (i := 3) sc_law.nd rfl (Or.inr rfl)) (pgs_cons (pg_name (i := 4) sc_law.nd rfl (Or.inl rfl)) pgs_nil)))) (pss_cons (ps_set (i := 5) sc_law.nd rfl (Or.inl rfl) (pe_call G__law_put (hr.mono (by omega)) rfl T.d__law_put.g T.d__law_put.F.kp T.d__law_put.b .nil pass0 (pa_cons (pe_call G__law_term (hr.mono (by omega)) rfl T.d__law_term.g T.d__law_term.F.kp T.d__law_term.b .nil pass0 (pa_cons (pv 1) (pa_cons (pv 3) (pa_cons pe_int (pa_cons (pe_call G__law_take (hr.mono (by omega)) rfl T.d__law_take.g T.d__law_take.F.kp T.d__law_take.b .nil pass0 (pa_cons (pv 1) (pa_cons pe_int pa_nil))) pa_nil))))) (pa_cons (pv 4) pa_nil)))) (pss_cons (ps_set (i := 6) sc_law.nd rfl (Or.inl rfl) (pe_call G__law_term_text (hr.mono (by omega)) rfl T.d__law_term_text.g T.d__law_term_text.F.kp T.d__law_term_text.b .nil pass0 (pa_cons (pv 5) pa_nil))) (pss_cons (ps_for PassesOwn.never rfl (pi_range1 (by rfl) T.b_range (pa_cons pe_int pa_nil)) (pg_name (i := 7) sc_law.nd rfl (Or.inl rfl)) (pss_one (ps_if (pt_not (pt_val (pe_callG G__law_alike hgd (hr.mono (by omega)) rfl T.d__law_alike.g T.d__law_alike.F.kp T.d__law_alike.b .nil pass0 (pa_cons (pe_lst (pa_cons (pe_call G_show_term (hr.mono (by omega)) rfl T.d_show_term.g T.d_show_term.F.kp T.d_show_term.b .nil pass0 (pa_cons (pv 5) pa_nil)) (pa_cons (pe_call G_read_term (hr.mono (by omega)) rfl T.d_read_term.g T.d_read_term.F.kp T.d_read_term.b .nil pass0 (pa_cons (pv 6) pa_nil)) pa_nil))) (pa_cons (pe_lst (pa_cons (pv 6) (pa_cons (pv 5) pa_nil))) pa_nil))))) (pss_one (ps_ret pe_bl)) pss_nil))) (pss_cons (ps_set (i := 8) sc_law.nd rfl (Or.inr rfl) (pe_call G__law_take (hr.mono (by omega)) rfl T.d__law_take.g T.d__law_take.F.kp T.d__law_take.b .nil pass0 (pa_cons (pv 1) (pa_cons pe_int pa_nil)))) (pss_cons (ps_set (i := 9) sc_law.nd rfl (Or.inl rfl) (pe_callTy (r := rTupOf K) call_tupG (by rfl) T.b_tuple bt_tuple (pa_cons (pe_lc (own := [("_law_k", 15)]) (g := gName 15) (by rfl) sc_law.nd (pi_range1 (by rfl) T.b_range (pa_cons (pe_call G__law_take (hr.mono (by omega)) rfl T.d__law_take.g T.d__law_take.F.kp T.d__law_take.b .nil pass0 (pa_cons (pv 1) (pa_cons pe_int pa_nil))) pa_nil)) (blkOk_by (own := [("_law_k", 15)]) (N := N_law) (sc := defScope s_law) (by decide +kernel)) (fun _ _ _ _ _ => pg_name (i := 15) sc_law.nd rfl (Or.inl rfl)) (fun _ _ _ _ _ => pts_nil) (fun _ _ _ _ _ => (pe_call G__law_term (hr.mono (by omega)) rfl T.d__law_term.g T.d__law_term.F.kp T.d__law_term.b .nil pass0 (pa_cons (pv 1) (pa_cons (pv 3) (pa_cons (pv 8) (pa_cons (pe_call G__law_take (hr.mono (by omega)) rfl T.d__law_take.g T.d__law_take.F.kp T.d__law_take.b .nil pass0 (pa_cons (pv 1) (pa_cons pe_int pa_nil))) pa_nil))))))) pa_nil))) (Evl.pss_cut (ps_if (pt_cmpR (r := rEqG K) (op_eqG hu64) (pe_call G__law_take (hr.mono (by omega)) rfl T.d__law_take.g T.d__law_take.F.kp T.d__law_take.b .nil pass0 (pa_cons (pv 1) (pa_cons pe_int pa_nil))) pe_int (nomark _)) (pss_one (ps_asg (pe_tup (pa_cons (pe_op op_pow pe_int pe_int) (pa_cons (pe_tup (pa_cons pe_int (pa_cons (pe_tup (pa_cons (pe_ix (r := rIx K) ix_seq (pv 3) pe_int (fun _ _ => rfl)) (pa_cons (pe_op op_sub (pe_op op_pow pe_int pe_int) pe_int) pa_nil))) pa_nil))) pa_nil))) (pg_tup rfl (pgs_cons (pg_name (i := 8) sc_law.nd rfl (Or.inr rfl)) (pgs_cons (pg_name (i := 9) sc_law.nd rfl (Or.inl rfl)) pgs_nil))))) pss_nil) (pss_cons (ps_set (i := 10) sc_law.nd rfl (Or.inl rfl) (pe_callTy (r := rTupOf K) call_tupG (by rfl) T.b_tuple bt_tuple (pa_cons (pe_lc (own := [("_law_k", 15)]) (g := gName 15) (by rfl) sc_law.nd (pi_range1 (by rfl) T.b_range (pa_cons pe_int pa_nil)) (blkOk_by (own := [("_law_k", 15)]) (N := N_law) (sc := defScope s_law) (by decide +kernel)) (fun _ _ _ _ _ => pg_name (i := 15) sc_law.nd rfl (Or.inl rfl)) (fun _ _ _ _ _ => pts_nil) (fun _ _ _ _ _ => (pe_ix (r := rIx K) ix_seq (pe_lst (pa_cons pe_int (pa_cons pe_int (pa_cons pe_int (pa_cons pe_int (pa_cons (pe_op op_pow pe_int pe_int) pa_nil)))))) (pe_call G__law_take (hr.mono (by omega)) rfl T.d__law_take.g T.d__law_take.F.kp T.d__law_take.b .nil pass0 (pa_cons (pv 1) (pa_cons pe_int pa_nil))) (fun _ _ => rfl)))) pa_nil))) (pss_cons (ps_set (i := 11) sc_law.nd rfl (Or.inl rfl) (pe_ix (r := rIx K) ix_seq (pe_lst (pa_cons pe_str (pa_cons pe_str pa_nil))) (pe_call G__law_take (hr.mono (by omega)) rfl T.d__law_take.g T.d__law_take.F.kp T.d__law_take.b .nil pass0 (pa_cons (pv 1) (pa_cons pe_int pa_nil))) (fun _ _ => rfl))) (pss_cons (ps_par (i := 12) (j := 13) rfl sc_law.nd rfl rfl (by decide) rfl rfl (pa_cons (pe_op (r := rAddG K) op_addG (pv 10) (pe_tup (pa_cons (pe_makeS ⟨T.mk_Recipe, T.d_Recipe___init__.M.at_, T.d_Recipe___init__.M.fn, T.k_Recipe⟩ G_Recipe___init__ (hr.mono (by omega)) rfl T.g_Recipe T.d_Recipe___init__.b (fun σ => passAt takes0 σ) (pa_cons (pv 8) (pa_cons (pv 9) pa_nil))) (pa_cons (pv 11) pa_nil)))) (pa_cons (pe_call G__law_move_text (hr.mono (by omega)) rfl T.d__law_move_text.g T.d__law_move_text.F.kp T.d__law_move_text.b .nil pass0 (pa_cons (pv 10) (pa_cons (pv 11) (pa_cons (pv 8) (pa_cons (pv 9) pa_nil))))) pa_nil)) rfl) (pss_one (ps_for PassesOwn.never rfl (pi_range1 (by rfl) T.b_range (pa_cons pe_int pa_nil)) (pg_name (i := 7) sc_law.nd rfl (Or.inl rfl)) (pss_cons (ps_set (i := 14) sc_law.nd rfl (Or.inl rfl) (pe_call G_read_move (hr.mono (by omega)) rfl T.d_read_move.g T.d_read_move.F.kp T.d_read_move.b .nil pass0 (pa_cons (pv 13) pa_nil))) (pss_cons (ps_if (PW.pt (pw_or (pt_not (pt_val (pe_callG G__law_alike hgd (hr.mono (by omega)) rfl T.d__law_alike.g T.d__law_alike.F.kp T.d__law_alike.b .nil pass0 (pa_cons (pe_call G_show_move (hr.mono (by omega)) rfl T.d_show_move.g T.d_show_move.F.kp T.d_show_move.b .nil pass0 (pa_cons (pv 12) pa_nil)) (pa_cons (pv 13) pa_nil))))) (pw_or (pt_not (pt_val (pe_callB (r := rIsi K) call_isi (by rfl) T.b_isinstance bt_isinstance (pa_cons (pv 14) (pa_cons (pe_ty T.b_tuple bt_tuple) pa_nil))))) (pw_or1 (pt_cmpR (r := rNeG K) (op_neG hu64) (pe_callB (r := rLenG K) call_lenG (by rfl) T.b_len bt_len (pa_cons (pv 14) pa_nil)) pe_int (nomark _)))))) (pss_one (ps_ret pe_bl)) pss_nil) (pss_one (ps_if (PW.pt (pw_or (pt_not (pt_val (pe_callG G__law_alike hgd (hr.mono (by omega)) rfl T.d__law_alike.g T.d__law_alike.F.kp T.d__law_alike.b .nil pass0 (pa_cons (pe_lst (pa_cons (pe_slice (r := rSlG K) sl_G (pv 14) po_none (po_some pe_int)) (pa_cons (pe_ix (r := rIx K) ix_seq (pv 14) pe_int (fun _ _ => rfl)) pa_nil))) (pa_cons (pe_lst (pa_cons (pv 10) (pa_cons (pv 11) pa_nil))) pa_nil))))) (pw_or1 (pt_cmpR (r := rNeOwn K T.C_Recipe (sp_RecipeEq K T.C_Recipe) _) (op_neOwn T.ne_Recipe T.is_Recipe.cm T.d_Recipe___eq__.M.at_ T.d_Recipe___eq__.M.fn (fnR_of G_Recipe___eq__ T.d_Recipe___eq__.b) (hr.mono (by omega)) pass0) (pe_ix (r := rIx K) ix_seq (pv 14) pe_int (fun _ _ => rfl)) (pe_ix (r := rIx K) ix_seq (pv 12) pe_int (fun _ _ => rfl)) (nomark _))))) (pss_one (ps_ret pe_bl)) pss_nil))))))))))))))))) (pss_one (ps_ret pe_bl)))), ?_⟩
    refine ⟨.ref a, rfl, a, sns, rfl, hS, hl63, fun H1 b m1 nb hB1 => ?_⟩
    refine ⟨10, rfl, by decide, by decide, ?_⟩
    refine for_range (lo := 0) (n := (10 : Int).toNat) (fun i σ H3 => ∃ (y2 y3 y4 y5 y6 y7 y8 y9 y10 y11 y12 y13 y14 : Option V), σ = [some (.ref a), some (.ref b), y2, y3, y4, y5, y6, y7, y8, y9, y10, y11, y12, y13, y14, none] ∧ Bag H3 b)
      ⟨_, _, _, _, _, _, _, _, _, _, _, _, _, rfl, hB1⟩ (fun i σ H3 hi h3 => ?_) (fun σ H3 h3 => ?_)
    · obtain ⟨y2, y3, y4, y5, y6, y7, y8, y9, y10, y11, y12, y13, y14, rfl, hB3⟩ := h3
      refine ⟨.ref b, rfl, b, 3, rfl, hB3, by decide, by decide, fun nm ns H4 hxl hxN nn en d4 => ?_⟩
      have hB4 := d4.bag hB3
      have hnb : nm ≠ b := hB3.fneq nn
      have hn0 : ns ≠ [] := fun z => by rw [z] at hxl; cases hxl
      refine ⟨10, 39, rfl, rfl, by refine ⟨?_, ?_, ?_⟩ <;> decide +kernel, Or.inl ⟨_, 7, rfl, rfl, 10, 40, rfl, rfl, by refine ⟨?_, ?_, ?_⟩ <;> decide +kernel, _, 1, rfl, rfl, (by decide : 6 ≤ sizeLine), fun p5 n5 => ?_⟩⟩
      rw [show ([.int 0, .int 1, .int 10, .int 99, (fun i j : Int => V.int (i + j)) ((10 : Int) ^ (39 : Int).toNat) 7, (fun i j : Int => V.int (i - j)) ((10 : Int) ^ (40 : Int).toNat) 1] : List V) = smL.map V.int from rfl]
      have k5 := Mv.new (S := []) (o := (.lst (smL.map V.int))) n5
      have e5 : upd H4 p5 (.lst (smL.map V.int)) p5 = some (.lst (smL.map V.int)) := upd_same
      generalize upd H4 p5 (.lst (smL.map V.int)) = H5 at k5 e5 ⊢
      have m5 := k5
      have hsb : p5 ≠ b := hB4.fneq n5
      refine ⟨(by decide : 2 ≤ sizeLine), fun p6 n6 => ?_⟩
      have k6 := Mv.new (S := []) (o := (.tup [.ref nm, .ref p5])) n6
      have e6 : SqT K (upd H5 p6 (.tup [.ref nm, .ref p5])) p6 [.ref nm, .ref p5] := .inl (.inl upd_same)
      generalize upd H5 p6 (.tup [.ref nm, .ref p5]) = H6 at k6 e6 ⊢
      have m6 := m5.trans k6
      refine ⟨p6, _, rfl, e6, rfl, _, _, rfl, _, _, rfl, rfl, ?_⟩
      have d36 : Dr b H3 H6 := d4.trans (.of m6)
      have hB6 := d36.bag hB3
      have en6 := m6.same _ _ en
      have e56 := k6.same _ _ e5
      refine ⟨.ref b, rfl, .ref nm, rfl, .ref b, rfl, b, 5, rfl, hB6, by decide, by decide, fun dp H7 dp0 dp1 d7 => ?_⟩
      refine ⟨b, nm, ns, 6, dp, rfl, d7.bag hB6, d7.get hnb en6, hnb, hn0, by rw [hxl]; decide, hxN, by decide, by decide, by omega, fun v0 t0 H8 ho hx1 hx2 him d8 => ?_⟩
      have hx3 : t0.dep ≤ 4 := by have := hx2 (by decide); omega
      have d68 := d7.trans d8
      have e58 := d68.get hsb e56
      refine ⟨.ref p5, rfl, v0, .ref p5, t0, _, vat (smL.map Tm.var), rfl, him, ho, by omega, ⟨p5, rfl, .inl ⟨smL.map V.int, .inl (.inl e58), fun i hi => ⟨hi.1, ?_⟩⟩⟩, fun v H9 m9 imv => ?_⟩
      · obtain ⟨u, hu⟩ : ∃ u, smL[i.toNat]? = some u := ⟨_, List.getElem?_eq_getElem (show i.toNat < 6 by omega)⟩
        refine ⟨.int u, by rw [List.getElem?_map, hu]; rfl, ?_⟩
        rw [show vat (smL.map Tm.var) i = .var u by simp [vat, hu]]
        exact .int u
      obtain ⟨t, ht⟩ : ∃ t, t = t0.put (vat (smL.map Tm.var)) := ⟨_, rfl⟩
      rw [← ht] at imv
      have hF : TxF [t] := by
        have hvs : ∀ i, 0 ≤ i ∧ i < 6 → (vat (smL.map Tm.var) i).ok P40 ∧ (vat (smL.map Tm.var) i).dep ≤ 0 ∧ ∃ u, vat (smL.map Tm.var) i = .var u := fun i hi => by
          obtain ⟨u, hu⟩ : ∃ u, smL[i.toNat]? = some u := ⟨_, List.getElem?_eq_getElem (show i.toNat < 6 by omega)⟩
          rw [show vat (smL.map Tm.var) i = .var u by simp [vat, hu]]
          exact ⟨smL_p40 u (List.mem_of_getElem? hu), by simp [Tm.dep], u, rfl⟩
        have h1 : t.ok P40 := by rw [ht]; exact Tm.ok_put (fun i hi => (hvs i hi).1) t0 ho
        have h2 : t.dep ≤ 4 := by rw [ht]; exact Nat.le_trans (Tm.dep_put (n := 0) (fun i hi => (hvs i hi).2.1) t0 ho) (by omega)
        have h3 := nod_dep95 4 t h1 h2
        exact txF_few ⟨h1, trivial⟩ (by simp only [Tm.deps]; omega) (by omega)
      have hcl := txF_cx hF
      have hdt : t.dep < 24 := by have := hF.dep; simp only [Tm.deps] at this; omega
      have d39 : Dr b H3 H9 := d36.trans (d68.trans (.of m9))
      have hB9 := d39.bag hB3
      have en9 := (d68.trans (.of m9)).get hnb en6
      refine ⟨v, rfl, v, t, rfl, imv, hF.ok.1, hdt, by omega, fun H10 m10 => ?_⟩
      have im10 := imv.mv m10
      refine ⟨2, rfl, by decide, by decide, ?_⟩
      refine for_range (lo := 0) (n := (2 : Int).toNat) (fun j σ H11 => ∃ (y7 : Option V), σ = [some (.ref a), some (.ref b), some (.int (0 + (i : Int))), some (.ref nm), some (.ref p5), some v, some (wdV t.cx), y7, y8, y9, y10, y11, y12, y13, y14, none] ∧ Mv [] H10 H11)
        ⟨y7, rfl, .refl⟩ (fun j σ H11 hj h11 => ?_) (fun σ H11 h11 => ?_)
      · obtain ⟨y7, rfl, m11⟩ := h11
        refine ⟨v, rfl, v, t, rfl, im10.mv m11, hF.ok.1, hdt, by omega, fun H12 m12 => ?_⟩
        refine ⟨wdV t.cx, rfl, t, rfl, hF, fun v2 H13 m13 im2 => ⟨(by decide : 2 ≤ sizeLine), fun p14 n14 => ?_⟩⟩
        have mm := m11.trans (m12.trans m13)
        have k14 := Mv.new (S := []) (o := (.lst [wdV t.cx, v2])) n14
        have e14 : upd H13 p14 (.lst [wdV t.cx, v2]) p14 = some (.lst [wdV t.cx, v2]) := upd_same
        generalize upd H13 p14 (.lst [wdV t.cx, v2]) = H14 at k14 e14 ⊢
        have m14 := mm.trans k14
        refine ⟨wdV t.cx, rfl, v, rfl, (by decide : 2 ≤ sizeLine), fun p15 n15 => ?_⟩
        have k15 := Mv.new (S := []) (o := (.lst [wdV t.cx, v])) n15
        have e15 : upd H14 p15 (.lst [wdV t.cx, v]) p15 = some (.lst [wdV t.cx, v]) := upd_same
        generalize upd H14 p15 (.lst [wdV t.cx, v]) = H15 at k15 e15 ⊢
        have m15 := m14.trans k15
        have i1 : Ims K H15 [wdV t.cx, v2] [.str (SX.S t.cx), t.d] := Ims.cons (.str _) (Ims.cons ((im2.mv k14).mv k15) Ims.nil)
        have i2 : Ims K H15 [wdV t.cx, v] [.str (SX.S t.cx), t.d] := Ims.cons (.str _) (Ims.cons (im10.mv m15) Ims.nil)
        refine ⟨.ref p14, .ref p15, .list [.str (SX.S t.cx), t.d], rfl, .lst (.inl (.inl (k15.same _ _ e14))) i1.dp, .lst (.inl (.inl e15)) i2.dp, shw_told hF, ?_⟩
        refine ⟨_, rfl, ?_⟩
        exact ⟨_, rfl, m15⟩
      · obtain ⟨y7, rfl, m11⟩ := h11
        have m911 := m10.trans m11
        have hB11 := hB9.mv m911
        have en11 := m911.same _ _ en9
        have d311 : Dr b H3 H11 := d39.trans (.of m911)
        refine ⟨.ref b, rfl, b, 7, rfl, hB11, by decide, by decide, fun vr H12 vr0 vr1 d12 => ?_⟩
        have hB12 := d12.bag hB11
        refine ⟨.ref b, rfl, b, 7, rfl, hB12, by decide, by decide, fun cn H13 cn0 cn1 d13 => ⟨cn, rfl, by omega, by omega, fun tl ntl => ?_⟩⟩
        have hB13 := d13.bag hB12
        have htb : tl ≠ b := hB13.fneq ntl
        have en13 := (d12.trans d13).get hnb en11
        refine lc_range (lo := 0) (n := cn.toNat) (fun i H7 => ∃ (vs : List V) (us : List Tm), H7 tl = some (.lst vs) ∧ Ims K H7 vs (Tm.ds us) ∧ us.length = i ∧ Tm.oks (fun i => 0 ≤ i ∧ i < vr) us ∧ Tm.deps us ≤ 2 ∧ Dr b H13 H7)
          ⟨[], [], upd_same, Ims.nil, rfl, trivial, Nat.zero_le _, Dr.new ntl⟩ (fun i7 H7 hi7 h7 => ?_) (fun H14 h14 => ?_)
        · obtain ⟨vs, us, e5, i5, l5, g5, p5', d5⟩ := h7
          have hB5 := d5.bag hB13
          refine ⟨rfl, .ref b, rfl, .ref nm, rfl, .int vr, rfl, .ref b, rfl, b, 3, rfl, hB5, by decide, by decide, fun dp H8 dp0 dp1 d8 => ?_⟩
          refine ⟨b, nm, ns, vr, dp, rfl, d8.bag hB5, (d5.trans d8).get hnb en13, hnb, hn0, by rw [hxl]; decide, hxN, vr0, by omega, by omega, fun v t H9 ho hx1 hx2 him d9 => ?_⟩
          have d89 := d8.trans d9
          have e7 := d89.get htb e5
          refine ⟨_, e7, ?_, vs ++ [v], us ++ [t], upd_same, ?_, by simp [l5], oks_snoc95 g5 ho, deps_snoc95 p5' (by omega), (d5.trans d89).wr ntl⟩
          · rw [i5.length, Tm.ds_map, List.length_map, l5]
            exact line5lt (by omega)
          · rw [Tm.ds_append]
            exact ((i5.mv d89.mv).append (Ims.cons him Ims.nil)).mv (Mv.set (S := [tl]) e7 (by simp))
        obtain ⟨tv, us, e14, i14, l14, g14, p14', d1314⟩ := h14
        refine nilT95 (rd_tupOf (.inl (.inl e14)) fun tp H15 m15 e15 => ?_)
        have d315 : Dr b H3 H15 := d311.trans (d12.trans (d13.trans (d1314.trans (.of m15))))
        have hB15 := d315.bag hB3
        have en15 := ((d12.trans (d13.trans (d1314.trans (.of m15))))).get hnb en11
        have hR0 : RcvF vr us := rcv_drawn vr0 (by omega) g14 p14' (by omega)
        refine ⟨fun σ' H' => ∃ (vr' : Int) (tp' : Addr) (xs' : List V) (ts' : List Tm), σ' = [some (.ref a), some (.ref b), some (.int (0 + (i : Int))), some (.ref nm), some (.ref p5), some v, some (wdV t.cx), y7, some (.int vr'), some (.ref tp'), y10, y11, y12, y13, y14, none] ∧ SqT K H' tp' xs' ∧ Ims K H' xs' (Tm.ds ts') ∧ RcvF vr' ts' ∧ Dr b H3 H', ?_, ?_⟩
        · refine ⟨.ref b, rfl, b, 6, rfl, hB15, by decide, by decide, fun z H16 z0 z1 d16 => Or.inl ⟨rfl, _, rfl, ite2 (fun _ => ?_) (fun _ => ?_)⟩⟩
          · have en16 := d16.get hnb en15
            obtain ⟨x0, hx0⟩ : ∃ x0, ns[0]? = some x0 := ⟨_, List.getElem?_eq_getElem (by rw [hxl]; decide)⟩
            refine ⟨10, 39, rfl, rfl, by refine ⟨?_, ?_, ?_⟩ <;> decide +kernel, .ref nm, rfl, rd_ixL (.inl (.inl en16)) (by decide) (v := .str x0) (by rw [List.getElem?_map]; exact congrArg (Option.map V.str) hx0) ?_⟩
            refine ⟨10, 39, rfl, rfl, by refine ⟨?_, ?_, ?_⟩ <;> decide +kernel, _, 1, rfl, rfl, (by decide : 2 ≤ sizeLine), fun p17 n17 => ?_⟩
            rw [show (fun i j : Int => V.int (i - j)) ((10 : Int) ^ (39 : Int).toNat) 1 = V.int (10 ^ 39 - 1) from rfl]
            have k17 := Mv.new (S := []) (o := (.tup [.str x0, .int (10 ^ 39 - 1)])) n17
            have e17 : SqT K (upd H16 p17 (.tup [.str x0, .int (10 ^ 39 - 1)])) p17 [.str x0, .int (10 ^ 39 - 1)] := .inl (.inl upd_same)
            generalize upd H16 p17 (.tup [.str x0, .int (10 ^ 39 - 1)]) = H17 at k17 e17 ⊢
            have m17 := k17
            refine ⟨(by decide : 2 ≤ sizeLine), fun p18 n18 => ?_⟩
            have k18 := Mv.new (S := []) (o := (.tup [.int 0, .ref p17])) n18
            have e18 : SqT K (upd H17 p18 (.tup [.int 0, .ref p17])) p18 [.int 0, .ref p17] := .inl (.inl upd_same)
            generalize upd H17 p18 (.tup [.int 0, .ref p17]) = H18 at k18 e18 ⊢
            have m18 := m17.trans k18
            rw [show (fun i j : Int => V.int (i ^ j.toNat)) 10 39 = V.int (10 ^ 39) from rfl]
            refine ⟨(by decide : 2 ≤ sizeLine), fun p19 n19 => ?_⟩
            have k19 := Mv.new (S := []) (o := (.tup [.int (10 ^ 39), .ref p18])) n19
            have e19 : SqT K (upd H18 p19 (.tup [.int (10 ^ 39), .ref p18])) p19 [.int (10 ^ 39), .ref p18] := .inl (.inl upd_same)
            generalize upd H18 p19 (.tup [.int (10 ^ 39), .ref p18]) = H19 at k19 e19 ⊢
            have m19 := m18.trans k19
            refine ⟨p19, _, rfl, e19, rfl, _, _, rfl, _, _, rfl, rfl, ?_⟩
            refine ⟨_, p18, _, _, rfl, k19.sqT e18, ?_, rcv_far (hxN x0 (List.mem_of_getElem? hx0)), d315.trans (d16.trans (.of m19))⟩
            exact Ims.cons (.int 0) (Ims.cons (Im.tup ((k18.trans k19).sqT e17) (Ims.cons (.str _) (Ims.cons (.int _) Ims.nil))) Ims.nil)
          · exact ⟨vr, tp, tv, us, rfl, d16.mv.sqT e15, (i14.mv m15).mv d16.mv, hR0, d315.trans d16⟩
        · rintro σ' H16 ⟨vr', tp', xs', ts', rfl, htp, hxs', hRv, d316⟩
          have hB16 := d316.bag hB3
          refine ⟨4, rfl, by decide, by decide, fun nl nnl => ?_⟩
          have hnlb : nl ≠ b := hB16.fneq nnl
          refine lc_range (lo := 0) (n := (4 : Int).toNat) (fun i H7 => ∃ (ms : List Int), H7 nl = some (.lst (ms.map V.int)) ∧ ms.length = i ∧ (∀ u ∈ ms, P40 u) ∧ Dr b H16 H7)
            ⟨[], upd_same, rfl, fun _ h => (by cases h), Dr.new nnl⟩ (fun i7 H7 hi7 h7 => ?_) (fun H17 h17 => ?_)
          · obtain ⟨ms, e5', l5, g5, d5⟩ := h7
            have hB5 := d5.bag hB16
            refine ⟨rfl, 10, 39, rfl, rfl, by refine ⟨?_, ?_, ?_⟩ <;> decide +kernel, (by decide : 5 ≤ sizeLine), fun p8 n8 => ?_⟩
            rw [show ([.int 0, .int 1, .int 9, .int 10, (fun i j : Int => V.int (i ^ j.toNat)) 10 39] : List V) = nbL.map V.int from rfl]
            have k8 := Mv.new (S := []) (o := (.lst (nbL.map V.int))) n8
            have e8 : upd H7 p8 (.lst (nbL.map V.int)) p8 = some (.lst (nbL.map V.int)) := upd_same
            generalize upd H7 p8 (.lst (nbL.map V.int)) = H8 at k8 e8 ⊢
            have m8 := k8
            have hB8 := hB5.mv m8
            have hp8b : p8 ≠ b := hB5.fneq n8
            refine ⟨.ref b, rfl, b, 5, rfl, hB8, by decide, by decide, fun o H9 o0 o1 d9 => ?_⟩
            obtain ⟨u, hu⟩ : ∃ u, nbL[o.toNat]? = some u := ⟨_, List.getElem?_eq_getElem (show o.toNat < 5 by omega)⟩
            refine rd_ixL (.inl (.inl (d9.get hp8b e8))) o0 (v := .int u) (by rw [List.getElem?_map, hu]; rfl) ?_
            have d79 : Dr b H7 H9 := (Dr.of m8).trans d9
            have e9 := d79.get hnlb e5'
            refine ⟨_, e9, ?_, ms ++ [u], by rw [upd_same, List.map_append]; rfl, by simp [l5], fun z hz => ?_, (d5.trans d79).wr nnl⟩
            · rw [List.length_map, l5]
              exact line5lt (by have : (4 : Int).toNat = 4 := rfl; omega)
            · rcases List.mem_append.mp hz with hz | hz
              · exact g5 z hz
              · rw [List.mem_singleton.mp hz]
                exact nbL_p40 u (List.mem_of_getElem? hu)
          obtain ⟨ms, e17, l17, g17, d1617⟩ := h17
          refine nilT95 (rd_tupOf (.inl (.inl e17)) fun np H18 m18 e18 => ?_)
          have d318 : Dr b H3 H18 := d316.trans (d1617.trans (.of m18))
          have hB18 := d318.bag hB3
          have htp18 := (d1617.mv.sqT htp)
          refine ⟨(by decide : 2 ≤ sizeLine), fun p20 n20 => ?_⟩
          have k20 := Mv.new (S := []) (o := (.lst [.str "may", .str "must"])) n20
          have e20 : upd H18 p20 (.lst [.str "may", .str "must"]) p20 = some (.lst [.str "may", .str "must"]) := upd_same
          generalize upd H18 p20 (.lst [.str "may", .str "must"]) = H20 at k20 e20 ⊢
          have m20 := k20
          have hp20 : p20 ≠ b := hB18.fneq n20
          refine ⟨.ref b, rfl, b, 2, rfl, hB18.mv m20, by decide, by decide, fun o H21 o0 o1 d21 => ?_⟩
          obtain ⟨kd, hkd, hkd2⟩ : ∃ kd, ([.str "may", .str "must"] : List V)[o.toNat]? = some (.str kd) ∧ (kd = Str.ofString "may" ∨ kd = Str.ofString "must") := by
            have ho : o.toNat = 0 ∨ o.toNat = 1 := by omega
            rcases ho with ho | ho
            · exact ⟨_, by rw [ho]; rfl, .inl rfl⟩
            · exact ⟨_, by rw [ho]; rfl, .inr rfl⟩
          refine rd_ixL (.inl (.inl (d21.get hp20 e20))) o0 hkd ?_
          have d1821 : Dr b H18 H21 := (Dr.of m20).trans d21
          have hnum21 := d1821.mv.sqT e18
          have htp21 := d1821.mv.sqT (m18.sqT htp18)
          have hxs21 := ((hxs'.mv d1617.mv).mv m18).mv d1821.mv
          have hM : MovF ms kd vr' ts' := ⟨l17, g17, hkd2, hRv.vrk, hRv.tx, by have := hRv.few; omega, hRv.over⟩
          refine ⟨.ref np, rfl, .int vr', rfl, .ref tp', rfl, ?_⟩
          intro z dz nz ndz hne
          obtain ⟨hgood, hbd⟩ := rec_good (xs := xs') hRv.vrk.1 hRv.over (by have := hRv.few; omega) (fun t ht => by
            have h1 := (hRv.tx.one ht)
            have h2 := cst_nodN t
            have h3 := h1.nod
            have h4 : t.lv ≤ Tm.nod [t] := by
              unfold Tm.nod
              simp only [Tm.sizes, Tm.lvs]
              omega
            omega)
          have hall : IsAll K z H21 xs' (Tm.ths ts') := IsAll.of_ims ts' xs' hRv.tx.ok hxs21
          refine ⟨z, dz, .int vr', .ref tp', z, .int vr', _, H21, rfl, rfl, nz, ndz, hne, rfl, .tup htp21 hall, fun r hr' => ?_, fun k hk => ?_, fun many' r h1 h2 h3 p4 H22 m22 s22 e22 => ?_⟩
          · cases hr'
            exact hbd
          · rw [hgood] at hk
            cases hk
          cases h1
          cases h2
          have hRz : RecAt K H22 T.C_Recipe z vr' ts' := ⟨dz, p4, xs', s22, e22, hxs21.mv m22⟩
          refine ⟨rfl, .str kd, rfl, (by decide : 2 ≤ sizeLine), fun p23 n23 => ?_⟩
          have k23 := Mv.new (S := []) (o := (.tup [.ref z, .str kd])) n23
          have e23 : SqT K (upd H22 p23 (.tup [.ref z, .str kd])) p23 [.ref z, .str kd] := .inl (.inl upd_same)
          generalize upd H22 p23 (.tup [.ref z, .str kd]) = H23 at k23 e23 ⊢
          have m23 := m22.trans k23
          refine rd_cat (m23.sqT hnum21) e23 (by rw [List.length_map, l17]; exact (by decide : 4 + 2 ≤ sizeLine)) fun mv H24 m24 e24 => ?_
          have m2124 := m23.trans m24
          have hMv24 : MovAt K H24 T.C_Recipe mv ms kd vr' ts' := ⟨z, e24, hRz.mv (k23.trans m24)⟩
          refine ⟨.ref np, rfl, .str kd, rfl, .int vr', rfl, .ref tp', rfl, np, tp', xs', ms, kd, vr', ts', rfl, m2124.sqT hnum21, m2124.sqT htp21, hxs21.mv m2124, hM, fun H25 m25 => ⟨_, _, rfl, ?_⟩⟩
          have hnum25 := m25.sqT (m2124.sqT hnum21)
          have hB25 : Bag H25 b := ((d318.trans d1821).bag hB3).mv (m2124.trans m25)
          have hshM : Shw (.str (SX.S (movC ms kd vr' ts'))) := by
            obtain ⟨hsum, hlen⟩ := movP_len hM
            have hjs := joinL_sum32 (movP ms kd vr' ts')
            have hcl : (movC ms kd vr' ts').length ≤ 80310 := by
              rw [hlen] at hjs
              unfold movC
              omega
            exact ⟨strOk_asc (movC_asc hM), by simp [PyData.depth], by simp only [wl, SX.S_len]; omega⟩
          have hshK : Shw (.list [.tuple (ms.map PyData.int), .str kd]) := shw_mk l17 g17 hkd2
          have hk5 : (ms.map V.int ++ [.ref z, .str kd] : List V)[(5 : Int).toNat]? = some (.str kd) := hk5_95 l17
          refine ⟨2, rfl, by decide, by decide, ?_⟩
          refine for_range (lo := 0) (n := (2 : Int).toNat) (fun j σ H26 => ∃ (y7 y14 : Option V), σ = [some (.ref a), some (.ref b), some (.int (0 + (i : Int))), some (.ref nm), some (.ref p5), some v, some (wdV t.cx), y7, some (.int vr'), some (.ref tp'), some (.ref np), some (.str kd), some (.ref mv), some (wdV (movC ms kd vr' ts')), y14, none] ∧ Mv [] H25 H26)
            ⟨_, _, rfl, .refl⟩ (fun j σ H26 hj h26 => ?_) (fun σ H26 h26 => ?_)
          · obtain ⟨y7, y14, rfl, m26⟩ := h26
            refine ⟨wdV (movC ms kd vr' ts'), rfl, ms, kd, vr', ts', rfl, hM, fun fa H27 m27 hA => ?_⟩
            have m2527 := m26.trans m27
            have hMv27 : MovAt K H27 T.C_Recipe mv ms kd vr' ts' := (movAt_mv hMv24 (m25.trans m2527))
            refine ⟨.ref mv, rfl, mv, ms, kd, vr', ts', rfl, hMv27, hM, fun H28 m28 => ⟨_, rfl, _, _, _, rfl, .str _, .str _, hshM, ?_⟩⟩
            refine ⟨_, rfl, ?_⟩
            obtain ⟨fc, hfa, hfR⟩ := movAt_mv hA m28
            obtain ⟨mc, hmv, hmR⟩ := movAt_mv hMv27 m28
            refine ⟨.ref fa, rfl, ?_⟩
            walk_at "nc"
            refine rd_isTupW hfa ⟨_, rfl, ?_⟩
            refine ⟨.ref fa, rfl, ?_⟩
            walk_at "nc"
            refine rd_len (.inr hfa) (Or.inl ⟨rfl, _, rfl, ?_⟩)
            rw [show (ms.map V.int ++ [.ref fc, .str kd] : List V).length = 6 by rw [List.length_append, List.length_map, l17]; rfl]
            refine ⟨.ref fa, rfl, 4, rfl, ?_⟩
            refine rd_slT hfa fun p29 H29 m29 e29 => ?_
            have e29 : SqT K H29 p29 (ms.map V.int) := by
              rw [show (4 : Int) = ((4 : Nat) : Int) from rfl, cut_hi, List.take_append_of_le_length (by rw [List.length_map]; omega), List.take_of_length_le (by rw [List.length_map]; omega)] at e29
              exact e29
            refine ⟨.ref fa, rfl, rd_ixT (m29.sqT hfa) (by decide) (hk5_95 l17) ⟨(by decide : 2 ≤ sizeLine), fun p30 n30 => ?_⟩⟩
            have k30 := Mv.new (S := []) (o := (.lst [.ref p29, .str kd])) n30
            have e30 : upd H29 p30 (.lst [.ref p29, .str kd]) p30 = some (.lst [.ref p29, .str kd]) := upd_same
            generalize upd H29 p30 (.lst [.ref p29, .str kd]) = H30 at k30 e30 ⊢
            have m30 := m29.trans k30
            refine ⟨.ref np, rfl, .str kd, rfl, (by decide : 2 ≤ sizeLine), fun p31 n31 => ?_⟩
            have k31 := Mv.new (S := []) (o := (.lst [.ref np, .str kd])) n31
            have e31 : upd H30 p31 (.lst [.ref np, .str kd]) p31 = some (.lst [.ref np, .str kd]) := upd_same
            generalize upd H30 p31 (.lst [.ref np, .str kd]) = H31 at k31 e31 ⊢
            have m31 := m30.trans k31
            have m2531 := (m2527.trans m28).trans m31
            have i1 : Ims K H31 [.ref p29, .str kd] [.tuple (ms.map PyData.int), .str kd] := Ims.cons (Im.tup ((k30.trans k31).sqT e29) (ims_int95 ms)) (Ims.cons (.str _) Ims.nil)
            have i2 : Ims K H31 [.ref np, .str kd] [.tuple (ms.map PyData.int), .str kd] := Ims.cons (Im.tup (m2531.sqT hnum25) (ims_int95 ms)) (Ims.cons (.str _) Ims.nil)
            refine ⟨.ref p30, .ref p31, .list [.tuple (ms.map PyData.int), .str kd], rfl, .lst (.inl (.inl (k31.same _ _ e30))) i1.dp, .lst (.inl (.inl e31)) i2.dp, hshK, ?_⟩
            refine ⟨_, rfl, ?_⟩
            refine ⟨.ref fa, rfl, rd_ixT (m31.sqT hfa) (by decide) (hk4_95 l17) ⟨.ref mv, rfl, rd_ixT (m31.sqT hmv) (by decide) (hk4_95 l17) ?_⟩⟩
            have hf31 := hfR.mv m31
            have hm31 := hmR.mv m31
            obtain ⟨dxf, pf, xf, hsf, _, _⟩ := id hf31
            obtain ⟨dxm, pm, xm, hsm, _, _⟩ := id hm31
            have hsd := shaped_ts95 hRv.tx
            refine ⟨fc, dxf, _, rfl, hsf, .inl ⟨mc, T.C_Recipe, dxm, _, rfl, hsm, by simp [PySem.W.notFirst]⟩, fc, vr', ts', .ref mc, rfl, hf31, hsd, .inl ⟨mc, vr', ts', rfl, hm31, hsd, ?_⟩⟩
            refine ⟨_, rfl, _, rfl, ?_⟩
            rw [recEq_self hRv.tx]
            exact ⟨_, _, rfl, m2531⟩
          · obtain ⟨y7, y14, rfl, m26⟩ := h26
            exact ⟨_, _, _, _, _, _, _, _, _, _, _, _, _, rfl, hB25.mv m26⟩
    · obtain ⟨y2, y3, y4, y5, y6, y7, y8, y9, y10, y11, y12, y13, y14, rfl, hB3⟩ := h3
      exact q H3
end
end Fm
namespace Fm
open PySem PySem.Spec PyProof.Rows L2 SlX
section
variable {l : PySem.W.OpenLaw} {w : World} {K : PySem.W.Frag} {mg : Str → Option Value} {fa : Addr}
theorem all_mk {h : Heap} (X : K.In h) (G : h.Ns mainGlobals mg) (hfa : mg "law" = some (.ref fa))
    {f0 : Addr} {od0 an0 : Option Addr} {sl0 : Array (Option Value)} {oc0 kV0 dc0 pm0 cd0 ct0 : Value}
    (a0 : PySem.W.nsIn K mainGlobals "_wall" = some (some (.ref f0))) (l0 : K.lookup f0 = some ⟨oc0, od0, .func (PySem.W.fnOf "_wall" "_wall" (defArgs s__wall) (defBody s__wall) (defScope s__wall) .none kV0 dc0 pm0 an0 cd0 ct0), sl0⟩) (c0 : PySem.W.codeIn K cd0 "_wall" = true) (k0 : PySem.W.keepIn K (.ref f0) = true)
    {f1 : Addr} {od1 an1 : Option Addr} {sl1 : Array (Option Value)} {oc1 kV1 dc1 pm1 cd1 ct1 : Value}
    (a1 : PySem.W.nsIn K mainGlobals "is_integer" = some (some (.ref f1))) (l1 : K.lookup f1 = some ⟨oc1, od1, .func (PySem.W.fnOf "is_integer" "is_integer" (defArgs s_is_integer) (defBody s_is_integer) (defScope s_is_integer) .none kV1 dc1 pm1 an1 cd1 ct1), sl1⟩) (c1 : PySem.W.codeIn K cd1 "is_integer" = true) (k1 : PySem.W.keepIn K (.ref f1) = true)
    {f2 : Addr} {od2 an2 : Option Addr} {sl2 : Array (Option Value)} {oc2 kV2 dc2 pm2 cd2 ct2 : Value}
    (a2 : PySem.W.nsIn K mainGlobals "is_name" = some (some (.ref f2))) (l2 : K.lookup f2 = some ⟨oc2, od2, .func (PySem.W.fnOf "is_name" "is_name" (defArgs s_is_name) (defBody s_is_name) (defScope s_is_name) .none kV2 dc2 pm2 an2 cd2 ct2), sl2⟩) (c2 : PySem.W.codeIn K cd2 "is_name" = true) (k2 : PySem.W.keepIn K (.ref f2) = true)
    {f3 : Addr} {od3 an3 : Option Addr} {sl3 : Array (Option Value)} {oc3 kV3 dc3 pm3 cd3 ct3 : Value}
    (a3 : PySem.W.nsIn K mainGlobals "is_term" = some (some (.ref f3))) (l3 : K.lookup f3 = some ⟨oc3, od3, .func (PySem.W.fnOf "is_term" "is_term" (defArgs s_is_term) (defBody s_is_term) (defScope s_is_term) .none kV3 dc3 pm3 an3 cd3 ct3), sl3⟩) (c3 : PySem.W.codeIn K cd3 "is_term" = true) (k3 : PySem.W.keepIn K (.ref f3) = true)
    {f4 : Addr} {od4 an4 : Option Addr} {sl4 : Array (Option Value)} {oc4 kV4 dc4 pm4 cd4 ct4 : Value}
    (a4 : PySem.W.nsIn K mainGlobals "is_term_over" = some (some (.ref f4))) (l4 : K.lookup f4 = some ⟨oc4, od4, .func (PySem.W.fnOf "is_term_over" "is_term_over" (defArgs s_is_term_over) (defBody s_is_term_over) (defScope s_is_term_over) .none kV4 dc4 pm4 an4 cd4 ct4), sl4⟩) (c4 : PySem.W.codeIn K cd4 "is_term_over" = true) (k4 : PySem.W.keepIn K (.ref f4) = true)
    {f5 : Addr} {od5 an5 : Option Addr} {sl5 : Array (Option Value)} {oc5 kV5 dc5 pm5 cd5 ct5 : Value}
    (a5 : PySem.W.nsIn K mainGlobals "put" = some (some (.ref f5))) (l5 : K.lookup f5 = some ⟨oc5, od5, .func (PySem.W.fnOf "put" "put" (defArgs s_put) (defBody s_put) (defScope s_put) .none kV5 dc5 pm5 an5 cd5 ct5), sl5⟩) (c5 : PySem.W.codeIn K cd5 "put" = true) (k5 : PySem.W.keepIn K (.ref f5) = true)
    {f6 : Addr} {od6 an6 : Option Addr} {sl6 : Array (Option Value)} {oc6 kV6 dc6 pm6 cd6 ct6 : Value}
    (a6 : PySem.W.nsIn K mainGlobals "put_all" = some (some (.ref f6))) (l6 : K.lookup f6 = some ⟨oc6, od6, .func (PySem.W.fnOf "put_all" "put_all" (defArgs s_put_all) (defBody s_put_all) (defScope s_put_all) .none kV6 dc6 pm6 an6 cd6 ct6), sl6⟩) (c6 : PySem.W.codeIn K cd6 "put_all" = true) (k6 : PySem.W.keepIn K (.ref f6) = true)
    {f7 : Addr} {od7 an7 : Option Addr} {sl7 : Array (Option Value)} {oc7 kV7 dc7 pm7 cd7 ct7 : Value}
    (a7 : PySem.W.nsIn K mainGlobals "size" = some (some (.ref f7))) (l7 : K.lookup f7 = some ⟨oc7, od7, .func (PySem.W.fnOf "size" "size" (defArgs s_size) (defBody s_size) (defScope s_size) .none kV7 dc7 pm7 an7 cd7 ct7), sl7⟩) (c7 : PySem.W.codeIn K cd7 "size" = true) (k7 : PySem.W.keepIn K (.ref f7) = true)
    {f8 : Addr} {od8 an8 : Option Addr} {sl8 : Array (Option Value)} {oc8 kV8 dc8 pm8 cd8 ct8 : Value}
    (a8 : PySem.W.nsIn K mainGlobals "is_move" = some (some (.ref f8))) (l8 : K.lookup f8 = some ⟨oc8, od8, .func (PySem.W.fnOf "is_move" "is_move" (defArgs s_is_move) (defBody s_is_move) (defScope s_is_move) .none kV8 dc8 pm8 an8 cd8 ct8), sl8⟩) (c8 : PySem.W.codeIn K cd8 "is_move" = true) (k8 : PySem.W.keepIn K (.ref f8) = true)
    {f9 : Addr} {od9 an9 : Option Addr} {sl9 : Array (Option Value)} {oc9 kV9 dc9 pm9 cd9 ct9 : Value}
    (a9 : PySem.W.nsIn K mainGlobals "need" = some (some (.ref f9))) (l9 : K.lookup f9 = some ⟨oc9, od9, .func (PySem.W.fnOf "need" "need" (defArgs s_need) (defBody s_need) (defScope s_need) .none kV9 dc9 pm9 an9 cd9 ct9), sl9⟩) (c9 : PySem.W.codeIn K cd9 "need" = true) (k9 : PySem.W.keepIn K (.ref f9) = true)
    {f10 : Addr} {od10 an10 : Option Addr} {sl10 : Array (Option Value)} {oc10 kV10 dc10 pm10 cd10 ct10 : Value}
    (a10 : PySem.W.nsIn K mainGlobals "listed" = some (some (.ref f10))) (l10 : K.lookup f10 = some ⟨oc10, od10, .func (PySem.W.fnOf "listed" "listed" (defArgs s_listed) (defBody s_listed) (defScope s_listed) .none kV10 dc10 pm10 an10 cd10 ct10), sl10⟩) (c10 : PySem.W.codeIn K cd10 "listed" = true) (k10 : PySem.W.keepIn K (.ref f10) = true)
    {f11 : Addr} {od11 an11 : Option Addr} {sl11 : Array (Option Value)} {oc11 kV11 dc11 pm11 cd11 ct11 : Value}
    (a11 : PySem.W.nsIn K mainGlobals "show_term" = some (some (.ref f11))) (l11 : K.lookup f11 = some ⟨oc11, od11, .func (PySem.W.fnOf "show_term" "show_term" (defArgs s_show_term) (defBody s_show_term) (defScope s_show_term) .none kV11 dc11 pm11 an11 cd11 ct11), sl11⟩) (c11 : PySem.W.codeIn K cd11 "show_term" = true) (k11 : PySem.W.keepIn K (.ref f11) = true)
    {f12 : Addr} {od12 an12 : Option Addr} {sl12 : Array (Option Value)} {oc12 kV12 dc12 pm12 cd12 ct12 : Value}
    (a12 : PySem.W.nsIn K mainGlobals "show_recipe" = some (some (.ref f12))) (l12 : K.lookup f12 = some ⟨oc12, od12, .func (PySem.W.fnOf "show_recipe" "show_recipe" (defArgs s_show_recipe) (defBody s_show_recipe) (defScope s_show_recipe) .none kV12 dc12 pm12 an12 cd12 ct12), sl12⟩) (c12 : PySem.W.codeIn K cd12 "show_recipe" = true) (k12 : PySem.W.keepIn K (.ref f12) = true)
    {f13 : Addr} {od13 an13 : Option Addr} {sl13 : Array (Option Value)} {oc13 kV13 dc13 pm13 cd13 ct13 : Value}
    (a13 : PySem.W.nsIn K mainGlobals "show_move" = some (some (.ref f13))) (l13 : K.lookup f13 = some ⟨oc13, od13, .func (PySem.W.fnOf "show_move" "show_move" (defArgs s_show_move) (defBody s_show_move) (defScope s_show_move) .none kV13 dc13 pm13 an13 cd13 ct13), sl13⟩) (c13 : PySem.W.codeIn K cd13 "show_move" = true) (k13 : PySem.W.keepIn K (.ref f13) = true)
    {f14 : Addr} {od14 an14 : Option Addr} {sl14 : Array (Option Value)} {oc14 kV14 dc14 pm14 cd14 ct14 : Value}
    (a14 : PySem.W.nsIn K mainGlobals "read_integer" = some (some (.ref f14))) (l14 : K.lookup f14 = some ⟨oc14, od14, .func (PySem.W.fnOf "read_integer" "read_integer" (defArgs s_read_integer) (defBody s_read_integer) (defScope s_read_integer) .none kV14 dc14 pm14 an14 cd14 ct14), sl14⟩) (c14 : PySem.W.codeIn K cd14 "read_integer" = true) (k14 : PySem.W.keepIn K (.ref f14) = true)
    {f15 : Addr} {od15 an15 : Option Addr} {sl15 : Array (Option Value)} {oc15 kV15 dc15 pm15 cd15 ct15 : Value}
    (a15 : PySem.W.nsIn K mainGlobals "tokens_of" = some (some (.ref f15))) (l15 : K.lookup f15 = some ⟨oc15, od15, .func (PySem.W.fnOf "tokens_of" "tokens_of" (defArgs s_tokens_of) (defBody s_tokens_of) (defScope s_tokens_of) .none kV15 dc15 pm15 an15 cd15 ct15), sl15⟩) (c15 : PySem.W.codeIn K cd15 "tokens_of" = true) (k15 : PySem.W.keepIn K (.ref f15) = true)
    {f16 : Addr} {od16 an16 : Option Addr} {sl16 : Array (Option Value)} {oc16 kV16 dc16 pm16 cd16 ct16 : Value}
    (a16 : PySem.W.nsIn K mainGlobals "leaf" = some (some (.ref f16))) (l16 : K.lookup f16 = some ⟨oc16, od16, .func (PySem.W.fnOf "leaf" "leaf" (defArgs s_leaf) (defBody s_leaf) (defScope s_leaf) .none kV16 dc16 pm16 an16 cd16 ct16), sl16⟩) (c16 : PySem.W.codeIn K cd16 "leaf" = true) (k16 : PySem.W.keepIn K (.ref f16) = true)
    {f17 : Addr} {od17 an17 : Option Addr} {sl17 : Array (Option Value)} {oc17 kV17 dc17 pm17 cd17 ct17 : Value}
    (a17 : PySem.W.nsIn K mainGlobals "parsed" = some (some (.ref f17))) (l17 : K.lookup f17 = some ⟨oc17, od17, .func (PySem.W.fnOf "parsed" "parsed" (defArgs s_parsed) (defBody s_parsed) (defScope s_parsed) .none kV17 dc17 pm17 an17 cd17 ct17), sl17⟩) (c17 : PySem.W.codeIn K cd17 "parsed" = true) (k17 : PySem.W.keepIn K (.ref f17) = true)
    {f18 : Addr} {od18 an18 : Option Addr} {sl18 : Array (Option Value)} {oc18 kV18 dc18 pm18 cd18 ct18 : Value}
    (a18 : PySem.W.nsIn K mainGlobals "need_term" = some (some (.ref f18))) (l18 : K.lookup f18 = some ⟨oc18, od18, .func (PySem.W.fnOf "need_term" "need_term" (defArgs s_need_term) (defBody s_need_term) (defScope s_need_term) .none kV18 dc18 pm18 an18 cd18 ct18), sl18⟩) (c18 : PySem.W.codeIn K cd18 "need_term" = true) (k18 : PySem.W.keepIn K (.ref f18) = true)
    {f19 : Addr} {od19 an19 : Option Addr} {sl19 : Array (Option Value)} {oc19 kV19 dc19 pm19 cd19 ct19 : Value}
    (a19 : PySem.W.nsIn K mainGlobals "read_term" = some (some (.ref f19))) (l19 : K.lookup f19 = some ⟨oc19, od19, .func (PySem.W.fnOf "read_term" "read_term" (defArgs s_read_term) (defBody s_read_term) (defScope s_read_term) .none kV19 dc19 pm19 an19 cd19 ct19), sl19⟩) (c19 : PySem.W.codeIn K cd19 "read_term" = true) (k19 : PySem.W.keepIn K (.ref f19) = true)
    {f20 : Addr} {od20 an20 : Option Addr} {sl20 : Array (Option Value)} {oc20 kV20 dc20 pm20 cd20 ct20 : Value}
    (a20 : PySem.W.nsIn K mainGlobals "read_listed" = some (some (.ref f20))) (l20 : K.lookup f20 = some ⟨oc20, od20, .func (PySem.W.fnOf "read_listed" "read_listed" (defArgs s_read_listed) (defBody s_read_listed) (defScope s_read_listed) .none kV20 dc20 pm20 an20 cd20 ct20), sl20⟩) (c20 : PySem.W.codeIn K cd20 "read_listed" = true) (k20 : PySem.W.keepIn K (.ref f20) = true)
    {f21 : Addr} {od21 an21 : Option Addr} {sl21 : Array (Option Value)} {oc21 kV21 dc21 pm21 cd21 ct21 : Value}
    (a21 : PySem.W.nsIn K mainGlobals "read_move" = some (some (.ref f21))) (l21 : K.lookup f21 = some ⟨oc21, od21, .func (PySem.W.fnOf "read_move" "read_move" (defArgs s_read_move) (defBody s_read_move) (defScope s_read_move) .none kV21 dc21 pm21 an21 cd21 ct21), sl21⟩) (c21 : PySem.W.codeIn K cd21 "read_move" = true) (k21 : PySem.W.keepIn K (.ref f21) = true)
    {f22 : Addr} {od22 an22 : Option Addr} {sl22 : Array (Option Value)} {oc22 kV22 dc22 pm22 cd22 ct22 : Value}
    (a22 : PySem.W.nsIn K mainGlobals "_law_bag" = some (some (.ref f22))) (l22 : K.lookup f22 = some ⟨oc22, od22, .func (PySem.W.fnOf "_law_bag" "_law_bag" (defArgs s__law_bag) (defBody s__law_bag) (defScope s__law_bag) .none kV22 dc22 pm22 an22 cd22 ct22), sl22⟩) (c22 : PySem.W.codeIn K cd22 "_law_bag" = true) (k22 : PySem.W.keepIn K (.ref f22) = true)
    {f23 : Addr} {od23 an23 : Option Addr} {sl23 : Array (Option Value)} {oc23 kV23 dc23 pm23 cd23 ct23 : Value}
    (a23 : PySem.W.nsIn K mainGlobals "_law_take" = some (some (.ref f23))) (l23 : K.lookup f23 = some ⟨oc23, od23, .func (PySem.W.fnOf "_law_take" "_law_take" (defArgs s__law_take) (defBody s__law_take) (defScope s__law_take) .none kV23 dc23 pm23 an23 cd23 ct23), sl23⟩) (c23 : PySem.W.codeIn K cd23 "_law_take" = true) (k23 : PySem.W.keepIn K (.ref f23) = true)
    {f24 : Addr} {od24 an24 : Option Addr} {sl24 : Array (Option Value)} {oc24 kV24 dc24 pm24 cd24 ct24 : Value}
    (a24 : PySem.W.nsIn K mainGlobals "_law_alike" = some (some (.ref f24))) (l24 : K.lookup f24 = some ⟨oc24, od24, .func (PySem.W.fnOf "_law_alike" "_law_alike" (defArgs s__law_alike) (defBody s__law_alike) (defScope s__law_alike) .none kV24 dc24 pm24 an24 cd24 ct24), sl24⟩) (c24 : PySem.W.codeIn K cd24 "_law_alike" = true) (k24 : PySem.W.keepIn K (.ref f24) = true)
    {f25 : Addr} {od25 an25 : Option Addr} {sl25 : Array (Option Value)} {oc25 kV25 dc25 pm25 cd25 ct25 : Value}
    (a25 : PySem.W.nsIn K mainGlobals "_law_names" = some (some (.ref f25))) (l25 : K.lookup f25 = some ⟨oc25, od25, .func (PySem.W.fnOf "_law_names" "_law_names" (defArgs s__law_names) (defBody s__law_names) (defScope s__law_names) .none kV25 dc25 pm25 an25 cd25 ct25), sl25⟩) (c25 : PySem.W.codeIn K cd25 "_law_names" = true) (k25 : PySem.W.keepIn K (.ref f25) = true)
    {f26 : Addr} {od26 an26 : Option Addr} {sl26 : Array (Option Value)} {oc26 kV26 dc26 pm26 cd26 ct26 : Value}
    (a26 : PySem.W.nsIn K mainGlobals "_law_term" = some (some (.ref f26))) (l26 : K.lookup f26 = some ⟨oc26, od26, .func (PySem.W.fnOf "_law_term" "_law_term" (defArgs s__law_term) (defBody s__law_term) (defScope s__law_term) .none kV26 dc26 pm26 an26 cd26 ct26), sl26⟩) (c26 : PySem.W.codeIn K cd26 "_law_term" = true) (k26 : PySem.W.keepIn K (.ref f26) = true)
    {f27 : Addr} {od27 an27 : Option Addr} {sl27 : Array (Option Value)} {oc27 kV27 dc27 pm27 cd27 ct27 : Value}
    (a27 : PySem.W.nsIn K mainGlobals "_law_put" = some (some (.ref f27))) (l27 : K.lookup f27 = some ⟨oc27, od27, .func (PySem.W.fnOf "_law_put" "_law_put" (defArgs s__law_put) (defBody s__law_put) (defScope s__law_put) .none kV27 dc27 pm27 an27 cd27 ct27), sl27⟩) (c27 : PySem.W.codeIn K cd27 "_law_put" = true) (k27 : PySem.W.keepIn K (.ref f27) = true)
    {f28 : Addr} {od28 an28 : Option Addr} {sl28 : Array (Option Value)} {oc28 kV28 dc28 pm28 cd28 ct28 : Value}
    (a28 : PySem.W.nsIn K mainGlobals "_law_term_text" = some (some (.ref f28))) (l28 : K.lookup f28 = some ⟨oc28, od28, .func (PySem.W.fnOf "_law_term_text" "_law_term_text" (defArgs s__law_term_text) (defBody s__law_term_text) (defScope s__law_term_text) .none kV28 dc28 pm28 an28 cd28 ct28), sl28⟩) (c28 : PySem.W.codeIn K cd28 "_law_term_text" = true) (k28 : PySem.W.keepIn K (.ref f28) = true)
    {f29 : Addr} {od29 an29 : Option Addr} {sl29 : Array (Option Value)} {oc29 kV29 dc29 pm29 cd29 ct29 : Value}
    (a29 : PySem.W.nsIn K mainGlobals "_law_listed_text" = some (some (.ref f29))) (l29 : K.lookup f29 = some ⟨oc29, od29, .func (PySem.W.fnOf "_law_listed_text" "_law_listed_text" (defArgs s__law_listed_text) (defBody s__law_listed_text) (defScope s__law_listed_text) .none kV29 dc29 pm29 an29 cd29 ct29), sl29⟩) (c29 : PySem.W.codeIn K cd29 "_law_listed_text" = true) (k29 : PySem.W.keepIn K (.ref f29) = true)
    {f30 : Addr} {od30 an30 : Option Addr} {sl30 : Array (Option Value)} {oc30 kV30 dc30 pm30 cd30 ct30 : Value}
    (a30 : PySem.W.nsIn K mainGlobals "_law_move_text" = some (some (.ref f30))) (l30 : K.lookup f30 = some ⟨oc30, od30, .func (PySem.W.fnOf "_law_move_text" "_law_move_text" (defArgs s__law_move_text) (defBody s__law_move_text) (defScope s__law_move_text) .none kV30 dc30 pm30 an30 cd30 ct30), sl30⟩) (c30 : PySem.W.codeIn K cd30 "_law_move_text" = true) (k30 : PySem.W.keepIn K (.ref f30) = true)
    {f31 : Addr} {od31 an31 : Option Addr} {sl31 : Array (Option Value)} {oc31 kV31 dc31 pm31 cd31 ct31 : Value}
    (a31 : PySem.W.nsIn K mainGlobals "law" = some (some (.ref f31))) (l31 : K.lookup f31 = some ⟨oc31, od31, .func (PySem.W.fnOf "law" "law" (defArgs s_law) (defBody s_law) (defScope s_law) .none kV31 dc31 pm31 an31 cd31 ct31), sl31⟩) (c31 : PySem.W.codeIn K cd31 "law" = true) (k31 : PySem.W.keepIn K (.ref f31) = true)
    {C_Recipe : Addr}
    (g_Recipe : PySem.W.nsIn K mainGlobals "Recipe" = some (some (.ref C_Recipe)))
    (k_Recipe : PySem.W.keepIn K (.ref C_Recipe) = true)
    (pg_Recipe : PySem.W.plainGet K C_Recipe Str.empty = true)
    (ic_Recipe : PySem.W.isClsIn K C_Recipe = true)
    (po_Recipe : PySem.W.plainOver K C_Recipe = true)
    (sa_Recipe : PySem.W.findIn K (.ref C_Recipe) "__setattr__" = some (some (.builtin "object.__setattr__")))
    (mk_Recipe : PySem.W.makesIn K C_Recipe = true)
    (ca_Recipe : PySem.W.findIn K (.ref C_Recipe) "__class__" = some (some (.builtin "object.__class__")))
    (cn_Recipe : PySem.W.specialIn K (.builtin "object.__class__") "__get__" = some (some (.builtin "getset_descriptor.__get__")))
    (ct_Recipe : PySem.W.takesIn K (.builtin "object.__class__") = some true)
    (cm_Recipe : PySem.W.mroIn K C_Recipe (.type "object") = some true)
    (ne_Recipe : PySem.W.findIn K (.ref C_Recipe) "__ne__" = some (some (.builtin "object.__ne__")))
    (tyc_Recipe : PySem.W.typeIn K (.ref C_Recipe) = some (.type "type"))
    (mul_Recipe : PySem.W.selfFirst K C_Recipe = true)
    (nl_Recipe : PySem.W.subIn K (.ref C_Recipe) (.type "list") = some false)
    (nt_Recipe : PySem.W.subIn K (.ref C_Recipe) (.type "tuple") = some false)
    {p_Recipe_its_terms : Addr}
    (at_Recipe_its_terms : PySem.W.findIn K (.ref C_Recipe) "its_terms" = some (some (.ref p_Recipe_its_terms)))
    (get_Recipe_its_terms : PySem.W.specialIn K (.ref p_Recipe_its_terms) "__get__" = some (some (.builtin "member_descriptor.__get__")))
    (tk_Recipe_its_terms : PySem.W.takesIn K (.ref p_Recipe_its_terms) = some true)
    (ty_Recipe_its_terms : PySem.W.typeIn K (.ref p_Recipe_its_terms) = some (.type "member_descriptor"))
    (ix_Recipe_its_terms : PySem.W.slotIn K p_Recipe_its_terms C_Recipe = some 0)
    {p_Recipe_its_variables : Addr}
    (at_Recipe_its_variables : PySem.W.findIn K (.ref C_Recipe) "its_variables" = some (some (.ref p_Recipe_its_variables)))
    (get_Recipe_its_variables : PySem.W.specialIn K (.ref p_Recipe_its_variables) "__get__" = some (some (.builtin "member_descriptor.__get__")))
    (tk_Recipe_its_variables : PySem.W.takesIn K (.ref p_Recipe_its_variables) = some true)
    (ty_Recipe_its_variables : PySem.W.typeIn K (.ref p_Recipe_its_variables) = some (.type "member_descriptor"))
    (ix_Recipe_its_variables : PySem.W.slotIn K p_Recipe_its_variables C_Recipe = some 1)
    {f_Recipe___init__ : Addr} {od_Recipe___init__ an_Recipe___init__ : Option Addr} {sl_Recipe___init__ : Array (Option Value)} {oc_Recipe___init__ kV_Recipe___init__ dc_Recipe___init__ pm_Recipe___init__ cd_Recipe___init__ cc_Recipe___init__ : Value}
    (am_Recipe___init__ : PySem.W.findIn K (.ref C_Recipe) "__init__" = some (some (.ref f_Recipe___init__)))
    (im_Recipe___init__ : PySem.W.isFn K (.ref f_Recipe___init__) = true)
    (lm_Recipe___init__ : K.lookup f_Recipe___init__ = some ⟨oc_Recipe___init__, od_Recipe___init__, .func (PySem.W.fnOf "__init__" "Recipe.__init__" (defArgs s_Recipe___init__) (defBody s_Recipe___init__) (defScope s_Recipe___init__) .none kV_Recipe___init__ dc_Recipe___init__ pm_Recipe___init__ an_Recipe___init__ cd_Recipe___init__ cc_Recipe___init__), sl_Recipe___init__⟩)
    (co_Recipe___init__ : PySem.W.codeIn K cd_Recipe___init__ "Recipe.__init__" = true)
    (km_Recipe___init__ : PySem.W.keepIn K (.ref f_Recipe___init__) = true)
    {f_Recipe_variables : Addr} {od_Recipe_variables an_Recipe_variables : Option Addr} {sl_Recipe_variables : Array (Option Value)} {oc_Recipe_variables kV_Recipe_variables dc_Recipe_variables pm_Recipe_variables cd_Recipe_variables cc_Recipe_variables : Value}
    {p_Recipe_variables : Addr} {rs_Recipe_variables : List Value}
    (pa_Recipe_variables : PySem.W.findIn K (.ref C_Recipe) "variables" = some (some (.ref p_Recipe_variables)))
    (pg_Recipe_variables : PySem.W.specialIn K (.ref p_Recipe_variables) "__get__" = some (some (.builtin "property.__get__")))
    (pt_Recipe_variables : PySem.W.takesIn K (.ref p_Recipe_variables) = some true)
    (pr_Recipe_variables : PySem.W.recIn K p_Recipe_variables "property" = some (.ref f_Recipe_variables :: rs_Recipe_variables))
    (lm_Recipe_variables : K.lookup f_Recipe_variables = some ⟨oc_Recipe_variables, od_Recipe_variables, .func (PySem.W.fnOf "variables" "Recipe.variables" (defArgs s_Recipe_variables) (defBody s_Recipe_variables) (defScope s_Recipe_variables) .none kV_Recipe_variables dc_Recipe_variables pm_Recipe_variables an_Recipe_variables cd_Recipe_variables cc_Recipe_variables), sl_Recipe_variables⟩)
    (co_Recipe_variables : PySem.W.codeIn K cd_Recipe_variables "Recipe.variables" = true)
    (km_Recipe_variables : PySem.W.keepIn K (.ref f_Recipe_variables) = true)
    {f_Recipe_terms : Addr} {od_Recipe_terms an_Recipe_terms : Option Addr} {sl_Recipe_terms : Array (Option Value)} {oc_Recipe_terms kV_Recipe_terms dc_Recipe_terms pm_Recipe_terms cd_Recipe_terms cc_Recipe_terms : Value}
    {p_Recipe_terms : Addr} {rs_Recipe_terms : List Value}
    (pa_Recipe_terms : PySem.W.findIn K (.ref C_Recipe) "terms" = some (some (.ref p_Recipe_terms)))
    (pg_Recipe_terms : PySem.W.specialIn K (.ref p_Recipe_terms) "__get__" = some (some (.builtin "property.__get__")))
    (pt_Recipe_terms : PySem.W.takesIn K (.ref p_Recipe_terms) = some true)
    (pr_Recipe_terms : PySem.W.recIn K p_Recipe_terms "property" = some (.ref f_Recipe_terms :: rs_Recipe_terms))
    (lm_Recipe_terms : K.lookup f_Recipe_terms = some ⟨oc_Recipe_terms, od_Recipe_terms, .func (PySem.W.fnOf "terms" "Recipe.terms" (defArgs s_Recipe_terms) (defBody s_Recipe_terms) (defScope s_Recipe_terms) .none kV_Recipe_terms dc_Recipe_terms pm_Recipe_terms an_Recipe_terms cd_Recipe_terms cc_Recipe_terms), sl_Recipe_terms⟩)
    (co_Recipe_terms : PySem.W.codeIn K cd_Recipe_terms "Recipe.terms" = true)
    (km_Recipe_terms : PySem.W.keepIn K (.ref f_Recipe_terms) = true)
    {f_Recipe_keeping : Addr} {od_Recipe_keeping an_Recipe_keeping : Option Addr} {sl_Recipe_keeping : Array (Option Value)} {oc_Recipe_keeping kV_Recipe_keeping dc_Recipe_keeping pm_Recipe_keeping cd_Recipe_keeping cc_Recipe_keeping : Value}
    {p_Recipe_keeping : Addr} {rs_Recipe_keeping : List Value}
    (sf_Recipe_keeping : PySem.W.findCls K (.ref C_Recipe) (.type "type") "keeping" = some (.get (.builtin "staticmethod.__get__") (.ref p_Recipe_keeping) .none (.ref C_Recipe)))
    (sr_Recipe_keeping : PySem.W.recIn K p_Recipe_keeping "staticmethod" = some (.ref f_Recipe_keeping :: rs_Recipe_keeping))
    (sd_Recipe_keeping : PySem.W.readsIn K C_Recipe (.type "type") = true)
    (sg_Recipe_keeping : PySem.W.specialIn K (.ref C_Recipe) "__getattribute__" = some (some (.builtin "type.__getattribute__")))
    (st_Recipe_keeping : PySem.W.typeIn K (.ref C_Recipe) = some (.type "type"))
    (lm_Recipe_keeping : K.lookup f_Recipe_keeping = some ⟨oc_Recipe_keeping, od_Recipe_keeping, .func (PySem.W.fnOf "keeping" "Recipe.keeping" (defArgs s_Recipe_keeping) (defBody s_Recipe_keeping) (defScope s_Recipe_keeping) .none kV_Recipe_keeping dc_Recipe_keeping pm_Recipe_keeping an_Recipe_keeping cd_Recipe_keeping cc_Recipe_keeping), sl_Recipe_keeping⟩)
    (co_Recipe_keeping : PySem.W.codeIn K cd_Recipe_keeping "Recipe.keeping" = true)
    (km_Recipe_keeping : PySem.W.keepIn K (.ref f_Recipe_keeping) = true)
    {f_Recipe___call__ : Addr} {od_Recipe___call__ an_Recipe___call__ : Option Addr} {sl_Recipe___call__ : Array (Option Value)} {oc_Recipe___call__ kV_Recipe___call__ dc_Recipe___call__ pm_Recipe___call__ cd_Recipe___call__ cc_Recipe___call__ : Value}
    (am_Recipe___call__ : PySem.W.findIn K (.ref C_Recipe) "__call__" = some (some (.ref f_Recipe___call__)))
    (im_Recipe___call__ : PySem.W.isFn K (.ref f_Recipe___call__) = true)
    (lm_Recipe___call__ : K.lookup f_Recipe___call__ = some ⟨oc_Recipe___call__, od_Recipe___call__, .func (PySem.W.fnOf "__call__" "Recipe.__call__" (defArgs s_Recipe___call__) (defBody s_Recipe___call__) (defScope s_Recipe___call__) .none kV_Recipe___call__ dc_Recipe___call__ pm_Recipe___call__ an_Recipe___call__ cd_Recipe___call__ cc_Recipe___call__), sl_Recipe___call__⟩)
    (co_Recipe___call__ : PySem.W.codeIn K cd_Recipe___call__ "Recipe.__call__" = true)
    (km_Recipe___call__ : PySem.W.keepIn K (.ref f_Recipe___call__) = true)
    {f_Recipe___mul__ : Addr} {od_Recipe___mul__ an_Recipe___mul__ : Option Addr} {sl_Recipe___mul__ : Array (Option Value)} {oc_Recipe___mul__ kV_Recipe___mul__ dc_Recipe___mul__ pm_Recipe___mul__ cd_Recipe___mul__ cc_Recipe___mul__ : Value}
    (am_Recipe___mul__ : PySem.W.findIn K (.ref C_Recipe) "__mul__" = some (some (.ref f_Recipe___mul__)))
    (im_Recipe___mul__ : PySem.W.isFn K (.ref f_Recipe___mul__) = true)
    (lm_Recipe___mul__ : K.lookup f_Recipe___mul__ = some ⟨oc_Recipe___mul__, od_Recipe___mul__, .func (PySem.W.fnOf "__mul__" "Recipe.__mul__" (defArgs s_Recipe___mul__) (defBody s_Recipe___mul__) (defScope s_Recipe___mul__) .none kV_Recipe___mul__ dc_Recipe___mul__ pm_Recipe___mul__ an_Recipe___mul__ cd_Recipe___mul__ cc_Recipe___mul__), sl_Recipe___mul__⟩)
    (co_Recipe___mul__ : PySem.W.codeIn K cd_Recipe___mul__ "Recipe.__mul__" = true)
    (km_Recipe___mul__ : PySem.W.keepIn K (.ref f_Recipe___mul__) = true)
    {f_Recipe___eq__ : Addr} {od_Recipe___eq__ an_Recipe___eq__ : Option Addr} {sl_Recipe___eq__ : Array (Option Value)} {oc_Recipe___eq__ kV_Recipe___eq__ dc_Recipe___eq__ pm_Recipe___eq__ cd_Recipe___eq__ cc_Recipe___eq__ : Value}
    (am_Recipe___eq__ : PySem.W.findIn K (.ref C_Recipe) "__eq__" = some (some (.ref f_Recipe___eq__)))
    (im_Recipe___eq__ : PySem.W.isFn K (.ref f_Recipe___eq__) = true)
    (lm_Recipe___eq__ : K.lookup f_Recipe___eq__ = some ⟨oc_Recipe___eq__, od_Recipe___eq__, .func (PySem.W.fnOf "__eq__" "Recipe.__eq__" (defArgs s_Recipe___eq__) (defBody s_Recipe___eq__) (defScope s_Recipe___eq__) .none kV_Recipe___eq__ dc_Recipe___eq__ pm_Recipe___eq__ an_Recipe___eq__ cd_Recipe___eq__ cc_Recipe___eq__), sl_Recipe___eq__⟩)
    (co_Recipe___eq__ : PySem.W.codeIn K cd_Recipe___eq__ "Recipe.__eq__" = true)
    (km_Recipe___eq__ : PySem.W.keepIn K (.ref f_Recipe___eq__) = true)
    {f_Recipe___len__ : Addr} {od_Recipe___len__ an_Recipe___len__ : Option Addr} {sl_Recipe___len__ : Array (Option Value)} {oc_Recipe___len__ kV_Recipe___len__ dc_Recipe___len__ pm_Recipe___len__ cd_Recipe___len__ cc_Recipe___len__ : Value}
    (am_Recipe___len__ : PySem.W.findIn K (.ref C_Recipe) "__len__" = some (some (.ref f_Recipe___len__)))
    (im_Recipe___len__ : PySem.W.isFn K (.ref f_Recipe___len__) = true)
    (lm_Recipe___len__ : K.lookup f_Recipe___len__ = some ⟨oc_Recipe___len__, od_Recipe___len__, .func (PySem.W.fnOf "__len__" "Recipe.__len__" (defArgs s_Recipe___len__) (defBody s_Recipe___len__) (defScope s_Recipe___len__) .none kV_Recipe___len__ dc_Recipe___len__ pm_Recipe___len__ an_Recipe___len__ cd_Recipe___len__ cc_Recipe___len__), sl_Recipe___len__⟩)
    (co_Recipe___len__ : PySem.W.codeIn K cd_Recipe___len__ "Recipe.__len__" = true)
    (km_Recipe___len__ : PySem.W.keepIn K (.ref f_Recipe___len__) = true)
    {f_Recipe___repr__ : Addr} {od_Recipe___repr__ an_Recipe___repr__ : Option Addr} {sl_Recipe___repr__ : Array (Option Value)} {oc_Recipe___repr__ kV_Recipe___repr__ dc_Recipe___repr__ pm_Recipe___repr__ cd_Recipe___repr__ cc_Recipe___repr__ : Value}
    (am_Recipe___repr__ : PySem.W.findIn K (.ref C_Recipe) "__repr__" = some (some (.ref f_Recipe___repr__)))
    (im_Recipe___repr__ : PySem.W.isFn K (.ref f_Recipe___repr__) = true)
    (lm_Recipe___repr__ : K.lookup f_Recipe___repr__ = some ⟨oc_Recipe___repr__, od_Recipe___repr__, .func (PySem.W.fnOf "__repr__" "Recipe.__repr__" (defArgs s_Recipe___repr__) (defBody s_Recipe___repr__) (defScope s_Recipe___repr__) .none kV_Recipe___repr__ dc_Recipe___repr__ pm_Recipe___repr__ an_Recipe___repr__ cd_Recipe___repr__ cc_Recipe___repr__), sl_Recipe___repr__⟩)
    (co_Recipe___repr__ : PySem.W.codeIn K cd_Recipe___repr__ "Recipe.__repr__" = true)
    (km_Recipe___repr__ : PySem.W.keepIn K (.ref f_Recipe___repr__) = true)
    (topS_ : (l.prog.main.scope.names.lookup ("super" : Str)).isSome = false)
    (sup_ : PySem.W.nsIn K mainGlobals "super" = some none)
    (opq_ : PySem.W.nsIn K PySem.cStatics "thirdparty.any" = some none)
    {C_MoveError : Addr}
    (g_MoveError : PySem.W.nsIn K mainGlobals "MoveError" = some (some (.ref C_MoveError)))
    (ex_MoveError : PySem.W.subIn K (.ref C_MoveError) (.type "BaseException") = some true)
    (hd_MoveError : PySem.W.hasDictIn K C_MoveError = true)
    (ty_MoveError : PySem.W.typeIn K (.ref C_MoveError) = some (.type "type"))
    {C_Wrong : Addr}
    (g_Wrong : PySem.W.nsIn K mainGlobals "Wrong" = some (some (.ref C_Wrong)))
    (ex_Wrong : PySem.W.subIn K (.ref C_Wrong) (.type "BaseException") = some true)
    (hd_Wrong : PySem.W.hasDictIn K C_Wrong = true)
    (ty_Wrong : PySem.W.typeIn K (.ref C_Wrong) = some (.type "type"))
    {nm_Wrong q_Wrong : Str} {N_Wrong : Addr} {bs_Wrong bm_Wrong sub_Wrong : List Value} {sn_Wrong : List Str} {ab_Wrong : Bool} {col_Wrong : Option Bool} {dd_Wrong : Option Addr} {k0_Wrong k1_Wrong k2_Wrong k3_Wrong k5_Wrong : Option Value}
    (cls_Wrong : K.lookup C_Wrong = some (excClassObj nm_Wrong q_Wrong C_Wrong N_Wrong bs_Wrong bm_Wrong true sn_Wrong sub_Wrong ab_Wrong col_Wrong dd_Wrong k0_Wrong k1_Wrong k2_Wrong k3_Wrong k5_Wrong "ValueError.__new__"))
    (ve_Wrong : PySem.HandSPX.refsVE bm_Wrong = true)
    (sa_Wrong : PySem.W.findIn K (.ref C_Wrong) "__setattr__" = some (some (.builtin "object.__setattr__")))
    (no_Wrong : PySem.W.findIn K (.ref C_Wrong) "place" = some none)
    (k_Wrong : PySem.W.keepIn K (.ref C_Wrong) = true)
    (vs_Wrong : PySem.W.subIn K (.ref C_Wrong) (.type "ValueError") = some true)
    (up_Wrong : PySem.W.ks_superIn K C_Wrong C_Wrong "__init__" = some (some (.builtin "ValueError.__init__")))
    (self_Wrong : PySem.W.mroIn K C_Wrong (.ref C_Wrong) = some true)
    {fI_Wrong cda_Wrong cc_Wrong : Addr} {oc_Wrong kV_Wrong doc_Wrong pm_Wrong ct_Wrong cl_Wrong ccl_Wrong : Value} {od_Wrong an_Wrong cld_Wrong cdd_Wrong : Option Addr} {osl_Wrong csl_Wrong ccs_Wrong : Array (Option Value)} {ql_Wrong file_Wrong : Str} {vv_Wrong : Array Value} {tf_Wrong : Tok} {p1_Wrong p2_Wrong q1_Wrong q2_Wrong q3_Wrong q4_Wrong q5_Wrong q6_Wrong q7_Wrong q8_Wrong q9_Wrong q10_Wrong : Pos}
    (fi_Wrong : PySem.W.findIn K (.ref C_Wrong) "__init__" = some (some (.ref fI_Wrong)))
    (tI_Wrong : PySem.W.typeIn K (.ref fI_Wrong) = some (.type "function"))
    (lI_Wrong : K.lookup fI_Wrong = some ⟨oc_Wrong, od_Wrong, .func (PySem.W.ksFn "__init__" ql_Wrong (xA "place" p1_Wrong p2_Wrong) (xB "place" q1_Wrong q2_Wrong q3_Wrong q4_Wrong q5_Wrong q6_Wrong q7_Wrong q8_Wrong q9_Wrong q10_Wrong) (xS "place") .none kV_Wrong doc_Wrong pm_Wrong an_Wrong (.ref cda_Wrong) ct_Wrong cc_Wrong), osl_Wrong⟩)
    (cd_Wrong : PySem.W.codeIn K (.ref cda_Wrong) ql_Wrong = true)
    (ce_Wrong : K.lookup cc_Wrong = some ⟨cl_Wrong, cld_Wrong, .cell (some (.ref C_Wrong)), csl_Wrong⟩)
    (co_Wrong : K.lookup cda_Wrong = some ⟨ccl_Wrong, cdd_Wrong, .fields vv_Wrong, ccs_Wrong⟩)
    (cv_Wrong : vv_Wrong[2]? = some (.str file_Wrong tf_Wrong))
    (cf_Wrong : ((l.prog.main.file : Str) == file_Wrong) = true)
    (bi_Wrong : ∀ e v, bindArgs (PySem.W.ksFn "__init__" ql_Wrong (xA "place" p1_Wrong p2_Wrong) (xB "place" q1_Wrong q2_Wrong q3_Wrong q4_Wrong q5_Wrong q6_Wrong q7_Wrong q8_Wrong q9_Wrong q10_Wrong) (xS "place") .none kV_Wrong doc_Wrong pm_Wrong an_Wrong (.ref cda_Wrong) ct_Wrong cc_Wrong) ⟨[.ref e, v], []⟩ = pure [((PySem.Str.ofString "self" : Str), .ref e), ("place", v)])
    (ev_Wrong : ∀ L : Addr, ∃ pl, eval (xCall "place" q1_Wrong q2_Wrong q3_Wrong q4_Wrong q5_Wrong) (PySem.W.ksEnv ql_Wrong (xS "place") L fI_Wrong (.ref cda_Wrong) cc_Wrong) = (do
      let ov ← attributeBase (.Call (.Name "super" q1_Wrong) [] [] q2_Wrong) "__init__" (PySem.W.ksEnv ql_Wrong (xS "place") L fI_Wrong (.ref cda_Wrong) cc_Wrong) (eval (.Call (.Name "super" q1_Wrong) [] [] q2_Wrong) (PySem.W.ksEnv ql_Wrong (xS "place") L fI_Wrong (.ref cda_Wrong) cc_Wrong))
      standAt q3_Wrong.atName
      let (g, first) ← holding [ov] (getMethod ov "__init__" pl)
      callWith q5_Wrong g first (backTo q5_Wrong (starEach [.Name "place" q4_Wrong] (PySem.W.ksEnv ql_Wrong (xS "place") L fI_Wrong (.ref cda_Wrong) cc_Wrong))) []))
    {C_Unlike : Addr}
    (g_Unlike : PySem.W.nsIn K mainGlobals "Unlike" = some (some (.ref C_Unlike)))
    (ex_Unlike : PySem.W.subIn K (.ref C_Unlike) (.type "BaseException") = some true)
    (hd_Unlike : PySem.W.hasDictIn K C_Unlike = true)
    (ty_Unlike : PySem.W.typeIn K (.ref C_Unlike) = some (.type "type"))
    (k_Unlike : PySem.W.keepIn K (.ref C_Unlike) = true)
    (ei_Unlike : PySem.W.excIn K C_Unlike [.type "ValueError", .type "Exception", .type "BaseException", .type "object"] "ValueError.__new__" = true)
    {C_NoText : Addr}
    (g_NoText : PySem.W.nsIn K mainGlobals "NoText" = some (some (.ref C_NoText)))
    (ex_NoText : PySem.W.subIn K (.ref C_NoText) (.type "BaseException") = some true)
    (hd_NoText : PySem.W.hasDictIn K C_NoText = true)
    (ty_NoText : PySem.W.typeIn K (.ref C_NoText) = some (.type "type"))
    (k_NoText : PySem.W.keepIn K (.ref C_NoText) = true)
    (ei_NoText : PySem.W.excIn K C_NoText [.type "ValueError", .type "Exception", .type "BaseException", .type "object"] "ValueError.__new__" = true)
    (z0 : PySem.W.nsIn K mainGlobals "ValueError" = some none)
    (z1 : PySem.W.nsIn K mainGlobals "abs" = some none)
    (z2 : PySem.W.nsIn K mainGlobals "all" = some none)
    (z3 : PySem.W.nsIn K mainGlobals "bool" = some none)
    (z4 : PySem.W.nsIn K mainGlobals "int" = some none)
    (z5 : PySem.W.nsIn K mainGlobals "isinstance" = some none)
    (z6 : PySem.W.nsIn K mainGlobals "len" = some none)
    (z7 : PySem.W.nsIn K mainGlobals "list" = some none)
    (z8 : PySem.W.nsIn K mainGlobals "range" = some none)
    (z9 : PySem.W.nsIn K mainGlobals "repr" = some none)
    (z10 : PySem.W.nsIn K mainGlobals "str" = some none)
    (z11 : PySem.W.nsIn K mainGlobals "tuple" = some none)
    {tk0 : Tok}
    (y0 : PySem.W.nsIn K mainGlobals "LETTERS" = some (some (.str "abcdefghijklmnopqrstuvwxyz" tk0)))
    {tk1 : Tok}
    (y1 : PySem.W.nsIn K mainGlobals "MOST_LETTERS" = some (some (.int 8 tk1)))
    {tk2 : Tok}
    (y2 : PySem.W.nsIn K mainGlobals "MOST_PARTS" = some (some (.int 3 tk2)))
    {at3 : Addr} {od_t3 : Option Addr} {nn_t3 : Nat} {sl_t3 : Array (Option Value)} {tk3 : Tok} {tk3_1 : Tok}
    (y3 : PySem.W.nsIn K mainGlobals "KINDS" = some (some (.ref at3)))
    (yl3 : K.lookup at3 = some ⟨.type "tuple", od_t3, .seq #[.str "may" tk3, .str "must" tk3_1] nn_t3, sl_t3⟩)
    {tk4 : Tok}
    (y4 : PySem.W.nsIn K mainGlobals "DIGITS" = some (some (.str "0123456789" tk4)))
    {tk5 : Tok}
    (y5 : PySem.W.nsIn K mainGlobals "SIGNS" = some (some (.str "(,)" tk5)))
    {tk6 : Tok}
    (y6 : PySem.W.nsIn K mainGlobals "MOST_DIGITS" = some (some (.int 40 tk6)))
    {tk7 : Tok}
    (y7 : PySem.W.nsIn K mainGlobals "MOST_OPERATIONS" = some (some (.int 200 tk7)))
    (xa_Wrong : PySem.W.findIn K (.ref C_Wrong) "__getattribute__" = some (some (.builtin "BaseException.__getattribute__")))
    (xg_Wrong : PySem.W.findIn K (.ref C_Wrong) "__getattr__" = some none)
    (xl_Wrong : PySem.W.findIn K (.ref C_Wrong) "__class__" = some (some (.builtin "object.__class__")))
    (xn_Wrong : PySem.W.specialIn K (.builtin "object.__class__") "__get__" = some (some (.builtin "getset_descriptor.__get__")))
    (xt_Wrong : PySem.W.takesIn K (.builtin "object.__class__") = some true)
    (xm_Wrong : PySem.W.mroIn K C_Wrong (.type "object") = some true)
    (xa_Unlike : PySem.W.findIn K (.ref C_Unlike) "__getattribute__" = some (some (.builtin "BaseException.__getattribute__")))
    (xg_Unlike : PySem.W.findIn K (.ref C_Unlike) "__getattr__" = some none)
    (xl_Unlike : PySem.W.findIn K (.ref C_Unlike) "__class__" = some (some (.builtin "object.__class__")))
    (xn_Unlike : PySem.W.specialIn K (.builtin "object.__class__") "__get__" = some (some (.builtin "getset_descriptor.__get__")))
    (xt_Unlike : PySem.W.takesIn K (.builtin "object.__class__") = some true)
    (xm_Unlike : PySem.W.mroIn K C_Unlike (.type "object") = some true)
    (ds_Unlike_Wrong : PySem.W.subIn K (.ref C_Unlike) (.ref C_Wrong) = some false)
    (dn_Unlike_Wrong : C_Unlike ≠ C_Wrong)
    (sb_Wrong_MoveError : PySem.W.subIn K (.ref C_Wrong) (.ref C_MoveError) = some true)
    (sb_Unlike_MoveError : PySem.W.subIn K (.ref C_Unlike) (.ref C_MoveError) = some true)
    : ∃ fd : FuncData, (∀ (t : Shared) (u : Value), BindsTo t fd ⟨[u], []⟩ [("_law_script", u)]) ∧ ∀ base : Heap, K.In base → base.Ns mainGlobals mg → FnOkG l.prog w K mg base CX0 60 fa fd P_law (sp_law K) := by
  have e := hfa.symm.trans (PySem.W.mg_of X G a31)
  cases e
  exact ⟨_, fun s v => .of_eq rfl, fun base _ _ => ok_law (T := {
    d__wall := ⟨_, _, fun_mk l0 c0 k0, PySem.W.mg_of X G a0, (fun_mk l0 c0 k0).binds fun _ _ _ _ _ _ us hl => match us, hl with | [_], _ => rfl⟩
    d_is_integer := ⟨_, _, fun_mk l1 c1 k1, PySem.W.mg_of X G a1, (fun_mk l1 c1 k1).binds fun _ _ _ _ _ _ us hl => match us, hl with | [_], _ => rfl⟩
    d_is_name := ⟨_, _, fun_mk l2 c2 k2, PySem.W.mg_of X G a2, (fun_mk l2 c2 k2).binds fun _ _ _ _ _ _ us hl => match us, hl with | [_], _ => rfl⟩
    d_is_term := ⟨_, _, fun_mk l3 c3 k3, PySem.W.mg_of X G a3, (fun_mk l3 c3 k3).binds fun _ _ _ _ _ _ us hl => match us, hl with | [_], _ => rfl⟩
    d_is_term_over := ⟨_, _, fun_mk l4 c4 k4, PySem.W.mg_of X G a4, (fun_mk l4 c4 k4).binds fun _ _ _ _ _ _ us hl => match us, hl with | [_, _], _ => rfl⟩
    d_put := ⟨_, _, fun_mk l5 c5 k5, PySem.W.mg_of X G a5, (fun_mk l5 c5 k5).binds fun _ _ _ _ _ _ us hl => match us, hl with | [_, _], _ => rfl⟩
    d_put_all := ⟨_, _, fun_mk l6 c6 k6, PySem.W.mg_of X G a6, (fun_mk l6 c6 k6).binds fun _ _ _ _ _ _ us hl => match us, hl with | [_, _], _ => rfl⟩
    d_size := ⟨_, _, fun_mk l7 c7 k7, PySem.W.mg_of X G a7, (fun_mk l7 c7 k7).binds fun _ _ _ _ _ _ us hl => match us, hl with | [_], _ => rfl⟩
    d_is_move := ⟨_, _, fun_mk l8 c8 k8, PySem.W.mg_of X G a8, (fun_mk l8 c8 k8).binds fun _ _ _ _ _ _ us hl => match us, hl with | [_], _ => rfl⟩
    d_need := ⟨_, _, fun_mk l9 c9 k9, PySem.W.mg_of X G a9, (fun_mk l9 c9 k9).binds fun _ _ _ _ _ _ us hl => match us, hl with | [_], _ => rfl⟩
    d_listed := ⟨_, _, fun_mk l10 c10 k10, PySem.W.mg_of X G a10, (fun_mk l10 c10 k10).binds fun _ _ _ _ _ _ us hl => match us, hl with | [_], _ => rfl⟩
    d_show_term := ⟨_, _, fun_mk l11 c11 k11, PySem.W.mg_of X G a11, (fun_mk l11 c11 k11).binds fun _ _ _ _ _ _ us hl => match us, hl with | [_], _ => rfl⟩
    d_show_recipe := ⟨_, _, fun_mk l12 c12 k12, PySem.W.mg_of X G a12, (fun_mk l12 c12 k12).binds fun _ _ _ _ _ _ us hl => match us, hl with | [_], _ => rfl⟩
    d_show_move := ⟨_, _, fun_mk l13 c13 k13, PySem.W.mg_of X G a13, (fun_mk l13 c13 k13).binds fun _ _ _ _ _ _ us hl => match us, hl with | [_], _ => rfl⟩
    d_read_integer := ⟨_, _, fun_mk l14 c14 k14, PySem.W.mg_of X G a14, (fun_mk l14 c14 k14).binds fun _ _ _ _ _ _ us hl => match us, hl with | [_], _ => rfl⟩
    d_tokens_of := ⟨_, _, fun_mk l15 c15 k15, PySem.W.mg_of X G a15, (fun_mk l15 c15 k15).binds fun _ _ _ _ _ _ us hl => match us, hl with | [_], _ => rfl⟩
    d_leaf := ⟨_, _, fun_mk l16 c16 k16, PySem.W.mg_of X G a16, (fun_mk l16 c16 k16).binds fun _ _ _ _ _ _ us hl => match us, hl with | [_], _ => rfl⟩
    d_parsed := ⟨_, _, fun_mk l17 c17 k17, PySem.W.mg_of X G a17, (fun_mk l17 c17 k17).binds fun _ _ _ _ _ _ us hl => match us, hl with | [_], _ => rfl⟩
    d_need_term := ⟨_, _, fun_mk l18 c18 k18, PySem.W.mg_of X G a18, (fun_mk l18 c18 k18).binds fun _ _ _ _ _ _ us hl => match us, hl with | [_], _ => rfl⟩
    d_read_term := ⟨_, _, fun_mk l19 c19 k19, PySem.W.mg_of X G a19, (fun_mk l19 c19 k19).binds fun _ _ _ _ _ _ us hl => match us, hl with | [_], _ => rfl⟩
    d_read_listed := ⟨_, _, fun_mk l20 c20 k20, PySem.W.mg_of X G a20, (fun_mk l20 c20 k20).binds fun _ _ _ _ _ _ us hl => match us, hl with | [_], _ => rfl⟩
    d_read_move := ⟨_, _, fun_mk l21 c21 k21, PySem.W.mg_of X G a21, (fun_mk l21 c21 k21).binds fun _ _ _ _ _ _ us hl => match us, hl with | [_], _ => rfl⟩
    d__law_bag := ⟨_, _, fun_mk l22 c22 k22, PySem.W.mg_of X G a22, (fun_mk l22 c22 k22).binds fun _ _ _ _ _ _ us hl => match us, hl with | [_], _ => rfl⟩
    d__law_take := ⟨_, _, fun_mk l23 c23 k23, PySem.W.mg_of X G a23, (fun_mk l23 c23 k23).binds fun _ _ _ _ _ _ us hl => match us, hl with | [_, _], _ => rfl⟩
    d__law_alike := ⟨_, _, fun_mk l24 c24 k24, PySem.W.mg_of X G a24, (fun_mk l24 c24 k24).binds fun _ _ _ _ _ _ us hl => match us, hl with | [_, _], _ => rfl⟩
    d__law_names := ⟨_, _, fun_mk l25 c25 k25, PySem.W.mg_of X G a25, (fun_mk l25 c25 k25).binds fun _ _ _ _ _ _ us hl => match us, hl with | [_, _], _ => rfl⟩
    d__law_term := ⟨_, _, fun_mk l26 c26 k26, PySem.W.mg_of X G a26, (fun_mk l26 c26 k26).binds fun _ _ _ _ _ _ us hl => match us, hl with | [_, _, _, _], _ => rfl⟩
    d__law_put := ⟨_, _, fun_mk l27 c27 k27, PySem.W.mg_of X G a27, (fun_mk l27 c27 k27).binds fun _ _ _ _ _ _ us hl => match us, hl with | [_, _], _ => rfl⟩
    d__law_term_text := ⟨_, _, fun_mk l28 c28 k28, PySem.W.mg_of X G a28, (fun_mk l28 c28 k28).binds fun _ _ _ _ _ _ us hl => match us, hl with | [_], _ => rfl⟩
    d__law_listed_text := ⟨_, _, fun_mk l29 c29 k29, PySem.W.mg_of X G a29, (fun_mk l29 c29 k29).binds fun _ _ _ _ _ _ us hl => match us, hl with | [_], _ => rfl⟩
    d__law_move_text := ⟨_, _, fun_mk l30 c30 k30, PySem.W.mg_of X G a30, (fun_mk l30 c30 k30).binds fun _ _ _ _ _ _ us hl => match us, hl with | [_, _, _, _], _ => rfl⟩
    d_law := ⟨_, _, fun_mk l31 c31 k31, PySem.W.mg_of X G a31, (fun_mk l31 c31 k31).binds fun _ _ _ _ _ _ us hl => match us, hl with | [_], _ => rfl⟩
    C_Recipe := C_Recipe
    g_Recipe := PySem.W.mg_of X G g_Recipe
    k_Recipe := k_Recipe
    c_Recipe := ⟨pg_Recipe, ic_Recipe, po_Recipe, sa_Recipe⟩
    mk_Recipe := mk_Recipe
    is_Recipe := ⟨ca_Recipe, cn_Recipe, ct_Recipe, cm_Recipe⟩
    ne_Recipe := ne_Recipe
    ty_Recipe := tyc_Recipe
    mul_Recipe := mul_Recipe
    nl_Recipe := nl_Recipe
    nt_Recipe := nt_Recipe
    p_Recipe_its_variables := p_Recipe_its_variables
    sl_Recipe_its_variables := ⟨at_Recipe_its_variables, get_Recipe_its_variables, tk_Recipe_its_variables, ty_Recipe_its_variables, ix_Recipe_its_variables, by decide⟩
    p_Recipe_its_terms := p_Recipe_its_terms
    sl_Recipe_its_terms := ⟨at_Recipe_its_terms, get_Recipe_its_terms, tk_Recipe_its_terms, ty_Recipe_its_terms, ix_Recipe_its_terms, by decide⟩
    d_Recipe___init__ := ⟨_, _, fun_mk lm_Recipe___init__ co_Recipe___init__ km_Recipe___init__, ⟨am_Recipe___init__, im_Recipe___init__, km_Recipe___init__⟩, (fun_mk lm_Recipe___init__ co_Recipe___init__ km_Recipe___init__).binds fun _ _ _ _ _ _ us hl => match us, hl with | [_, _, _], _ => rfl⟩
    d_Recipe_variables := ⟨_, _, fun_mk lm_Recipe_variables co_Recipe_variables km_Recipe_variables, _, pa_Recipe_variables, pg_Recipe_variables, pt_Recipe_variables, ⟨_, pr_Recipe_variables⟩, (fun_mk lm_Recipe_variables co_Recipe_variables km_Recipe_variables).binds fun _ _ _ _ _ _ us hl => match us, hl with | [_], _ => rfl⟩
    d_Recipe_terms := ⟨_, _, fun_mk lm_Recipe_terms co_Recipe_terms km_Recipe_terms, _, pa_Recipe_terms, pg_Recipe_terms, pt_Recipe_terms, ⟨_, pr_Recipe_terms⟩, (fun_mk lm_Recipe_terms co_Recipe_terms km_Recipe_terms).binds fun _ _ _ _ _ _ us hl => match us, hl with | [_], _ => rfl⟩
    d_Recipe_keeping := ⟨_, _, fun_mk lm_Recipe_keeping co_Recipe_keeping km_Recipe_keeping, _, ⟨⟨sd_Recipe_keeping, sg_Recipe_keeping⟩, st_Recipe_keeping, sf_Recipe_keeping, ⟨_, sr_Recipe_keeping⟩, km_Recipe_keeping⟩, (fun_mk lm_Recipe_keeping co_Recipe_keeping km_Recipe_keeping).binds fun _ _ _ _ _ _ us hl => match us, hl with | [_], _ => rfl⟩
    d_Recipe___call__ := ⟨_, _, fun_mk lm_Recipe___call__ co_Recipe___call__ km_Recipe___call__, ⟨am_Recipe___call__, im_Recipe___call__, km_Recipe___call__⟩, (fun_mk lm_Recipe___call__ co_Recipe___call__ km_Recipe___call__).binds fun _ _ _ _ _ _ us hl => match us, hl with | [_, _], _ => rfl⟩
    d_Recipe___mul__ := ⟨_, _, fun_mk lm_Recipe___mul__ co_Recipe___mul__ km_Recipe___mul__, ⟨am_Recipe___mul__, im_Recipe___mul__, km_Recipe___mul__⟩, (fun_mk lm_Recipe___mul__ co_Recipe___mul__ km_Recipe___mul__).binds fun _ _ _ _ _ _ us hl => match us, hl with | [_, _], _ => rfl⟩
    d_Recipe___eq__ := ⟨_, _, fun_mk lm_Recipe___eq__ co_Recipe___eq__ km_Recipe___eq__, ⟨am_Recipe___eq__, im_Recipe___eq__, km_Recipe___eq__⟩, (fun_mk lm_Recipe___eq__ co_Recipe___eq__ km_Recipe___eq__).binds fun _ _ _ _ _ _ us hl => match us, hl with | [_, _], _ => rfl⟩
    d_Recipe___len__ := ⟨_, _, fun_mk lm_Recipe___len__ co_Recipe___len__ km_Recipe___len__, ⟨am_Recipe___len__, im_Recipe___len__, km_Recipe___len__⟩, (fun_mk lm_Recipe___len__ co_Recipe___len__ km_Recipe___len__).binds fun _ _ _ _ _ _ us hl => match us, hl with | [_], _ => rfl⟩
    d_Recipe___repr__ := ⟨_, _, fun_mk lm_Recipe___repr__ co_Recipe___repr__ km_Recipe___repr__, ⟨am_Recipe___repr__, im_Recipe___repr__, km_Recipe___repr__⟩, (fun_mk lm_Recipe___repr__ co_Recipe___repr__ km_Recipe___repr__).binds fun _ _ _ _ _ _ us hl => match us, hl with | [_], _ => rfl⟩
    b_ValueError := PySem.W.mg_none_of X G z0
    b_abs := PySem.W.mg_none_of X G z1
    b_all := PySem.W.mg_none_of X G z2
    b_bool := PySem.W.mg_none_of X G z3
    b_int := PySem.W.mg_none_of X G z4
    b_isinstance := PySem.W.mg_none_of X G z5
    b_len := PySem.W.mg_none_of X G z6
    b_list := PySem.W.mg_none_of X G z7
    b_range := PySem.W.mg_none_of X G z8
    b_repr := PySem.W.mg_none_of X G z9
    b_str := PySem.W.mg_none_of X G z10
    b_tuple := PySem.W.mg_none_of X G z11
    v_LETTERS := _
    c_LETTERS := PySem.W.mg_of X G y0
    r_LETTERS := ⟨_, rfl⟩
    v_MOST_LETTERS := _
    c_MOST_LETTERS := PySem.W.mg_of X G y1
    r_MOST_LETTERS := ⟨_, rfl⟩
    v_MOST_PARTS := _
    c_MOST_PARTS := PySem.W.mg_of X G y2
    r_MOST_PARTS := ⟨_, rfl⟩
    a_KINDS := at3
    c_KINDS := PySem.W.mg_of X G y3
    q_KINDS := fun _ => .inr ⟨_, _, _, yl3, rfl, rfl, (show 2 ≤ sizeLine by decide), (.cons ⟨_, rfl⟩ (.cons ⟨_, rfl⟩ .nil))⟩
    v_DIGITS := _
    c_DIGITS := PySem.W.mg_of X G y4
    r_DIGITS := ⟨_, rfl⟩
    v_SIGNS := _
    c_SIGNS := PySem.W.mg_of X G y5
    r_SIGNS := ⟨_, rfl⟩
    v_MOST_DIGITS := _
    c_MOST_DIGITS := PySem.W.mg_of X G y6
    r_MOST_DIGITS := ⟨_, rfl⟩
    v_MOST_OPERATIONS := _
    c_MOST_OPERATIONS := PySem.W.mg_of X G y7
    r_MOST_OPERATIONS := ⟨_, rfl⟩
  }) (Y := {
    C_MoveError := C_MoveError
    x_MoveError := ⟨PySem.W.mg_of X G g_MoveError, ex_MoveError, hd_MoveError, ty_MoveError⟩
    C_Wrong := C_Wrong
    x_Wrong := ⟨PySem.W.mg_of X G g_Wrong, ⟨_, _, _, _, _, _, _, _, _, _, _, _, _, _, _, cls_Wrong, ve_Wrong⟩, sa_Wrong, no_Wrong, k_Wrong, ex_Wrong, vs_Wrong, ty_Wrong, hd_Wrong, up_Wrong, opq_, self_Wrong, ⟨_, _, _, _, _, _, _, _, _, _, _, _, _, _, _, _, _, _, _, _, _, _, _, _, fi_Wrong, tI_Wrong, lI_Wrong, cd_Wrong, ⟨_, _, _, ce_Wrong⟩, _, _, _, _, _, _, co_Wrong, cv_Wrong, cf_Wrong, bi_Wrong, ev_Wrong⟩, topS_, PySem.W.mg_none_of X G sup_, by decide +kernel, by decide +kernel, by decide +kernel, by decide +kernel, by decide +kernel⟩
    C_Unlike := C_Unlike
    x_Unlike := ⟨PySem.W.mg_of X G g_Unlike, ex_Unlike, hd_Unlike, ty_Unlike, k_Unlike, ei_Unlike⟩
    C_NoText := C_NoText
    x_NoText := ⟨PySem.W.mg_of X G g_NoText, ex_NoText, hd_NoText, ty_NoText, k_NoText, ei_NoText⟩
    xc_Wrong := ⟨xa_Wrong, xg_Wrong, ex_Wrong, hd_Wrong, xl_Wrong, xn_Wrong, xt_Wrong, xm_Wrong⟩
    xc_Unlike := ⟨xa_Unlike, xg_Unlike, ex_Unlike, hd_Unlike, xl_Unlike, xn_Unlike, xt_Unlike, xm_Unlike⟩
    ed_Unlike_Wrong := kitOne_exd ds_Unlike_Wrong dn_Unlike_Wrong hd_Wrong ty_Wrong
    ev_Wrong := kitOne_ve vs_Wrong
    em_Wrong_MoveError := PySem.W.exm_ref ex_MoveError hd_MoveError ty_MoveError sb_Wrong_MoveError
    em_Unlike_MoveError := PySem.W.exm_ref ex_MoveError hd_MoveError ty_MoveError sb_Unlike_MoveError
  })⟩
end
end Fm
open PySem PySem.W PyProof.Rows
set_option maxHeartbeats 0 in
theorem PySem.Challenge.cw_framemoves_k95_terms_and_moves_shown_holds : PySem.Challenge.rw_framemoves_k95_terms_and_moves_shown.Holds := by
  w_on; o_law; k_head; (case hw => w_witness2)
  k_fill
  refine Fm.walk_G (l := PySem.Challenge.rw_framemoves_k95_terms_and_moves_shown) (n := 63) (k := 60) (x := "_law_script") (sp := Fm.sp_law) rfl (by decide) rfl ⟨rfl, by decide, by decide⟩ (fun w h Y => PySem.W.kIn_of Y) ?F (fun K H a ns hl hS => ⟨a, ns, rfl, hS, hl, fun _ => rfl⟩)
  case F =>
    intro w mg fa h KX G hmg
    refine' Fm.all_mk KX G hmg ?a0 ?l0 ?c0 ?k0 ?a1 ?l1 ?c1 ?k1 ?a2 ?l2 ?c2 ?k2 ?a3 ?l3 ?c3 ?k3 ?a4 ?l4 ?c4 ?k4 ?a5 ?l5 ?c5 ?k5 ?a6 ?l6 ?c6 ?k6 ?a7 ?l7 ?c7 ?k7 ?a8 ?l8 ?c8 ?k8 ?a9 ?l9 ?c9 ?k9 ?a10 ?l10 ?c10 ?k10 ?a11 ?l11 ?c11 ?k11 ?a12 ?l12 ?c12 ?k12 ?a13 ?l13 ?c13 ?k13 ?a14 ?l14 ?c14 ?k14 ?a15 ?l15 ?c15 ?k15 ?a16 ?l16 ?c16 ?k16 ?a17 ?l17 ?c17 ?k17 ?a18 ?l18 ?c18 ?k18 ?a19 ?l19 ?c19 ?k19 ?a20 ?l20 ?c20 ?k20 ?a21 ?l21 ?c21 ?k21 ?a22 ?l22 ?c22 ?k22 ?a23 ?l23 ?c23 ?k23 ?a24 ?l24 ?c24 ?k24 ?a25 ?l25 ?c25 ?k25 ?a26 ?l26 ?c26 ?k26 ?a27 ?l27 ?c27 ?k27 ?a28 ?l28 ?c28 ?k28 ?a29 ?l29 ?c29 ?k29 ?a30 ?l30 ?c30 ?k30 ?a31 ?l31 ?c31 ?k31 ?g_Recipe ?k_Recipe ?pg_Recipe ?ic_Recipe ?po_Recipe ?sa_Recipe ?mk_Recipe ?ca_Recipe ?cn_Recipe ?ct_Recipe ?cm_Recipe ?ne_Recipe ?tyc_Recipe ?mul_Recipe ?nl_Recipe ?nt_Recipe ?at_Recipe_its_terms ?get_Recipe_its_terms ?tk_Recipe_its_terms ?ty_Recipe_its_terms ?ix_Recipe_its_terms ?at_Recipe_its_variables ?get_Recipe_its_variables ?tk_Recipe_its_variables ?ty_Recipe_its_variables ?ix_Recipe_its_variables ?am_Recipe___init__ ?im_Recipe___init__ ?lm_Recipe___init__ ?co_Recipe___init__ ?km_Recipe___init__ ?pa_Recipe_variables ?pg_Recipe_variables ?pt_Recipe_variables ?pr_Recipe_variables ?lm_Recipe_variables ?co_Recipe_variables ?km_Recipe_variables ?pa_Recipe_terms ?pg_Recipe_terms ?pt_Recipe_terms ?pr_Recipe_terms ?lm_Recipe_terms ?co_Recipe_terms ?km_Recipe_terms ?sf_Recipe_keeping ?sr_Recipe_keeping ?sd_Recipe_keeping ?sg_Recipe_keeping ?st_Recipe_keeping ?lm_Recipe_keeping ?co_Recipe_keeping ?km_Recipe_keeping ?am_Recipe___call__ ?im_Recipe___call__ ?lm_Recipe___call__ ?co_Recipe___call__ ?km_Recipe___call__ ?am_Recipe___mul__ ?im_Recipe___mul__ ?lm_Recipe___mul__ ?co_Recipe___mul__ ?km_Recipe___mul__ ?am_Recipe___eq__ ?im_Recipe___eq__ ?lm_Recipe___eq__ ?co_Recipe___eq__ ?km_Recipe___eq__ ?am_Recipe___len__ ?im_Recipe___len__ ?lm_Recipe___len__ ?co_Recipe___len__ ?km_Recipe___len__ ?am_Recipe___repr__ ?im_Recipe___repr__ ?lm_Recipe___repr__ ?co_Recipe___repr__ ?km_Recipe___repr__ ?topS_ ?sup_ ?opq_ ?g_MoveError ?ex_MoveError ?hd_MoveError ?ty_MoveError ?g_Wrong ?ex_Wrong ?hd_Wrong ?ty_Wrong ?cls_Wrong ?ve_Wrong ?sa_Wrong ?no_Wrong ?k_Wrong ?vs_Wrong ?up_Wrong ?self_Wrong ?fi_Wrong ?tI_Wrong ?lI_Wrong ?cd_Wrong ?ce_Wrong ?co_Wrong ?cv_Wrong ?cf_Wrong ?bi_Wrong ?ev_Wrong ?g_Unlike ?ex_Unlike ?hd_Unlike ?ty_Unlike ?k_Unlike ?ei_Unlike ?g_NoText ?ex_NoText ?hd_NoText ?ty_NoText ?k_NoText ?ei_NoText ?z0 ?z1 ?z2 ?z3 ?z4 ?z5 ?z6 ?z7 ?z8 ?z9 ?z10 ?z11 ?y0 ?y1 ?y2 ?y3 ?yl3 ?y4 ?y5 ?y6 ?y7 ?xa_Wrong ?xg_Wrong ?xl_Wrong ?xn_Wrong ?xt_Wrong ?xm_Wrong ?xa_Unlike ?xg_Unlike ?xl_Unlike ?xn_Unlike ?xt_Unlike ?xm_Unlike ?ds_Unlike_Wrong ?dn_Unlike_Wrong ?sb_Wrong_MoveError ?sb_Unlike_MoveError
    (case a0 => k_is); (case l0 => k_is); (case c0 => k_is); (case k0 => k_is); (case a1 => k_is); (case l1 => k_is); (case c1 => k_is); (case k1 => k_is); (case a2 => k_is); (case l2 => k_is); (case c2 => k_is); (case k2 => k_is); (case a3 => k_is); (case l3 => k_is); (case c3 => k_is); (case k3 => k_is); (case a4 => k_is); (case l4 => k_is); (case c4 => k_is); (case k4 => k_is); (case a5 => k_is); (case l5 => k_is); (case c5 => k_is); (case k5 => k_is); (case a6 => k_is); (case l6 => k_is); (case c6 => k_is); (case k6 => k_is); (case a7 => k_is); (case l7 => k_is); (case c7 => k_is); (case k7 => k_is); (case a8 => k_is); (case l8 => k_is); (case c8 => k_is); (case k8 => k_is); (case a9 => k_is); (case l9 => k_is); (case c9 => k_is); (case k9 => k_is); (case a10 => k_is); (case l10 => k_is); (case c10 => k_is); (case k10 => k_is); (case a11 => k_is); (case l11 => k_is); (case c11 => k_is); (case k11 => k_is); (case a12 => k_is); (case l12 => k_is); (case c12 => k_is); (case k12 => k_is); (case a13 => k_is); (case l13 => k_is); (case c13 => k_is); (case k13 => k_is); (case a14 => k_is); (case l14 => k_is); (case c14 => k_is); (case k14 => k_is); (case a15 => k_is); (case l15 => k_is); (case c15 => k_is); (case k15 => k_is); (case a16 => k_is); (case l16 => k_is); (case c16 => k_is); (case k16 => k_is); (case a17 => k_is); (case l17 => k_is); (case c17 => k_is); (case k17 => k_is); (case a18 => k_is); (case l18 => k_is); (case c18 => k_is); (case k18 => k_is); (case a19 => k_is); (case l19 => k_is); (case c19 => k_is); (case k19 => k_is); (case a20 => k_is); (case l20 => k_is); (case c20 => k_is); (case k20 => k_is); (case a21 => k_is); (case l21 => k_is); (case c21 => k_is); (case k21 => k_is); (case a22 => k_is); (case l22 => k_is); (case c22 => k_is); (case k22 => k_is); (case a23 => k_is); (case l23 => k_is); (case c23 => k_is); (case k23 => k_is); (case a24 => k_is); (case l24 => k_is); (case c24 => k_is); (case k24 => k_is); (case a25 => k_is); (case l25 => k_is); (case c25 => k_is); (case k25 => k_is); (case a26 => k_is); (case l26 => k_is); (case c26 => k_is); (case k26 => k_is); (case a27 => k_is); (case l27 => k_is); (case c27 => k_is); (case k27 => k_is); (case a28 => k_is); (case l28 => k_is); (case c28 => k_is); (case k28 => k_is); (case a29 => k_is); (case l29 => k_is); (case c29 => k_is); (case k29 => k_is); (case a30 => k_is); (case l30 => k_is); (case c30 => k_is); (case k30 => k_is); (case a31 => k_is); (case l31 => k_is); (case c31 => k_is); (case k31 => k_is); (case g_Recipe => k_is); (case k_Recipe => k_is); (case pg_Recipe => k_is); (case ic_Recipe => k_is); (case po_Recipe => k_is); (case sa_Recipe => k_is); (case mk_Recipe => k_is); (case ca_Recipe => k_is); (case cn_Recipe => k_is); (case ct_Recipe => k_is); (case cm_Recipe => k_is); (case ne_Recipe => k_is); (case tyc_Recipe => k_is); (case mul_Recipe => k_is); (case nl_Recipe => k_is); (case nt_Recipe => k_is); (case at_Recipe_its_terms => k_is); (case get_Recipe_its_terms => k_is); (case tk_Recipe_its_terms => k_is); (case ty_Recipe_its_terms => k_is); (case ix_Recipe_its_terms => k_is); (case at_Recipe_its_variables => k_is); (case get_Recipe_its_variables => k_is); (case tk_Recipe_its_variables => k_is); (case ty_Recipe_its_variables => k_is); (case ix_Recipe_its_variables => k_is); (case am_Recipe___init__ => k_is); (case im_Recipe___init__ => k_is); (case lm_Recipe___init__ => k_is); (case co_Recipe___init__ => k_is); (case km_Recipe___init__ => k_is); (case pa_Recipe_variables => k_is); (case pg_Recipe_variables => k_is); (case pt_Recipe_variables => k_is); (case pr_Recipe_variables => k_is); (case lm_Recipe_variables => k_is); (case co_Recipe_variables => k_is); (case km_Recipe_variables => k_is); (case pa_Recipe_terms => k_is); (case pg_Recipe_terms => k_is); (case pt_Recipe_terms => k_is); (case pr_Recipe_terms => k_is); (case lm_Recipe_terms => k_is); (case co_Recipe_terms => k_is); (case km_Recipe_terms => k_is); (case sf_Recipe_keeping => k_is); (case sr_Recipe_keeping => k_is); (case sd_Recipe_keeping => k_is); (case sg_Recipe_keeping => k_is); (case st_Recipe_keeping => k_is); (case lm_Recipe_keeping => k_is); (case co_Recipe_keeping => k_is); (case km_Recipe_keeping => k_is); (case am_Recipe___call__ => k_is); (case im_Recipe___call__ => k_is); (case lm_Recipe___call__ => k_is); (case co_Recipe___call__ => k_is); (case km_Recipe___call__ => k_is); (case am_Recipe___mul__ => k_is); (case im_Recipe___mul__ => k_is); (case lm_Recipe___mul__ => k_is); (case co_Recipe___mul__ => k_is); (case km_Recipe___mul__ => k_is); (case am_Recipe___eq__ => k_is); (case im_Recipe___eq__ => k_is); (case lm_Recipe___eq__ => k_is); (case co_Recipe___eq__ => k_is); (case km_Recipe___eq__ => k_is); (case am_Recipe___len__ => k_is); (case im_Recipe___len__ => k_is); (case lm_Recipe___len__ => k_is); (case co_Recipe___len__ => k_is); (case km_Recipe___len__ => k_is); (case am_Recipe___repr__ => k_is); (case im_Recipe___repr__ => k_is); (case lm_Recipe___repr__ => k_is); (case co_Recipe___repr__ => k_is); (case km_Recipe___repr__ => k_is); (case topS_ => rfl); (case sup_ => k_is); (case opq_ => k_is); (case g_MoveError => k_is); (case ex_MoveError => k_is); (case hd_MoveError => k_is); (case ty_MoveError => k_is); (case g_Wrong => k_is); (case ex_Wrong => k_is); (case hd_Wrong => k_is); (case ty_Wrong => k_is); (case cls_Wrong => k_is); (case ve_Wrong => decide +kernel); (case sa_Wrong => k_is); (case no_Wrong => k_is); (case k_Wrong => k_is); (case vs_Wrong => k_is); (case up_Wrong => ks_is); (case self_Wrong => k_is); (case fi_Wrong => k_is); (case tI_Wrong => k_is); (case lI_Wrong => k_is); (case cd_Wrong => k_is); (case ce_Wrong => k_is); (case co_Wrong => k_is); (case cv_Wrong => rfl); (case cf_Wrong => decide +kernel); (case bi_Wrong => exact fun _ _ => rfl); (case ev_Wrong => exact fun _ => ⟨_, rfl⟩); (case g_Unlike => k_is); (case ex_Unlike => k_is); (case hd_Unlike => k_is); (case ty_Unlike => k_is); (case k_Unlike => k_is); (case ei_Unlike => k_exc); (case g_NoText => k_is); (case ex_NoText => k_is); (case hd_NoText => k_is); (case ty_NoText => k_is); (case k_NoText => k_is); (case ei_NoText => k_exc); (case z0 => k_is); (case z1 => k_is); (case z2 => k_is); (case z3 => k_is); (case z4 => k_is); (case z5 => k_is); (case z6 => k_is); (case z7 => k_is); (case z8 => k_is); (case z9 => k_is); (case z10 => k_is); (case z11 => k_is); (case y0 => k_is); (case y1 => k_is); (case y2 => k_is); (case y3 => k_is); (case yl3 => k_is); (case y4 => k_is); (case y5 => k_is); (case y6 => k_is); (case y7 => k_is); (case xa_Wrong => k_is); (case xg_Wrong => k_is); (case xl_Wrong => k_is); (case xn_Wrong => k_is); (case xt_Wrong => k_is); (case xm_Wrong => k_is); (case xa_Unlike => k_is); (case xg_Unlike => k_is); (case xl_Unlike => k_is); (case xn_Unlike => k_is); (case xt_Unlike => k_is); (case xm_Unlike => k_is); (case ds_Unlike_Wrong => k_is); (case dn_Unlike_Wrong => decide +kernel); (case sb_Wrong_MoveError => k_is); (case sb_Unlike_MoveError => k_is)
