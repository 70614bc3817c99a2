import PyProof.Rows.All
import Wide.All
import OpenK.AllK
import Wide.FinOn
import HandS.ForMost
import HandS.IsInst
import HandS.TupAny
import HandS.Wide
import HandS.Deep
import HandS.SetKeys
import HandS.Style
import HandS.Conv
import PyProof.ReprRoads
import HandS.SetFor
import HandS.Strs
import HandS.Evl
import HandS.Walk
import HandS.Sort
import HandS.TupLe
import PyProof.NeKinds
import PyProof.EqAt
import HandS.Codes
import KE.IntTextLaws
import PyProof.StrOps2
import PyProof.Draws
import PyProof.EnumMake
import HandS.Slots
import KE.KDictOf
import HandS.More
import HandS.ExcOwn
import HandS.SlotsOwn
import PyProof.InstNe
import OpenK.KOps
import HandS.ClsMeth
import HandS.FStr
import HandS.TupMul
import HandS.Small
import PyProof.ConsumeS
import HandS.ForExc
import HandS.ExcField
import HandS.ExcIs
import KE.KExcSuper
import HandS.ListItems
import KE.KExcIs
import HandS.DictTup
import HandS.SortOrd
import PyProof.Rows.SortKeyStr
import HandS.SortInts
import HandS.SortKw
import KE.KSortKey
import PyProof.Rows.SortStr
import PyProof.TupleOfSeq
import HandS.DictComp
import PySem.Challenge.RW_framemoves_k97_terms_and_moves_read
import HandS.WordsExc
import HandS.SuiteRaise
import HandS.RaiseFrom
import HandS.Exc
import HandS.ExcCtx
import HandS.OwnEq
import KE.KEqDict
import HandS.Zip
import KE.GoesMore
import KE.GoesEnum
import KE.GoesZip
import PyProof.ListNew
import PyProof.ListRange
set_option Elab.async false
set_option linter.all false
set_option maxRecDepth 100000
set_option maxHeartbeats 8000000
namespace Fm
open PySem PySem.Spec PyProof.Rows L2
theorem bt_len : bootBuiltins "len" = some (.builtin "len") := by decide +kernel
theorem bt_abs : bootBuiltins "abs" = some (.builtin "abs") := by decide +kernel
theorem bt_isinstance : bootBuiltins "isinstance" = some (.builtin "isinstance") := by decide +kernel
theorem bt_repr : bootBuiltins "repr" = some (.builtin "repr") := by decide +kernel
theorem bt_sum : bootBuiltins "sum" = some (.builtin "sum") := by decide +kernel
theorem bt_all : bootBuiltins "all" = some (.builtin "all") := by decide +kernel
theorem bt_int : bootBuiltins "int" = some (.type "int") := by decide +kernel
theorem bt_tuple : bootBuiltins "tuple" = some (.type "tuple") := by decide +kernel
theorem bt_list : bootBuiltins "list" = some (.type "list") := by decide +kernel
theorem bt_str : bootBuiltins "str" = some (.type "str") := by decide +kernel
theorem bt_bool : bootBuiltins "bool" = some (.type "bool") := by decide +kernel

section
variable {X : Cx} {e l : Expr} {pos : Pos}
theorem pe_ty {x : Str} {n : String} (hm : X.mg x = none) (hv : bootBuiltins x = some (.type n)) (hg : Gl X x := by rfl)
    (h1 : x ≠ "__name__" := by decide) (h2 : (x == ("__debug__" : Str)) = false := by decide) : PE X (.Name x pos) (tC (.ty n)) :=
  pe_bltn hg hm hv rfl h1 h2
theorem pe_or2 {t u : TE} (h : PE X e t) (k : PE X e u) : PE X e (fun σ H Q => t σ H Q ∨ u σ H Q) :=
  ⟨fun pins s σ H Q I q => q.elim (h.run pins s σ H Q I) (k.run pins s σ H Q I)⟩
def iSeq (K : PySem.W.Frag) (tl : TE) : TI := fun σ H R => tl σ H fun x H1 => ∃ a, x = .ref a ∧
  (((∃ xs, SqL K H1 a xs) ∧ R (Itl K a) H1) ∨ ((∃ xs, SqT K H1 a xs) ∧ R (Itt K a) H1))
theorem pi_seq {tg : Expr} {tl : TE} (hl : PE X l tl) : PI X tg l (iSeq X.K tl) := by
  refine ⟨fun pins s σ H R I h => thn (hl.run pins s σ H _ I h) ?_⟩
  rintro v s1 ⟨x, H1, I1, r1, a, rfl, q⟩
  cases r1
  have fp : ∀ b ∈ [s1.heap.objs.size], FpOk X pins H1 b := fun b hb => by
    rw [List.mem_singleton.mp hb]
    exact I1.fpOk (Nat.le_refl _) (I1.hok.fresh (Nat.le_refl _))
  rcases q with ⟨⟨xs, hq⟩, q⟩ | ⟨⟨xs, hq⟩, q⟩
  · obtain ⟨its, rv, p, hz⟩ := I1.list hq
    exact wpAny_pyIter_list p.isList ⟨_, _, _, _, H1, rfl, I1.kept (t' := s1.toks) fun b o e => Heap.get?_push_of_some _ e, turn_list a _,
      ⟨_, Heap.get?_push_size _ rfl, rfl, rfl⟩, fp, q⟩
  · obtain ⟨its, rv, p, hz⟩ := I1.tuple hq
    exact wpAny_pyIter_tuple (show s1.heap.IsTuple a its.toArray from p) ⟨_, _, _, _, H1, rfl, I1.kept (t' := s1.toks) fun b o e => Heap.get?_push_of_some _ e, turn_tuple a _,
      ⟨_, Heap.get?_push_size _ rfl, rfl, rfl⟩, fp, q⟩
def rAddS : R2 := fun x y H Q => ∃ i j, x = .str i ∧ y = .str j ∧ i.length + j.length ≤ sizeLine ∧ Q (.str (i ++ j)) H
def rAddG (K : PySem.W.Frag) : R2 := fun x y H Q => rI0 (fun i j => .int (i + j)) x y H Q ∨ (rAddS x y H Q ∨ (rCatA K x y H Q ∨ rCat x y H Q))
theorem op_addG : OpR X (binaryOp .Add) (rAddG X.K) := OpR.or op_add (OpR.or op_add_str (OpR.or op_catA op_cat))
def rMulG : R2 := fun x y H Q => rI CMul (fun i j => .int (i * j)) x y H Q ∨ rRep x y H Q
theorem op_mulG : OpR X (binaryOp .Mult) rMulG := OpR.or op_mul op_rep
def rEqG (K : PySem.W.Frag) : R2 := fun x y H Q => rEq x y H Q ∨ rEqD K x y H Q
theorem op_eqG (hu : X.A.units + 64 < cLine) : OpR X (compareOp .Eq) (rEqG X.K) := OpR.or op_eq (op_eqD hu)
def rNeG (K : PySem.W.Frag) : R2 := fun x y H Q => rNe x y H Q ∨ rNeD K x y H Q
theorem op_neG (hu : X.A.units + 64 < cLine) : OpR X (compareOp .NotEq) (rNeG X.K) := OpR.or op_ne (op_neD hu)
def rInSig : R2 := fun x y H Q => ∃ (c : Nat) (z : Str), x = .str ⟨#[c]⟩ ∧ y = .str z ∧ Q (.bl (decide (c ∈ z.cps.toList))) H
def rInG (K : PySem.W.Frag) : R2 := fun x y H Q => rInD K x y H Q ∨ rInSig x y H Q
theorem op_inG (hu : X.A.units + 65 < cLine) : OpR X (compareOp .In) (rInG X.K) := OpR.or (op_inD hu) op_in_sign
def rNotInSig : R2 := fun x y H Q => ∃ (c : Nat) (z : Str), x = .str ⟨#[c]⟩ ∧ y = .str z ∧ Q (.bl (!decide (c ∈ z.cps.toList))) H
def rNotInG (K : PySem.W.Frag) : R2 := fun x y H Q => rNotInD K x y H Q ∨ rNotInSig x y H Q
theorem op_notInG (hu : X.A.units + 65 < cLine) : OpR X (compareOp .NotIn) (rNotInG X.K) := OpR.or (op_notInD hu) op_notIn_sign
def rLenG (K : PySem.W.Frag) : List V → Hp → VK → Prop := fun xs H Q =>
  (∃ p ys, xs = [.ref p] ∧ (SqL K H p ys ∨ SqT K H p ys) ∧ Q (.int ys.length) H) ∨ ((∃ z : Str, xs = [.str z] ∧ z.length ≤ sizeLine ∧ Q (.int z.length) H) ∨
    (∃ a kvs, xs = [V.ref a] ∧ H a = some (.dK kvs) ∧ Q (.int kvs.length) H))
theorem call_lenG : CallR X (.builtin "len") (rLenG X.K) := CallR.or call_len_seq (CallR.or call_len_str call_lenD)
def rTupOf (K : PySem.W.Frag) : List V → Hp → VK → Prop := fun xs H Q => ∃ p ys, xs = [.ref p] ∧ ((SqL K H p ys ∧ ∀ l, H l = none → Q (.ref l) (upd H l (.tup ys))) ∨ (SqT K H p ys ∧ Q (.ref p) H))
theorem call_tupG : CallR X (.type "tuple") (rTupOf X.K) := call_tuple_of
def rListOf (K : PySem.W.Frag) : List V → Hp → VK → Prop := fun xs H Q => ∃ p ys, xs = [.ref p] ∧ (SqL K H p ys ∨ SqT K H p ys) ∧ ∀ l, H l = none → Q (.ref l) (upd H l (.lst ys))
theorem call_listG : CallR X (.type "list") (rListOf X.K) := call_list_of
def rSlG (K : PySem.W.Frag) : V → Option Int → Option Int → Hp → VK → Prop := fun x lo hi H Q => rSlL K x lo hi H Q ∨ (rSlA K x lo hi H Q ∨ rSlS x lo hi H Q)
theorem sl_G : SlR X (rSlG X.K) := SlR.or sl_list (SlR.or sl_tupA sl_str)
end
end Fm
namespace Fm
open PySem PySem.Spec PyProof.Rows L2
theorem ext_tup (l b : Addr) (as bs : Array Value) (n m : Nat) (dd : Option Addr) (sl : Array (Option Value))
    (h0 : ¬(!as.isEmpty && Builtin.List.listTooLong (as.size + bs.size)) = true) (h1 : as.size ≤ sizeLine) (h2 : as.size + bs.size ≤ sizeLine + 1) :
    Meets (Builtin.«list.extend» ⟨[.ref l, .ref b], []⟩) (fun _ R s =>
      s.heap.get? l = some { cls := .type "list", dict := none, data := .seq as n, slots := #[] } ∧
      s.heap.get? b = some { cls := .type "tuple", dict := dd, data := .seq bs m, slots := sl } ∧
      R (.ok (.ret Value.none)) { s with heap := s.heap.update l (Obj.mapSeq fun x => x ++ bs), toks := s.toks }) := by
  refine .of_wp fun prog w A R s h => ?_
  obtain ⟨hp, g, d, tk, os⟩ := s
  obtain ⟨ha, hb, hr⟩ := h
  have q1 := AutoSeq1.idx_int
  have q2 := AutoSeq1.sub_tuple_tuple
  have q3 := AutoSeq1.sub_list_list
  have q4 := AutoSeq1.sub_tuple_list
  have q5 := AutoSeq1.sub_list_tuple
  have hz : (as ++ bs).size ≤ sizeLine + 1 := by
    rw [Array.size_append]
    exact h2
  wp_walk using (wpAny_updateSeq ha rfl (hz := h1) (_hz' := hz)), AutoSeq1.wpAny_loadPart' ha, AutoSeq1.wpAny_loadPart' hb
  exact ⟨_, rfl, hr⟩
section
variable {X : Cx}
def rExtT (K : PySem.W.Frag) : V → List V → Hp → VK → Prop := fun x vs H Q => ∃ l b xs zs, x = .ref l ∧ vs = [.ref b] ∧ H l = some (.lst xs) ∧ SqT K H b zs ∧
  xs.length + zs.length ≤ sizeLine ∧ Q .non (upd H l (.lst (xs ++ zs)))
theorem mt_extT : MtR X "list.extend" (rExtT X.K) := by
  intro pins s σ H x vs v us Q I rx rv h
  obtain ⟨l, b, xs, zs, rfl, rfl, hH, hB, hz, q⟩ := h
  cases rx
  obtain ⟨u, rfl, ru⟩ := rv.one
  cases ru
  obtain ⟨z, its, n, r, hl, e⟩ := I.lstM hH
  obtain ⟨its2, r2, ⟨⟨cls, dd, data, sl⟩, ho, hc, m, hd⟩, hz2⟩ := I.tuple hB
  simp only at hc hd
  subst hc hd
  have e1 := r.length
  have e2 := r2.length
  have hs : its.toArray.size + its2.toArray.size ≤ sizeLine := by
    rw [List.size_toArray, List.size_toArray]
    omega
  have hlong : ¬ (!its.toArray.isEmpty && Builtin.List.listTooLong (its.toArray.size + its2.toArray.size)) = true := by
    rw [notLongL hs, Bool.and_false]
    exact Bool.false_ne_true
  refine call_meets PySem.F.slot_list_extend ⟨_, e, rfl⟩ PySem.F.entry_list_extend (PySem.F.args_list_extend_2 _ _)
    (ext_tup l b its.toArray its2.toArray n m dd sl hlong (by rw [List.size_toArray]; omega) (by omega)) ⟨e, ho, ?_⟩
  refine ⟨.non, _, I.lset (its' := its ++ its2) hH e (by simp) (r.append r2) ?_, rfl, q⟩
  rw [List.length_append]
  omega
def rExtG (K : PySem.W.Frag) : V → List V → Hp → VK → Prop := fun x vs H Q => rExtend x vs H Q ∨ rExtT K x vs H Q
theorem mt_extendG : MtR X "list.extend" (rExtG X.K) := MtR.or mt_extend mt_extT
def rReprG (K : PySem.W.Frag) : List V → Hp → VK → Prop := fun xs H Q => ∃ (x : V) (d : PyData), xs = [x] ∧ Dp K H x d ∧ d.showable = true ∧ d.hasDict = false ∧ d.depth ≤ 60 ∧ d.shown.length ≤ sizeLine ∧ Q (.str d.shown) H
theorem call_reprG (hg : X.A.guards = some []) (hu : X.A.units + 64 < cLine) : CallR X (.builtin "repr") (rReprG X.K) := by
  intro pins s σ H xs us Q I rv h
  obtain ⟨x, d, rfl, hd, hs, hn, hdp, hz, q⟩ := h
  obtain ⟨u, rfl, ru⟩ := rv.one
  obtain ⟨as, R⟩ := Dp.reads I d x u hd ru
  have fin : ∀ h' (t : Tok) tk, (∀ b o, s.heap.get? b = some o → h'.get? b = some o) → EP X pins σ Q (.str d.shown t) { s with heap := h', toks := tk } := fun h' t tk hk =>
    ⟨.str d.shown, H, I.kept (h' := h') (t' := tk) hk, ⟨t, rfl⟩, q⟩
  cases hd with
  | non =>
    cases ru
    exact PySem.P.repr_of_none (fin s.heap _ _ fun _ _ e => e)
  | bl b =>
    cases ru
    exact PySem.P.repr_of_bool (fin s.heap _ _ fun _ _ e => e)
  | int i =>
    obtain ⟨t, rfl⟩ := ru
    exact PySem.P.repr_of_int (by simpa [PyData.showable] using hs) (fin s.heap _ _ fun _ _ e => e)
  | str y =>
    obtain ⟨t, rfl⟩ := ru
    exact PySem.P.repr_of_str (fin s.heap _ _ fun _ _ e => e) hz
  | lst h1 h2 =>
    cases ru
    exact PySem.repr_of_reads' R hs (fun c => by rw [hn] at c; cases c) hg (by omega) (fun _ _ e => e) (fun h' t tk hk => fin h' t tk hk) hz
  | tup h1 h2 =>
    cases ru
    exact PySem.repr_of_reads' R hs (fun c => by rw [hn] at c; cases c) hg (by omega) (fun _ _ e => e) (fun h' t tk hk => fin h' t tk hk) hz
end
structure FnOkG (P : Program) (w : World) (K : PySem.W.Frag) (mg : Str → Option Value) (base : Heap) (CX : CXT) (k : Nat) (f : Addr) (fd : FuncData) (ps : List Str) (sp : Sp) : Prop where
  len : ∀ vs H Q E, sp vs H Q E → vs.length = ps.length
  run : ∀ (A : Around) (outer : List Env) (s : Shared) (H : Hp) (args : Args) (us : List Value) (vs : List V) (Q : VK) (E : XK), A.guards = some [] → Room k A →
    Env0 P w K mg base A outer s H → BindsTo s fd args (ps.zip us) → Vals vs us → sp vs H Q E → codeAny (model P w) A (.call (.ref f) args) (CR CX outer P w H s Q E) s
section
variable {P : Program} {w : World} {K : PySem.W.Frag} {mg : Str → Option Value} {base : Heap} {CX : CXT}
theorem FnOkG.mono {j k : Nat} {f : Addr} {fd : FuncData} {ps : List Str} {sp : Sp} (F : FnOkG P w K mg base CX j f fd ps sp) (h : j ≤ k) : FnOkG P w K mg base CX k f fd ps sp :=
  ⟨F.len, fun A outer s H args us vs Q E hg hr => F.run A outer s H args us vs Q E hg (hr.mono h)⟩
theorem guards_deeper (A : Around) (env : Env) (h : A.guards = some []) : (A.deeper env).guards = some [] := by
  first | exact h | simpa [Around.deeper] using h
theorem okG {x qual : Str} {st : Stmt} {f : Addr} {fd : FuncData} {N ps : List Str} {k : Nat} {sp : Sp} (F : Fun K x qual st f fd) (S : FnScope N ps (defScope st))
    (len : ∀ vs H Q E, sp vs H Q E → vs.length = ps.length)
    (body : ∀ (cdv : Value) (A : Around) (outer : List Env) (s : Shared) (H : Hp) (vs : List V) (Q : VK) (E : XK),
      (A.deeper (envOfC qual (defScope st) s.heap.objs.size f cdv)).guards = some [] → Room k (A.deeper (envOfC qual (defScope st) s.heap.objs.size f cdv)) → sp vs H Q E →
      ∃ t, PSs (cxOf CX0 P w K mg base N qual (defScope st) f cdv A outer s H E).nox (defBody st) t ∧ t { nx := fun _ H' => Q .non H', rt := Q } (start N vs) H) :
    FnOkG P w K mg base CX0 (k + 1) f fd ps sp := by
  obtain ⟨oc, od, kV, doc, pm, an, cdv, ct, osl, rfl, lk, hcd⟩ := F.ex
  refine ⟨len, fun A outer s H args us vs Q E hg hr e0 hb rv hsp => ?_⟩
  have KX : K.In s.heap := e0.mod.kin.keeps fun b o e => (e0.bs b o e).1
  have lim : s.heap.NoLimit := e0.mod.nolimit.keeps fun b o e => (e0.bs b o e).1
  refine codeAny_call_function hr.depth (KX _ _ lk) rfl S.co S.gen rfl (PySem.W.codeRec_of KX hcd) (hb _ _ _ _ ?_)
  refine wpAny_newFunctionEnv_cells S.kind (fun y hy => ?_) fun env he s1 ic => ?_
  · rcases S.par y.1 (List.of_mem_zip (show (y.1, y.2) ∈ ps.zip us from hy)).1 with q | q
    · exact .inl q
    · exact .inr ⟨q, PySem.W.cellsFrom_some _ _ _ (.inl q)⟩
  · subst he
    refine ⟨lim.keeps ic.toInCall.keep, codeAny_func ?_⟩
    obtain ⟨t, ht, hq⟩ := body cdv A outer s H vs Q E (guards_deeper A _ hg) (hr.deeper _) hsp
    have I := inv_start (CX := CX0) (N := N) (E := E) S hr.hd e0 (len _ _ _ _ hsp) rv ic
    refine wpAny_mono (ht.nox.run [] s1 (start N vs) H _ I hq) (fun fl s' hs => ?_) fun e s' hs => hs
    cases fl with
    | ret u =>
      obtain ⟨v, σ', H', J, r', q⟩ := hs
      exact ⟨v, H', J.os, J.bare, J.base, J.hok, r', q⟩
    | next =>
      obtain ⟨σ', H', J, q⟩ := hs
      exact ⟨.non, H', J.os, J.bare, J.base, J.hok, rfl, q⟩
    | brk =>
      obtain ⟨_, _, _, q⟩ := hs
      exact q.elim
    | cont =>
      obtain ⟨_, _, _, q⟩ := hs
      exact q.elim
end
section
variable {X : Cx} {CX : CXT} {k : Nat} {f : Addr} {fd : FuncData} {ps : List Str} {sp : Sp} {dvs : List V} {ds : List Value} {E : XK} {x : Str} {p pos : Pos} {e : Expr} {es : List Expr} {t : TA}
theorem pe_callG (F : FnOkG X.prog X.w X.K X.mg X.base CX k f fd ps sp) (hgd : X.A.guards = some []) (hr : Room k X.A) (hg : Gl X x) (hm : X.mg x = some (.ref f))
    (hk : PySem.W.keepIn X.K (.ref f) = true) (hb : Binds X.K fd ps ds) (hd : Vals dvs ds) (hx : Passes CX X E) (ha : PA X (e :: es) t) (hdb : (x == ("__debug__" : Str)) = false := by decide)
    (he : starEach (e :: es) X.env = (false, eval e X.env) :: starEach es X.env := by rfl) (hpl : (backTo pos (starEach es X.env)).any (·.1) = false := by rfl) :
    PE X (.Call (.Name x p) (e :: es) [] pos) (tCall sp dvs E t) := by
  refine ⟨fun pins s σ H Q I h => wpAny_Call_Name_kw (ld_glob I hg hm ?_ hdb)⟩
  refine PySem.W.callWith_K (h₀ := X.base) I.ok.mod.kin hk (thn (ha.run pos pins s σ H _ I h) ?_) he hpl
  rintro us s1 ⟨vs, H1, I1, rv, q⟩
  refine ⟨I1.kIn, ?_⟩
  have r2 := rv.append hd
  have hl : (us ++ ds).length = ps.length := by
    rw [← r2.length]
    exact F.len _ _ _ _ q
  refine wpAny_call (codeAny_mono (F.run X.A X.stack s1 H1 ⟨us, []⟩ _ _ Q E hgd hr I1.env0 (hb s1 us I1.kIn hl) r2 q) fun r s' hq => ?_)
  match r, hq with
  | .error e, hq => exact hx pins σ H1 s1 e s' I1 hq
  | .ok (.ret u), hq => exact I1.after hq
end
end Fm
namespace Fm
open PySem PySem.Spec PyProof.Rows L2
structure Mv (S : List Addr) (H H' : Hp) : Prop where
  tk : ∀ a xs, Rd H a (.tup xs) → Rd H' a (.tup xs)
  keep : ∀ a o, a ∉ S → H a = some o → H' a = some o
section
variable {S T : List Addr} {H H1 H2 : Hp} {p : Addr} {o : HO}
theorem Mv.refl : Mv S H H := ⟨fun _ _ h => h, fun _ _ _ h => h⟩
theorem Mv.trans (a : Mv S H H1) (b : Mv S H1 H2) : Mv S H H2 := ⟨fun c xs h => b.tk c xs (a.tk c xs h), fun c u n h => b.keep c u n (a.keep c u n h)⟩
theorem Mv.mono (a : Mv S H H1) (h : ∀ x ∈ S, x ∈ T) : Mv T H H1 := ⟨a.tk, fun c u n e => a.keep c u (fun z => n (h c z)) e⟩
theorem Mv.of_same (h : Same H H1) : Mv S H H1 := ⟨fun a xs r => r.elim (fun r => .inl (h _ _ r)) fun ⟨o, r⟩ => .inr ⟨o, h _ _ r⟩, fun a o _ e => h a o e⟩
theorem same_new (h : H p = none) : Same H (upd H p o) := fun a u e => by
  rw [upd_ne (ne_of_none e h)]
  exact e
theorem Mv.new (h : H p = none) : Mv S H (upd H p o) := .of_same (same_new h)
theorem Mv.free (a : Mv [] H H1) (h : H1 p = none) : H p = none := by
  cases q : H p with
  | none => rfl
  | some u =>
    rw [a.keep p u (List.not_mem_nil) q] at h
    cases h
theorem Mv.same (a : Mv [] H H1) : Same H H1 := fun c u e => a.keep c u List.not_mem_nil e
theorem Mv.wr (a : Mv S H H1) (h : H p = none) : Mv S H (upd H1 p o) := by
  refine ⟨fun c xs r => ?_, fun c u n e => ?_⟩
  · have hc : c ≠ p := by
      rintro rfl
      rcases r with r | ⟨u, r⟩ <;> (rw [h] at r; cases r)
    rcases a.tk c xs r with r | ⟨u, r⟩
    · exact .inl (by rw [upd_ne hc]; exact r)
    · exact .inr ⟨u, by rw [upd_ne hc]; exact r⟩
  · rw [upd_ne (ne_of_none e h)]
    exact a.keep c u n e
theorem Mv.set {xs : List V} (h : H p = some (.lst xs)) (hp : p ∈ S) : Mv S H (upd H p o) := by
  refine ⟨fun c ys r => ?_, fun c u n e => ?_⟩
  · have hc : c ≠ p := by
      rintro rfl
      rcases r with r | ⟨u, r⟩ <;> (rw [h] at r; cases r)
    rcases r with r | ⟨u, r⟩
    · exact .inl (by rw [upd_ne hc]; exact r)
    · exact .inr ⟨u, by rw [upd_ne hc]; exact r⟩
  · have hc : c ≠ p := fun z => n (by rw [z]; exact hp)
    rw [upd_ne hc]
    exact e
theorem Mv.sqT {K : PySem.W.Frag} {a : Addr} {xs : List V} (m : Mv S H H1) (h : SqT K H a xs) : SqT K H1 a xs := h.elim (fun h => .inl (m.tk a xs h)) .inr
end
mutual
def imm : PyData → Bool
  | .none | .bool _ | .int _ | .str _ => true
  | .tuple xs => immAll xs
  | .list _ => false
  | .dict _ => false
def immAll : List PyData → Bool
  | [] => true
  | x :: xs => imm x && immAll xs
end
structure Im (K : PySem.W.Frag) (H : Hp) (v : V) (d : PyData) : Prop where
  dp : Dp K H v d
  im : imm d = true
structure Ims (K : PySem.W.Frag) (H : Hp) (vs : List V) (ds : List PyData) : Prop where
  dp : DpAll K H vs ds
  im : immAll ds = true
section
variable {K : PySem.W.Frag} {S : List Addr} {H H' : Hp}
mutual
theorem dp_mv (m : Mv S H H') : ∀ (d : PyData) (v : V), imm d = true → Dp K H v d → Dp K H' v d
  | .none, _, _, h => by cases h; exact .non
  | .bool b, _, _, h => by cases h; exact .bl b
  | .int i, _, _, h => by cases h; exact .int i
  | .str x, _, _, h => by cases h; exact .str x
  | .tuple ds, _, i, h => by
    cases h with
    | tup hs ha => exact .tup (m.sqT hs) (dps_mv m ds _ (by simpa [imm] using i) ha)
  | .list ds, _, i, _ => by simp [imm] at i
  | .dict _, _, _, h => by cases h
theorem dps_mv (m : Mv S H H') : ∀ (ds : List PyData) (vs : List V), immAll ds = true → DpAll K H vs ds → DpAll K H' vs ds
  | [], _, _, h => by cases h; exact .nil
  | d :: ds, _, i, h => by
    cases h with
    | cons h1 h2 =>
      have i' : imm d = true ∧ immAll ds = true := by simpa [immAll] using i
      exact .cons (dp_mv m d _ i'.1 h1) (dps_mv m ds _ i'.2 h2)
end
theorem Im.mv {v : V} {d : PyData} (h : Im K H v d) (m : Mv S H H') : Im K H' v d := ⟨dp_mv m d v h.im h.dp, h.im⟩
theorem Ims.mv {vs : List V} {ds : List PyData} (h : Ims K H vs ds) (m : Mv S H H') : Ims K H' vs ds := ⟨dps_mv m ds vs h.im h.dp, h.im⟩
theorem Ims.nil : Ims K H [] [] := ⟨.nil, rfl⟩
theorem Ims.cons {v : V} {vs : List V} {d : PyData} {ds : List PyData} (h : Im K H v d) (k : Ims K H vs ds) : Ims K H (v :: vs) (d :: ds) := ⟨.cons h.dp k.dp, by simp [immAll, h.im, k.im]⟩
theorem Ims.inv {v : V} {vs : List V} {ds : List PyData} (h : Ims K H (v :: vs) ds) : ∃ d ds', ds = d :: ds' ∧ Im K H v d ∧ Ims K H vs ds' := by
  obtain ⟨h, i⟩ := h
  cases h with
  | cons h1 h2 =>
    simp only [immAll, Bool.and_eq_true] at i
    exact ⟨_, _, rfl, ⟨h1, i.1⟩, h2, i.2⟩
theorem Ims.invD {vs : List V} {d : PyData} {ds : List PyData} (h : Ims K H vs (d :: ds)) : ∃ v vs', vs = v :: vs' ∧ Im K H v d ∧ Ims K H vs' ds := by
  obtain ⟨h, i⟩ := h
  cases h with
  | cons h1 h2 =>
    simp only [immAll, Bool.and_eq_true] at i
    exact ⟨_, _, rfl, ⟨h1, i.1⟩, h2, i.2⟩
theorem Ims.nilD {vs : List V} (h : Ims K H vs []) : vs = [] := by
  obtain ⟨h, i⟩ := h
  cases h
  rfl
theorem Ims.length : ∀ {ds : List PyData} {vs : List V}, Ims K H vs ds → vs.length = ds.length
  | [], _, h => by rw [h.nilD]; rfl
  | d :: ds, _, h => by
    obtain ⟨v, vs', rfl, _, k⟩ := h.invD
    simp [k.length]
theorem Ims.append : ∀ {ds es : List PyData} {vs us : List V}, Ims K H vs ds → Ims K H us es → Ims K H (vs ++ us) (ds ++ es)
  | [], _, _, _, h, k => by rw [h.nilD]; exact k
  | d :: ds, _, _, _, h, k => by
    obtain ⟨v, vs', rfl, h1, h2⟩ := h.invD
    exact .cons h1 (h2.append k)
theorem Ims.get : ∀ {ds : List PyData} {vs : List V} {i : Nat} {v : V}, Ims K H vs ds → vs[i]? = some v → ∃ d, ds[i]? = some d ∧ Im K H v d
  | [], _, _, _, h, e => by rw [h.nilD] at e; simp at e
  | d :: ds, _, 0, _, h, e => by
    obtain ⟨v, vs', rfl, h1, h2⟩ := h.invD
    simp at e
    subst e
    exact ⟨d, rfl, h1⟩
  | d :: ds, _, i + 1, _, h, e => by
    obtain ⟨v, vs', rfl, h1, h2⟩ := h.invD
    exact h2.get (i := i) (by simpa using e)
theorem Ims.getD : ∀ {ds : List PyData} {vs : List V} {i : Nat} {d : PyData}, Ims K H vs ds → ds[i]? = some d → ∃ v, vs[i]? = some v ∧ Im K H v d
  | [], _, _, _, h, e => by simp at e
  | d :: ds, _, 0, _, h, e => by
    obtain ⟨v, vs', rfl, h1, h2⟩ := h.invD
    simp at e
    subst e
    exact ⟨v, rfl, h1⟩
  | d :: ds, _, i + 1, _, h, e => by
    obtain ⟨v, vs', rfl, h1, h2⟩ := h.invD
    exact h2.getD (i := i) (by simpa using e)
theorem Im.tupI {v : V} {ds : List PyData} (h : Im K H v (.tuple ds)) : ∃ a xs, v = .ref a ∧ SqT K H a xs ∧ Ims K H xs ds := by
  obtain ⟨h, i⟩ := h
  cases h with
  | tup hs ha => exact ⟨_, _, rfl, hs, ha, by simpa [imm] using i⟩
theorem Im.tup {a : Addr} {xs : List V} {ds : List PyData} (h : SqT K H a xs) (k : Ims K H xs ds) : Im K H (.ref a) (.tuple ds) := ⟨.tup h k.dp, by simpa [imm] using k.im⟩
theorem Im.int (i : Int) : Im K H (.int i) (.int i) := ⟨.int i, rfl⟩
theorem Im.str (x : Str) : Im K H (.str x) (.str x) := ⟨.str x, rfl⟩
theorem Im.bl (b : Bool) : Im K H (.bl b) (.bool b) := ⟨.bl b, rfl⟩
theorem Im.non : Im K H .non .none := ⟨.non, rfl⟩
theorem Im.intI {v : V} {i : Int} (h : Im K H v (.int i)) : v = .int i := by
  obtain ⟨h, _⟩ := h
  cases h
  rfl
theorem Im.strI {v : V} {x : Str} (h : Im K H v (.str x)) : v = .str x := by
  obtain ⟨h, _⟩ := h
  cases h
  rfl
end
def BagC (H : Hp) (b c : Addr) : Prop := ∃ (s m k : Int) (ns : List Int), H b = some (.lst [.int s, .int m, .int k, .ref c]) ∧ H c = some (.lst (ns.map V.int)) ∧ ns.length ≤ 63 ∧
  (∀ n ∈ ns, 0 ≤ n) ∧ 0 ≤ s ∧ 0 ≤ k ∧ 0 ≤ m
def Bag (H : Hp) (b : Addr) : Prop := ∃ c, BagC H b c
theorem BagC.lst {H : Hp} {b c : Addr} (h : BagC H b c) : ∃ xs, H b = some (.lst xs) := by
  obtain ⟨s, m, k, ns, h, _⟩ := h
  exact ⟨_, h⟩
theorem Bag.lst {H : Hp} {b : Addr} (h : Bag H b) : ∃ xs, H b = some (.lst xs) := h.elim fun _ h => h.lst
theorem Bag.ne {H : Hp} {b c : Addr} {xs : List V} {ns : List Int} (h : H b = some (.lst (xs ++ [.ref c]))) (k : H c = some (.lst (ns.map V.int))) : c ≠ b := by
  rintro rfl
  rw [h] at k
  have e : xs ++ [V.ref c] = ns.map V.int := by
    have := Option.some.inj k
    injection this
  have : V.ref c ∈ ns.map V.int := by
    rw [← e]
    simp
  obtain ⟨n, _, q⟩ := List.mem_map.mp this
  cases q
theorem BagC.mv {H H' : Hp} {b c : Addr} (h : BagC H b c) (m : Mv [] H H') : BagC H' b c := by
  obtain ⟨s, m', k, ns, h1, h2, r⟩ := h
  exact ⟨s, m', k, ns, m.same _ _ h1, m.same _ _ h2, r⟩
theorem Bag.mv {H H' : Hp} {b : Addr} (h : Bag H b) (m : Mv [] H H') : Bag H' b := h.elim fun c h => ⟨c, h.mv m⟩
structure Dr (b : Addr) (H H' : Hp) : Prop where
  mv : Mv [b] H H'
  bagC : ∀ c, BagC H b c → BagC H' b c
section
variable {b p : Addr} {H H' H1 H2 : Hp} {o : HO}
theorem Dr.bag (x : Dr b H H') (h : Bag H b) : Bag H' b := h.elim fun c h => ⟨c, x.bagC c h⟩
theorem Dr.refl : Dr b H H := ⟨.refl, fun _ h => h⟩
theorem Dr.trans (x : Dr b H H1) (y : Dr b H1 H2) : Dr b H H2 := ⟨x.mv.trans y.mv, fun c h => y.bagC c (x.bagC c h)⟩
theorem Dr.of (x : Mv [] H H1) : Dr b H H1 := ⟨x.mono (by simp), fun _ h => h.mv x⟩
theorem Dr.new (h : H p = none) : Dr b H (upd H p o) := .of (.new h)
theorem Dr.free (d : Dr b H H') (hB : Bag H b) (h : H' p = none) : H p = none := by
  cases q : H p with
  | none => rfl
  | some u =>
    by_cases e : p = b
    · subst e
      obtain ⟨xs, hx⟩ := (d.bag hB).lst
      rw [hx] at h
      cases h
    · rw [d.mv.keep p u (by simpa using e) q] at h
      cases h
theorem Dr.get (d : Dr b H H') (hp : p ≠ b) (h : H p = some o) : H' p = some o := d.mv.keep p o (by simpa using hp) h
theorem Dr.wr (d : Dr b H H') (hp : H p = none) : Dr b H (upd H' p o) := by
  refine ⟨d.mv.wr hp, fun c hB => ?_⟩
  obtain ⟨s', m', k', ns', h1', h2', r'⟩ := d.bagC c hB
  obtain ⟨s, m, k, ns, h1, h2, r⟩ := hB
  exact ⟨s', m', k', ns', by rw [upd_ne (ne_of_none h1 hp)]; exact h1', by rw [upd_ne (ne_of_none h2 hp)]; exact h2', r'⟩
theorem Dr.mkc {c : Addr} (m : Mv [b] H H') (h : BagC H b c) (h' : BagC H' b c) : Dr b H H' := ⟨m, fun d k => by
  obtain ⟨_, _, _, _, h1, _⟩ := h
  obtain ⟨_, _, _, _, k1, _⟩ := k
  rw [h1] at k1
  have e := Option.some.inj k1
  injection e with e
  injection e with _ e
  injection e with _ e
  injection e with _ e
  injection e with e _
  injection e with e
  rw [← e]
  exact h'⟩
theorem Bag.fneq (h : Bag H b) (hp : H p = none) : p ≠ b := by
  rintro rfl
  obtain ⟨xs, e⟩ := h.lst
  rw [e] at hp
  cases hp
end
section
variable {X : Cx}
def rGetL (K : PySem.W.Frag) : V → V → Hp → VK → Prop := fun o i H Q => ∃ (p : Addr) (xs : List V) (j : Nat) (v : V), o = .ref p ∧ i = .int (j : Nat) ∧ SqL K H p xs ∧ xs[j]? = some v ∧ Q v H
theorem get_G : PGet X (rGetL X.K) := by
  intro pins s σ H o i ov iv Q I ro ri h
  obtain ⟨p, xs, j, v, rfl, rfl, hq, he, q⟩ := h
  cases ro
  obtain ⟨t, rfl⟩ := ri
  obtain ⟨its, r, pl, hz⟩ := I.list hq
  obtain ⟨w, ew, rw'⟩ := r.get he
  have hl := r.length
  have hn := line63
  have hj : j < its.length := (List.getElem?_eq_some_iff.mp ew).1
  exact wpAny_getItem_list pl.isList (by omega) (by omega) (by simpa using ew) ⟨v, H, I, rw', q⟩
end
end Fm
namespace Fm
open PySem PySem.Spec PyProof.Rows L2
def Nm (x : Str) : Prop := 1 ≤ x.length ∧ x.length ≤ 8 ∧ ∀ c ∈ x.cps.toList, 97 ≤ c ∧ c ≤ 122
instance (x : Str) : Decidable (Nm x) := by unfold Nm; infer_instance
inductive Tm where
  | var (i : Int)
  | op (x : Str) (ts : List Tm)
namespace Tm
mutual
def d : Tm → PyData
  | .var i => .int i
  | .op x ts => .tuple (.str x :: ds ts)
def ds : List Tm → List PyData
  | [] => []
  | t :: ts => d t :: ds ts
end
theorem ds_map : ∀ ts : List Tm, ds ts = ts.map d
  | [] => by simp [ds]
  | t :: ts => by simp [ds, ds_map ts]
mutual
def dep : Tm → Nat
  | .var _ => 0
  | .op _ ts => deps ts + 1
def deps : List Tm → Nat
  | [] => 0
  | t :: ts => max (dep t) (deps ts)
end
mutual
def lv : Tm → Nat
  | .var _ => 1
  | .op _ ts => lvs ts
def lvs : List Tm → Nat
  | [] => 0
  | t :: ts => lv t + lvs ts
end
mutual
def leaves : Tm → List Int
  | .var i => [i]
  | .op _ ts => leavesL ts
def leavesL : List Tm → List Int
  | [] => []
  | t :: ts => leaves t ++ leavesL ts
end
mutual
def size : Tm → Nat
  | .var _ => 0
  | .op _ ts => sizes ts + 1
def sizes : List Tm → Nat
  | [] => 0
  | t :: ts => size t + sizes ts
end
mutual
def put (f : Int → Tm) : Tm → Tm
  | .var i => f i
  | .op x ts => .op x (puts f ts)
def puts (f : Int → Tm) : List Tm → List Tm
  | [] => []
  | t :: ts => put f t :: puts f ts
end
mutual
def ok (P : Int → Prop) : Tm → Prop
  | .var i => P i
  | .op x ts => Nm x ∧ ts.length ≤ 3 ∧ oks P ts
def oks (P : Int → Prop) : List Tm → Prop
  | [] => True
  | t :: ts => ok P t ∧ oks P ts
end
theorem puts_map (f : Int → Tm) : ∀ ts : List Tm, puts f ts = ts.map (put f)
  | [] => by simp [puts]
  | t :: ts => by simp [puts, puts_map f ts]
theorem oks_iff {P : Int → Prop} : ∀ {ts : List Tm}, oks P ts ↔ ∀ t ∈ ts, ok P t
  | [] => by simp [oks]
  | t :: ts => by simp [oks, oks_iff]
theorem deps_le {n : Nat} : ∀ {ts : List Tm}, deps ts ≤ n ↔ ∀ t ∈ ts, dep t ≤ n
  | [] => by simp [deps]
  | t :: ts => by
    have := deps_le (n := n) (ts := ts)
    simp only [deps, List.mem_cons, forall_eq_or_imp, ← this]
    omega
theorem leavesL_append : ∀ ts us : List Tm, leavesL (ts ++ us) = leavesL ts ++ leavesL us
  | [], _ => by simp [leavesL]
  | t :: ts, us => by simp [leavesL, leavesL_append ts us]
theorem sizes_append : ∀ ts us : List Tm, sizes (ts ++ us) = sizes ts + sizes us
  | [], _ => by simp [sizes]
  | t :: ts, us => by
    simp only [List.cons_append, sizes, sizes_append ts us]
    omega
theorem lvs_append : ∀ ts us : List Tm, lvs (ts ++ us) = lvs ts + lvs us
  | [], _ => by simp [lvs]
  | t :: ts, us => by
    simp only [List.cons_append, lvs, lvs_append ts us]
    omega
mutual
theorem leaves_len : ∀ t : Tm, (leaves t).length = lv t
  | .var _ => by simp [leaves, lv]
  | .op _ ts => by simp [leaves, lv, leavesL_len ts]
theorem leavesL_len : ∀ ts : List Tm, (leavesL ts).length = lvs ts
  | [] => by simp [leavesL, lvs]
  | t :: ts => by simp [leavesL, lvs, leaves_len t, leavesL_len ts]
end
mutual
theorem ok_leaves {P : Int → Prop} : ∀ t : Tm, ok P t → ∀ i ∈ leaves t, P i
  | .var j, h, i, hi => by
    simp only [leaves, List.mem_singleton] at hi
    rw [hi]
    exact h
  | .op _ ts, h, i, hi => oks_leaves ts h.2.2 i (by simpa [leaves] using hi)
theorem oks_leaves {P : Int → Prop} : ∀ ts : List Tm, oks P ts → ∀ i ∈ leavesL ts, P i
  | [], _, i, hi => by simp [leavesL] at hi
  | t :: ts, h, i, hi => by
    rcases List.mem_append.mp (show i ∈ leaves t ++ leavesL ts by simpa [leavesL] using hi) with hi | hi
    · exact ok_leaves t h.1 i hi
    · exact oks_leaves ts h.2 i hi
end
mutual
theorem ok_mono {P R : Int → Prop} (h : ∀ i, P i → R i) : ∀ t : Tm, ok P t → ok R t
  | .var i, k => h i k
  | .op _ ts, k => ⟨k.1, k.2.1, oks_mono h ts k.2.2⟩
theorem oks_mono {P R : Int → Prop} (h : ∀ i, P i → R i) : ∀ ts : List Tm, oks P ts → oks R ts
  | [], _ => trivial
  | t :: ts, k => ⟨ok_mono h t k.1, oks_mono h ts k.2⟩
end
mutual
theorem ok_put {P R : Int → Prop} {f : Int → Tm} (h : ∀ i, P i → ok R (f i)) : ∀ t : Tm, ok P t → ok R (put f t)
  | .var i, k => h i k
  | .op _ ts, k => by
    refine ⟨k.1, ?_, oks_puts h ts k.2.2⟩
    rw [puts_map, List.length_map]
    exact k.2.1
theorem oks_puts {P R : Int → Prop} {f : Int → Tm} (h : ∀ i, P i → ok R (f i)) : ∀ ts : List Tm, oks P ts → oks R (puts f ts)
  | [], _ => trivial
  | t :: ts, k => ⟨ok_put h t k.1, oks_puts h ts k.2⟩
end
mutual
theorem dep_put {P : Int → Prop} {f : Int → Tm} {n : Nat} (h : ∀ i, P i → dep (f i) ≤ n) : ∀ t : Tm, ok P t → dep (put f t) ≤ dep t + n
  | .var i, k => by simpa [put, dep] using h i k
  | .op _ ts, k => by
    have := deps_puts h ts k.2.2
    simp only [put, dep]
    omega
theorem deps_puts {P : Int → Prop} {f : Int → Tm} {n : Nat} (h : ∀ i, P i → dep (f i) ≤ n) : ∀ ts : List Tm, oks P ts → deps (puts f ts) ≤ deps ts + n
  | [], _ => by simp [puts, deps]
  | t :: ts, k => by
    have h1 := dep_put h t k.1
    have h2 := deps_puts h ts k.2
    simp only [puts, deps]
    omega
end
mutual
def cst : Tm → Nat
  | .var _ => 0
  | .op _ ts => csts ts + 90
def csts : List Tm → Nat
  | [] => 0
  | t :: ts => cst t + 2 + csts ts
end
mutual
theorem cst_put {P : Int → Prop} {f : Int → Tm} {c : Nat} (h : ∀ i, P i → cst (f i) ≤ c) : ∀ t : Tm, ok P t → cst (put f t) ≤ cst t + lv t * c
  | .var i, k => by simpa [put, cst, lv] using h i k
  | .op _ ts, k => by
    have := csts_puts h ts k.2.2
    simp only [put, cst, lv]
    omega
theorem csts_puts {P : Int → Prop} {f : Int → Tm} {c : Nat} (h : ∀ i, P i → cst (f i) ≤ c) : ∀ ts : List Tm, oks P ts → csts (puts f ts) ≤ csts ts + lvs ts * c
  | [], _ => by simp [puts, csts]
  | t :: ts, k => by
    have h1 := cst_put h t k.1
    have h2 := csts_puts h ts k.2
    simp only [puts, csts, lvs, Nat.add_mul]
    omega
end
mutual
theorem lv_put {P : Int → Prop} {f : Int → Tm} {c : Nat} (h : ∀ i, P i → lv (f i) ≤ c) : ∀ t : Tm, ok P t → lv (put f t) ≤ lv t * c
  | .var i, k => by simpa [put, lv] using h i k
  | .op _ ts, k => by simpa [put, lv] using lvs_puts h ts k.2.2
theorem lvs_puts {P : Int → Prop} {f : Int → Tm} {c : Nat} (h : ∀ i, P i → lv (f i) ≤ c) : ∀ ts : List Tm, oks P ts → lvs (puts f ts) ≤ lvs ts * c
  | [], _ => by simp [puts, lvs]
  | t :: ts, k => by
    have h1 := lv_put h t k.1
    have h2 := lvs_puts h ts k.2
    simp only [puts, lvs, Nat.add_mul]
    omega
end
mutual
theorem put_congr {f g : Int → Tm} : ∀ t : Tm, (∀ i ∈ leaves t, f i = g i) → put f t = put g t
  | .var i, h => h i (by simp [leaves])
  | .op x ts, h => by
    show Tm.op x (puts f ts) = .op x (puts g ts)
    rw [puts_congr ts fun i hi => h i (by simpa [leaves] using hi)]
theorem puts_congr {f g : Int → Tm} : ∀ ts : List Tm, (∀ i ∈ leavesL ts, f i = g i) → puts f ts = puts g ts
  | [], _ => rfl
  | t :: ts, h => by
    show put f t :: puts f ts = put g t :: puts g ts
    rw [put_congr t fun i hi => h i (by simp [leavesL, hi]), puts_congr ts fun i hi => h i (by simp [leavesL, hi])]
end
theorem small {P : Int → Prop} : ∀ (n : Nat) (t : Tm), ok P t → dep t ≤ n → lv t ≤ 3 ^ n ∧ cst t + 48 ≤ 48 * 3 ^ n
  | 0, .var i, _, _ => by simp [lv, cst]
  | 0, .op x ts, _, h => by simp [dep] at h
  | n + 1, .var i, _, _ => by
    have := Nat.one_le_pow (n + 1) 3 (by decide)
    simp only [lv, cst]
    omega
  | n + 1, .op x ts, k, h => by
    have hd : ∀ t ∈ ts, dep t ≤ n := deps_le.mp (by simp only [dep] at h; omega)
    have ho := oks_iff.mp k.2.2
    have hl := k.2.1
    have ih : ∀ t ∈ ts, lv t ≤ 3 ^ n ∧ cst t + 48 ≤ 48 * 3 ^ n := fun t ht => small n t (ho t ht) (hd t ht)
    have h1 := Nat.one_le_pow n 3 (by decide)
    rw [Nat.pow_succ]
    simp only [lv, cst]
    match ts, hl, ih with
    | [], _, _ => simp only [lvs, csts]; omega
    | [a], _, ih =>
      have := ih a (by simp)
      simp only [lvs, csts]; omega
    | [a, b], _, ih =>
      have := ih a (by simp)
      have := ih b (by simp)
      simp only [lvs, csts]; omega
    | [a, b, c], _, ih =>
      have := ih a (by simp)
      have := ih b (by simp)
      have := ih c (by simp)
      simp only [lvs, csts]; omega
end Tm
mutual
theorem imm_d : ∀ t : Tm, imm t.d = true
  | .var _ => by simp [Tm.d, imm]
  | .op _ ts => by simp [Tm.d, imm, immAll, imm_ds ts]
theorem imm_ds : ∀ ts : List Tm, immAll (Tm.ds ts) = true
  | [] => by simp [Tm.ds, immAll]
  | t :: ts => by simp [Tm.ds, immAll, imm_d t, imm_ds ts]
end
end Fm
namespace Fm
open PySem PySem.Spec PyProof.Rows L2
structure TV (t : TE) (σ : L2.St) (H : Hp) (v : V) : Prop where
  go : ∀ Q : VK, Q v H → t σ H Q
structure TB (t : TT) (σ : L2.St) (H : Hp) (b : Bool) : Prop where
  go : ∀ Q : Bool → Hp → Prop, Q b H → t σ H Q
theorem vint_eq {i j : Int} : decide (V.int i = V.int j) = decide (i = j) := by
  by_cases e : i = j
  · rw [e, decide_eq_true rfl, decide_eq_true rfl]
  · rw [decide_eq_false e, decide_eq_false fun z => e (V.int.inj z)]
section
variable {K : PySem.W.Frag} {σ : L2.St} {H : Hp} {ta tb : TE} {t u : TT} {a b : Bool} {i j : Int} {x y v : V} {Q : VK}
theorem tv_var {m : Nat} (h : σ[m]? = some (some v)) : TV (tVar m) σ H v := ⟨fun Q q => ⟨v, h, q⟩⟩
theorem tv_c : TV (tC v) σ H v := ⟨fun Q q => q⟩
theorem tv_I {g : Int → Int → V} (ha : TV ta σ H (.int i)) (hb : TV tb σ H (.int j)) : TV (tOp (rI0 g) ta tb) σ H (g i j) := ⟨fun Q q => ha.go _ (hb.go _ ⟨i, j, rfl, rfl, q⟩)⟩
theorem tv_eq (ha : TV ta σ H x) (hb : TV tb σ H y) (hs : scal x y = true) : TV (tOp (rEqG K) ta tb) σ H (.bl (decide (x = y))) := ⟨fun Q q => ha.go _ (hb.go _ (Or.inl ⟨hs, q⟩))⟩
theorem tv_eqI (ha : TV ta σ H (.int i)) (hb : TV tb σ H (.int j)) : TV (tOp (rEqG K) ta tb) σ H (.bl (decide (i = j))) := by
  rw [← vint_eq]
  exact tv_eq ha hb rfl
theorem tb_test (h : TV ta σ H (.bl a)) : TB (tTest ta) σ H a := ⟨fun Q q => h.go _ ⟨a, rfl, q⟩⟩
theorem tb_and (h : TB t σ H a) (k : TB u σ H b) : TB (tAnd t u) σ H (a && b) := ⟨fun Q q => h.go _ (by
  cases a with
  | true => exact k.go _ q
  | false => exact q)⟩
theorem tb_or (h : TB t σ H a) (k : TB u σ H b) : TB (tOr t u) σ H (a || b) := ⟨fun Q q => h.go _ (by
  cases a with
  | true => exact q
  | false => exact k.go _ q)⟩
theorem st_if {c : TT} {t u : TS} {D : Ends} (h : TB c σ H b) (h1 : b = true → t D σ H) (h2 : b = false → u D σ H) : tIfS c t u D σ H := h.go _ (by
  cases b with
  | true => exact h1 rfl
  | false => exact h2 rfl)
def isInt : PyData → Bool
  | .int _ => true
  | .bool _ => true
  | _ => false
theorem tyx_dp {d : PyData} (h : Dp K H v d) (hd : imm d = true) : ∃ t : String, TyX K H v (.type t) ∧ (t = "int" ∧ (∃ i, d = .int i) ∨ t = "bool" ∧ (∃ b, d = .bool b) ∨ t = "str" ∧ (∃ x, d = .str x) ∨ t = "NoneType" ∧ d = .none ∨ t = "tuple" ∧ (∃ ds, d = .tuple ds)) := by
  cases h with
  | non => exact ⟨_, .base .non, .inr (.inr (.inr (.inl ⟨rfl, rfl⟩)))⟩
  | bl b => exact ⟨_, .base (.bl b), .inr (.inl ⟨rfl, b, rfl⟩)⟩
  | int i => exact ⟨_, .base (.int i), .inl ⟨rfl, i, rfl⟩⟩
  | str x => exact ⟨_, .base (.str x), .inr (.inr (.inl ⟨rfl, x, rfl⟩))⟩
  | lst h1 h2 => simp [imm] at hd
  | tup h1 h2 =>
    refine ⟨"tuple", ?_, .inr (.inr (.inr (.inr ⟨rfl, _, rfl⟩)))⟩
    rcases h1 with (h1 | ⟨o, h1⟩) | ⟨o, its, n, hk, hc, _⟩
    · exact .base (.tup h1)
    · exact .fTuple h1
    · exact .kTuple hk hc
theorem kit_i1 : kitB "int" "int" = some true := by decide +kernel
theorem kit_i2 : kitB "bool" "int" = some true := by decide +kernel
theorem kit_i3 : kitB "str" "int" = some false := by decide +kernel
theorem kit_i4 : kitB "NoneType" "int" = some false := by decide +kernel
theorem kit_i5 : kitB "tuple" "int" = some false := by decide +kernel
theorem rd_isInt {d : PyData} (h : Im K H v d) (q : Q (.bl (isInt d)) H) : rIsi K [v, .ty "int"] H Q := by
  obtain ⟨t, ht, k⟩ := tyx_dp h.dp h.im
  refine ⟨v, .ty "int", _, _, isInt d, rfl, .ty "int", ht, ?_, q⟩
  rcases k with ⟨rfl, i, rfl⟩ | ⟨rfl, i, rfl⟩ | ⟨rfl, i, rfl⟩ | ⟨rfl, rfl⟩ | ⟨rfl, i, rfl⟩
  · exact kit_ty kit_i1
  · exact kit_ty kit_i2
  · exact kit_ty kit_i3
  · exact kit_ty kit_i4
  · exact kit_ty kit_i5
theorem rd_cat {a b : Addr} {xs ys : List V} (ha : SqT K H a xs) (hb : SqT K H b ys) (hs : xs.length + ys.length ≤ sizeLine)
    (h : ∀ p H', Mv [] H H' → SqT K H' p (xs ++ ys) → Q (.ref p) H') : rAddG K (.ref a) (.ref b) H Q := by
  refine Or.inr (Or.inr (Or.inl ⟨a, b, xs, ys, rfl, rfl, ha, hb, hs, fun e => ?_, fun _ e => ?_, fun _ _ p np => ?_⟩))
  · subst e
    exact h b H .refl hb
  · subst e
    exact h a H .refl (by rw [List.append_nil]; exact ha)
  · exact h p _ (.new np) (.inl (.inl upd_same))
theorem rd_catL {a b : Addr} {xs ys : List V} (ha : H a = some (.lst xs)) (hb : H b = some (.lst ys)) (hs : xs.length + ys.length ≤ sizeLine)
    (h : ∀ p H', H p = none → Mv [] H H' → H' p = some (.lst (xs ++ ys)) → Q (.ref p) H') : rAddG K (.ref a) (.ref b) H Q :=
  Or.inr (Or.inr (Or.inr ⟨a, b, xs, ys, rfl, rfl, ha, hb, hs, fun p np => h p _ np (.new np) upd_same⟩))
theorem rd_ixL {a : Addr} {xs : List V} {i : Int} {v : V} (ha : SqL K H a xs) (h0 : 0 ≤ i) (hv : xs[i.toNat]? = some v) (h : Q v H) : rIx K (.ref a) (.int i) H Q := by
  obtain ⟨j, rfl⟩ := Int.eq_ofNat_of_zero_le h0
  exact Or.inl ⟨a, xs, j, v, rfl, rfl, ha, atI_nat hv, h⟩
theorem rd_ixT {a : Addr} {xs : List V} {i : Int} {v : V} (ha : SqT K H a xs) (h0 : 0 ≤ i) (hv : xs[i.toNat]? = some v) (h : Q v H) : rIx K (.ref a) (.int i) H Q := by
  obtain ⟨j, rfl⟩ := Int.eq_ofNat_of_zero_le h0
  exact Or.inr (Or.inl ⟨a, xs, j, v, rfl, rfl, ha, atI_nat hv, h⟩)
theorem rd_len {a : Addr} {xs : List V} (ha : SqL K H a xs ∨ SqT K H a xs) (h : Q (.int xs.length) H) : rLenG K [.ref a] H Q := Or.inl ⟨a, xs, rfl, ha, h⟩
theorem rd_tupOf {a : Addr} {xs : List V} (ha : SqL K H a xs) (h : ∀ p H', Mv [] H H' → SqT K H' p xs → Q (.ref p) H') : rTupOf K [.ref a] H Q :=
  ⟨a, xs, rfl, .inl ⟨ha, fun p np => h p _ (.new np) (.inl (.inl upd_same))⟩⟩
theorem rd_listOf {a : Addr} {xs : List V} (ha : SqL K H a xs ∨ SqT K H a xs) (h : ∀ p H', H p = none → Mv [] H H' → H' p = some (.lst xs) → Q (.ref p) H') : rListOf K [.ref a] H Q :=
  ⟨a, xs, rfl, ha, fun p np => h p _ np (.new np) upd_same⟩
theorem rd_sl1 {a : Addr} {x : V} {xs : List V} (ha : SqT K H a (x :: xs)) (h : ∀ p H', Mv [] H H' → SqT K H' p xs → Q (.ref p) H') : rSlG K (.ref a) (some 1) none H Q := by
  have e : HT.sIx (x :: xs).length 0 (some 1) = 1 := by
    rw [show HT.sIx (x :: xs).length 0 (some 1) = min 1 (x :: xs).length from HT.sIx_nat _ 0 1, List.length_cons]
    omega
  refine Or.inr (Or.inl ⟨a, x :: xs, rfl, ha, fun z => ?_, fun _ p np => h p _ (.new np) (.inl (.inl ?_))⟩)
  · rw [e] at z
    omega
  · rw [upd_same]
    unfold cutV
    rw [e, HT.sIx_none, List.length_cons, Nat.add_sub_cancel]
    show some (HO.tup (xs.take xs.length)) = _
    rw [List.take_length]
theorem rd_slA {a : Addr} {x : V} {xs : List V} (ha : SqT K H a (x :: xs)) (h : ∀ p H', Mv [] H H' → SqT K H' p [x] → Q (.ref p) H') : rSlG K (.ref a) none (some 1) H Q := by
  have e : HT.sIx (x :: xs).length (x :: xs).length (some 1) = 1 := by
    rw [show HT.sIx (x :: xs).length (x :: xs).length (some 1) = min 1 (x :: xs).length from HT.sIx_nat _ _ 1, List.length_cons]
    omega
  refine Or.inr (Or.inl ⟨a, x :: xs, rfl, ha, fun z => ?_, fun _ p np => h p _ (.new np) (.inl (.inl ?_))⟩)
  · rw [e] at z
    have e0 : xs = [] := by
      cases xs with
      | nil => rfl
      | cons y ys =>
        have := z.2
        simp at this
    subst e0
    exact h a H .refl ha
  · rw [upd_same]
    unfold cutV
    rw [e, HT.sIx_none]
    rfl
end
section
variable {K : PySem.W.Frag} {a : Addr} {xs : List V}
theorem for_seq {g : TG} {tb : TS} {D : Ends} {σ : L2.St} {H : Hp} (hS : SqL K H a xs ∨ SqT K H a xs) (Pv : Nat → L2.St → Hp → Prop) (h0 : Pv 0 σ H) (hk : ∀ i σ' H', Pv i σ' H' → Mv [] H H')
    (hs : ∀ i x σ' H', xs[i]? = some x → Pv i σ' H' → g x σ' H' fun σ2 H2 => tb { D with nx := Pv (i + 1), ct := Pv (i + 1), bk := D.nx } σ2 H2) (hd : ∀ σ' H', Pv xs.length σ' H' → D.nx σ' H') :
    ((∃ xs, SqL K H a xs) ∧ ∃ W : Nat → Nat → L2.St → Hp → Prop, (∃ m, W 0 m σ H) ∧ ∀ i m σ H, W i m σ H →
      ((Itl K a).stop i H ∧ D.nx σ H) ∨ ((Itl K a).go i H ∧ ∃ N : L2.St → Hp → Prop, (∀ σ' H', N σ' H' → ∃ m', m' < m ∧ W (i + 1) m' σ' H') ∧ ∀ x H', (Itl K a).yld i H x H' → g x σ H' fun σ2 H2 => tb { D with nx := N, ct := N, bk := D.nx } σ2 H2)) ∨
    ((∃ xs, SqT K H a xs) ∧ ∃ W : Nat → Nat → L2.St → Hp → Prop, (∃ m, W 0 m σ H) ∧ ∀ i m σ H, W i m σ H →
      ((Itt K a).stop i H ∧ D.nx σ H) ∨ ((Itt K a).go i H ∧ ∃ N : L2.St → Hp → Prop, (∀ σ' H', N σ' H' → ∃ m', m' < m ∧ W (i + 1) m' σ' H') ∧ ∀ x H', (Itt K a).yld i H x H' → g x σ H' fun σ2 H2 => tb { D with nx := N, ct := N, bk := D.nx } σ2 H2)) := by
  rcases hS with hS | hS
  · exact .inl ⟨⟨xs, hS⟩, for_list Pv h0 (fun i σ' H' _ p => (hk i σ' H' p).same.seq hS) hs hd⟩
  · exact .inr ⟨⟨xs, hS⟩, for_tup Pv h0 (fun i σ' H' _ p => (hk i σ' H' p).sqT hS) hs hd⟩
theorem lc_seq {g : TG} {tt : TT} {te : TE} {vs : List Nat} {σ : L2.St} {H : Hp} {Qd : Addr → Hp → Prop} (hS : SqL K H a xs ∨ SqT K H a xs) (Pv : Nat → Addr → Hp → Prop) (h0 : ∀ D, H D = none → Pv 0 D (upd H D (.lst [])))
    (hk : ∀ i D H', H D = none → Pv i D H' → Mv [] H H')
    (hs : ∀ D, H D = none → ∀ i x H', xs[i]? = some x → Pv i D H' → g x (wipe σ vs) H' fun σ2 H2 => wipe σ2 vs = wipe σ vs ∧ tt σ2 H2 fun b H3 =>
      if b = true then te σ2 H3 fun y H4 => ∃ acc, H4 D = some (.lst acc) ∧ acc.length < sizeLine ∧ Pv (i + 1) D (upd H4 D (.lst (acc ++ [y]))) else Pv (i + 1) D H3) (hd : ∀ D H', H D = none → Pv xs.length D H' → Qd D H') :
    ((∃ xs, SqL K H a xs) ∧ ∀ D, H D = none → ∃ W : Nat → Nat → Hp → Prop, (∃ m, W 0 m (upd H D (.lst []))) ∧ ∀ i m H, W i m H →
      ((Itl K a).stop i H ∧ Qd D H) ∨ ((Itl K a).go i H ∧ ∃ Nx : Hp → Prop, (∀ H', Nx H' → ∃ m', m' < m ∧ W (i + 1) m' H') ∧ ∀ x H', (Itl K a).yld i H x H' → g x (wipe σ vs) H' fun σ2 H2 => wipe σ2 vs = wipe σ vs ∧ tt σ2 H2 fun b H3 =>
        if b = true then te σ2 H3 fun y H4 => ∃ acc, H4 D = some (.lst acc) ∧ acc.length < sizeLine ∧ Nx (upd H4 D (.lst (acc ++ [y]))) else Nx H3)) ∨
    ((∃ xs, SqT K H a xs) ∧ ∀ D, H D = none → ∃ W : Nat → Nat → Hp → Prop, (∃ m, W 0 m (upd H D (.lst []))) ∧ ∀ i m H, W i m H →
      ((Itt K a).stop i H ∧ Qd D H) ∨ ((Itt K a).go i H ∧ ∃ Nx : Hp → Prop, (∀ H', Nx H' → ∃ m', m' < m ∧ W (i + 1) m' H') ∧ ∀ x H', (Itt K a).yld i H x H' → g x (wipe σ vs) H' fun σ2 H2 => wipe σ2 vs = wipe σ vs ∧ tt σ2 H2 fun b H3 =>
        if b = true then te σ2 H3 fun y H4 => ∃ acc, H4 D = some (.lst acc) ∧ acc.length < sizeLine ∧ Nx (upd H4 D (.lst (acc ++ [y]))) else Nx H3)) := by
  rcases hS with hS | hS
  · exact .inl ⟨⟨xs, hS⟩, fun D nD => lc_list (Pv · D) (h0 D nD) (fun i H' _ p => (hk i D H' nD p).same.seq hS) (hs D nD) (fun H' p => hd D H' nD p)⟩
  · exact .inr ⟨⟨xs, hS⟩, fun D nD => lc_tup (Pv · D) (h0 D nD) (fun i H' _ p => (hk i D H' nD p).sqT hS) (hs D nD) (fun H' p => hd D H' nD p)⟩
end
section
variable {K : PySem.W.Frag} {H : Hp} {Q : VK}
theorem rd_slT {a : Addr} {xs : List V} {lo hi : Option Int} (ha : SqT K H a xs) (h : ∀ p H', Mv [] H H' → SqT K H' p (cutV xs lo hi) → Q (.ref p) H') : rSlG K (.ref a) lo hi H Q := by
  refine Or.inr (Or.inl ⟨a, xs, rfl, ha, fun z => h a H .refl ?_, fun _ p np => h p _ (.new np) (.inl (.inl upd_same))⟩)
  have e : cutV xs lo hi = xs := by
    unfold cutV
    rw [z.1, z.2, List.drop_zero, Nat.sub_zero, List.take_length]
  rw [e]
  exact ha
theorem cut_hi (xs : List V) (k : Nat) : cutV xs none (some (k : Int)) = xs.take k := by
  unfold cutV
  rw [HT.sIx_none, HT.sIx_nat, List.drop_zero, Nat.sub_zero, List.take_eq_take_iff]
  omega
theorem cut_lo (xs : List V) (k : Nat) : cutV xs (some (k : Int)) none = xs.drop k := by
  unfold cutV
  rw [HT.sIx_none, HT.sIx_nat]
  by_cases h : k ≤ xs.length
  · rw [Nat.min_eq_left h, List.take_of_length_le (by rw [List.length_drop]; omega)]
  · rw [Nat.min_eq_right (by omega), List.drop_of_length_le (Nat.le_refl _), List.drop_of_length_le (by omega)]
    simp
end
end Fm
namespace Fm
open PySem PySem.Spec PyProof.Rows L2 HT
section
variable {prog : Program} {w : World} {A : Around} {E : Value → Shared → Prop} {s : Shared}
end
section
variable {X : Cx}
def tBack (K : PySem.W.Frag) (te : TE) : TE := fun σ H Q => te σ H fun x H1 => ∃ a y ys, x = .ref a ∧ SqT K H1 a (y :: ys) ∧ ∀ p, H1 p = none → Q (.ref p) (upd H1 p (.tup ys.reverse))
end
end Fm
namespace Fm
open PySem PySem.Spec PyProof.Rows L2
section
variable {P : Program} {w : World} {A : Around} {E : Value → Shared → Prop} {s : Shared}
abbrev eset (w : World) : Obj := { cls := .type "set", dict := none, data := .set #[] 0 (.fresh 0 0 (!w.params.followText "set-order")) }
abbrev hset (w : World) (h : Heap) : Heap := h.push (eset w)
set_option maxHeartbeats 8000000 in
theorem set_of_list {l : Addr} {its : Array Value} (ns : List Int) {Q : Value → Shared → Prop} (hh : A.handled = none) (hl : s.heap.IsList l its) (hi : IntsAre its.toList ns) (hb : ns.length + 1 < scanBound)
    (h : ∀ (g : Heap) (tk c : Nat), SetR w g s.heap.objs.size (fun j => decide (j ∈ ns)) c → (∀ b o, s.heap.get? b = some o → g.get? b = some o) → Q (.ref s.heap.objs.size) { s with heap := g, toks := tk }) :
    wpAny (model P w) A (call (.type "set") [.ref l]) Q E s := by
  have hn : its.size = ns.length := by rw [← Array.length_toList]; exact IntsAre.length hi
  obtain ⟨mc, mt, mro⟩ := F.called_set.mro
  have mk1 := F.called_set.made
  have mk2 := F.called_set.sub
  refine wpAny_call (codeAny_of_tree (show wpAny _ _ (callAny (.type "set") _) _ _ _ from wpAny_pure ⟨Code.quiet_builtin _ (by decide +kernel), codeAny_builtin F.entry_type_call ?_⟩))
  rw [Around.under_plain (weight_type_call_type "set" [.ref l] []) rfl]
  have mk3 := F.called_set.notType
  have mk4 := F.called_set.canCreate
  have mk5 := F.typeCall_set_1 (.ref l)
  repeat (any_goals (first | assumption | wp_step))
  refine codeAny_mono (code_set_led1 (w := w) (s := s) (.ref l) (E := E)
    (Q₁ := fun obj s₁ => obj = .ref s.heap.objs.size ∧ s₁ = { s with heap := hset w s.heap }) ⟨rfl, rfl⟩) fun r s₁ hr => ?_
  match r, hr with
  | .error e, hr => exact hr
  | .ok (.ret obj), hr =>
    obtain ⟨rfl, rfl⟩ := hr
    have here : (hset w s.heap).get? s.heap.objs.size = some (eset w) := Heap.get?_push_size _ rfl
    have isS : Shared.TypeIs { s with heap := hset w s.heap } (.ref s.heap.objs.size) "set" := ⟨_, here, rfl⟩
    have in1 := F.called_set.init.lookup
    have in2 := F.called_set.init.bind (.ref s.heap.objs.size)
    repeat (any_goals (first | assumption | wp_step))
    have goes : codeAny (model P w) A.in1 (.call (.builtin "set.__init__") ⟨[.ref s.heap.objs.size, .ref l], []⟩) (wants (fun r s₂ => r = .none ∧ ∃ g tk c,
        s₂ = { s with heap := g, toks := tk } ∧ SetR w g s.heap.objs.size (fun j => decide (j ∈ ns)) c ∧ ∀ b o, s.heap.get? b = some o → g.get? b = some o) E) { s with heap := hset w s.heap } := by
      refine codeAny_call_builtin F.called_set.init.plain F.entry_set_init (check_set_init_1 isS ?_)
      obtain ⟨⟨oc, od, dt, sl⟩, hol, hcl, nl, hdl⟩ := id hl
      simp only at hcl hdl
      subst hcl hdl
      have lt := Heap.lt_size hol
      have hol2 : (hset w s.heap).get? l = some _ := Heap.get?_push_of_some _ hol
      have hl2 : (hset w s.heap).IsList l its := ⟨_, hol2, rfl, nl, rfl⟩
      have no1 := F.sub_list_set
      have no2 := F.sub_list_frozenset
      have no3 : (Value.type "list" == Value.type "dict") = false := by decide
      unfold Builtin.«set.__init__» noKeywords Builtin.Frozenset.updateFrom
      generalize hPI : pyIter = PI
      wp_walk
      subst hPI
      refine wpAny_pyIter_list hl2 (wpAny_bind (wpAny_runValue ?_))
      have sz2 : (hset w s.heap).objs.size = s.heap.objs.size + 1 := Heap.size_push ..
      have neI : l ≠ (hset w s.heap).objs.size := by
        rw [sz2]
        exact Nat.ne_of_lt (Nat.lt_succ_of_lt lt)
      have notIn : s.heap.objs.size ∉ [(hset w s.heap).objs.size, l] := by
        rw [sz2]
        intro z
        rcases List.mem_cons.mp z with z | z
        · exact Nat.ne_of_lt (Nat.lt_succ_self _) z
        · exact Nat.ne_of_gt lt (List.mem_singleton.mp z)
      have val : ∀ (i : Nat) (v : Value), its[i]? = some v → ∃ k t, ns[i]? = some k ∧ v = .int k t := fun i v hv => by
        have hi' : i < ns.length := by
          rw [← hn]
          exact (Array.getElem?_eq_some_iff.mp hv).1
        obtain ⟨t, e⟩ := PyProof.Rows.IntsAre.int_at hi i v (by rw [Array.getElem?_toList]; exact hv)
        have e2 : ns.getD i 0 = ns[i] := by rw [List.getD_eq_getElem?_getD, List.getElem?_eq_getElem hi']; rfl
        exact ⟨ns[i], t, List.getElem?_eq_getElem hi', by rw [e, e2]⟩
      have hh3 : A.in1.in1.in1.handled = none := by simp [hh]
      refine set_update_ints ((Walks.list hh3 _ l neI its).toS) s.heap.objs.size notIn ns hn hb val (its.size - 0) 0 _ (by omega) (Nat.zero_le _) ?st ?s0 ?fin
      case st => exact ⟨⟨_, Heap.get?_push_size _ rfl, rfl, rfl⟩, hl2.push _⟩
      case s0 => exact ⟨0, Nat.le_refl 0, setR_new_at (Heap.get?_push_of_some _ here)⟩
      case fin =>
        rintro ⟨g, gg, dd, tk, oo⟩ c' mv hc' hS'
        have e1 : gg = s.gens := mv.gens
        have e2 : dd = s.drawn := mv.drawn
        have e3 : oo = s.os := mv.os
        subst e1 e2 e3
        refine wpAny_pure (show wpAny _ _ (ret Value.none) _ _ _ from wpAny_pure ⟨rfl, g, tk, c', rfl, hS', fun b o e => ?_⟩)
        have b0 := Heap.lt_size e
        refine mv.heap b o (fun z => ?_) (Heap.get?_push_of_some _ (Heap.get?_push_of_some _ e))
        rcases List.mem_cons.mp z with z | z
        · exact Nat.ne_of_lt b0 z
        · have z2 := List.mem_singleton.mp z
          rw [sz2] at z2
          exact Nat.ne_of_lt (Nat.lt_succ_of_lt b0) z2
    refine codeAny_mono goes fun r₂ s₂ hr₂ => ?_
    match r₂, hr₂ with
    | .error e, hr₂ => exact hr₂
    | .ok (.ret r), hr₂ =>
      obtain ⟨rfl, g, tk, c', rfl, hS', hk'⟩ := hr₂
      repeat (any_goals (first | assumption | wp_step))
      exact h _ _ _ hS' hk'
end
section
variable {X : Cx}
def rSetOfL (K : PySem.W.Frag) (w : World) : List V → Hp → VK → Prop := fun xs H Q => ∃ (l : Addr) (ns : List Int), xs = [V.ref l] ∧ SqL K H l (ns.map V.int) ∧ ns.length ≤ 4000 ∧
  ∀ p (n : Nat) (ks : List Int), H p = none → ks.Nodup → ks.length = n → (∀ k, k ∈ ks ↔ k ∈ ns) → Q (.ref p) (upd H p (SetO w p (fun j => decide (j ∈ ns)) n))
end
end Fm
namespace Fm
open PySem PySem.Spec PyProof.Rows L2
mutual
def fine : PyData → Prop
  | .none => True
  | .bool _ => True
  | .int i => i.natAbs < 10 ^ 40
  | .str x => PyData.strOk x = true
  | .list xs => fineAll xs
  | .tuple xs => fineAll xs
  | .dict _ => False
def fineAll : List PyData → Prop
  | [] => True
  | x :: xs => fine x ∧ fineAll xs
end
mutual
def wl : PyData → Nat
  | .none => 4
  | .bool _ => 5
  | .int _ => 41
  | .str x => 10 * x.length + 2
  | .list xs => wls xs + 2
  | .tuple xs => wls xs + 2
  | .dict _ => 0
def wls : List PyData → Nat
  | [] => 0
  | x :: xs => wl x + 2 + wls xs
end
theorem listText_le : ∀ ts : List Str, (listText ts).length ≤ piled ts + 2
  | [] => by rw [listText_nil]; decide
  | t :: r => by
    have h := textFrom_length_pos r 1 (("[" : Str) ++ ("" : String) ++ t) (Nat.succ_pos 0)
    have e : ((("[" : Str) ++ ("" : String) ++ t)).length = 1 + t.length := by
      rw [strLen_append, strLen_append]
      rfl
    have x1 : (listText (t :: r)).length = (textFrom 1 (("[" : Str) ++ ("" : String) ++ t) r).length + 1 := by
      show (textFrom 1 (("[" : Str) ++ ("" : String) ++ t) r ++ "]").length = _
      rw [strLen_append]
      rfl
    rw [x1, h, e, piled_cons]
    omega
theorem tupleText_le (ts : List Str) : (tupleText ts).length ≤ piled ts + 2 := by
  have e3 : (((if ts.length == 1 then ",)" else ")" : String) : Str)).length ≤ 2 := by split <;> decide +kernel
  have e1 : ((("(" : String) : Str)).length = 1 := rfl
  unfold tupleText
  rw [strLen_append, strLen_append, e1]
  cases ts with
  | nil => decide +kernel
  | cons t r =>
    have := join_length_add (t :: r) (by simp)
    omega
mutual
theorem shown_le : ∀ d : PyData, fine d → d.shown.length ≤ wl d
  | .none, _ => by simp only [PyData.shown]; decide
  | .bool b, _ => by cases b <;> (simp only [PyData.shown]; decide)
  | .int i, h => by
    simp only [PyData.shown, wl]
    rw [PySem.ofString_length]
    exact int_text_length_le10 (k := 40) (by decide) h
  | .str x, h => by
    simp only [PyData.shown, wl]
    refine StrLaws.reprText_len x fun c hc => ?_
    have h' : x.cps.all (· < 0x110000) = true := h
    rw [Array.all_eq_true_iff_forall_mem] at h'
    have := h' c (by simpa using hc)
    simp at this
    omega
  | .list xs, h => by
    have := shown_les xs h
    have := listText_le (PyData.shownAll xs)
    simp only [PyData.shown, wl]
    omega
  | .tuple xs, h => by
    have := shown_les xs h
    have := tupleText_le (PyData.shownAll xs)
    simp only [PyData.shown, wl]
    omega
  | .dict _, h => h.elim
theorem shown_les : ∀ xs : List PyData, fineAll xs → piled (PyData.shownAll xs) ≤ wls xs
  | [], _ => by simp [PyData.shownAll, piled, wls]
  | x :: xs, h => by
    have h1 := shown_le x h.1
    have h2 := shown_les xs h.2
    simp only [PyData.shownAll, wls]
    rw [piled_cons]
    omega
end
mutual
theorem fine_lay : ∀ d : PyData, fine d → d.canLay0 = true ∧ d.showable = true ∧ d.hasDict = false
  | .none, _ => by simp [PyData.canLay0, PyData.showable, PyData.hasDict]
  | .bool b, _ => by simp [PyData.canLay0, PyData.showable, PyData.hasDict]
  | .int i, h => by
    refine ⟨by simp [PyData.canLay0], ?_, by simp [PyData.hasDict]⟩
    have h' : i.natAbs < 10 ^ 40 := h
    have h2 : i.natAbs < 2 ^ 200 := Nat.lt_trans h' (by decide)
    simp only [PyData.showable, decide_eq_true_eq]
    exact Nat.lt_trans (PySem.Flt.log2_lt_of (by decide) h2) (by decide)
  | .str x, h => ⟨by simp only [PyData.canLay0]; exact h, by simp [PyData.showable], by simp [PyData.hasDict]⟩
  | .list xs, h => by simpa [PyData.canLay0, PyData.showable, PyData.hasDict] using fine_lays xs h
  | .tuple xs, h => by simpa [PyData.canLay0, PyData.showable, PyData.hasDict] using fine_lays xs h
  | .dict _, h => h.elim
theorem fine_lays : ∀ xs : List PyData, fineAll xs → PyData.canLayAll0 xs = true ∧ PyData.showableAll xs = true ∧ PyData.hasDictAll xs = false
  | [], _ => by simp [PyData.canLayAll0, PyData.showableAll, PyData.hasDictAll]
  | x :: xs, h => by
    obtain ⟨a, b, c⟩ := fine_lay x h.1
    obtain ⟨a', b', c'⟩ := fine_lays xs h.2
    simp [PyData.canLayAll0, PyData.showableAll, PyData.hasDictAll, a, b, c, a', b', c']
end
structure Shw (d : PyData) : Prop where
  fi : fine d
  dp : d.depth ≤ 60
  wl : wl d ≤ 16000000
theorem Shw.shaped {d : PyData} (h : Shw d) : SeqAt.shaped d = true := by
  show (d.canLay0 && decide (d.depth ≤ 64)) = true
  have := h.dp
  rw [(fine_lay d h.fi).1, decide_eq_true (by omega)]
  rfl
theorem Shw.len {d : PyData} (h : Shw d) : d.shown.length ≤ sizeLine := by
  have := shown_le d h.fi
  have := h.wl
  have e : sizeLine = 16777216 := rfl
  omega
theorem Shw.eqv {d : PyData} (h : Shw d) : PyData.eqv d d = true := SeqAt.eqv_refl d (fine_lay d h.fi).1
theorem nm_ok {x : Str} (h : Nm x) : PyData.strOk x = true := by
  show x.cps.all (· < 0x110000) = true
  rw [Array.all_eq_true_iff_forall_mem]
  intro c hc
  have := h.2.2 c (by simpa using hc)
  simp
  omega
mutual
theorem fine_d {P : Int → Prop} (h : ∀ i, P i → i.natAbs < 10 ^ 40) : ∀ t : Tm, t.ok P → fine t.d
  | .var i, k => h i k
  | .op x ts, k => by
    simp only [Tm.d, fine, fineAll]
    exact ⟨nm_ok k.1, fine_ds h ts k.2.2⟩
theorem fine_ds {P : Int → Prop} (h : ∀ i, P i → i.natAbs < 10 ^ 40) : ∀ ts : List Tm, Tm.oks P ts → fineAll (Tm.ds ts)
  | [], _ => trivial
  | t :: ts, k => ⟨fine_d h t k.1, fine_ds h ts k.2⟩
end
mutual
theorem depth_d : ∀ t : Tm, t.d.depth = t.dep
  | .var _ => by simp [Tm.d, PyData.depth, Tm.dep]
  | .op _ ts => by simp [Tm.d, PyData.depth, PyData.depthAll, Tm.dep, depth_ds ts]
theorem depth_ds : ∀ ts : List Tm, PyData.depthAll (Tm.ds ts) = Tm.deps ts
  | [] => by simp [Tm.ds, PyData.depthAll, Tm.deps]
  | t :: ts => by simp [Tm.ds, PyData.depthAll, Tm.deps, depth_d t, depth_ds ts]
end
mutual
theorem wl_d {P : Int → Prop} : ∀ t : Tm, t.ok P → wl t.d ≤ t.cst + 41 * t.lv
  | .var _, _ => by simp [Tm.d, wl, Tm.cst, Tm.lv]
  | .op x ts, k => by
    have h1 := wl_ds ts k.2.2
    have h2 := k.1.2.1
    simp only [Tm.d, wl, wls, Tm.cst, Tm.lv]
    omega
theorem wl_ds {P : Int → Prop} : ∀ ts : List Tm, Tm.oks P ts → wls (Tm.ds ts) ≤ Tm.csts ts + 41 * Tm.lvs ts
  | [], _ => by simp [Tm.ds, wls]
  | t :: ts, k => by
    have h1 := wl_d t k.1
    have h2 := wl_ds ts k.2
    simp only [Tm.ds, wls, Tm.csts, Tm.lvs]
    omega
end
end Fm
namespace Fm
open PySem PySem.Spec PyProof.Rows L2
section
variable {P : Program} {w : World} {K : PySem.W.Frag} {mg mb : Str → Option Value} {k : Nat} {fa a : Addr} {fd : FuncData} {x : Str} {sp : Sp} {s : Shared} {vs : List Value} {ns : List Int}
theorem from_heap (KX : K.In s.heap) (hg0 : s.heap.Ns mainGlobals mg) (hb : s.heap.Ns builtinsNs mb) (hbb : ∀ y : Str, y ≠ "__name__" → mb y = bootBuiltins y) (hlim : s.heap.NoLimit) (hg : s.gens = #[])
    (ha : s.heap.get? a = some { cls := .type "list", data := .seq vs.toArray }) (hr : Room k callerA) (F : ∀ base : Heap, K.In base → base.Ns mainGlobals mg → FnOkG P w K mg base CX0 k fa fd [x] sp)
    (hbind : ∀ (t : Shared) (u : Value), BindsTo t fd ⟨[u], []⟩ [(x, u)]) (H : Hp) (hO : Only H) (hok : HOk P w H s.heap) (hA : ∀ b, H b ≠ none → b = a) (hK : H a ≠ none → K.lookup a = none)
    (hsp : sp [.ref a] H (fun v _ => v = .bl true) fun _ _ _ => False) :
    codeAny (model P w) callerA (.call (.ref fa) ⟨[.ref a], []⟩) (fun r t => r = .ok (.ret (.bool true)) ∧ OldK s.heap t.heap ∧ t.os = s.os ∧ AllBare t.gens) s := by
  have free : ∀ {b : Addr} {o : Obj} {es : Array DictEntry} {ep : Nat}, s.heap.get? b = some o → o.data = .dict es ep → H b = none := by
    intro b o es ep e d
    cases q : H b with
    | none => rfl
    | some u =>
      have z := hA b (by rw [q]; exact Option.some_ne_none u)
      rw [z, ha] at e
      cases e
      exact nomatch d
  have ns : ∀ {b : Addr} {m : Str → Option Value}, s.heap.Ns b m → (hidT s.heap H).Ns b m := by
    rintro b m ⟨o, es, ep, e, d, r⟩
    exact ⟨o, es, ep, hidT_get e (free e d), d, r⟩
  have kin : K.In (hidT s.heap H) := by
    intro b o e
    refine hidT_get (KX b o e) ?_
    cases q : H b with
    | none => rfl
    | some u =>
      have z := hA b (by rw [q]; exact Option.some_ne_none u)
      rw [z] at q e
      rw [hK (by rw [q]; exact Option.some_ne_none u)] at e
      cases e
  have lim : (hidT s.heap H).NoLimit := by
    obtain ⟨mc, l1, l2⟩ := hlim
    exact ⟨mc, ns l1, l2⟩
  have env : Env0 P w K mg (hidT s.heap H) callerA [] s H :=
    ⟨rfl, ⟨kin, ns hg0, ⟨mb, ns hb, hbb⟩, lim⟩, fun b o e => of_hidT e, Nat.le_of_eq (hidT_size _ _), trivial, (fun b z => absurd (show b ∈ ([] : List Addr) from z) List.not_mem_nil), hok, .of_eq hg⟩
  have run := (F _ kin (ns hg0)).run callerA [] s H ⟨[.ref a], []⟩ [.ref a] [.ref a] _ _ rfl hr env (hbind s (.ref a)) (.cons rfl .nil) hsp
  refine codeAny_mono run fun r t h => ?_
  match r, h with
  | .error e, h => exact False.elim h
  | .ok (.ret u), h =>
    obtain ⟨v, H', os, bare, un, hok', r', q⟩ := h
    have q' : v = .bl true := q
    rw [q'] at r'
    obtain rfl : u = Value.bool true := r'
    refine ⟨rfl, OldK.of_keep fun b o e => ?_, os, bare⟩
    rcases hO b with z | ⟨ob, xs, z⟩
    · exact un.keep b o e z (fun y => absurd (show b ∈ ([] : List Addr) from y) List.not_mem_nil) (fun y => nomatch y)
    · obtain ⟨e1, _⟩ := hok b _ z
      obtain ⟨e2, _⟩ := hok' b _ (un.frzs b ob _ z)
      rw [e1] at e
      cases e
      exact e2
theorem law_callG (KX : K.In s.heap) (hg0 : s.heap.Ns mainGlobals mg) (hb : s.heap.Ns builtinsNs mb) (hbb : ∀ y : Str, y ≠ "__name__" → mb y = bootBuiltins y) (hlim : s.heap.NoLimit) (hg : s.gens = #[])
    (ha : s.heap.get? a = some { cls := .type "list", data := .seq vs.toArray }) (hi : IntsAre vs ns) (hl : ns.length ≤ sizeLine) (hr : Room k callerA)
    (F : ∀ base : Heap, K.In base → base.Ns mainGlobals mg → FnOkG P w K mg base CX0 k fa fd [x] sp) (hbind : ∀ (t : Shared) (u : Value), BindsTo t fd ⟨[u], []⟩ [(x, u)])
    (hsp : ∀ H : Hp, SqL K H a (ns.map V.int) → sp [.ref a] H (fun v _ => v = .bl true) fun _ _ _ => False) :
    codeAny (model P w) callerA (.call (.ref fa) ⟨[.ref a], []⟩) (fun r t => r = .ok (.ret (.bool true)) ∧ OldK s.heap t.heap ∧ t.os = s.os ∧ AllBare t.gens) s := by
  have rv := vals_ints hi
  have hlen : (ns.map V.int).length ≤ sizeLine := by
    rw [List.length_map]
    exact hl
  cases hk : K.lookup a with
  | some o =>
    have e := KX a o hk
    rw [ha] at e
    cases e
    refine from_heap KX hg0 hb hbb hlim hg ha hr F hbind (fun _ => none) (fun _ => .inl rfl) (fun b u z => nomatch z) (fun b z => absurd rfl z) (fun z => absurd rfl z) (hsp _ ?_)
    exact .inr ⟨_, vs.toArray, _, hk, rfl, rfl, rfl, by rw [List.size_toArray, hi.length]; exact hl, by simpa using rv⟩
  | none =>
    have at_ : ∀ b, (if b = a then some (HO.frz { cls := .type "list", data := .seq vs.toArray } (.lst (ns.map V.int))) else none) ≠ none → b = a := by
      intro b z
      by_cases e : b = a
      · exact e
      · rw [if_neg e] at z
        exact absurd rfl z
    refine from_heap KX hg0 hb hbb hlim hg ha hr F hbind (fun b => if b = a then some (.frz { cls := .type "list", data := .seq vs.toArray } (.lst (ns.map V.int))) else none) (fun b => ?_) (fun b u z => ?_) at_ (fun _ => hk)
      (hsp _ (.inl (.inr ⟨_, if_pos rfl⟩)))
    · by_cases e : b = a
      · exact .inr ⟨_, _, if_pos e⟩
      · exact .inl (if_neg e)
    · have e : b = a := at_ b (by
        have z' : (if b = a then some (HO.frz { cls := .type "list", data := .seq vs.toArray } (.lst (ns.map V.int))) else none) = some u := z
        rw [z']
        exact Option.some_ne_none u)
      subst e
      have z' := (if_pos rfl).symm.trans z
      cases z'
      exact ⟨ha, hlen, vs, _, rv, ha⟩
end
theorem walk_G {l : PySem.W.OpenLaw} {n k : Nat} {q : Program} {loose : List Str} {XP : (Str → Option Value) → Heap → Prop} {YP : World → Heap → Prop} {d : DefRec} {K : Params → PySem.W.Frag} {sp : PySem.W.Frag → Sp} {x : Str}
    (hn : l.most = some n) (hn2 : n ≤ sizeLine) (hdf : d.params.defaults = []) (hr : Room k callerA) (hY : ∀ (w : World) (h : Heap), YP w h → (K w.params).In h)
    (F : ∀ (w : World) (mg : Str → Option Value) (fa : Addr) (h : Heap), (K w.params).In h → h.Ns mainGlobals mg → mg d.name = some (.ref fa) →
      ∃ fd : FuncData, (∀ (t : Shared) (u : Value), BindsTo t fd ⟨[u], []⟩ [(x, u)]) ∧ ∀ base : Heap, (K w.params).In base → base.Ns mainGlobals mg → FnOkG l.prog w (K w.params) mg base CX0 k fa fd [x] (sp (K w.params)))
    (hsp : ∀ (K : PySem.W.Frag) (H : Hp) (a : Addr) (ns : List Int), ns.length ≤ n → SqL K H a (ns.map V.int) → sp K [.ref a] H (fun v _ => v = .bl true) fun _ _ _ => False) :
    PySem.W.WalkO q loose XP YP l.row.toRowW d [] (fun f vs => PySem.call f vs) := by
  refine Att.attach_call hn hdf fun w s₀ s₁ mg mb fa o pm cd doc a vs ns G Y ho hd hcd hmg hobj hints hlen hgens => ?_
  obtain ⟨fd, hb, hF⟩ := F w mg fa _ (hY w _ Y) G.T.g hmg
  exact law_callG (hY w _ Y) G.T.g G.T.b G.T.builtins G.T.nolimit hgens hobj hints (Nat.le_trans hlen hn2) hr hF hb fun H hS => hsp _ H a ns hlen hS
end Fm
namespace Fm
open PySem PySem.Spec PyProof.Rows L2
section
variable {X : Cx}
def rNeNil (K : PySem.W.Frag) : R2 := fun x y H Q => ∃ (a b : Addr) (xs : List V), x = .ref a ∧ y = .ref b ∧ SqL K H a xs ∧ SqL K H b [] ∧ Q (.bl (!xs.isEmpty)) H
def rEqNil (K : PySem.W.Frag) : R2 := fun x y H Q => ∃ (a b : Addr) (xs : List V), x = .ref a ∧ y = .ref b ∧ SqL K H a xs ∧ SqL K H b [] ∧ Q (.bl xs.isEmpty) H
theorem op_neNil (hu : X.A.units < cLine) : OpR X (compareOp .NotEq) (rNeNil X.K) := by
  intro pins s σ H x y v u Q I rx ry h
  obtain ⟨a, b, xs, rfl, rfl, ha, hb, q⟩ := h
  obtain rfl : v = Value.ref a := rx
  obtain rfl : u = Value.ref b := ry
  obtain ⟨i1, r1, p1, _⟩ := I.list ha
  obtain ⟨i2, r2, p2, _⟩ := I.list hb
  have l1 := r1.length
  have l2 : i2 = [] := List.eq_nil_of_length_eq_zero (by have := r2.length; simpa using this.symm)
  subst l2
  cases xs with
  | nil =>
    have l3 : i1 = [] := List.eq_nil_of_length_eq_zero (by simpa using l1.symm)
    subst l3
    exact SeqAt.RcNeAt.lists (e := fun _ => true) p1.isList p2.isList rfl hu (fun j j1 _ => absurd j1 (Nat.not_lt_zero j)) X.prog X.w X.xe _ ⟨.bl false, H, I, rfl, q⟩
  | cons z zs =>
    refine SeqAt.RcNeAt.lists_lengths p1.isList p2.isList ?_ hu X.prog X.w X.xe _ ⟨.bl true, H, I, rfl, q⟩
    simp only [List.length_cons] at l1
    simp [bne_iff_ne]
    intro z
    rw [z] at l1
    simp at l1
theorem op_eqNil (hu : X.A.units < cLine) : OpR X (compareOp .Eq) (rEqNil X.K) := by
  intro pins s σ H x y v u Q I rx ry h
  obtain ⟨a, b, xs, rfl, rfl, ha, hb, q⟩ := h
  obtain rfl : v = Value.ref a := rx
  obtain rfl : u = Value.ref b := ry
  obtain ⟨i1, r1, p1, _⟩ := I.list ha
  obtain ⟨i2, r2, p2, _⟩ := I.list hb
  have l1 := r1.length
  have l2 : i2 = [] := List.eq_nil_of_length_eq_zero (by have := r2.length; simpa using this.symm)
  subst l2
  cases xs with
  | nil =>
    have l3 : i1 = [] := List.eq_nil_of_length_eq_zero (by simpa using l1.symm)
    subst l3
    exact SeqAt.RcAt.lists (e := fun _ => true) p1.isList p2.isList rfl hu (fun j j1 _ => absurd j1 (Nat.not_lt_zero j)) X.prog X.w X.xe _ ⟨.bl true, H, I, rfl, q⟩
  | cons z zs =>
    refine SeqAt.RcAt.lists_lengths p1.isList p2.isList ?_ hu X.prog X.w X.xe _ ⟨.bl false, H, I, rfl, q⟩
    simp only [List.length_cons] at l1
    simp [bne_iff_ne]
    intro z
    rw [z] at l1
    simp at l1
def rNotB : R2 := fun x y H Q => ∃ b : Bool, y = .bl b ∧ ((∃ a : Bool, x = .bl a ∧ Q (.bl (!decide (a = b))) H) ∨ (∃ i : Int, x = .int i ∧ Q (.bl true) H))
end
end Fm
namespace Fm
open PySem PySem.Spec PyProof.Rows L2
inductive Th where
  | non
  | bl (b : Bool)
  | int (i : Int)
  | str (x : Str)
  | tup (ts : List Th)
  | lst
  | dct
mutual
def Is (K : PySem.W.Frag) (b : Addr) (H : Hp) (v : V) : Th → Prop
  | .non => v = .non
  | .bl c => v = .bl c
  | .int i => v = .int i
  | .str x => v = .str x ∧ x.length ≤ 1000
  | .tup ts => ∃ a xs, v = .ref a ∧ SqT K H a xs ∧ IsAll K b H xs ts
  | .lst => ∃ a xs, v = .ref a ∧ a ≠ b ∧ H a = some (.lst xs)
  | .dct => ∃ a kvs, v = .ref a ∧ a ≠ b ∧ H a = some (.dK kvs)
def IsAll (K : PySem.W.Frag) (b : Addr) (H : Hp) (xs : List V) : List Th → Prop
  | [] => xs = []
  | t :: ts => ∃ y ys, xs = y :: ys ∧ Is K b H y t ∧ IsAll K b H ys ts
end
section
variable {K : PySem.W.Frag} {b : Addr} {H H' : Hp}
mutual
theorem Is.mv (m : Mv [b] H H') : ∀ (t : Th) (v : V), Is K b H v t → Is K b H' v t
  | .non, v, h => h
  | .bl _, v, h => h
  | .int _, v, h => h
  | .str _, v, h => h
  | .tup ts, v, h => by
    obtain ⟨a, xs, e, hs, ha⟩ := h
    exact ⟨a, xs, e, m.sqT hs, IsAll.mv m ts xs ha⟩
  | .lst, v, h => by
    obtain ⟨a, xs, e, hb, ha⟩ := h
    exact ⟨a, xs, e, hb, m.keep a _ (by simpa using hb) ha⟩
  | .dct, v, h => by
    obtain ⟨a, xs, e, hb, ha⟩ := h
    exact ⟨a, xs, e, hb, m.keep a _ (by simpa using hb) ha⟩
theorem IsAll.mv (m : Mv [b] H H') : ∀ (ts : List Th) (xs : List V), IsAll K b H xs ts → IsAll K b H' xs ts
  | [], xs, h => h
  | t :: ts, xs, h => by
    obtain ⟨y, ys, e, h1, h2⟩ := h
    exact ⟨y, ys, e, Is.mv m t y h1, IsAll.mv m ts ys h2⟩
end
theorem Is.mv0 {t : Th} {v : V} (h : Is K b H v t) (m : Mv [] H H') : Is K b H' v t := Is.mv (m.mono (by simp)) t v h
theorem IsAll.mv0 {ts : List Th} {xs : List V} (h : IsAll K b H xs ts) (m : Mv [] H H') : IsAll K b H' xs ts := IsAll.mv (m.mono (by simp)) ts xs h
theorem Is.dr {t : Th} {v : V} (h : Is K b H v t) (m : Dr b H H') : Is K b H' v t := Is.mv m.mv t v h
theorem IsAll.dr {ts : List Th} {xs : List V} (h : IsAll K b H xs ts) (m : Dr b H H') : IsAll K b H' xs ts := IsAll.mv m.mv ts xs h
theorem IsAll.length : ∀ {ts : List Th} {xs : List V}, IsAll K b H xs ts → xs.length = ts.length
  | [], xs, h => by
    have h' : xs = [] := h
    rw [h']
    rfl
  | t :: ts, xs, h => by
    obtain ⟨y, ys, rfl, _, k⟩ := h
    simp [k.length]
theorem IsAll.append : ∀ {ts us : List Th} {xs ys : List V}, IsAll K b H xs ts → IsAll K b H ys us → IsAll K b H (xs ++ ys) (ts ++ us)
  | [], _, xs, _, h, k => by
    have h' : xs = [] := h
    rw [h']
    exact k
  | t :: ts, _, xs, _, h, k => by
    obtain ⟨y, zs, rfl, h1, h2⟩ := h
    exact ⟨y, zs ++ _, rfl, h1, h2.append k⟩
theorem IsAll.nil : IsAll K b H [] [] := rfl
theorem IsAll.cons {t : Th} {ts : List Th} {y : V} {ys : List V} (h : Is K b H y t) (k : IsAll K b H ys ts) : IsAll K b H (y :: ys) (t :: ts) := ⟨y, ys, rfl, h, k⟩
theorem IsAll.get : ∀ {ts : List Th} {xs : List V} {i : Nat} {v : V}, IsAll K b H xs ts → xs[i]? = some v → ∃ t, ts[i]? = some t ∧ Is K b H v t
  | [], xs, _, _, h, e => by
    have h' : xs = [] := h
    rw [h'] at e
    simp at e
  | t :: ts, _, 0, _, h, e => by
    obtain ⟨y, ys, rfl, h1, h2⟩ := h
    simp at e
    subst e
    exact ⟨t, rfl, h1⟩
  | t :: ts, _, i + 1, _, h, e => by
    obtain ⟨y, ys, rfl, h1, h2⟩ := h
    exact h2.get (i := i) (by simpa using e)
theorem IsAll.take : ∀ {ts : List Th} {xs : List V} (n : Nat), IsAll K b H xs ts → IsAll K b H (xs.take n) (ts.take n)
  | [], xs, n, h => by
    have h' : xs = [] := h
    rw [h']
    simpa using IsAll.nil
  | t :: ts, _, 0, h => by simpa using IsAll.nil
  | t :: ts, _, n + 1, h => by
    obtain ⟨y, ys, rfl, h1, h2⟩ := h
    exact IsAll.cons h1 (h2.take n)
theorem IsAll.drop : ∀ {ts : List Th} {xs : List V} (n : Nat), IsAll K b H xs ts → IsAll K b H (xs.drop n) (ts.drop n)
  | [], xs, n, h => by
    have h' : xs = [] := h
    rw [h']
    simpa using IsAll.nil
  | t :: ts, _, 0, h => by simpa using h
  | t :: ts, _, n + 1, h => by
    obtain ⟨y, ys, rfl, h1, h2⟩ := h
    exact h2.drop n
theorem IsAll.last {ts : List Th} {t : Th} : ∀ {us : List Th} {xs : List V}, us = ts ++ [t] → IsAll K b H xs us → ∃ ys y, xs = ys ++ [y] ∧ IsAll K b H ys ts ∧ Is K b H y t := by
  induction ts with
  | nil =>
    intro us xs e h
    subst e
    obtain ⟨y, ys, rfl, h1, h2⟩ := h
    have h3 : ys = [] := h2
    exact ⟨[], y, by rw [h3]; rfl, IsAll.nil, h1⟩
  | cons u ts ih =>
    intro us xs e h
    subst e
    obtain ⟨y, ys, rfl, h1, h2⟩ := h
    obtain ⟨zs, z, rfl, h3, h4⟩ := ih rfl h2
    exact ⟨y :: zs, z, rfl, IsAll.cons h1 h3, h4⟩
def tyN : Th → String
  | .non => "NoneType"
  | .bl _ => "bool"
  | .int _ => "int"
  | .str _ => "str"
  | .tup _ => "tuple"
  | .lst => "list"
  | .dct => "dict"
theorem tyx_is {t : Th} {v : V} (h : Is K b H v t) : TyX K H v (.type (tyN t)) := by
  cases t with
  | non => cases (show v = V.non from h); exact .base .non
  | bl c => cases (show v = V.bl c from h); exact .base (.bl c)
  | int i => cases (show v = V.int i from h); exact .base (.int i)
  | str x => cases (show v = V.str x from h.1); exact .base (.str x)
  | tup ts =>
    obtain ⟨a, xs, rfl, hs, _⟩ := h
    rcases hs with (hs | ⟨o, hs⟩) | ⟨o, its, n, hk, hc, _⟩
    · exact .base (.tup hs)
    · exact .fTuple hs
    · exact .kTuple hk hc
  | lst =>
    obtain ⟨a, xs, rfl, _, ha⟩ := h
    exact .base (.lst ha)
  | dct =>
    obtain ⟨a, kvs, rfl, _, ha⟩ := h
    exact .base (.dK ha)
theorem rd_isi {t : Th} {v : V} {T : String} {c : Bool} {Q : VK} (h : Is K b H v t) (k : kitB (tyN t) T = some c) (q : Q (.bl c) H) : rIsi K [v, .ty T] H Q := ⟨v, .ty T, _, _, c, rfl, .ty T, tyx_is h, kit_ty k, q⟩
def isIntT : Th → Bool
  | .int _ => true
  | .bl _ => true
  | _ => false
def isBoolT : Th → Bool
  | .bl _ => true
  | _ => false
def isStrT : Th → Bool
  | .str _ => true
  | _ => false
def isTupT : Th → Bool
  | .tup _ => true
  | _ => false
def isLstT : Th → Bool
  | .lst => true
  | _ => false
theorem kit_int (t : Th) : kitB (tyN t) "int" = some (isIntT t) := by cases t <;> (simp only [tyN, isIntT]; decide +kernel)
theorem kit_bool (t : Th) : kitB (tyN t) "bool" = some (isBoolT t) := by cases t <;> (simp only [tyN, isBoolT]; decide +kernel)
theorem kit_str (t : Th) : kitB (tyN t) "str" = some (isStrT t) := by cases t <;> (simp only [tyN, isStrT]; decide +kernel)
theorem kit_tup (t : Th) : kitB (tyN t) "tuple" = some (isTupT t) := by cases t <;> (simp only [tyN, isTupT]; decide +kernel)
theorem kit_lst (t : Th) : kitB (tyN t) "list" = some (isLstT t) := by cases t <;> (simp only [tyN, isLstT]; decide +kernel)
end
def lettersS : Str := "abcdefghijklmnopqrstuvwxyz"
def nmd (x : Str) : Bool := decide (1 ≤ x.length) && decide (x.length ≤ 8) && x.cps.toList.all fun c => decide (c ∈ lettersS.cps.toList)
def isWhole : Th → Bool
  | .int _ => true
  | _ => false
def isNamed : Th → Bool
  | .str x => nmd x
  | _ => false
mutual
def isTerm : Th → Bool
  | .int i => decide (0 ≤ i)
  | .tup [] => false
  | .tup (t :: ts) => isNamed t && decide (ts.length ≤ 3) && isTerms ts
  | _ => false
def isTerms : List Th → Bool
  | [] => true
  | t :: ts => isTerm t && isTerms ts
end
mutual
def Th.cnt : Th → Nat
  | .tup ts => Th.cnts ts + 1
  | _ => 1
def Th.cnts : List Th → Nat
  | [] => 0
  | t :: ts => t.cnt + Th.cnts ts
end
theorem isTerms_all : ∀ ts : List Th, isTerms ts = ts.all isTerm
  | [] => by simp [isTerms]
  | t :: ts => by simp [isTerms, isTerms_all ts]
theorem Th.cnts_append : ∀ ts us : List Th, Th.cnts (ts ++ us) = Th.cnts ts + Th.cnts us
  | [], us => by simp [Th.cnts]
  | t :: ts, us => by
    simp only [List.cons_append, Th.cnts, Th.cnts_append ts us]
    omega
mutual
def Tm.th : Tm → Th
  | .var i => .int i
  | .op x ts => .tup (.str x :: Tm.ths ts)
def Tm.ths : List Tm → List Th
  | [] => []
  | t :: ts => t.th :: Tm.ths ts
end
section
variable {K : PySem.W.Frag} {b : Addr} {H : Hp}
mutual
theorem Is.of_im {R : Int → Prop} : ∀ (t : Tm) (v : V), t.ok R → Im K H v t.d → Is K b H v t.th
  | .var i, v, _, h => h.intI
  | .op x ts, v, k, h => by
    obtain ⟨a, xs0, rfl, ha, hxs⟩ := h.tupI
    obtain ⟨x', xs, rfl, hx', hys⟩ := hxs.invD
    exact ⟨a, x' :: xs, rfl, ha, IsAll.cons ⟨hx'.strI, by have := k.1.2.1; omega⟩ (IsAll.of_ims ts xs k.2.2 hys)⟩
theorem IsAll.of_ims {R : Int → Prop} : ∀ (ts : List Tm) (xs : List V), Tm.oks R ts → Ims K H xs (Tm.ds ts) → IsAll K b H xs (Tm.ths ts)
  | [], xs, _, h => h.nilD
  | t :: ts, xs, k, h => by
    obtain ⟨v, vs, rfl, h1, h2⟩ := h.invD
    exact IsAll.cons (Is.of_im t v k.1 h1) (IsAll.of_ims ts vs k.2 h2)
end
end
theorem nmd_nm {x : Str} (h : Nm x) : nmd x = true := by
  unfold nmd
  have h3 : (x.cps.toList.all fun c => decide (c ∈ lettersS.cps.toList)) = true := by
    rw [List.all_eq_true]
    intro c hc
    have := h.2.2 c hc
    have k : ∀ c : Fin 123, 97 ≤ c.val → decide (c.val ∈ lettersS.cps.toList) = true := by decide +kernel
    exact k ⟨c, by omega⟩ this.1
  rw [h3, decide_eq_true h.1, decide_eq_true h.2.1]
  rfl
end Fm
namespace Fm
open PySem PySem.Spec PyProof.Rows L2
mutual
def Tm.cx : Tm → List Nat
  | .var i => TL.numL i.toNat
  | .op x ts => x.cps.toList ++ Tm.cxP ts
def Tm.cxP : List Tm → List Nat
  | [] => []
  | t :: ts => 40 :: (Tm.cx t ++ Tm.cxs ts)
def Tm.cxs : List Tm → List Nat
  | [] => [41]
  | t :: ts => 44 :: (Tm.cx t ++ Tm.cxs ts)
end
def lisC (ts : List Tm) : List Nat := 40 :: (TL.joinL [44] (ts.map Tm.cx) ++ [41])
theorem joinL_cxs : ∀ (t : Tm) (ts : List Tm), TL.joinL [44] ((t :: ts).map Tm.cx) ++ [41] = t.cx ++ Tm.cxs ts
  | t, [] => by simp [TL.joinL, Tm.cxs]
  | t, u :: ts => by
    have ih := joinL_cxs u ts
    simp only [List.map_cons, TL.joinL, Tm.cxs] at ih ⊢
    rw [List.append_assoc, List.append_assoc, ih]
    rfl
theorem lisC_cons (t : Tm) (ts : List Tm) : lisC (t :: ts) = Tm.cxP (t :: ts) := by
  rw [lisC, joinL_cxs, Tm.cxP]
mutual
def Tm.tk : Tm → List (List Nat)
  | .var i => [TL.numL i.toNat]
  | .op x ts => x.cps.toList :: Tm.tkP ts
def Tm.tkP : List Tm → List (List Nat)
  | [] => []
  | t :: ts => [40] :: (Tm.tk t ++ Tm.tks ts)
def Tm.tks : List Tm → List (List Nat)
  | [] => [[41]]
  | t :: ts => [44] :: (Tm.tk t ++ Tm.tks ts)
end
def isSg (c : Nat) : Bool := decide (c ∈ ([40, 44, 41] : List Nat))
def tkL : List Nat → List Nat → List (List Nat)
  | [], w => if w = [] then [] else [w]
  | c :: r, w => if isSg c = true then (if w = [] then [[c]] else [w, [c]]) ++ tkL r [] else tkL r (w ++ [c])
theorem tkL_word : ∀ (v r w : List Nat), (∀ c ∈ v, isSg c = false) → tkL (v ++ r) w = tkL r (w ++ v)
  | [], r, w, _ => by simp
  | c :: v, r, w, h => by
    rw [List.cons_append, tkL, if_neg (by rw [h c List.mem_cons_self]; simp), tkL_word v r _ fun d hd => h d (List.mem_cons_of_mem _ hd), List.append_assoc]
    rfl
def Stop : List Nat → Prop
  | [] => True
  | c :: _ => isSg c = true
theorem tkL_stop {r w : List Nat} (hr : Stop r) (hw : w ≠ []) : tkL r w = w :: tkL r [] := by
  cases r with
  | nil => simp [tkL, hw]
  | cons c r =>
    have hc : isSg c = true := hr
    rw [tkL, tkL, if_pos hc, if_neg hw, if_pos hc, if_pos rfl]
    rfl
theorem num_sg (n : Nat) : ∀ c ∈ TL.numL n, isSg c = false := fun c hc => by
  have := TL.numL_digits n c hc
  unfold isSg
  refine decide_eq_false fun z => ?_
  simp only [List.mem_cons, List.not_mem_nil, or_false] at z
  omega
theorem name_sgs {x : Str} (h : Nm x) : (∀ c ∈ x.cps.toList, isSg c = false) ∧ x.cps.toList ≠ [] := by
  refine ⟨fun c hc => ?_, fun z => ?_⟩
  · have := h.2.2 c hc
    unfold isSg
    refine decide_eq_false fun z => ?_
    simp only [List.mem_cons, List.not_mem_nil, or_false] at z
    omega
  · have h1 := h.1
    unfold Str.length at h1
    rw [← Array.length_toList, z] at h1
    simp at h1
theorem stop_cxs : ∀ (ts : List Tm) (r : List Nat), Stop (Tm.cxs ts ++ r)
  | [], r => (by decide : isSg 41 = true)
  | t :: ts, r => (by decide : isSg 44 = true)
mutual
theorem tk_cx {P : Int → Prop} : ∀ (t : Tm) (r : List Nat), t.ok P → Stop r → tkL (t.cx ++ r) [] = t.tk ++ tkL r []
  | .var i, r, _, hr => by
    rw [Tm.cx, tkL_word _ _ _ (num_sg _), List.nil_append, tkL_stop hr (TL.numL_ne _), Tm.tk]
    rfl
  | .op x ts, r, h, hr => by
    obtain ⟨h1, h2⟩ := name_sgs h.1
    rw [Tm.cx, List.append_assoc, tkL_word _ _ _ h1, List.nil_append, Tm.tk, tk_cxP ts r _ h2 h.2.2 hr]
    rfl
theorem tk_cxP {P : Int → Prop} : ∀ (ts : List Tm) (r w : List Nat), w ≠ [] → Tm.oks P ts → Stop r → tkL (Tm.cxP ts ++ r) w = w :: (Tm.tkP ts ++ tkL r [])
  | [], r, w, hw, _, hr => by
    rw [Tm.cxP, Tm.tkP, List.nil_append, tkL_stop hr hw]
    rfl
  | t :: ts, r, w, hw, h, hr => by
    have e : isSg 40 = true := by decide
    rw [Tm.cxP, List.cons_append, tkL, if_pos e, if_neg hw, List.append_assoc, tk_cx t _ h.1 (stop_cxs ts r), tk_cxs ts r h.2 hr, Tm.tkP]
    simp
theorem tk_cxs {P : Int → Prop} : ∀ (ts : List Tm) (r : List Nat), Tm.oks P ts → Stop r → tkL (Tm.cxs ts ++ r) [] = Tm.tks ts ++ tkL r []
  | [], r, _, hr => by
    have e : isSg 41 = true := by decide
    rw [Tm.cxs, Tm.tks, List.cons_append, tkL, if_pos e, if_pos rfl]
    rfl
  | t :: ts, r, h, hr => by
    have e : isSg 44 = true := by decide
    rw [Tm.cxs, List.cons_append, tkL, if_pos e, if_pos rfl, List.append_assoc, tk_cx t _ h.1 (stop_cxs ts r), tk_cxs ts r h.2 hr, Tm.tks]
    simp
end
def digC (c : Nat) : Bool := decide (48 ≤ c) && decide (c ≤ 57)
def natI (w : List Nat) : Option Nat := if 0 < w.length ∧ w.length ≤ 40 ∧ w.all digC = true ∧ TL.numL (NumText.digitsVal w) = w then some (NumText.digitsVal w) else none
def intI : List Nat → Option Int
  | 45 :: ds => match natI ds with
    | some n => if n = 0 then none else some (-(n : Int))
    | none => none
  | w => (natI w).map Int.ofNat
def leafI (w : List Nat) : Option Tm := match w with
  | [] => none
  | c :: _ => if digC c = true then (intI w).map Tm.var else if nmd (SX.S w) = true then some (.op (SX.S w) []) else none
def runI : List (List Nat) → List (Str × List Tm) → Option Tm → Bool → Option Tm
  | [], op, t, _ => if op = [] then t else none
  | _ :: r, op, t, true => runI r op t false
  | w :: r, op, none, false => if w.length = 1 ∧ w.all isSg = true then none
    else if r.head? = some [40] then (if nmd (SX.S w) = true then runI r ((SX.S w, []) :: op) none true else none)
    else match leafI w with
      | some u => runI r op (some u) false
      | none => none
  | w :: r, op, some t, false => if w = [44] then match op with
      | (f, us) :: op' => runI r ((f, us ++ [t]) :: op') none false
      | [] => none
    else if w = [41] then match op with
      | (f, us) :: op' => runI r op' (some (.op f (us ++ [t]))) false
      | [] => none
    else none
theorem natI_num {n : Nat} (h : n < 10 ^ 40) : natI (TL.numL n) = some n := by
  have h1 := TL.numL_len (n := n) (k := 40) (by decide) h
  have h2 := List.length_pos_iff.mpr (TL.numL_ne n)
  have h3 : (TL.numL n).all digC = true := by
    rw [List.all_eq_true]
    intro c hc
    have := TL.numL_digits n c hc
    unfold digC
    rw [Bool.and_eq_true, decide_eq_true_eq, decide_eq_true_eq]
    exact this
  unfold natI
  rw [if_pos ⟨h2, h1, h3, by rw [TL.numL_val]⟩, TL.numL_val]
theorem num_head (n : Nat) : ∃ c r, TL.numL n = c :: r ∧ digC c = true := by
  obtain ⟨c, r, e⟩ := List.exists_cons_of_ne_nil (TL.numL_ne n)
  refine ⟨c, r, e, ?_⟩
  have := TL.numL_digits n c (by rw [e]; exact List.mem_cons_self)
  unfold digC
  rw [Bool.and_eq_true, decide_eq_true_eq, decide_eq_true_eq]
  exact this
theorem intI_num {n : Nat} (h : n < 10 ^ 40) : intI (TL.numL n) = some (n : Int) := by
  have h1 := natI_num h
  obtain ⟨c, r, e, hc⟩ := num_head n
  rw [e] at h1 ⊢
  unfold intI
  split
  · rename_i ds heq
    cases heq
    exact absurd hc (by decide)
  · rw [h1]
    rfl
theorem leafI_num {i : Int} (h0 : 0 ≤ i) (h : i.natAbs < 10 ^ 40) : leafI (TL.numL i.toNat) = some (.var i) := by
  have h1 := intI_num (n := i.toNat) (by omega)
  obtain ⟨c, r, e, hc⟩ := num_head i.toNat
  rw [e] at h1 ⊢
  unfold leafI
  simp only [hc, if_true, h1, Option.map_some]
  congr 2
  omega
theorem S_tl' (x : Str) : SX.S x.cps.toList = x := SX.S_tl x
theorem name_head {x : Str} (h : Nm x) : ∃ c r, x.cps.toList = c :: r ∧ digC c = false := by
  obtain ⟨c, r, e⟩ := List.exists_cons_of_ne_nil (name_sgs h).2
  refine ⟨c, r, e, ?_⟩
  have := h.2.2 c (by rw [e]; exact List.mem_cons_self)
  unfold digC
  rw [decide_eq_false (by omega : ¬ c ≤ 57), Bool.and_false]
theorem leafI_name {x : Str} (h : Nm x) : leafI x.cps.toList = some (.op x []) := by
  obtain ⟨c, r, e, hc⟩ := name_head h
  have h1 := S_tl' x
  rw [e] at h1 ⊢
  unfold leafI
  simp only [hc, h1, nmd_nm h, if_true]
  rfl
theorem word_no {w : List Nat} (h : ∀ c ∈ w, isSg c = false) (hne : w ≠ []) : ¬ (w.length = 1 ∧ w.all isSg = true) := fun z => by
  obtain ⟨c, r, rfl⟩ := List.exists_cons_of_ne_nil hne
  have h1 := h c List.mem_cons_self
  have h2 := List.all_eq_true.mp z.2 c List.mem_cons_self
  rw [h1] at h2
  cases h2
def NoOp (r : List (List Nat)) : Prop := r.head? ≠ some [40]
theorem runI_leaf {w : List Nat} {r : List (List Nat)} {op : List (Str × List Tm)} {u : Tm} (h : ∀ c ∈ w, isSg c = false) (hne : w ≠ []) (hr : NoOp r) (hl : leafI w = some u) : runI (w :: r) op none false = runI r op (some u) false := by
  rw [runI, if_neg (word_no h hne), if_neg hr, hl]
theorem runI_open {x : Str} {r : List (List Nat)} {op : List (Str × List Tm)} (h : Nm x) : runI (x.cps.toList :: [40] :: r) op none false = runI r ((x, []) :: op) none false := by
  obtain ⟨h1, h2⟩ := name_sgs h
  rw [runI, if_neg (word_no h1 h2), if_pos (by rfl), S_tl', if_pos (nmd_nm h), runI]
theorem noOp_tks (ts : List Tm) (r : List (List Nat)) : NoOp (Tm.tks ts ++ r) := by
  cases ts <;> simp [NoOp, Tm.tks]
mutual
theorem runI_tk : ∀ (t : Tm) (r : List (List Nat)) (op : List (Str × List Tm)), t.ok (fun i => 0 ≤ i ∧ i.natAbs < 10 ^ 40) → NoOp r → runI (t.tk ++ r) op none false = runI r op (some t) false
  | .var i, r, op, h, hr => runI_leaf (num_sg _) (TL.numL_ne _) hr (leafI_num h.1 h.2)
  | .op x [], r, op, h, hr => by
    obtain ⟨h1, h2⟩ := name_sgs h.1
    exact runI_leaf h1 h2 hr (leafI_name h.1)
  | .op x (t :: ts), r, op, h, hr => by
    rw [Tm.tk, Tm.tkP]
    show runI (x.cps.toList :: [40] :: (t.tk ++ Tm.tks ts ++ r)) op none false = _
    rw [runI_open h.1, List.append_assoc, runI_tk t _ _ h.2.2.1 (noOp_tks ts r), runI_tks ts r op x [] t h.2.2.2]
    rfl
theorem runI_tks : ∀ (ts : List Tm) (r : List (List Nat)) (op : List (Str × List Tm)) (x : Str) (us : List Tm) (t : Tm), Tm.oks (fun i => 0 ≤ i ∧ i.natAbs < 10 ^ 40) ts → runI (Tm.tks ts ++ r) ((x, us) :: op) (some t) false = runI r op (some (.op x (us ++ t :: ts))) false
  | [], r, op, x, us, t, _ => by
    rw [Tm.tks, List.cons_append, runI, if_neg (by decide), if_pos rfl]
    rfl
  | u :: ts, r, op, x, us, t, h => by
    rw [Tm.tks, List.cons_append, runI, if_pos rfl]
    show runI (u.tk ++ Tm.tks ts ++ r) ((x, us ++ [t]) :: op) none false = _
    rw [List.append_assoc, runI_tk u _ _ h.1 (noOp_tks ts r), runI_tks ts r op x (us ++ [t]) u h.2, List.append_assoc]
    rfl
end
theorem read_cx {t : Tm} (h : t.ok fun i => 0 ≤ i ∧ i.natAbs < 10 ^ 40) : runI (tkL t.cx []) [] none false = some t := by
  have h1 := tk_cx t [] h trivial
  have h2 := runI_tk t [] [] h (by simp [NoOp])
  rw [List.append_nil] at h1 h2
  rw [h1]
  show runI (t.tk ++ []) [] none false = _
  rw [List.append_nil, h2]
  simp [runI]
mutual
theorem cx_len {P : Int → Prop} : ∀ t : Tm, t.ok P → (∀ i ∈ t.leaves, (TL.numL i.toNat).length ≤ 40) → t.cx.length + 1 ≤ 41 * Tm.lv t + 10 * t.size + 2 * (Tm.lv t + t.size)
  | .var i, _, h => by
    have := h i (by simp [Tm.leaves])
    simp only [Tm.cx, Tm.lv, Tm.size]
    omega
  | .op x ts, k, h => by
    have h1 := k.1.2.1
    have h3 : x.cps.toList.length ≤ 8 := by simpa [Str.length] using h1
    have h2 := cxP_len ts k.2.2 (by simpa [Tm.leaves] using h)
    simp only [Tm.cx, Tm.lv, Tm.size, List.length_append]
    omega
theorem cxP_len {P : Int → Prop} : ∀ ts : List Tm, Tm.oks P ts → (∀ i ∈ Tm.leavesL ts, (TL.numL i.toNat).length ≤ 40) → (Tm.cxP ts).length ≤ 41 * Tm.lvs ts + 10 * Tm.sizes ts + 2 * (Tm.lvs ts + Tm.sizes ts) + 2
  | [], _, _ => by simp [Tm.cxP]
  | t :: ts, k, h => by
    have h1 := cx_len t k.1 fun i hi => h i (by simp [Tm.leavesL, hi])
    have h2 := cxs_len ts k.2 fun i hi => h i (by simp [Tm.leavesL, hi])
    simp only [Tm.cxP, List.length_cons, List.length_append, Tm.lvs, Tm.sizes]
    omega
theorem cxs_len {P : Int → Prop} : ∀ ts : List Tm, Tm.oks P ts → (∀ i ∈ Tm.leavesL ts, (TL.numL i.toNat).length ≤ 40) → (Tm.cxs ts).length ≤ 41 * Tm.lvs ts + 10 * Tm.sizes ts + 2 * (Tm.lvs ts + Tm.sizes ts) + 1
  | [], _, _ => by simp [Tm.cxs]
  | t :: ts, k, h => by
    have h1 := cx_len t k.1 fun i hi => h i (by simp [Tm.leavesL, hi])
    have h2 := cxs_len ts k.2 fun i hi => h i (by simp [Tm.leavesL, hi])
    simp only [Tm.cxs, List.length_cons, List.length_append, Tm.lvs, Tm.sizes]
    omega
end
end Fm
namespace Fm
open PySem PySem.Spec PyProof.Rows L2
mutual
def Tm.wr : Tm → Prop
  | .var i => 0 ≤ i ∧ i.natAbs < 10 ^ 40
  | .op x ts => Nm x ∧ Tm.wrs ts
def Tm.wrs : List Tm → Prop
  | [] => True
  | t :: ts => Tm.wr t ∧ Tm.wrs ts
end
theorem Tm.wrs_append : ∀ {us ts : List Tm}, Tm.wrs us → Tm.wrs ts → Tm.wrs (us ++ ts)
  | [], _, _, h => h
  | _ :: _, _, h, k => ⟨h.1, Tm.wrs_append h.2 k⟩
def preC : List (Str × List Tm) → List Nat
  | [] => []
  | (f, us) :: op => preC op ++ (f.cps.toList ++ (40 :: (us.map fun u => u.cx ++ [44]).flatten))
def opW (op : List (Str × List Tm)) : Prop := ∀ e ∈ op, Nm e.1 ∧ Tm.wrs e.2
theorem cxs_snoc : ∀ (us : List Tm) (t : Tm) (u : Tm), u.cx ++ Tm.cxs (us ++ [t]) = (((u :: us).map fun u => u.cx ++ [44]).flatten) ++ (t.cx ++ [41])
  | [], t, u => by simp [Tm.cxs]
  | v :: us, t, u => by
    have := cxs_snoc us t v
    rw [List.cons_append, Tm.cxs, this]
    simp
theorem cxP_snoc (us : List Tm) (t : Tm) : Tm.cxP (us ++ [t]) = 40 :: ((us.map fun u => u.cx ++ [44]).flatten ++ (t.cx ++ [41])) := by
  cases us with
  | nil => simp [Tm.cxP, Tm.cxs]
  | cons u us =>
    rw [List.cons_append, Tm.cxP, cxs_snoc]
theorem dig_lt97 : ∀ (l : List Nat) (a : Nat), (∀ c ∈ l, c ≤ 57) → l.foldl (fun acc c => acc * 10 + (c - 48)) a + 1 ≤ (a + 1) * 10 ^ l.length
  | [], a, _ => by simp
  | c :: l, a, h => by
    have h1 := dig_lt97 l (a * 10 + (c - 48)) fun d hd => h d (List.mem_cons_of_mem _ hd)
    have h2 := h c List.mem_cons_self
    rw [List.foldl_cons, List.length_cons, Nat.pow_succ]
    have h3 : (a * 10 + (c - 48) + 1) * 10 ^ l.length ≤ ((a + 1) * 10) * 10 ^ l.length := Nat.mul_le_mul_right _ (by omega)
    rw [Nat.mul_assoc, Nat.mul_comm 10] at h3
    omega
theorem nm_nmd {x : Str} (h : nmd x = true) : Nm x := by
  unfold nmd at h
  rw [Bool.and_eq_true, Bool.and_eq_true, decide_eq_true_eq, decide_eq_true_eq, List.all_eq_true] at h
  refine ⟨h.1.1, h.1.2, fun c hc => ?_⟩
  have k : ∀ c ∈ lettersS.cps.toList, 97 ≤ c ∧ c ≤ 122 := by decide +kernel
  exact k c (of_decide_eq_true (h.2 c hc))
theorem natI_inv2 {w : List Nat} {n : Nat} (h : natI w = some n) : TL.numL n = w ∧ n < 10 ^ 40 ∧ 0 < w.length := by
  unfold natI at h
  split at h
  · rename_i hc
    cases h
    refine ⟨hc.2.2.2, ?_, hc.1⟩
    have h1 := dig_lt97 w 0 fun c hm => by
      have := List.all_eq_true.mp hc.2.2.1 c hm
      unfold digC at this
      rw [Bool.and_eq_true, decide_eq_true_eq, decide_eq_true_eq] at this
      exact this.2
    have h2 : 10 ^ w.length ≤ 10 ^ 40 := Nat.pow_le_pow_right (by decide) hc.2.1
    have h3 : NumText.digitsVal w + 1 ≤ (0 + 1) * 10 ^ w.length := h1
    omega
  · cases h
theorem leafI_back {w : List Nat} {u : Tm} (h : leafI w = some u) : u.cx = w ∧ u.wr := by
  unfold leafI at h
  cases w with
  | nil => cases h
  | cons c r =>
    dsimp only at h
    by_cases hc : digC c = true
    · rw [if_pos hc] at h
      have hi : intI (c :: r) = (natI (c :: r)).map Int.ofNat := by
        unfold intI
        split
        · rename_i ds heq
          cases heq
          exact absurd hc (by decide)
        · rfl
      rw [hi] at h
      cases hn : natI (c :: r) with
      | none => rw [hn] at h; cases h
      | some n =>
        rw [hn] at h
        cases h
        obtain ⟨h1, h2, _⟩ := natI_inv2 hn
        refine ⟨?_, ?_⟩
        · show TL.numL (Int.ofNat n).toNat = _
          exact h1
        · show 0 ≤ Int.ofNat n ∧ (Int.ofNat n).natAbs < 10 ^ 40
          exact ⟨Int.natCast_nonneg n, h2⟩
    · rw [if_neg hc] at h
      split at h
      · rename_i hn
        cases h
        exact ⟨by simp [Tm.cx, Tm.cxP], nm_nmd hn, trivial⟩
      · cases h
theorem tkL_flat : ∀ (l w : List Nat), (tkL l w).flatten = w ++ l
  | [], w => by
    unfold tkL
    split
    · rename_i e
      rw [e]
      rfl
    · simp
  | c :: l, w => by
    unfold tkL
    split
    · split
      · rename_i e
        rw [e, List.flatten_append, tkL_flat l []]
        simp
      · rw [List.flatten_append, tkL_flat l []]
        simp
    · rw [tkL_flat l (w ++ [c])]
      simp
theorem runI_inv : ∀ (ws : List (List Nat)) (op : List (Str × List Tm)) (z : Tm), opW op →
    (runI ws op none false = some z → preC op ++ ws.flatten = z.cx ∧ z.wr) ∧
    (∀ w, runI (w :: ws) op none true = some z → preC op ++ ws.flatten = z.cx ∧ z.wr) ∧
    (∀ t, t.wr → runI ws op (some t) false = some z → preC op ++ (t.cx ++ ws.flatten) = z.cx ∧ z.wr)
  | [], op, z, ho => by
    refine ⟨fun h => ?_, fun w h => ?_, fun t ht h => ?_⟩
    · simp [runI] at h
    · simp [runI] at h
    · unfold runI at h
      split at h
      · rename_i e
        cases h
        rw [e]
        exact ⟨by simp [preC], ht⟩
      · cases h
  | w :: ws, op, z, ho => by
    have A : runI (w :: ws) op none false = some z → preC op ++ (w :: ws).flatten = z.cx ∧ z.wr := fun h => by
      unfold runI at h
      split at h
      · cases h
      · split at h
        · rename_i hh
          split at h
          · rename_i hn
            obtain ⟨ws', rfl⟩ : ∃ ws', ws = [40] :: ws' := by
              cases ws with
              | nil => cases hh
              | cons a ws' =>
                rw [List.head?_cons] at hh
                exact ⟨ws', by rw [Option.some.inj hh]⟩
            have hnm := nm_nmd hn
            have := (runI_inv ws' ((SX.S w, []) :: op) z (fun e he => by
              rcases List.mem_cons.mp he with rfl | he
              · exact ⟨hnm, trivial⟩
              · exact ho e he)).2.1 [40] h
            refine ⟨?_, this.2⟩
            rw [← this.1]
            simp [preC]
          · cases h
        · cases hl : leafI w with
          | none => rw [hl] at h; cases h
          | some u =>
            rw [hl] at h
            obtain ⟨h1, h2⟩ := leafI_back hl
            have := (runI_inv ws op z ho).2.2 u h2 h
            rw [h1] at this
            exact this
    refine ⟨A, fun w' h => ?_, fun t ht h => ?_⟩
    · unfold runI at h
      exact A h
    · unfold runI at h
      split at h
      · rename_i e
        cases op with
        | nil => cases h
        | cons fo op' =>
          obtain ⟨f, us⟩ := fo
          dsimp only at h
          have hf := ho (f, us) List.mem_cons_self
          have := (runI_inv ws ((f, us ++ [t]) :: op') z (fun e he => by
            rcases List.mem_cons.mp he with rfl | he
            · exact ⟨hf.1, Tm.wrs_append hf.2 ⟨ht, trivial⟩⟩
            · exact ho e (List.mem_cons_of_mem _ he))).1 h
          refine ⟨?_, this.2⟩
          rw [← this.1, e]
          simp [preC]
      · split at h
        · rename_i e
          cases op with
          | nil => cases h
          | cons fo op' =>
            obtain ⟨f, us⟩ := fo
            dsimp only at h
            have hf := ho (f, us) List.mem_cons_self
            have := (runI_inv ws op' z (fun e he => ho e (List.mem_cons_of_mem _ he))).2.2 (.op f (us ++ [t])) ⟨hf.1, Tm.wrs_append hf.2 ⟨ht, trivial⟩⟩ h
            refine ⟨?_, this.2⟩
            rw [← this.1, e, Tm.cx, cxP_snoc]
            simp [preC]
        · cases h
theorem read_inv {l : List Nat} {z : Tm} (h : runI (tkL l []) [] none false = some z) : l = z.cx ∧ z.wr := by
  have := (runI_inv (tkL l []) [] z (fun _ h => absurd h List.not_mem_nil)).1 h
  rw [tkL_flat] at this
  exact ⟨by simpa [preC] using this.1, this.2⟩
end Fm
namespace Fm
open PySem PySem.Spec PyProof.Rows L2
def wordL (l : List Nat) : List Nat := l.takeWhile fun c => !isSg c
mutual
def rdA : Nat → List Nat → Option (Tm × List Nat)
  | 0, _ => none
  | f + 1, l => match wordL l with
    | [] => none
    | c :: w => if digC c = true then (natI (c :: w)).map fun n => (Tm.var (Int.ofNat n), l.drop (w.length + 1))
      else if nmd (SX.S (c :: w)) = true then (match l.drop (w.length + 1) with
        | 40 :: r => match rdP f r with
          | some (ts, r') => if ts.length ≤ 3 then some (.op (SX.S (c :: w)) ts, r') else none
          | none => none
        | r => some (.op (SX.S (c :: w)) [], r))
      else none
def rdP : Nat → List Nat → Option (List Tm × List Nat)
  | 0, _ => none
  | f + 1, l => match rdA f l with
    | none => none
    | some (t, r) => match r with
      | 44 :: r' => match rdP f r' with
        | some (ts, r'') => some (t :: ts, r'')
        | none => none
      | 41 :: r' => some ([t], r')
      | _ => none
end
theorem word_split (l : List Nat) : l = wordL l ++ l.drop (wordL l).length := by
  unfold wordL
  induction l with
  | nil => rfl
  | cons c l ih =>
    rw [List.takeWhile_cons]
    split
    · rw [List.cons_append, List.length_cons, List.drop_succ_cons, ← ih]
    · rfl
theorem word_of {v r : List Nat} (h : ∀ c ∈ v, isSg c = false) (hr : Stop r) : wordL (v ++ r) = v := by
  unfold wordL
  induction v with
  | nil =>
    cases r with
    | nil => rfl
    | cons c r =>
      have hc : isSg c = true := hr
      rw [List.nil_append, List.takeWhile_cons, if_neg (by rw [hc]; simp)]
  | cons c v ih =>
    rw [List.cons_append, List.takeWhile_cons, if_pos (by rw [h c List.mem_cons_self]; rfl), ih fun d hd => h d (List.mem_cons_of_mem _ hd)]
mutual
theorem rdA_inv : ∀ (f : Nat) (l : List Nat) (t : Tm) (r : List Nat), rdA f l = some (t, r) → l = t.cx ++ r ∧ t.ok (fun i => 0 ≤ i ∧ i.natAbs < 10 ^ 40)
  | 0, l, t, r, h => by simp [rdA] at h
  | f + 1, l, t, r, h => by
    have hs := word_split l
    unfold rdA at h
    generalize hw : wordL l = wl at h hs
    cases wl with
    | nil => cases h
    | cons c w =>
      dsimp only at h
      rw [List.length_cons] at hs
      split at h
      · cases hn : natI (c :: w) with
        | none => rw [hn] at h; cases h
        | some n =>
          rw [hn] at h
          cases h
          obtain ⟨h1, h2, _⟩ := natI_inv2 hn
          refine ⟨?_, ⟨Int.natCast_nonneg n, h2⟩⟩
          show l = TL.numL (Int.ofNat n).toNat ++ _
          rw [show (Int.ofNat n).toNat = n from rfl, h1]
          exact hs
      · split at h
        · rename_i hn
          have hnm := nm_nmd hn
          split at h
          · rename_i r0 e0
            cases hp : rdP f r0 with
            | none => rw [hp] at h; cases h
            | some q =>
              obtain ⟨ts, r'⟩ := q
              rw [hp] at h
              dsimp only at h
              split at h
              · rename_i hl3
                cases h
                obtain ⟨h1, h2⟩ := rdP_inv f r0 ts r hp
                refine ⟨?_, hnm, hl3, h2⟩
                rw [e0, h1.1] at hs
                rw [hs, Tm.cx]
                simp
              · cases h
          · cases h
            refine ⟨?_, hnm, by simp, trivial⟩
            rw [Tm.cx, Tm.cxP]
            simp only [List.append_nil]
            exact hs
        · cases h
theorem rdP_inv : ∀ (f : Nat) (l : List Nat) (ts : List Tm) (r : List Nat), rdP f l = some (ts, r) → (40 :: l = Tm.cxP ts ++ r ∧ 44 :: l = Tm.cxs ts ++ r) ∧ Tm.oks (fun i => 0 ≤ i ∧ i.natAbs < 10 ^ 40) ts
  | 0, l, ts, r, h => by simp [rdP] at h
  | f + 1, l, ts, r, h => by
    unfold rdP at h
    cases ha : rdA f l with
    | none => rw [ha] at h; cases h
    | some q =>
      obtain ⟨t, r0⟩ := q
      rw [ha] at h
      dsimp only at h
      obtain ⟨h1, h2⟩ := rdA_inv f l t r0 ha
      split at h
      · rename_i r'
        cases hp : rdP f r' with
        | none => rw [hp] at h; cases h
        | some q =>
          obtain ⟨us, r''⟩ := q
          rw [hp] at h
          cases h
          obtain ⟨h3, h4⟩ := rdP_inv f r' us r hp
          refine ⟨⟨?_, ?_⟩, h2, h4⟩
          · rw [h1, h3.2, Tm.cxP]
            simp
          · rw [h1, h3.2, Tm.cxs]
            simp
      · cases h
        refine ⟨⟨?_, ?_⟩, h2, trivial⟩
        · rw [h1, Tm.cxP, Tm.cxs]
          simp
        · rw [h1, Tm.cxs, Tm.cxs]
          simp
      · cases h
end
mutual
def Tm.fuA : Tm → Nat
  | .var _ => 1
  | .op _ ts => 1 + Tm.fuP ts
def Tm.fuP : List Tm → Nat
  | [] => 0
  | t :: ts => 1 + max (Tm.fuA t) (Tm.fuP ts)
end
theorem stop_cxP : ∀ (ts : List Tm) (r : List Nat), Stop r → Stop (Tm.cxP ts ++ r)
  | [], r, h => h
  | t :: ts, r, _ => (by decide : isSg 40 = true)
mutual
theorem rdA_cx : ∀ (t : Tm) (r : List Nat) (f : Nat), t.ok (fun i => 0 ≤ i ∧ i.natAbs < 10 ^ 40) → Stop r → r.head? ≠ some 40 → t.fuA ≤ f → rdA f (t.cx ++ r) = some (t, r)
  | .var i, r, 0, _, _, _, hf => by simp [Tm.fuA] at hf
  | .op x ts, r, 0, _, _, _, hf => by simp [Tm.fuA] at hf
  | .var i, r, f + 1, h, hr, _, _ => by
    have hw := word_of (num_sg i.toNat) hr
    have hn := natI_num (n := i.toNat) (by have := h.1; have := h.2; omega)
    obtain ⟨c, v, e, hc⟩ := num_head i.toNat
    unfold rdA
    rw [Tm.cx, hw]
    rw [e] at hn ⊢
    dsimp only
    rw [if_pos hc, hn]
    simp only [Option.map_some, List.cons_append, List.drop_succ_cons]
    rw [List.drop_left' rfl]
    congr 2
    have := h.1
    congr 1
    exact Int.toNat_of_nonneg this
  | .op x [], r, f + 1, h, hr, h40, _ => by
    obtain ⟨h1, h2⟩ := name_sgs h.1
    have hw := word_of h1 hr
    obtain ⟨c, v, e, hc⟩ := name_head h.1
    have hS := S_tl' x
    unfold rdA
    rw [Tm.cx, Tm.cxP, List.append_nil, hw]
    rw [e] at hS ⊢
    dsimp only
    rw [if_neg (by rw [hc]; simp), hS, if_pos (nmd_nm h.1)]
    simp only [List.cons_append, List.drop_succ_cons]
    rw [List.drop_left' rfl]
    split
    · rename_i r0
      exact absurd rfl h40
    · rfl
  | .op x (t :: ts), r, f + 1, h, hr, _, hf => by
    obtain ⟨h1, h2⟩ := name_sgs h.1
    have hst : Stop (Tm.cxP (t :: ts) ++ r) := stop_cxP _ _ hr
    have hw := word_of h1 hst
    obtain ⟨c, v, e, hc⟩ := name_head h.1
    have hS := S_tl' x
    have hl3 := h.2.1
    have hP := rdP_cx t ts r f h.2.2 (by simp only [Tm.fuA] at hf; omega)
    unfold rdA
    rw [Tm.cx, List.append_assoc, hw]
    rw [e] at hS ⊢
    dsimp only
    rw [if_neg (by rw [hc]; simp), hS, if_pos (nmd_nm h.1)]
    simp only [List.cons_append, List.drop_succ_cons]
    rw [List.drop_left' rfl, Tm.cxP]
    simp only [List.cons_append]
    rw [hP]
    dsimp only
    rw [if_pos hl3]
theorem rdP_cx : ∀ (t : Tm) (ts : List Tm) (r : List Nat) (f : Nat), Tm.oks (fun i => 0 ≤ i ∧ i.natAbs < 10 ^ 40) (t :: ts) → Tm.fuP (t :: ts) ≤ f → rdP f (t.cx ++ Tm.cxs ts ++ r) = some (t :: ts, r)
  | t, ts, r, 0, _, hf => by simp [Tm.fuP] at hf
  | t, [], r, f + 1, h, hf => by
    have hA := rdA_cx t (41 :: r) f h.1 (by decide : isSg 41 = true) (by simp) (by simp only [Tm.fuP] at hf; omega)
    unfold rdP
    rw [Tm.cxs, List.append_assoc]
    simp only [List.cons_append, List.nil_append]
    rw [hA]
    rfl
  | t, u :: ts, r, f + 1, h, hf => by
    have hA := rdA_cx t (44 :: (u.cx ++ Tm.cxs ts ++ r)) f h.1 (by decide : isSg 44 = true) (by simp) (by simp only [Tm.fuP] at hf; omega)
    have hP := rdP_cx u ts r f h.2 (by simp only [Tm.fuP] at hf ⊢; omega)
    unfold rdP
    rw [Tm.cxs, List.append_assoc]
    simp only [List.cons_append]
    rw [hA]
    show (match rdP f (u.cx ++ Tm.cxs ts ++ r) with
      | some (ts, r'') => some (t :: ts, r'')
      | none => none) = _
    rw [hP]
end
end Fm
namespace Fm
open PySem PySem.Spec PyProof.Rows L2
abbrev Q40 (i : Int) : Prop := 0 ≤ i ∧ i.natAbs < 10 ^ 40
mutual
def Tm.ar3 : Tm → Bool
  | .var _ => true
  | .op _ ts => decide (ts.length ≤ 3) && Tm.ar3s ts
def Tm.ar3s : List Tm → Bool
  | [] => true
  | t :: ts => Tm.ar3 t && Tm.ar3s ts
end
mutual
theorem ok_wr : ∀ t : Tm, t.ok Q40 ↔ t.wr ∧ t.ar3 = true
  | .var i => ⟨fun h => ⟨h, rfl⟩, fun h => h.1⟩
  | .op x ts => by
    have := oks_wr ts
    refine ⟨fun h => ?_, fun h => ?_⟩
    · have k := this.mp h.2.2
      refine ⟨⟨h.1, k.1⟩, ?_⟩
      rw [Tm.ar3, Bool.and_eq_true, decide_eq_true_eq]
      exact ⟨h.2.1, k.2⟩
    · have h2 := h.2
      rw [Tm.ar3, Bool.and_eq_true, decide_eq_true_eq] at h2
      exact ⟨h.1.1, h2.1, this.mpr ⟨h.1.2, h2.2⟩⟩
theorem oks_wr : ∀ ts : List Tm, Tm.oks Q40 ts ↔ Tm.wrs ts ∧ Tm.ar3s ts = true
  | [] => ⟨fun _ => ⟨trivial, rfl⟩, fun _ => trivial⟩
  | t :: ts => by
    have h1 := ok_wr t
    have h2 := oks_wr ts
    refine ⟨fun h => ?_, fun h => ?_⟩
    · have a := h1.mp h.1
      have b := h2.mp h.2
      refine ⟨⟨a.1, b.1⟩, ?_⟩
      rw [Tm.ar3s, Bool.and_eq_true]
      exact ⟨a.2, b.2⟩
    · have k := h.2
      rw [Tm.ar3s, Bool.and_eq_true] at k
      exact ⟨h1.mpr ⟨h.1.1, k.1⟩, h2.mpr ⟨h.1.2, k.2⟩⟩
end
mutual
theorem fuA_le {R : Int → Prop} : ∀ t : Tm, t.ok R → t.fuA ≤ t.cx.length
  | .var i, _ => by
    have := List.length_pos_iff.mpr (TL.numL_ne i.toNat)
    simp only [Tm.fuA, Tm.cx]
    omega
  | .op x ts, h => by
    have h1 := List.length_pos_iff.mpr (name_sgs h.1).2
    have h2 := fuP_le ts h.2.2
    simp only [Tm.fuA, Tm.cx, List.length_append]
    omega
theorem fuP_le {R : Int → Prop} : ∀ ts : List Tm, Tm.oks R ts → Tm.fuP ts ≤ (Tm.cxP ts).length
  | [], _ => by simp [Tm.fuP]
  | t :: ts, h => by
    have h1 := fuA_le t h.1
    have h2 := fuS_le ts h.2
    simp only [Tm.fuP, Tm.cxP, List.length_cons, List.length_append]
    omega
theorem fuS_le {R : Int → Prop} : ∀ ts : List Tm, Tm.oks R ts → Tm.fuP ts ≤ (Tm.cxs ts).length
  | [], _ => by simp [Tm.fuP]
  | t :: ts, h => by
    have h1 := fuA_le t h.1
    have h2 := fuS_le ts h.2
    simp only [Tm.fuP, Tm.cxs, List.length_cons, List.length_append]
    omega
end
def progT (l : List Nat) : Option Tm := match runI (tkL l []) [] none false with
  | some t => if t.ar3 = true ∧ t.size ≤ 200 then some t else none
  | none => none
def lawT (f : Nat) (l : List Nat) : Option Tm := match rdA f l with
  | some (t, r) => if r = [] ∧ t.size ≤ 200 then some t else none
  | none => none
theorem progT_iff {l : List Nat} {t : Tm} : progT l = some t ↔ l = t.cx ∧ t.ok Q40 ∧ t.size ≤ 200 := by
  unfold progT
  refine ⟨fun h => ?_, fun ⟨h1, h2, h3⟩ => ?_⟩
  · cases hr : runI (tkL l []) [] none false with
    | none => rw [hr] at h; cases h
    | some z =>
      rw [hr] at h
      dsimp only at h
      split at h
      · rename_i hc
        cases h
        obtain ⟨k1, k2⟩ := read_inv hr
        exact ⟨k1, (ok_wr t).mpr ⟨k2, hc.1⟩, hc.2⟩
      · cases h
  · subst h1
    rw [read_cx h2]
    dsimp only
    rw [if_pos ⟨((ok_wr t).mp h2).2, h3⟩]
theorem lawT_iff {l : List Nat} {t : Tm} {f : Nat} (hf : l.length ≤ f) : lawT f l = some t ↔ l = t.cx ∧ t.ok Q40 ∧ t.size ≤ 200 := by
  unfold lawT
  refine ⟨fun h => ?_, fun ⟨h1, h2, h3⟩ => ?_⟩
  · cases hr : rdA f l with
    | none => rw [hr] at h; cases h
    | some q =>
      obtain ⟨z, r⟩ := q
      rw [hr] at h
      dsimp only at h
      split at h
      · rename_i hc
        cases h
        obtain ⟨k1, k2⟩ := rdA_inv f l t r hr
        rw [hc.1, List.append_nil] at k1
        exact ⟨k1, k2, hc.2⟩
      · cases h
  · subst h1
    have := rdA_cx t [] f h2 trivial (by simp) (Nat.le_trans (fuA_le t h2) hf)
    rw [List.append_nil] at this
    rw [this]
    dsimp only
    rw [if_pos ⟨rfl, h3⟩]
theorem prog_law {l : List Nat} {f : Nat} (hf : l.length ≤ f) : progT l = lawT f l := by
  cases h : progT l with
  | some t => exact ((lawT_iff hf).mpr (progT_iff.mp h)).symm
  | none =>
    cases h2 : lawT f l with
    | none => rfl
    | some t => rw [progT_iff.mpr ((lawT_iff hf).mp h2)] at h; cases h
end Fm
namespace Fm
open PySem PySem.Spec PyProof.Rows L2
def fewL (ts : List Tm) : Bool := ts.all fun t => t.ar3 && decide (t.size ≤ 200)
def progL (l : List Nat) : Option (List Tm) := if l = [40, 41] then some [] else if l.take 1 = [40] then match runI (tkL (102 :: l) []) [] none false with
    | some (.op _ ts) => if fewL ts = true ∧ lisC ts = l then some ts else none
    | _ => none
  else none
def lawL (f : Nat) (l : List Nat) : Option (List Tm) := if l = [40, 41] then some [] else if l.take 1 = [40] then match rdP f (l.drop 1) with
    | some (ts, r) => if r = [] ∧ (ts.all fun t => decide (t.size ≤ 200)) = true then some ts else none
    | none => none
  else none
theorem ar3s_all : ∀ {ts : List Tm}, Tm.ar3s ts = true ↔ ∀ t ∈ ts, t.ar3 = true
  | [] => by simp [Tm.ar3s]
  | t :: ts => by
    rw [Tm.ar3s, Bool.and_eq_true, ar3s_all (ts := ts)]
    simp
theorem fewL_iff {ts : List Tm} (h : Tm.wrs ts) : fewL ts = true ↔ Tm.oks Q40 ts ∧ ∀ t ∈ ts, t.size ≤ 200 := by
  unfold fewL
  rw [List.all_eq_true, oks_wr]
  refine ⟨fun k => ⟨⟨h, ar3s_all.mpr fun t ht => ?_⟩, fun t ht => ?_⟩, fun k t ht => ?_⟩
  · have := k t ht
    rw [Bool.and_eq_true] at this
    exact this.1
  · have := k t ht
    rw [Bool.and_eq_true, decide_eq_true_eq] at this
    exact this.2
  · rw [Bool.and_eq_true, decide_eq_true_eq]
    exact ⟨ar3s_all.mp k.1.2 t ht, k.2 t ht⟩
theorem cxP_ne (t : Tm) (ts : List Tm) (h : Tm.oks Q40 (t :: ts)) : Tm.cxP (t :: ts) ≠ [40, 41] := fun e => by
  rw [Tm.cxP] at e
  have h1 := (List.cons.inj e).2
  have h2 := congrArg List.length h1
  rw [List.length_append] at h2
  have h3 : 0 < t.cx.length := by
    cases t with
    | var i => exact List.length_pos_iff.mpr (TL.numL_ne _)
    | op x us =>
      rw [Tm.cx, List.length_append]
      have := List.length_pos_iff.mpr (name_sgs h.1.1).2
      omega
  have h4 : 0 < (Tm.cxs ts).length := by cases ts <;> simp [Tm.cxs]
  simp at h2
  omega
theorem nm_f : Nm (Str.ofString "f") := by decide +kernel
theorem cps_f : (Str.ofString "f").cps.toList = [102] := by decide +kernel
theorem runI_many {x : Str} {t : Tm} {ts : List Tm} (hx : Nm x) (h : Tm.oks Q40 (t :: ts)) : runI (tkL (x.cps.toList ++ Tm.cxP (t :: ts)) []) [] none false = some (.op x (t :: ts)) := by
  obtain ⟨h1, h2⟩ := name_sgs hx
  have e := tk_cxP (P := Q40) (t :: ts) [] x.cps.toList h2 h trivial
  rw [List.append_nil] at e
  have e0 := tkL_word x.cps.toList (Tm.cxP (t :: ts)) [] h1
  rw [List.nil_append] at e0
  rw [e0, e]
  have e2 : tkL ([] : List Nat) [] = [] := rfl
  rw [e2, List.append_nil, Tm.tkP]
  show runI (x.cps.toList :: [40] :: (t.tk ++ Tm.tks ts)) [] none false = _
  have h3 := runI_tks ts [] [] x [] t h.2
  rw [List.append_nil] at h3
  rw [runI_open hx, runI_tk t _ _ h.1 (by have := noOp_tks ts []; rwa [List.append_nil] at this), h3]
  simp [runI]
theorem progL_iff {l : List Nat} {ts : List Tm} : progL l = some ts ↔ l = lisC ts ∧ Tm.oks Q40 ts ∧ ∀ t ∈ ts, t.size ≤ 200 := by
  unfold progL
  refine ⟨fun h => ?_, fun ⟨h1, h2, h3⟩ => ?_⟩
  · split at h
    · rename_i e
      cases h
      exact ⟨e, trivial, by simp⟩
    · split at h
      · split at h
        · rename_i x us hr
          split at h
          · rename_i hc
            cases h
            obtain ⟨k1, k2⟩ := read_inv hr
            obtain ⟨k3, k4⟩ := (fewL_iff k2.2).mp hc.1
            exact ⟨hc.2.symm, k3, k4⟩
          · cases h
        · cases h
      · cases h
  · subst h1
    cases ts with
    | nil => rfl
    | cons t ts =>
      rw [lisC_cons, if_neg (cxP_ne t ts h2), if_pos (by rw [Tm.cxP]; rfl)]
      have := runI_many nm_f h2
      rw [cps_f] at this
      rw [show 102 :: Tm.cxP (t :: ts) = [102] ++ Tm.cxP (t :: ts) from rfl, this]
      dsimp only
      rw [if_pos ⟨(fewL_iff ((oks_wr _).mp h2).1).mpr ⟨h2, h3⟩, lisC_cons t ts⟩]
theorem lawL_iff {l : List Nat} {ts : List Tm} {f : Nat} (hf : l.length ≤ f) : lawL f l = some ts ↔ l = lisC ts ∧ Tm.oks Q40 ts ∧ ∀ t ∈ ts, t.size ≤ 200 := by
  unfold lawL
  refine ⟨fun h => ?_, fun ⟨h1, h2, h3⟩ => ?_⟩
  · split at h
    · rename_i e
      cases h
      exact ⟨e, trivial, by simp⟩
    · split at h
      · rename_i h40
        split at h
        · rename_i us r hr
          split at h
          · rename_i hc
            cases h
            obtain ⟨⟨k1, _⟩, k2⟩ := rdP_inv f _ ts r hr
            rw [hc.1, List.append_nil] at k1
            have hl : l = 40 :: l.drop 1 := by
              cases l with
              | nil => cases h40
              | cons c l => 
                have : c = 40 := by simpa using h40
                rw [this]
                rfl
            refine ⟨?_, k2, fun t ht => ?_⟩
            · rw [hl, k1]
              cases ts with
              | nil =>
                rw [Tm.cxP] at k1
                cases k1
              | cons t ts => rw [lisC_cons]
            · have := List.all_eq_true.mp hc.2 t ht
              rwa [decide_eq_true_eq] at this
          · cases h
        · cases h
      · cases h
  · subst h1
    cases ts with
    | nil => rfl
    | cons t ts =>
      rw [lisC_cons] at hf ⊢
      rw [if_neg (cxP_ne t ts h2), if_pos (by rw [Tm.cxP]; rfl)]
      have := rdP_cx t ts [] f h2 (Nat.le_trans (fuP_le (t :: ts) h2) hf)
      rw [List.append_nil] at this
      rw [Tm.cxP]
      show (match rdP f (t.cx ++ Tm.cxs ts) with
        | some (ts, r) => if r = [] ∧ (ts.all fun t => decide (t.size ≤ 200)) = true then some ts else none
        | none => none) = _
      rw [this]
      dsimp only
      rw [if_pos ⟨rfl, List.all_eq_true.mpr fun u hu => decide_eq_true (h3 u hu)⟩]
theorem prog_lawL {l : List Nat} {f : Nat} (hf : l.length ≤ f) : progL l = lawL f l := by
  cases h : progL l with
  | some t => exact ((lawL_iff hf).mpr (progL_iff.mp h)).symm
  | none =>
    cases h2 : lawL f l with
    | none => rfl
    | some t => rw [progL_iff.mpr ((lawL_iff hf).mp h2)] at h; cases h
end Fm
namespace Fm
open PySem PySem.Spec PyProof.Rows L2
theorem cx_pos {R : Int → Prop} {t : Tm} (h : t.ok R) : 0 < t.cx.length := by
  cases t with
  | var i => exact List.length_pos_iff.mpr (TL.numL_ne _)
  | op x ts =>
    have := List.length_pos_iff.mpr (name_sgs h.1).2
    simp only [Tm.cx, List.length_append]
    omega
theorem rdA_rest {f : Nat} {l : List Nat} {t : Tm} {r : List Nat} (h : rdA f l = some (t, r)) : r.length < l.length ∧ r = l.drop (l.length - r.length) := by
  obtain ⟨h1, h2⟩ := rdA_inv f l t r h
  have := cx_pos h2
  have hl : l.length = t.cx.length + r.length := by rw [h1, List.length_append]
  refine ⟨by omega, ?_⟩
  rw [hl, Nat.add_sub_cancel]
  exact (by rw [h1, List.drop_left' rfl])
theorem rdP_rest {f : Nat} {l : List Nat} {ts : List Tm} {r : List Nat} (h : rdP f l = some (ts, r)) : r.length < l.length ∧ r = l.drop (l.length - r.length) := by
  obtain ⟨⟨_, h1⟩, h2⟩ := rdP_inv f l ts r h
  have hp : 1 < (Tm.cxs ts).length := by
    cases ts with
    | nil =>
      exfalso
      obtain ⟨⟨h0, _⟩, _⟩ := rdP_inv f l [] r h
      cases f with
      | zero => simp [rdP] at h
      | succ f =>
        unfold rdP at h
        cases ha : rdA f l with
        | none => rw [ha] at h; cases h
        | some q =>
          rw [ha] at h
          dsimp only at h
          split at h
          · split at h <;> cases h
          · cases h
          · cases h
    | cons t ts =>
      have := cx_pos h2.1
      simp only [Tm.cxs, List.length_cons, List.length_append]
      omega
  have hl : l.length + 1 = (Tm.cxs ts).length + r.length := by
    have := congrArg List.length h1
    rw [List.length_append, List.length_cons] at this
    exact this
  refine ⟨by omega, ?_⟩
  have e : (44 :: l).drop (Tm.cxs ts).length = r := by rw [h1, List.drop_left' rfl]
  obtain ⟨k, hk⟩ : ∃ k, (Tm.cxs ts).length = k + 1 := ⟨(Tm.cxs ts).length - 1, by omega⟩
  rw [hk, List.drop_succ_cons] at e
  rw [show l.length - r.length = k by omega, e]
def bodyA (P : List Nat → Option (List Tm × List Nat)) (l : List Nat) : Option (Tm × List Nat) := match wordL l with
  | [] => none
  | c :: w => if digC c = true then (natI (c :: w)).map fun n => (Tm.var (Int.ofNat n), l.drop (w.length + 1))
    else if nmd (SX.S (c :: w)) = true then (match l.drop (w.length + 1) with
      | 40 :: r => match P r with
        | some (ts, r') => if ts.length ≤ 3 then some (.op (SX.S (c :: w)) ts, r') else none
        | none => none
      | r => some (.op (SX.S (c :: w)) [], r))
    else none
def bodyP (A : Option (Tm × List Nat)) (P : List Nat → Option (List Tm × List Nat)) : Option (List Tm × List Nat) := match A with
  | none => none
  | some (t, r) => match r with
    | 44 :: r' => match P r' with
      | some (ts, r'') => some (t :: ts, r'')
      | none => none
    | 41 :: r' => some ([t], r')
    | _ => none
theorem rdA_body (f : Nat) (l : List Nat) : rdA (f + 1) l = bodyA (rdP f) l := by
  unfold rdA bodyA
  rfl
theorem rdP_body (f : Nat) (l : List Nat) : rdP (f + 1) l = bodyP (rdA f l) (rdP f) := by
  unfold rdP bodyP
  rfl
theorem word_rest {l : List Nat} {c : Nat} {w r : List Nat} (hw : wordL l = c :: w) (hr : l.drop (w.length + 1) = 40 :: r) : r.length + 2 ≤ l.length := by
  have h1 := word_split l
  rw [hw, List.length_cons, hr] at h1
  have := congrArg List.length h1
  rw [List.length_append, List.length_cons, List.length_cons] at this
  omega
theorem bodyA_congr {P Q : List Nat → Option (List Tm × List Nat)} {l : List Nat} (h : ∀ r : List Nat, r.length + 2 ≤ l.length → P r = Q r) : bodyA P l = bodyA Q l := by
  unfold bodyA
  split
  · rfl
  · rename_i c w hw
    split
    · rfl
    · split
      · split
        · rename_i r hr
          rw [h r (word_rest hw hr)]
        · rfl
      · rfl
theorem bodyP_congr {A : Option (Tm × List Nat)} {P Q : List Nat → Option (List Tm × List Nat)} {n : Nat} (hA : ∀ t r, A = some (t, r) → r.length ≤ n) (h : ∀ r : List Nat, r.length + 1 ≤ n → P r = Q r) : bodyP A P = bodyP A Q := by
  unfold bodyP
  split
  · rfl
  · rename_i t r
    have := hA t r rfl
    split
    · rename_i r'
      rw [h r' (by simpa using this)]
    · rfl
    · rfl
theorem rd_mono : ∀ f : Nat, (∀ l : List Nat, l.length + 1 ≤ f → rdA f l = rdA (l.length + 1) l) ∧ (∀ l : List Nat, l.length + 2 ≤ f → rdP f l = rdP (l.length + 2) l) := by
  intro f
  induction f using Nat.strongRecOn with
  | ind f ih =>
    refine ⟨fun l hl => ?_, fun l hl => ?_⟩
    · obtain ⟨g, rfl⟩ : ∃ g, f = g + 1 := ⟨f - 1, by omega⟩
      rw [rdA_body, rdA_body]
      refine bodyA_congr fun r hr => ?_
      rw [(ih g (by omega)).2 r (by omega)]
      by_cases e : l.length < g
      · rw [(ih l.length (by omega)).2 r (by omega)]
      · rw [show l.length = g by omega, (ih g (by omega)).2 r (by omega)]
    · obtain ⟨g, rfl⟩ : ∃ g, f = g + 1 := ⟨f - 1, by omega⟩
      rw [rdP_body, rdP_body, (ih g (by omega)).1 l (by omega)]
      refine bodyP_congr (n := l.length - 1) (fun t r e => by have := (rdA_rest e).1; omega) fun r hr => ?_
      rw [(ih g (by omega)).2 r (by omega)]
      by_cases e : l.length + 1 < g
      · rw [(ih (l.length + 1) (by omega)).2 r (by omega)]
      · rw [show l.length + 1 = g by omega, (ih g (by omega)).2 r (by omega)]
def rA (l : List Nat) : Option (Tm × List Nat) := rdA (l.length + 1) l
def rP (l : List Nat) : Option (List Tm × List Nat) := rdP (l.length + 2) l
theorem rA_eq (l : List Nat) : rA l = bodyA rP l := by
  unfold rA
  rw [rdA_body]
  exact bodyA_congr fun r hr => (rd_mono l.length).2 r hr
theorem rP_eq (l : List Nat) : rP l = bodyP (rA l) rP := by
  unfold rP
  rw [rdP_body]
  exact bodyP_congr (n := l.length - 1) (fun t r e => by have := (rdA_rest e).1; omega) fun r hr => (rd_mono (l.length + 1)).2 r (by omega)
def finT : Option (Tm × List Nat) → Option Tm
  | some (t, r) => if r = [] ∧ t.size ≤ 200 then some t else none
  | none => none
def finL : Option (List Tm × List Nat) → Option (List Tm)
  | some (ts, r) => if r = [] ∧ (ts.all fun t => decide (t.size ≤ 200)) = true then some ts else none
  | none => none
theorem lawT_rA {l : List Nat} {f : Nat} (hf : l.length + 1 ≤ f) : lawT f l = finT (rA l) := by
  unfold lawT
  rw [(rd_mono f).1 l hf]
  show _ = finT (rdA (l.length + 1) l)
  generalize rdA (l.length + 1) l = z
  cases z <;> rfl
theorem lawL_rP {l : List Nat} {f : Nat} (hf : l.length + 2 ≤ f) : lawL f l = if l = [40, 41] then some [] else finL (if l.take 1 = [40] then rP (l.drop 1) else none) := by
  unfold lawL
  rw [(rd_mono f).2 (l.drop 1) (by rw [List.length_drop]; omega)]
  split
  · rfl
  · split
    · show _ = finL (rdP ((l.drop 1).length + 2) (l.drop 1))
      generalize rdP ((l.drop 1).length + 2) (l.drop 1) = z
      cases z <;> rfl
    · rfl
end Fm
namespace Fm
open PySem PySem.Spec PyProof.Rows L2 HT
section
variable {prog : Program} {w : World} {A : Around} {E : Value → Shared → Prop} {s : Shared}
end
section
variable {X : Cx}
def tRevT (K : PySem.W.Frag) (te : TE) : TE := fun σ H Q => te σ H fun x H1 => ∃ a xs, x = .ref a ∧ SqT K H1 a xs ∧ ∀ p, H1 p = none → Q (.ref p) (upd H1 p (.tup xs.reverse))
end
end Fm
namespace Fm
open PySem PySem.Spec PyProof.Rows L2
theorem rev_idx (n : Nat) : Builtin.Str.strSliceIndices none none (-1) n = (List.range n).reverse := by
  have e : Builtin.Str.strSliceIndices none none (-1) n = sliceRange ((n : Int) - 1) (-1) (-1) := by
    unfold Builtin.Str.strSliceIndices
    simp only [show ¬ ((-1 : Int) > 0) from by decide, if_false]
  rw [e, PySem.W.krv_sliceRange, PySem.W.krv_range]
section
variable {X : Cx}
def tRevS (te : TE) : TE := fun σ H Q => te σ H fun x H1 => ∃ z : Str, x = .str z ∧ z.length ≤ sizeLine ∧ Q (.str ⟨z.cps.toList.reverse.toArray⟩) H1
theorem pe_revS {e : Expr} {te : TE} {k : Nat} {p1 p2 p3 pos : Pos} (he : PE X e te) : PE X (.Subscript e (.Slice none none (some (.UnaryOp .USub (.Constant (.int 1) k p1) p2)) p3) pos) (tRevS te) := by
  refine ⟨fun pins s σ H Q I h => Subscript_ (thn (he.run pins s σ H _ I h) ?_)⟩
  rintro v s1 ⟨x, H1, I1, r1, z, rfl, hz, q⟩
  obtain ⟨t, rfl⟩ := r1
  have hst : PO X (some (.UnaryOp .USub (.Constant (.int 1) k p1) p2)) (tPart (tUn (rU fun i => .int (-i)) (tC (.int 1)))) := po_some (pe_un un_neg pe_int)
  refine wpAny_Slice (thn (po_none.run pins s1 σ H1 (fun o H2 => o = none ∧ H2 = H1) I1 ⟨rfl, rfl⟩) ?_)
  rintro vl s2 ⟨l, H2, I2, pl, rfl, rfl⟩
  refine thn (po_none.run pins s2 σ H2 (fun o H3 => o = none ∧ H3 = H2) I2 ⟨rfl, rfl⟩) ?_
  rintro vu s3 ⟨u, H3, I3, pu, rfl, rfl⟩
  refine thn (hst.run pins s3 σ H3 (fun o H4 => o = some (-1) ∧ H4 = H3) I3 ⟨1, rfl, -1, rfl, rfl, rfl⟩) ?_
  rintro vs s4 ⟨o, H4, I4, ps, rfl, rfl⟩
  have I5 : Inv X pins σ H4 { s4 with heap := s4.heap.push { cls := .type "slice", data := .fields #[vl, vu, vs] } } := I4.kept (t' := s4.toks) fun b ob q => Heap.get?_push_of_some _ q
  cases pl
  cases pu
  obtain ⟨st, rfl, hst'⟩ := IsPart.raw ps
  show wpAny (model X.prog X.w) X.A (subscriptTail e (.Slice none none (some (.UnaryOp .USub (.Constant (.int 1) k p1) p2)) p3) (.str z t) (.ref s4.heap.objs.size)) (EP X pins σ Q) X.xe _
  have hs1 : st.map (·.1) = some (-1) := by simpa using hst'
  refine tail_any (ops := [.str z t, .ref s4.heap.objs.size]) (typeIs_str _ _ _) (F.slot_str_getitem.lookup) ?_ (by with_unfolding_all rfl)
  refine wpAny_getItem_str_slice (l := none) (u := none) (st := st) ⟨_, Heap.get?_push_size _ rfl, rfl, rfl⟩ (by rw [hs1]; rfl) ?_
  have hp : ((slicePicked z none none st).filterMap (z.cps[·]?)).toArray = z.cps.toList.reverse.toArray := by
    unfold slicePicked
    rw [hs1]
    show ((Builtin.Str.strSliceIndices none none (-1) z.length).filterMap (z.cps[·]?)).toArray = _
    rw [rev_idx, List.filterMap_reverse, show z.length = z.cps.size from rfl, PySem.W.krv_all]
  show Made.post (if ((st.map (·.1)).getD 1 == 1 && (slicePicked z none none st).length == z.length) = true then Made.val (.str z t) else Made.str ⟨((slicePicked z none none st).filterMap (z.cps[·]?)).toArray⟩) (EP X pins σ Q) _
  rw [hs1, if_neg (by simp), hp]
  exact ⟨by show z.cps.toList.reverse.toArray.size ≤ sizeLine; rw [List.size_toArray, List.length_reverse]; exact hz, .str _, H4, I5.tok _, ⟨_, rfl⟩, q⟩
end
theorem S_rev (a : List Nat) : (⟨(SX.S a).cps.toList.reverse.toArray⟩ : Str) = SX.S a.reverse := by
  show (⟨(a.toArray.toList.reverse).toArray⟩ : Str) = ⟨a.reverse.toArray⟩
  rw [List.toList_toArray]
end Fm
namespace Fm
open PySem PySem.Spec PyProof.Rows L2
def rMulS : R2 := fun x y H Q => ∃ (z : Str) (k : Int), x = .str z ∧ y = .int k ∧ 0 ≤ k ∧ k ≤ 1 ∧ Q (.str (if k = 1 then z else Str.empty)) H
section
variable {X : Cx}
end
end Fm
namespace Fm
open PySem PySem.Spec PyProof.Rows L2
def repL (n : Nat) (l : List Nat) : List Nat := (List.replicate n l).flatten
theorem repL_succ (n : Nat) (l : List Nat) : repL (n + 1) l = l ++ repL n l := by
  unfold repL
  rw [List.replicate_succ, List.flatten_cons]
theorem repL_len (n : Nat) (l : List Nat) : (repL n l).length = n * l.length := by
  induction n with
  | zero => simp [repL]
  | succ n ih =>
    rw [repL_succ, List.length_append, ih, Nat.succ_mul]
    omega
theorem foldl_rep (xs : Array Nat) : ∀ (n : Nat) (acc : Array Nat), ((List.replicate n xs).foldl (· ++ ·) acc).toList = acc.toList ++ repL n xs.toList
  | 0, acc => by simp [repL]
  | n + 1, acc => by
    rw [List.replicate_succ, List.foldl_cons, foldl_rep xs n, repL_succ]
    simp
def rMulN : R2 := fun x y H Q => ∃ (l : List Nat) (k : Nat), x = .str (SX.S l) ∧ y = .int (k : Int) ∧ 0 < l.length ∧ k * l.length ≤ 100000 ∧ Q (.str (SX.S (repL k l))) H
section
variable {X : Cx}
theorem op_mulN : OpR X (binaryOp .Mult) rMulN := by
  intro pins s σ H x y v u Q I rx ry h
  obtain ⟨l, k, rfl, rfl, h0, hk, q⟩ := h
  obtain ⟨t, rfl⟩ := rx
  obtain ⟨t', rfl⟩ := ry
  have hkl : k ≤ 100000 := Nat.le_trans (Nat.le_mul_of_pos_right k h0) hk
  have hS : (SX.S l).length = l.length := SX.S_len l
  refine PySem.P.mul_str ?_ (fun h1 h2 => ?_) (fun h1 h2 => ?_) ?_
  · rw [decide_eq_false (by omega), decide_eq_false (by omega)]
    rfl
  · rw [hS]
    have hk1 : 1 ≤ k := by omega
    have : ((l.length : Nat) : Int) ≤ (2 ^ 63 - 1) / ((k : Nat) : Int) := by
      rw [Int.le_ediv_iff_mul_le (by omega)]
      have h3 : l.length * k ≤ 100000 := by rw [Nat.mul_comm]; exact hk
      have h4 : ((l.length : Nat) : Int) * ((k : Nat) : Int) ≤ 100000 := by
        have := Int.ofNat_le.mpr h3
        rw [Int.natCast_mul] at this
        exact this
      exact Int.le_trans h4 (by decide)
    omega
  · rw [hS, Int.toNat_natCast, Nat.mul_comm]
    have : k * l.length ≤ sizeLine := Nat.le_trans hk (by decide)
    exact decide_eq_false (by omega)
  · by_cases h1 : (k : Int) < 1
    · rw [if_pos h1]
      obtain rfl : k = 0 := by omega
      exact ⟨by decide, .str Str.empty, H, I.tok _, ⟨_, rfl⟩, q⟩
    · rw [if_neg h1]
      by_cases h2 : ((k : Int) == 1 || (SX.S l).length == 0) = true
      · rw [if_pos h2]
        have hk1 : k = 1 := by
          rw [hS] at h2
          simp at h2
          rcases h2 with h2 | h2
          · omega
          · rw [h2] at h0
            cases h0
        subst hk1
        have e : repL 1 l = l := by rw [repL_succ]; simp [repL]
        rw [e] at q
        exact ⟨.str (SX.S l), H, I, ⟨_, rfl⟩, q⟩
      · rw [if_neg h2]
        have e : (⟨(List.replicate ((k : Nat) : Int).toNat (SX.S l).cps).foldl (· ++ ·) #[]⟩ : Str) = SX.S (repL k l) := by
          refine TL.ext_tl ?_
          show ((List.replicate ((k : Nat) : Int).toNat (SX.S l).cps).foldl (· ++ ·) #[]).toList = _
          rw [foldl_rep, Int.toNat_natCast]
          simp
        rw [e]
        refine ⟨?_, .str _, H, I.tok _, ⟨_, rfl⟩, q⟩
        rw [SX.S_len, repL_len]
        exact Nat.le_trans hk (by decide)
end
end Fm
namespace Fm
open PySem PySem.Spec PyProof.Rows L2
section
variable {prog : Program} {w : World} {A : Around} {E : Value → Shared → Prop} {s : Shared}
end
def IteT (K : PySem.W.Frag) (a : Addr) : It :=
  ⟨fun i H => ∃ (xs : List V) (x : V), SqT K H a xs ∧ xs[i]? = some x, fun i H v H' => ∃ T x, v = .ref T ∧ H T = none ∧ H' = upd H T (.tup [.int (i : Nat), x]) ∧ ∀ xs, SqT K H a xs → xs[i]? = some x, fun i H => ∃ xs : List V, SqT K H a xs ∧ xs.length ≤ i⟩
def iEnumG (K : PySem.W.Frag) (ta : TA) : TI := fun σ H R => ta σ H fun vs H1 => ∃ a xs, vs = [.ref a] ∧ ((SqL K H1 a xs ∧ R (Ite K a) H1) ∨ (SqT K H1 a xs ∧ R (IteT K a) H1))
end Fm
namespace Fm
open PySem PySem.Spec PyProof.Rows L2 SlX
section
variable {X : Cx}
def rDictD : List V → Hp → VK → Prop := fun xs H Q => ∃ (a : Addr) (kvs : List (L2.Key × V)), xs = [.ref a] ∧ H a = some (.dK kvs) ∧ ∀ p, H p = none → Q (.ref p) (upd H p (.dK kvs))
def tLenSetG (K : PySem.W.Frag) (ta : TE) : TE := fun σ H Q => ta σ H fun x H1 => ∃ (l : Addr) (ns : List Int), x = .ref l ∧ (SqL K H1 l (ns.map V.int) ∨ SqT K H1 l (ns.map V.int)) ∧ ns.length ≤ 4000 ∧
  ∀ ks : List Int, ks.Nodup → (∀ k, k ∈ ks ↔ k ∈ ns) → Q (.int ks.length) H1
def gSl (K : PySem.W.Frag) (to : TE) (f : Str) : TG := fun y σ H Q => to σ H fun x H2 => ∃ a C dx p vs i, x = .ref a ∧ Slt H2 a C dx vs ∧ SCls K C ∧ Slot1 K C f p i ∧ Q σ (slH H2 a C dx (putS i y vs))
end
theorem bt_ValueError : bootBuiltins "ValueError" = some (.type "ValueError") := by decide +kernel
theorem fnR_of {P : Program} {w : World} {K : PySem.W.Frag} {mg : Str → Option Value} {base : Heap} {CX : CXT} {k : Nat} {f : Addr} {fd : FuncData} {ps : List Str} {sp : Sp} (F : FnOk P w K mg base CX k f fd ps sp) (b : Binds K fd ps []) : FnR P w K mg base CX k f sp := by
  intro A outer s H us vs Q E hr e0 r h
  have hl : us.length = ps.length := by rw [← r.length]; exact F.len _ _ _ _ h
  have kin : K.In s.heap := e0.mod.kin.keeps fun b o e => (e0.bs b o e).1
  have b' := b s us kin (by rw [List.append_nil]; exact hl)
  rw [List.append_nil] at b'
  exact F.run A outer s H ⟨us, []⟩ us vs Q E hr e0 b' r h
section
variable {X : Cx} {CX : CXT} {k : Nat} {C g : Addr} {fd : FuncData} {ps : List Str} {sp : Sp} {E : L2.St → XK} {m : Str} {pos apos : Pos} {e o : Expr} {es : List Expr} {ta : TE} {t : TA}
def tMethSlS (C : Addr) (sp : Sp) (E : L2.St → XK) (ta : TE) (t : TA) : TE := fun σ H Q => ta σ H fun x H1 => ∃ a dx vs, x = .ref a ∧ Slt H1 a C dx vs ∧ t σ H1 fun ws H2 => sp (x :: ws) H2 Q (E σ)
end
section
variable {X : Cx}
def rSortDk : List V → Hp → VK → Prop := fun xs H Q => ∃ (a : Addr) (kvs : List (L2.Key × V)) (ks : List Str), xs = [.ref a] ∧ Rd H a (.dK kvs) ∧ kvs.map (·.1) = ks.map Sum.inr ∧ ks.length < 64 ∧ ∀ ys p, ys.Perm ks → sortedS ys = true → H p = none → Q (.ref p) (upd H p (.lst (ys.map V.str)))
def rSortA (K : PySem.W.Frag) : List V → Hp → VK → Prop := fun xs H Q => rSortDk xs H Q ∨ (rSortedS K xs H Q ∨ rSorted K xs H Q)
def rDictP (K : PySem.W.Frag) : List V → Hp → VK → Prop := fun xs H Q => ∃ (a : Addr) (ps : List Addr) (kvs : List (L2.Key × V)), xs = [.ref a] ∧ SqL K H a (ps.map V.ref) ∧ Paired (fun p kv => SqT K H p [kV kv.1, kv.2]) ps kvs ∧ ∀ p, H p = none → Q (.ref p) (upd H p (.dK (mergeK [] kvs)))
def rDictG (K : PySem.W.Frag) : List V → Hp → VK → Prop := fun xs H Q => rDictP K xs H Q ∨ rDictD xs H Q
def rListG (K : PySem.W.Frag) : List V → Hp → VK → Prop := fun xs H Q => rListOf K xs H Q ∨ rListD xs H Q
theorem call_listA (hc : X.calm = true) : CallR X (.type "list") (rListG X.K) := CallR.or call_listG (call_list_dK hc)
end
theorem kitOne_self {K : PySem.W.Frag} (C : Addr) : PySem.W.kitOne K (.ref C) (.ref C) = some true := by
  unfold PySem.W.kitOne
  rw [if_pos (by simp)]
end Fm
namespace Fm
open PySem PySem.Spec PyProof.Rows L2 SlX
section
variable {prog : Program} {w : PySem.World} {A : Around} {E : Value → Shared → Prop} {s : Shared} {K : PySem.W.Frag} {x C f : Addr} {ox : Obj} {od : Option Obj} {b tb : Value}
end
section
variable {X : Cx} {CX : CXT} {pins : List (Addr × Obj)} {σ : L2.St} {H : Hp} {s : Shared} {C g : Addr} {n : Nat} {sp : Sp} {E : XK}
def Oth (K : PySem.W.Frag) (H : Hp) (C : Addr) (y : V) : Prop := (∃ b C' dy ws, y = .ref b ∧ Slt H b C' dy ws ∧ PySem.W.notFirst K C (.ref C') = true) ∨ ∃ tb, TyX K H y tb ∧ PySem.W.notFirst K C tb = true
def rOwnG (K : PySem.W.Frag) (C : Addr) (sp : Sp) (E : XK) : R2 := fun x y H Q => ∃ a dx vs, x = .ref a ∧ Slt H a C dx vs ∧ Oth K H C y ∧ sp [x, y] H Q E
def rNeOwn (K : PySem.W.Frag) (C : Addr) (sp : Sp) (E : XK) : R2 := fun x y H Q => ∃ a dx vs, x = .ref a ∧ Slt H a C dx vs ∧ Oth K H C y ∧ sp [x, y] H (fun z H' => ∃ k, z = .bl k ∧ Q (.bl (!k)) H') E
end
end Fm
namespace Fm
open PySem PySem.Spec PyProof.Rows L2 SlX
section
variable {prog : Program} {w : PySem.World} {A : Around} {E : Value → Shared → Prop} {s : Shared} {K : PySem.W.Frag} {x y C f : Addr} {ox oy : Obj} {od ody : Option Obj}
structure MulC (K : PySem.W.Frag) (C f : Addr) : Prop where
  self : PySem.W.selfFirst K C = true
  find : PySem.W.findIn K (.ref C) "__mul__" = some (some (.ref f))
  fn : PySem.W.isFn K (.ref f) = true
theorem MulC.cls (h : MulC K C f) : ∃ cd rest, PySem.W.clsIn K C = some cd ∧ cd.mro = .ref C :: rest := by
  have h1 := h.self
  unfold PySem.W.selfFirst at h1
  cases e : PySem.W.clsIn K C with
  | none =>
    rw [e] at h1
    cases h1
  | some cd =>
    rw [e] at h1
    have h2 : cd.mro.head? = some (.ref C) := by simpa using h1
    cases e2 : cd.mro with
    | nil =>
      rw [e2] at h2
      cases h2
    | cons c rest =>
      rw [e2] at h2
      cases h2
      exact ⟨cd, rest, rfl, e2⟩
end
section
variable {X : Cx} {CX : CXT} {C g : Addr} {n : Nat} {sp : Sp} {E : XK}
def rMulOwn (K : PySem.W.Frag) (C : Addr) (sp : Sp) (E : XK) : R2 := fun x y H Q => ∃ a b dx dy vs ws, x = .ref a ∧ y = .ref b ∧ Slt H a C dx vs ∧ Slt H b C dy ws ∧ sp [x, y] H (fun z H' => (∃ r, z = .ref r) ∧ Q z H') E
end
section
variable {prog : Program} {w : PySem.World} {A : Around} {E : Value → Shared → Prop} {s : Shared} {K : PySem.W.Frag} {x C f : Addr} {ox : Obj} {od : Option Obj}
end
section
variable {M : Model} {A : Around} {E : Value → Shared → Prop} {s : Shared}
end
section
variable {X : Cx} {CX : CXT} {C g : Addr} {n : Nat} {sp : Sp} {E : XK}
def tCallI (C : Addr) (sp : Sp) (E : XK) (to : TE) (t : TA) : TE := fun σ H Q => to σ H fun x H1 => ∃ a, x = .ref a ∧ t σ H1 fun us H2 => ∃ dx vs, Slt H2 a C dx vs ∧ sp (.ref a :: us) H2 Q E
end
section
variable {X : Cx} {CX : CXT} {C g : Addr} {n : Nat} {fd : FuncData} {ps : List Str} {sp : Sp} {E : XK}
def rReprOwn (C : Addr) (sp : Sp) (E : XK) : List V → Hp → VK → Prop := fun xs H Q => ∃ a dx vs, xs = [V.ref a] ∧ Slt H a C dx vs ∧ sp [.ref a] H (fun z H' => (∃ t : Str, z = .str t) ∧ Q z H') E
end
structure SMet (K : PySem.W.Frag) (C : Addr) (mc : Value) (m : Str) (p g : Addr) : Prop where
  rd : ClX.CRead K C mc
  ty : PySem.W.typeIn K (.ref C) = some mc
  at_ : PySem.W.findCls K (.ref C) mc m = some (.get (.builtin "staticmethod.__get__") (.ref p) .none (.ref C))
  rc : ∃ rest, PySem.W.recIn K p "staticmethod" = some (.ref g :: rest)
  kp : PySem.W.keepIn K (.ref g) = true
def tSMeth (C : Addr) (sp : Sp) (E : XK) (ta : TE) (t : TA) : TE := fun σ H Q => ta σ H fun x H1 => x = .ref C ∧ t σ H1 fun vs H2 => sp vs H2 Q E
section
variable {X : Cx} {CX : CXT} {k : Nat} {C p g : Addr} {mc : Value} {sp : Sp} {E : XK} {o e : Expr} {es : List Expr} {m : Str} {pos apos : Pos} {ta : TE} {t : TA} {pl : Sem Bool}
end
def tFmtRD (K : PySem.W.Frag) (te : TE) : TE := fun σ H Q => te σ H fun x H1 => ∃ (a : Addr) (d : PyData), x = .ref a ∧ Dp K H1 (.ref a) d ∧ d.showable = true ∧ d.hasDict = false ∧ d.depth ≤ 60 ∧ d.shown.length ≤ sizeLine ∧ Q (.str d.shown) H1
section
variable {X : Cx}
end
section
variable {X : Cx} {CX : CXT} {C g : Addr} {k : Nat} {fd : FuncData} {ps : List Str} {sp : Sp} {E : L2.St → XK} {a b : Expr} {ta tb : TE} {pos : Pos}
def tMulS (C : Addr) (sp : Sp) (E : L2.St → XK) (ta tb : TE) : TE := fun σ H Q => ta σ H fun x H1 => tb σ H1 fun y H2 => ∃ p q dx dy vs ws, x = .ref p ∧ y = .ref q ∧ Slt H2 p C dx vs ∧ Slt H2 q C dy ws ∧ sp [.ref p, .ref q] H2 (fun z H' => (∃ r, z = .ref r) ∧ Q z H') (E σ)
end
structure StatAt (K : PySem.W.Frag) (C : Addr) (m q : Str) (st : Stmt) (ps : List Str) where
  f : Addr
  fd : FuncData
  F : Fun K m q st f fd
  p : Addr
  S : SMet K C (.type "type") m p f
  b : Binds K fd ps []
end Fm
namespace Fm
open PySem PySem.Spec PyProof.Rows L2 SlX
def rIsiTX (K : PySem.W.Frag) : List V → Hp → VK → Prop := fun xs H Q => rIsiT K xs H Q ∨ ∃ (a C dx : Addr) (vs : List (Option V)) (tp : Addr) (cs : List V) (us : List Value) (b : Bool), xs = [.ref a, .ref tp] ∧ H tp = some (.tup cs) ∧ Paired ClsV cs us ∧ Slt H a C dx vs ∧ SCls K C ∧ SIsi K C ∧ PySem.W.kitAny K (.ref C) us = some b ∧ Q (.bl b) H
theorem call_isiTX {X : Cx} : CallR X (.builtin "isinstance") (rIsiTX X.K) := by
  intro pins s σ H xs us Q I r h
  rcases h with h | ⟨a, C, dx, vs, tp, cs, ws, b, rfl, hT, k, hsl, hc, hi, hk, q⟩
  · exact call_isiT pins s σ H xs us Q I r h
  · obtain ⟨u1, u2, rfl, r1, r2⟩ := r.two
    cases (show u1 = Value.ref a from r1)
    cases (show u2 = Value.ref tp from r2)
    obtain ⟨sl, od, _, J, _⟩ := slt_inst I hsl
    obtain ⟨_, its, rv, o, h1, h2, n, h3⟩ := (show ObjOk X.prog X.w H s.heap tp (.tup cs) from I.hok tp _ hT)
    have e3 := ClsV.all k rv
    subst e3
    obtain ⟨oc, od2, dt, sl2⟩ := o
    simp only at h2 h3
    subst h2 h3
    exact PySem.W.kia_tup (OwX.kitx_slt hc.ic (hc.get _) hi.ca hi.cn hi.ct hi.cm) I.kIn J h1 hk (fun z => nomatch z) fun tk => ⟨.bl b, H, I.tok _, rfl, q⟩
theorem kitAny_no {K : PySem.W.Frag} {C : Addr} (h1 : PySem.W.subIn K (.ref C) (.type "list") = some false) (h2 : PySem.W.subIn K (.ref C) (.type "tuple") = some false) : PySem.W.kitAny K (.ref C) [.type "list", .type "tuple"] = some false := by
  have k : ∀ T : String, PySem.W.kitMeta T = true → PySem.W.subIn K (.ref C) (.type T) = some false → PySem.W.kitOne K (.ref C) (.type T) = some false := fun T hm hs => by
    unfold PySem.W.kitOne
    rw [if_neg (by intro z; cases (of_decide_eq_true z))]
    show (if _ then _ else _) = _
    rw [if_pos hm]
    exact hs
  unfold PySem.W.kitAny
  rw [k "list" (by decide +kernel) h1]
  unfold PySem.W.kitAny
  rw [k "tuple" (by decide +kernel) h2]
  rfl
def Txo (x : Str) : Prop := ∀ c ∈ x.cps.toList, c < 0x110000
theorem Txo.ok {x : Str} (h : Txo x) : PyData.strOk x = true := by
  show x.cps.all (· < 0x110000) = true
  rw [Array.all_eq_true_iff_forall_mem]
  intro c hc
  have := h c (by simpa using hc)
  simpa using this
theorem txo_of {x : Str} (h : PyData.strOk x = true) : Txo x := fun c hc => by
  have h' : x.cps.all (· < 0x110000) = true := h
  rw [Array.all_eq_true_iff_forall_mem] at h'
  simpa using h' c (by simpa using hc)
theorem Txo.app {x y : Str} (h : Txo x) (k : Txo y) : Txo (x ++ y) := fun c hc => by
  have e : (x ++ y).cps = x.cps ++ y.cps := rfl
  rw [e, Array.toList_append, List.mem_append] at hc
  exact hc.elim (h c) (k c)
theorem char_lt (c : Char) : c.toNat < 0x110000 := by
  have := c.valid
  have e : c.toNat = c.val.toNat := rfl
  rcases this with h | ⟨_, h⟩ <;> omega
theorem txo_str (s : String) : Txo (Str.ofString s) := fun c hc => by
  rw [Str.ofString_eq_toList] at hc
  obtain ⟨d, _, rfl⟩ := List.mem_map.mp (by simpa using hc)
  exact char_lt d
theorem repr_lt {q c : Nat} (hq : q < 0x110000) (hc : c < 0x110000) : ∀ d ∈ Builtin.Str.reprChar q c, d < 0x110000 := by
  have hx : ∀ w : Nat, ∀ d ∈ List.replicate (w - ((Nat.toDigits 16 c).map Char.toNat).length) 48 ++ (Nat.toDigits 16 c).map Char.toNat, d < 0x110000 := fun w d hd => by
    rcases List.mem_append.mp hd with h | h
    · have := (List.mem_replicate.mp h).2
      omega
    · obtain ⟨e, _, rfl⟩ := List.mem_map.mp h
      exact char_lt e
  intro d hd
  unfold Builtin.Str.reprChar at hd
  dsimp only at hd
  repeat' split at hd
  all_goals first
    | (simp only [List.mem_cons, List.not_mem_nil, or_false] at hd; omega)
    | (simp only [List.mem_append, List.mem_cons, List.not_mem_nil, or_false] at hd
       rcases hd with h | h
       · omega
       · exact hx _ d (List.mem_append.mpr h))
theorem fold_lt {q : Nat} (hq : q < 0x110000) : ∀ (l : List Nat) (acc : Array Nat), (∀ c ∈ l, c < 0x110000) → (∀ c ∈ acc.toList, c < 0x110000) → ∀ c ∈ (l.foldl (fun out c => out ++ (Builtin.Str.reprChar q c).toArray) acc).toList, c < 0x110000
  | [], acc, _, h, c, hc => h c hc
  | x :: l, acc, hl, h, c, hc => by
    refine fold_lt hq l _ (fun d hd => hl d (List.mem_cons_of_mem _ hd)) (fun d hd => ?_) c hc
    rw [Array.toList_append, List.mem_append] at hd
    exact hd.elim (h d) (repr_lt hq (hl x List.mem_cons_self) d)
theorem txo_repr {x : Str} (h : Txo x) : Txo (reprText x) := fun c hc => by
  unfold reprText at hc
  have hq : reprQuote x < 0x110000 := by
    unfold reprQuote
    split <;> omega
  rw [Array.toList_push, List.mem_append, ← Array.foldl_toList] at hc
  rcases hc with hc | hc
  · refine fold_lt hq x.cps.toList #[reprQuote x] h (fun d hd => ?_) c hc
    simp at hd
    omega
  · simp at hc
    omega
theorem txo_from : ∀ (ts : List Str) (k : Nat) (acc : Str), Txo acc → (∀ t ∈ ts, Txo t) → Txo (textFrom k acc ts)
  | [], _, acc, h, _ => h
  | t :: ts, k, acc, h, hs => by
    show Txo (textFrom (k + 1) (acc ++ (if k > 0 then ", " else "" : String) ++ t) ts)
    exact txo_from ts (k + 1) _ ((h.app (txo_str _)).app (hs t List.mem_cons_self)) fun u hu => hs u (List.mem_cons_of_mem _ hu)
theorem txo_join {sep : Str} (hsep : Txo sep) : ∀ ts : List Str, (∀ t ∈ ts, Txo t) → Txo (Str.join sep ts)
  | [], _ => fun c hc => by
    have e : (Str.join sep []).cps.toList = [] := rfl
    rw [e] at hc
    cases hc
  | [t], h => h t List.mem_cons_self
  | t :: u :: ts, h => by
    show Txo (t ++ sep ++ Str.join sep (u :: ts))
    exact ((h t List.mem_cons_self).app hsep).app (txo_join hsep (u :: ts) fun v hv => h v (List.mem_cons_of_mem _ hv))
mutual
theorem txo_shown : ∀ d : PyData, fine d → Txo d.shown
  | .none, _ => by simp only [PyData.shown]; exact txo_str _
  | .bool b, _ => by cases b <;> (simp only [PyData.shown]; exact txo_str _)
  | .int i, _ => by simp only [PyData.shown]; exact txo_str _
  | .str x, h => by simp only [PyData.shown]; exact txo_repr (txo_of h)
  | .list xs, h => by
    simp only [PyData.shown]
    unfold listText
    exact (txo_from _ _ _ (txo_str _) (txo_showns xs h)).app (txo_str _)
  | .tuple xs, h => by
    simp only [PyData.shown]
    unfold tupleText
    exact ((txo_str _).app (txo_join (txo_str _) _ (txo_showns xs h))).app (txo_str _)
  | .dict _, h => h.elim
theorem txo_showns : ∀ xs : List PyData, fineAll xs → ∀ t ∈ PyData.shownAll xs, Txo t
  | [], _, t, ht => by simp [PyData.shownAll] at ht
  | x :: xs, h, t, ht => by
    simp only [PyData.shownAll, List.mem_cons] at ht
    rcases ht with rfl | ht
    · exact txo_shown x h.1
    · exact txo_showns xs h.2 t ht
end
end Fm
namespace Fm
open PySem PySem.Spec PyProof.Rows L2
def rRepTB (K : PySem.W.Frag) : R2 := fun x y H Q => ∃ l k xs, x = .ref l ∧ y = .int k ∧ SqT K H l xs ∧ xs ≠ [] ∧ 2 ≤ k ∧ k ≤ 1000000 ∧ xs.length * k.toNat ≤ 1000000 ∧ ∀ p, H p = none → Q (.ref p) (upd H p (.tup (List.replicate k.toNat xs).flatten))
section
variable {X : Cx}
end
end Fm
namespace Fm
open PySem PySem.Spec PyProof.Rows L2
section
variable {P : Program} {w : World}
def Apart (P : Program) (w : World) (e f : Int × Value) : Prop := ∀ k : Str, (strKind P w).is k e.2 = true → (strKind P w).is k f.2 = true → False
theorem apart_symm {e f : Int × Value} (h : Apart P w e f) : Apart P w f e := fun k a b => h k b a
def SetS (P : Program) (w : World) (h : Heap) (a : Addr) (S : Str → Bool) (n : Nat) : Prop := ∃ (o : Obj) (es : Array (Int × Value)) (ep : Nat) (t : SetTable), h.get? a = some o ∧ (o.ExactSet ∧ o.data = .set es ep t) ∧
  (ElemsOf (strKind P w) es.toList ∧ es.toList.Pairwise (Apart P w) ∧ ∀ k, S k = true ↔ ∃ e ∈ es.toList, (strKind P w).is k e.2 = true) ∧ (es.size < scanBound ∧ t.fits es.size = true ∧ es.size = n) ∧ Ris t.place.toList ∧ (w.params.followText "set-order" = true ∨ t.led = true)
theorem SetS.at {h h' : Heap} {a : Addr} {S : Str → Bool} {n : Nat} (R : SetS P w h a S n) (k : ∀ o, h.get? a = some o → h'.get? a = some o) : SetS P w h' a S n := by
  obtain ⟨o, es, ep, t, ho, r⟩ := R
  exact ⟨o, es, ep, t, k o ho, r⟩
theorem SetS.as {h : Heap} {a : Addr} {S S' : Str → Bool} {n : Nat} (R : SetS P w h a S n) (e : ∀ k, S' k = S k) : SetS P w h a S' n := by
  rw [funext e]
  exact R
theorem SetS.new {h : Heap} {a : Addr} {xs : List Str} (ho : h.get? a = some (eset w)) : SetS P w h a (fun k => decide (k ∈ xs.take 0)) 0 := by
  refine ⟨_, #[], 0, _, ho, ⟨⟨rfl, rfl, rfl⟩, rfl⟩, ⟨fun e he => by simp at he, .nil, fun k => by simp⟩, ⟨by decide, by rfl, rfl⟩, .nil, ?_⟩
  show _ ∨ (!w.params.followText "set-order") = true
  cases w.params.followText "set-order" with
  | true => exact .inl rfl
  | false => exact .inr rfl
abbrev rly (t : SetTable) (es : Array (Int × Value)) := relayAll t es (SetTable.grown es.size)
variable {A : Around} {E : Value → Shared → Prop} {s : Shared} {a : Addr} {S : Str → Bool} {n : Nat}
theorem sets_tail {g : Bool → Sem Unit} (hg : ∀ (b : Bool) (s1 : Shared) (Q : Unit → Shared → Prop), Q () s1 → wpAny (model P w) A (g b) Q E s1) {o : Obj} {es es1 : Array (Int × Value)} {ep : Nat} {t t2 : SetTable}
    (ho : s.heap.get? a = some o) (hx : o.ExactSet ∧ o.data = .set es ep t) (hE : ElemsOf (strKind P w) es1.toList ∧ es1.toList.Pairwise (Apart P w) ∧ ∀ k, S k = true ↔ ∃ e ∈ es1.toList, (strKind P w).is k e.2 = true)
    (hB : es1.size < scanBound) (hF : t2.fits es1.size = true) (hR : Ris t2.place.toList) (hL : w.params.followText "set-order" = true ∨ t2.led = true) {dm : Bool} {R : Option Bool → Shared → Prop}
    (fin : ∀ h', Heap.SameBut a s.heap h' → SetS P w h' a S es1.size → R (some true) { s with heap := h' }) :
    wpAny (model P w) A (do
      storeSet a es1 t2
      if (!dm && t2.tooFull) = true then do g (rly t2 es1).2.2; storeSet a (rly t2 es1).1 (rly t2 es1).2.1; pure (some true)
      else pure (some true)) R E s := by
  obtain ⟨hex, hd⟩ := hx
  obtain ⟨hE1, hE2, hE3⟩ := hE
  have put : ∀ {h : Heap} {o' : Obj} {e0 e1 : Array (Int × Value)} {ep' : Nat} {t0 t1 : SetTable}, h.get? a = some o' → o'.data = .set e0 ep' t0 → (h.update a (Obj.putSet e1 t1)).get? a = some { o' with data := .set e1 (ep' + 1) t1 } := fun hh hdd => store_at hh hdd
  refine wpAny_bind (wpAny_storeSet_of ho hd ?_ (fits_of_scanBound hB))
  have at1 := put (e1 := es1) (t1 := t2) ho hd
  have sb := Heap.SameBut.update s.heap a (Obj.putSet es1 t2)
  split
  · have q1 := relayAll_perm t2 es1 (SetTable.grown es1.size)
    have q2 := relayAll_fits t2 es1 (SetTable.grown es1.size)
    have q3 := relayAll_ris t2 es1 (SetTable.grown es1.size)
    have q4 := relayAll_led t2 es1 (SetTable.grown es1.size)
    rcases hz : relayAll t2 es1 (SetTable.grown es1.size) with ⟨f1, f2, f3⟩
    unfold rly
    rw [hz] at q1 q2 q3 q4 ⊢
    dsimp only at q1 q2 q3 q4 ⊢
    have hl : f1.size = es1.size := by rw [← Array.length_toList, q1.length_eq, Array.length_toList]
    refine wpAny_bind (hg _ _ _ (wpAny_bind (wpAny_storeSet_of at1 rfl ?_ (fits_of_scanBound (by rw [hl]; exact hB)))))
    refine wpAny_pure (fin _ (sb.trans (Heap.SameBut.update _ a _)) ⟨_, f1, _, f2, put at1 rfl, ⟨hex, rfl⟩, ⟨hE1.perm q1, (q1.pairwise_iff apart_symm).mpr hE2, fun k => ?_⟩, ⟨by rw [hl]; exact hB, q2, hl⟩, q3, hL.imp id fun z => q4.trans z⟩)
    rw [hE3 k]
    exact ⟨fun ⟨e, he, hk⟩ => ⟨e, q1.mem_iff.mpr he, hk⟩, fun ⟨e, he, hk⟩ => ⟨e, q1.mem_iff.mp he, hk⟩⟩
  · exact wpAny_pure (fin _ sb ⟨_, es1, _, t2, at1, ⟨hex, rfl⟩, ⟨hE1, hE2, hE3⟩, ⟨hB, hF, rfl⟩, hR, hL⟩)
theorem sets_add {k : Str} {tk : Tok} {Q : Bool → Shared → Prop} (R : SetS P w s.heap a S n) (room : n + 1 < scanBound)
    (fin : ∀ h', Heap.SameBut a s.heap h' → SetS P w h' a (fun j => S j || decide (j = k)) (if S k = true then n else n + 1) → Q (!S k) { s with heap := h' }) :
    wpAny (model P w) A (setAddHashed a (.str k tk) ((strKind P w).hash k)) Q E s := by
  obtain ⟨o, es, ep, t, ho, ⟨hex, hd⟩, ⟨hE1, hE2, hE3⟩, ⟨hB, hF, hN⟩, hR, hL⟩ := R
  have isk : (strKind P w).is k (.str k tk) = true := strKind_is P w k tk
  have sck : (Value.str k tk).scannable = true := rfl
  unfold setAddHashed setAddHashedIn
  refine wpAny_holding (wpAny_bind (wpAny_setState_of ho hd hF ?_))
  dsimp only
  rw [byScan_of sck hB hE1, if_pos rfl]
  unfold setAddByScan
  refine wpAny_bind (wpAny_bind (wpAny_rule (wpAny_bind (wpAny_setScan_of isk ho hd hF hE1 ?_))))
  rcases hfi : List.findIdx? (fun e : Int × Value => (strKind P w).is k e.2) es.toList with _ | j
  · dsimp only
    have no : ∀ e ∈ es.toList, (strKind P w).is k e.2 = true → False := fun e he z => by
      have := List.findIdx?_eq_none_iff.mp hfi e he
      rw [z] at this
      cases this
    have sk : S k = false := by
      cases z : S k with
      | false => rfl
      | true =>
        obtain ⟨e, he, hk⟩ := (hE3 k).mp z
        exact (no e he hk).elim
    have q1 := layNew_perm t es ((strKind P w).hash k) (.str k tk)
    have q2 := layNew_fits t es ((strKind P w).hash k) (.str k tk)
    have q3 := layNew_ris t es ((strKind P w).hash k) (.str k tk) hR
    have q4 := layNew_led t es ((strKind P w).hash k) (.str k tk)
    rcases hz : layNew t es ((strKind P w).hash k) (.str k tk) with ⟨f1, f2, dm, gv⟩
    rw [hz] at q1 q2 q3 q4
    dsimp only at q1 q2 q3 q4 ⊢
    rw [Array.toList_push] at q1
    have q5 : f1.toList.Perm (((strKind P w).hash k, Value.str k tk) :: es.toList) := q1.trans (List.perm_append_singleton _ _)
    have hl : f1.size = n + 1 := by rw [← Array.length_toList, q5.length_eq, List.length_cons, Array.length_toList, hN]
    have hE' : ElemsOf (strKind P w) f1.toList ∧ f1.toList.Pairwise (Apart P w) ∧ ∀ i, (S i || decide (i = k)) = true ↔ ∃ e ∈ f1.toList, (strKind P w).is i e.2 = true := by
      refine ⟨(hE1.push isk sck).perm q1, (q5.pairwise_iff apart_symm).mpr (.cons (fun e he j hj hje => ?_) hE2), fun i => ?_⟩
      · cases (strKind P w).inj _ j k hj isk
        exact no e he hje
      · rw [Bool.or_eq_true, decide_eq_true_eq, hE3 i]
        constructor
        · rintro (⟨e, he, hk⟩ | rfl)
          · exact ⟨e, q5.mem_iff.mpr (List.mem_cons_of_mem _ he), hk⟩
          · exact ⟨_, q5.mem_iff.mpr List.mem_cons_self, isk⟩
        · rintro ⟨e, he, hk⟩
          rcases List.mem_cons.mp (q5.mem_iff.mp he) with rfl | he
          · exact .inr ((strKind P w).inj _ i k hk isk)
          · exact .inl ⟨e, he, hk⟩
    have hL' : w.params.followText "set-order" = true ∨ f2.led = true := hL.imp id fun z => q4.trans z
    have fin' : ∀ h', Heap.SameBut a s.heap h' → SetS P w h' a (fun j => S j || decide (j = k)) f1.size → Q true { s with heap := h' } := fun h' sb r => by
      have := fin h' sb
      rw [sk] at this
      rw [hl] at r
      exact this r
    have hB' : f1.size < scanBound := by rw [hl]; exact room
    have gw : ∀ (b : Bool) {s1 : Shared} {Q' : Unit → Shared → Prop}, Q' () s1 → wpAny (model P w) A (match b with | true => rule "set.scan.the-table-gave-way" | false => pure ()) Q' E s1 := fun b s1 Q' q => by
      cases b
      · exact wpAny_pure q
      · exact wpAny_rule q
    refine wpAny_bind (gw _ ?_)
    split
    · refine wpAny_bind ?_
      rw [hashByValue_scannable 8 sck]
      refine wpAny_pure (sets_tail ?_ ho ⟨hex, hd⟩ hE' hB' ?_ ?_ ?_ ?_)
      · intro b s1 Q' q
        exact gw b q
      · first | (split <;> first | exact q2 | exact SetTable.fits_plain_off q2) | exact q2
      · first | (split <;> exact q3) | exact q3
      · first | (split <;> exact hL') | exact hL'
      · exact fun h' sb r => wpAny_pure (fin' h' sb r)
    · refine wpAny_bind (wpAny_pure ?_)
      rw [if_pos rfl]
      refine sets_tail ?_ ho ⟨hex, hd⟩ hE' hB' q2 q3 hL' ?_
      · intro b s1 Q' q
        exact gw b q
      · exact fun h' sb r => wpAny_pure (fin' h' sb r)
  · dsimp only
    obtain ⟨hj, pj, _⟩ := List.findIdx?_eq_some_iff_getElem.mp hfi
    have sk : S k = true := (hE3 k).mpr ⟨es.toList[j], List.getElem_mem hj, pj⟩
    have q := fin s.heap (Heap.SameBut.refl a s.heap) ⟨o, es, ep, t, ho, ⟨hex, hd⟩, ⟨hE1, hE2, fun i => ?_⟩, ⟨hB, hF, by rw [if_pos sk]; exact hN⟩, hR, hL⟩
    · rw [sk] at q
      exact wpAny_pure (wpAny_pure q)
    · rw [Bool.or_eq_true, decide_eq_true_eq, ← hE3 i]
      exact ⟨fun z => z.elim id fun e => by rw [e]; exact sk, .inl⟩
theorem sets_update {I : Addr} {fp wr : List Addr} {G : Array GenState → Array GenState → Prop} {m : Nat} {Pv : Nat → Value → Prop} {St : Nat → Shared → Prop} {R : Result → Shared → Prop}
    (W : WalksS P w A.in1 I fp wr G m Pv St) (a : Addr) (ha : a ∉ fp) (xs : List Str) (hm : m = xs.length) (hb : xs.length + 1 < scanBound) (hval : ∀ i v, Pv i v → ∃ k t, xs[i]? = some k ∧ v = .str k t) :
    ∀ (d i : Nat) (s : Shared), m - i = d → i ≤ m → St i s → (∃ c, c ≤ i ∧ SetS P w s.heap a (fun j => decide (j ∈ xs.take i)) c) →
      (∀ s' c, Moved (a :: wr) G s s' → c ≤ m → SetS P w s'.heap a (fun j => decide (j ∈ xs)) c → R (.ok (.ret .none)) s') → codeAny (model P w) A (.builtin "set.update.loop" ⟨[.ref a, .ref I], []⟩) R s := by
  have haw : a ∉ wr := fun z => ha (W.sub _ z)
  have more : ∀ b ∈ wr, b ∈ a :: wr := fun _ z => List.mem_cons_of_mem _ z
  intro d
  induction d with
  | zero =>
    rintro i s e1 e2 st ⟨c, hc, R0⟩ fin
    obtain rfl : i = m := by omega
    refine codeAny_builtin F.entry_set_update_loop ?_
    rw [Around.under_plainId F.plain_set_update_loop _]
    refine wpAny_bind (m := pyNext (.ref I)) (W.done s _ _ st fun s' mv => ?_)
    rw [List.take_of_length_le (by omega)] at R0
    exact wpAny_pure (fin s' c (mv.mono more) hc (R0.at fun o e => mv.heap a o haw e))
  | succ d ih =>
    rintro i s e1 e2 st ⟨c, hc, R0⟩ fin
    have lt : i < m := by omega
    refine codeAny_builtin F.entry_set_update_loop ?_
    rw [Around.under_plainId F.plain_set_update_loop _]
    refine wpAny_bind (m := pyNext (.ref I)) (W.item i s _ _ lt st fun v s' hP st' mv => ?_)
    obtain ⟨z, t, hz, rfl⟩ := hval i v hP
    have R1 := R0.at fun o e => mv.heap a o haw e
    refine wpAny_bind (m := holding [Value.str z t] (setAdd a (.str z t))) (wpAny_holding ?_)
    unfold setAdd
    refine wpAny_holding (wpAny_bind ((strKind P w).pyHash (k := z) (strKind_is P w z t) ?_))
    refine sets_add (s := { s' with toks := s'.toks + 1 }) R1 (by omega) fun g sb R2 => ?_
    have R3 : SetS P w g a (fun j => decide (j ∈ xs.take (i + 1))) (if decide (z ∈ xs.take i) = true then c else c + 1) := R2.as fun j => by
      rw [List.take_add_one, hz]
      simp [List.mem_append]
    have c3 : (if decide (z ∈ xs.take i) = true then c else c + 1) ≤ i + 1 := by split <;> omega
    have keep : ∀ b o, b ≠ a → s'.heap.get? b = some o → g.get? b = some o := fun b o hb e => by rw [sb.2 b hb]; exact e
    refine wpAny_pure ⟨plainId_quiet F.plain_set_update_loop _, ih (i + 1) _ (by omega) lt (W.frame _ s' _ _ st' (Nat.le_succ _) fun b hb o e => keep b o (fun z => ha (z ▸ hb)) e) ⟨_, c3, R3⟩ fun s2 c2 mv2 hc2 R4 => ?_⟩
    exact fin s2 c2 (Moved.trans W.gtrans ((mv.mono more).then_heap (Nat.le_succ _) fun b o hb e => keep b o (fun z => hb (z ▸ List.mem_cons_self)) e) mv2) hc2 R4
set_option maxHeartbeats 8000000 in
theorem set_of_strs {l : Addr} {its : Array Value} (xs : List Str) {Q : Value → Shared → Prop} (hh : A.handled = none) (hl : s.heap.IsList l its) (hi : StrsAre its.toList xs) (hb : xs.length + 1 < scanBound)
    (h : ∀ (g : Heap) (tk c : Nat), c ≤ xs.length → SetS P w g s.heap.objs.size (fun j => decide (j ∈ xs)) c → (∀ b o, s.heap.get? b = some o → g.get? b = some o) → Q (.ref s.heap.objs.size) { s with heap := g, toks := tk }) :
    wpAny (model P w) A (call (.type "set") [.ref l]) Q E s := by
  have hn : its.size = xs.length := by rw [← Array.length_toList]; exact StrsAre.length hi
  obtain ⟨mc, mt, mro⟩ := F.called_set.mro
  have mk1 := F.called_set.made
  have mk2 := F.called_set.sub
  refine wpAny_call (codeAny_of_tree (show wpAny _ _ (callAny (.type "set") _) _ _ _ from wpAny_pure ⟨Code.quiet_builtin _ (by decide +kernel), codeAny_builtin F.entry_type_call ?_⟩))
  rw [Around.under_plain (weight_type_call_type "set" [.ref l] []) rfl]
  have mk3 := F.called_set.notType
  have mk4 := F.called_set.canCreate
  have mk5 := F.typeCall_set_1 (.ref l)
  repeat (any_goals (first | assumption | wp_step))
  refine codeAny_mono (code_set_led1 (w := w) (s := s) (.ref l) (E := E)
    (Q₁ := fun obj s₁ => obj = .ref s.heap.objs.size ∧ s₁ = { s with heap := hset w s.heap }) ⟨rfl, rfl⟩) fun r s₁ hr => ?_
  match r, hr with
  | .error e, hr => exact hr
  | .ok (.ret obj), hr =>
    obtain ⟨rfl, rfl⟩ := hr
    have here : (hset w s.heap).get? s.heap.objs.size = some (eset w) := Heap.get?_push_size _ rfl
    have isS : Shared.TypeIs { s with heap := hset w s.heap } (.ref s.heap.objs.size) "set" := ⟨_, here, rfl⟩
    have in1 := F.called_set.init.lookup
    have in2 := F.called_set.init.bind (.ref s.heap.objs.size)
    repeat (any_goals (first | assumption | wp_step))
    have goes : codeAny (model P w) A.in1 (.call (.builtin "set.__init__") ⟨[.ref s.heap.objs.size, .ref l], []⟩) (wants (fun r s₂ => r = .none ∧ ∃ g tk c,
        s₂ = { s with heap := g, toks := tk } ∧ c ≤ xs.length ∧ SetS P w g s.heap.objs.size (fun j => decide (j ∈ xs)) c ∧ ∀ b o, s.heap.get? b = some o → g.get? b = some o) E) { s with heap := hset w s.heap } := by
      refine codeAny_call_builtin F.called_set.init.plain F.entry_set_init (check_set_init_1 isS ?_)
      obtain ⟨⟨oc, od, dt, sl⟩, hol, hcl, nl, hdl⟩ := id hl
      simp only at hcl hdl
      subst hcl hdl
      have lt := Heap.lt_size hol
      have hol2 : (hset w s.heap).get? l = some _ := Heap.get?_push_of_some _ hol
      have hl2 : (hset w s.heap).IsList l its := ⟨_, hol2, rfl, nl, rfl⟩
      have no1 := F.sub_list_set
      have no2 := F.sub_list_frozenset
      have no3 : (Value.type "list" == Value.type "dict") = false := by decide
      unfold Builtin.«set.__init__» noKeywords Builtin.Frozenset.updateFrom
      generalize hPI : pyIter = PI
      wp_walk
      subst hPI
      refine wpAny_pyIter_list hl2 (wpAny_bind (wpAny_runValue ?_))
      have sz2 : (hset w s.heap).objs.size = s.heap.objs.size + 1 := Heap.size_push ..
      have neI : l ≠ (hset w s.heap).objs.size := by
        rw [sz2]
        exact Nat.ne_of_lt (Nat.lt_succ_of_lt lt)
      have notIn : s.heap.objs.size ∉ [(hset w s.heap).objs.size, l] := by
        rw [sz2]
        intro z
        rcases List.mem_cons.mp z with z | z
        · exact Nat.ne_of_lt (Nat.lt_succ_self _) z
        · exact Nat.ne_of_gt lt (List.mem_singleton.mp z)
      have val : ∀ (i : Nat) (v : Value), its[i]? = some v → ∃ k t, xs[i]? = some k ∧ v = .str k t := fun i v hv => by
        obtain ⟨y, t, e1, e2⟩ := StrsAre.item hi i v (by rw [Array.getElem?_toList]; exact hv)
        exact ⟨y, t, e2, e1⟩
      have hh3 : A.in1.in1.in1.handled = none := by simp [hh]
      refine sets_update ((Walks.list hh3 _ l neI its).toS) s.heap.objs.size notIn xs hn hb val (its.size - 0) 0 _ (by omega) (Nat.zero_le _) ?st ?s0 ?fin
      case st => exact ⟨⟨_, Heap.get?_push_size _ rfl, rfl, rfl⟩, hl2.push _⟩
      case s0 => exact ⟨0, Nat.le_refl 0, .new (Heap.get?_push_of_some _ here)⟩
      case fin =>
        rintro ⟨g, gg, dd, tk, oo⟩ c' mv hc' hS'
        have e1 : gg = s.gens := mv.gens
        have e2 : dd = s.drawn := mv.drawn
        have e3 : oo = s.os := mv.os
        subst e1 e2 e3
        refine wpAny_pure (show wpAny _ _ (ret Value.none) _ _ _ from wpAny_pure ⟨rfl, g, tk, c', rfl, by omega, hS', fun b o e => ?_⟩)
        have b0 := Heap.lt_size e
        refine mv.heap b o (fun z => ?_) (Heap.get?_push_of_some _ (Heap.get?_push_of_some _ e))
        rcases List.mem_cons.mp z with z | z
        · exact Nat.ne_of_lt b0 z
        · have z2 := List.mem_singleton.mp z
          rw [sz2] at z2
          exact Nat.ne_of_lt (Nat.lt_succ_of_lt b0) z2
    refine codeAny_mono goes fun r₂ s₂ hr₂ => ?_
    match r₂, hr₂ with
    | .error e, hr₂ => exact hr₂
    | .ok (.ret r), hr₂ =>
      obtain ⟨rfl, g, tk, c', rfl, hc', hS', hk'⟩ := hr₂
      repeat (any_goals (first | assumption | wp_step))
      exact h _ _ _ hc' hS' hk'
end
end Fm
namespace Fm
open PySem PySem.W PySem.Calls PyProof.Rows PySem.HandSPX
abbrev xA (f : Str) (p1 p2 : Pos) : Arguments :=
  { posonlyargs := [], args := [{ arg := "self", annotation := none, pos := p1 }, { arg := f, annotation := none, pos := p2 }],
    vararg := none, kwonlyargs := [], kw_defaults := [], kwarg := none, defaults := [] }
abbrev xCall (f : Str) (q1 q2 q3 q4 q5 : Pos) : Expr := .Call (.Attribute (.Call (.Name "super" q1) [] [] q2) "__init__" q3) [.Name f q4] [] q5
abbrev xB (f : Str) (q1 q2 q3 q4 q5 q6 q7 q8 q9 q10 : Pos) : List Stmt :=
  [.Expr (xCall f q1 q2 q3 q4 q5) q6, .Assign [.Attribute (.Name "self" q7) f q8] (.Name f q9) q10]
abbrev xS (f : Str) : Scope :=
  { kind := .function, names := [(PySem.Str.ofString "self", .local), (f, .local), (PySem.Str.ofString "__class__", .free), (PySem.Str.ofString "super", .globalImplicit)],
    isGenerator := false, isCoroutine := false, more := [] }
structure ExT (P : Program) (K : Frag) (mg : Str → Option Value) (x f : Str) (C : Addr) : Prop where
  gC : mg x = some (.ref C)
  cls : ∃ nm q N bs bm sn sub ab col dd k0 k1 k2 k3 k5, K.lookup C = some (excClassObj nm q C N bs bm true sn sub ab col dd k0 k1 k2 k3 k5 "ValueError.__new__") ∧ refsVE bm = true
  sa : findIn K (.ref C) "__setattr__" = some (some (.builtin "object.__setattr__"))
  no : findIn K (.ref C) f = some none
  kC : keepIn K (.ref C) = true
  exC : subIn K (.ref C) (.type "BaseException") = some true
  veC : subIn K (.ref C) (.type "ValueError") = some true
  tyC : typeIn K (.ref C) = some (.type "type")
  hdC : hasDictIn K C = true
  up : ks_superIn K C C "__init__" = some (some (.builtin "ValueError.__init__"))
  opq : nsIn K cStatics "thirdparty.any" = some none
  self : mroIn K C (.ref C) = some true
  fn : ∃ (fI cda cc : Addr) (oc : Value) (od : Option Addr) (kV doc pm : Value) (an : Option Addr) (ct : Value) (osl : Array (Option Value)) (p1 p2 q1 q2 q3 q4 q5 q6 q7 q8 q9 q10 : Pos) (ql : Str),
    findIn K (.ref C) "__init__" = some (some (.ref fI)) ∧ typeIn K (.ref fI) = some (.type "function") ∧
    K.lookup fI = some ⟨oc, od, .func (ksFn "__init__" ql (xA f p1 p2) (xB f q1 q2 q3 q4 q5 q6 q7 q8 q9 q10) (xS f) .none kV doc pm an (.ref cda) ct cc), osl⟩ ∧ codeIn K (.ref cda) ql = true ∧
    (∃ cl cld csl, K.lookup cc = some ⟨cl, cld, .cell (some (.ref C)), csl⟩) ∧
    ∃ ccl cdd vs ccs file tf, K.lookup cda = some ⟨ccl, cdd, .fields vs, ccs⟩ ∧ vs[2]? = some (.str file tf) ∧ ((P.main.file : Str) == file) = true ∧
    (∀ e v, bindArgs (ksFn "__init__" ql (xA f p1 p2) (xB f q1 q2 q3 q4 q5 q6 q7 q8 q9 q10) (xS f) .none kV doc pm an (.ref cda) ct cc) ⟨[.ref e, v], []⟩ = pure [((PySem.Str.ofString "self" : Str), .ref e), (f, v)]) ∧
    ∀ L : Addr, ∃ pl, eval (xCall f q1 q2 q3 q4 q5) (ksEnv ql (xS f) L fI (.ref cda) cc) = (do
      let ov ← attributeBase (.Call (.Name "super" q1) [] [] q2) "__init__" (ksEnv ql (xS f) L fI (.ref cda) cc) (eval (.Call (.Name "super" q1) [] [] q2) (ksEnv ql (xS f) L fI (.ref cda) cc))
      standAt q3.atName
      let (g, first) ← holding [ov] (getMethod ov "__init__" pl)
      callWith q5 g first (backTo q5 (starEach [.Name f q4] (ksEnv ql (xS f) L fI (.ref cda) cc))) [])
  top : (P.main.scope.names.lookup ("super" : Str)).isSome = false
  sup : mg "super" = none
  f1 : (("self" : Str) == f) = false
  f2 : (f == ("self" : Str)) = false
  f3 : (f == ("__debug__" : Str)) = false
  f4 : (("super" : Str) == f) = false
  f5 : (("__class__" : Str) == f) = false
structure XEnd (h h' : Heap) (x C dx : Addr) (f : Str) (v : Value) : Prop where
  keep : ∀ b o, b ≠ x → h.get? b = some o → h'.get? b = some o
  obj : ∃ t1 : Addr, h'.get? x = some { cls := .ref C, dict := some dx, data := .fields #[.ref t1, .none, .none, .none, .bool false, .none] }
  dbig : h.objs.size ≤ dx
  dne : dx ≠ x
  ns : h'.Ns1 dx (fun y => if y = f then some v else none)
section
variable {P : Program} {w : PySem.World} {A : Around} {E : Value → Shared → Prop} {R : Result → Shared → Prop} {s : Shared} {K : Frag} {mg : Str → Option Value} {C : Addr} {x f : Str}
theorem look_f (T1 : (("self" : Str) == f) = false) (v u : Value) : ([((PySem.Str.ofString "self" : Str), u), (f, v)].reverse.lookup f) = some v := by
  simp [List.lookup]
theorem look_self (T2 : (f == ("self" : Str)) = false) (T1 : (("self" : Str) == f) = false) (v u : Value) : ([((PySem.Str.ofString "self" : Str), u), (f, v)].reverse.lookup (PySem.Str.ofString "self")) = some u := by
  simp only [List.reverse_cons, List.reverse_nil, List.nil_append, List.singleton_append, List.lookup_cons]
  rw [show ((PySem.Str.ofString "self" : Str) == f) = false from T1]
  simp
theorem xs_f (T2 : (f == ("self" : Str)) = false) : (xS f).names.lookup f = some .local := by
  simp only [xS, List.lookup_cons]
  rw [show (f == (PySem.Str.ofString "self" : Str)) = false from T2]
  simp
theorem xs_self : (xS f).names.lookup (PySem.Str.ofString "self") = some .local := by
  simp only [xS, List.lookup_cons]
  simp
theorem xs_super (h : (("super" : Str) == f) = false) : (xS f).names.lookup ("super" : Str) = some .globalImplicit := by
  simp only [xS, List.lookup_cons, h]
  rw [show ((PySem.Str.ofString "super" : Str) == PySem.Str.ofString "self") = false by decide +kernel, show ((PySem.Str.ofString "super" : Str) == PySem.Str.ofString "__class__") = false by decide +kernel]
  simp
theorem xs_class (h : (("__class__" : Str) == f) = false) : (xS f).names.lookup ("__class__" : Str) = some .free := by
  simp only [xS, List.lookup_cons, h]
  rw [show ((PySem.Str.ofString "__class__" : Str) == PySem.Str.ofString "self") = false by decide +kernel]
  simp
theorem vx_call {hp : Heap} {g : Array GenState} {d : Drawn} {t : Nat} {os : OsState} {u e t0 : Addr} {rest : List Value} {Q : Value → Shared → Prop} {nm q : Str} {N : Addr} {bs bm : List Value} {hdct : Bool} {sn : List Str} {sub : List Value} {ab : Bool} {col : Option Bool} {dd : Option Addr} {k0 k1 k2 k3 k5 : Option Value}
    (hC : hp.get? C = some (excClassObj nm q C N bs bm hdct sn sub ab col dd k0 k1 k2 k3 k5 "ValueError.__new__")) (he : hp.get? e = some (excO C t0)) (hu : hp.get? u = some (kxs_mw "ValueError.__init__" e)) (hz : rest.length ≤ sizeLine)
    (fin : ∀ h', (∀ b o, b ≠ e → hp.get? b = some o → h'.get? b = some o) → h'.get? e = some (excO C hp.objs.size) → Q .none ⟨h', g, d, t, os⟩) :
    wpAny (model P w) A (call (.ref u) rest) Q E ⟨hp, g, d, t, os⟩ := by
  refine wpAny_call (codeAny_of_tree ?_)
  show wpAny (model P w) A.in1 (callAny (.ref u) ⟨rest, []⟩) _ _ _
  simp only [callAny]
  refine wpAny_bind (wpAny_load hu ?_)
  simp only [kxs_mw]
  refine KFB.if_so (by decide) ?_
  refine wpAny_bind (check_bound_init PySem.F.excBase_ValueError.toExcCallFacts hC he rfl ?_)
  refine wpAny_bind (wpAny_pure (wpAny_pure ?_))
  refine ⟨plainId_quiet PySem.F.excBase_ValueError.init.plain _, codeAny_builtin PySem.F.excBase_ValueError.initEntry ?_⟩
  exact exc_init_tree (cls := .ref C) (t0 := t0) (dv := none) (c2 := .none) (c3 := .none) (b4 := .bool false) he hz fun h' k e' _ => fin h' k e'
theorem vx_init (T : ExT P K mg x f C) {e t0 fI : Addr} {v : Value} (X : K.In s.heap) (hG : s.heap.Ns mainGlobals mg) (hB : ∃ mb, s.heap.Ns builtinsNs mb ∧ ∀ y : Str, y ≠ "__name__" → mb y = bootBuiltins y) (hlim : s.heap.NoLimit)
    (hx : s.heap.get? e = some (excO C t0)) (hnx : K.lookup e = none) (hroom : A.depth < recursionLimit) (hI : findIn K (.ref C) "__init__" = some (some (.ref fI)))
    (hq : ∀ h' tk dx, XEnd s.heap h' e C dx f v → R (.ok (.ret .none)) { s with heap := h', toks := tk }) :
    codeAny (model P w) A (.call (.ref fI) ⟨[.ref e, v], []⟩) R s := by
  obtain ⟨fI', cda, cc, oc, od, kV, doc, pm, an, ct, osl, p1, p2, q1, q2, q3, q4, q5, q6, q7, q8, q9, q10, ql, hi, tI, ho, hcd, ⟨cl, cld, csl, hcell⟩, ccl, cdd, vs, ccs, file, tf, hcode, hvs, hfile, hbind, hev⟩ := T.fn
  obtain rfl : fI = fI' := by
    rw [hi] at hI
    cases hI
    rfl
  obtain ⟨nm, q, N, bs, bm, sn, sub, ab, col, dd, k0, k1, k2, k3, k5, hC, hbm⟩ := T.cls
  have hcl : clsIn K C = some { name := nm, bases := bs, mro := .ref C :: bm, ns := N, qualname := q, hasDict := true, slotNames := sn, subclasses := sub, abstract := ab, collection := col, hasDel := false } := by
    unfold clsIn
    rw [hC] <;> rfl
  obtain ⟨mb, hmb, hbt⟩ := hB
  have hxC : e ≠ C := fun z => by
    rw [z, hC] at hnx
    cases hnx
  have hkf : (ksEnv ql (xS f) s.heap.objs.size fI (.ref cda) cc).kindOf f = some .local := xs_f T.f2
  refine ks_codeAny_call_defAt (binds := [("self", .ref e), (f, v)]) hroom (X _ _ ho) rfl hlim (codeRec_of X hcd) rfl (BindsTo.of_eq (hbind _ _)) ?_ ?_ (fun h₁ hn hk₁ => ?_)
  · intro y hy
    simp only [xS, List.mem_cons, List.not_mem_nil, or_false] at hy
    rcases hy with rfl | rfl | rfl | rfl <;> exact fun z => nomatch z
  · intro y hy
    simp only [List.mem_cons, List.not_mem_nil, or_false] at hy
    rcases hy with rfl | rfl
    · rfl
    · exact xs_f T.f2
  · have X₁ : K.In h₁ := X.keeps hk₁
    have hx₁ := hk₁ _ _ hx
    have I₁ : InstAt h₁ e (excO C t0) C none := ⟨hx₁, rfl, rfl, trivial⟩
    obtain ⟨hp, g, dr, tk, os⟩ := s
    obtain ⟨pl, hev⟩ := hev hp.objs.size
    refine ks_wpAt_execs_cons (ks_wpAt_Expr_any (ks_wpAt_MethodCall (he := hev) ?_))
    refine ks_wpAt_super_base (env := ksEnv ql (xS f) hp.objs.size fI (.ref cda) cc) (ar := { arg := "self", annotation := none, pos := p1 }) ?_ ?_ (by decide) rfl (X₁ _ _ ho) rfl rfl rfl (X₁ _ _ hcode) rfl hvs hfile T.top ?_
    · exact xs_super T.f4
    · exact xs_class T.f5
    · refine ks_loadName_global rfl (xs_super T.f4) (loadGlobal_builtin (env := ksEnv ql (xS f) hp.objs.size fI (.ref cda) cc) (hG.keeps hk₁) T.sup (hmb.keeps hk₁) ((hbt _ (by decide +kernel)).trans (show bootBuiltins "super" = some (.type "super") by decide +kernel)) ⟨rfl, ?_⟩)
      refine wpAny_loadName_free rfl (xs_class T.f5) rfl ⟨_, X₁ _ _ hcell, rfl⟩ ?_
      refine wpAny_loadName_local rfl xs_self hn (look_self T.f2 T.f1 v (.ref e)) ?_
      refine ks_wpAny_isType_cls (X₁ _ _ hC) rfl ⟨rfl, ?_⟩
      refine ks_wpAny_call_super (X₁ _ _ hC) rfl hx₁ rfl (fun c z => nomatch z) (looks_mroIn X₁ T.self) (fun h₂ hso hk₂ => ?_)
      have X₂ : K.In h₂ := X₁.keeps hk₂
      have hx₂ := hk₂ _ _ hx₁
      have I₂ : InstAt h₂ e (excO C t0) C none := ⟨hx₂, rfl, rfl, trivial⟩
      refine kxs_getMethod kxs_ValueError hso (looks_opaque X₂ T.opq) (l₀ := .ref C :: bm) (fun A Q E s k q => wpAny_bind ((looks_clsIn X₂ hcl) A _ E s k (wpAny_pure q))) rfl X₂ (by have := T.up; unfold ks_superIn at this; rw [hcl] at this; exact this) (I₂.type.andThen (looks_subIn X₂ T.veC)) hxC (by decide) ?_
      have k₃ : ∀ b o, h₂.get? b = some o → (h₂.push (kxs_mw "ValueError.__init__" e)).get? b = some o := fun b o z => Heap.get?_push_of_some _ z
      have hu : (h₂.push (kxs_mw "ValueError.__init__" e)).get? h₂.objs.size = some (kxs_mw "ValueError.__init__" e) := Heap.get?_push_at rfl rfl
      have k03 : ∀ b o, hp.get? b = some o → (h₂.push (kxs_mw "ValueError.__init__" e)).get? b = some o := fun b o z => k₃ _ _ (hk₂ _ _ (hk₁ _ _ z))
      have n03 : (h₂.push (kxs_mw "ValueError.__init__" e)).Ns hp.objs.size (fun y => [((PySem.Str.ofString "self" : Str), Value.ref e), (f, v)].reverse.lookup y) := (hn.keeps hk₂).keeps k₃
      have z03 : h₂.objs.size < (h₂.push (kxs_mw "ValueError.__init__" e)).objs.size := by
        rw [Heap.size_push]
        exact Nat.lt_succ_self _
      generalize h₂.push (kxs_mw "ValueError.__init__" e) = h₃ at hu k03 n03 z03 ⊢
      refine kxs_callWith (i := "ValueError.__init__") (x := e) (by rfl) (evalArgs_plain ?_)
      refine Calls.spliced_cons (wpAny_Name (env := ksEnv ql (xS f) hp.objs.size fI (.ref cda) cc) (wpAny_loadName_local rfl hkf n03 (look_f T.f1 v (.ref e)) (Calls.spliced_nil ⟨hu, ?_⟩)) T.f3)
      refine vx_call (k03 _ _ (X _ _ hC)) (k03 _ _ hx) hu (by show 1 ≤ sizeLine; decide) fun h₄ k₄ hx₄ => ?_
      have k04 : ∀ b o, b ≠ e → hp.get? b = some o → h₄.get? b = some o := fun b o hb z => k₄ _ _ hb (k03 _ _ z)
      have X₄ : K.In h₄ := fun b o z => k04 b o (fun y => by rw [y, hnx] at z; cases z) (X _ _ z)
      have hLe : hp.objs.size ≠ e := Nat.ne_of_gt (Heap.lt_size hx)
      have n04 : h₄.Ns hp.objs.size (fun y => [((PySem.Str.ofString "self" : Str), Value.ref e), (f, v)].reverse.lookup y) := n03.at fun o z => k₄ _ _ hLe z
      show PySem.wpAt _ _ _ (execs _ _) _ _ _
      refine wpAt_of_wpAny (wpAny_execs_cons (plainObj_wpAny_Assign_Attribute (env := ksEnv ql (xS f) hp.objs.size fI (.ref cda) cc) ?_))
      refine wpAny_Name (env := ksEnv ql (xS f) hp.objs.size fI (.ref cda) cc) (wpAny_loadName_local rfl hkf n04 (look_f T.f1 v (.ref e)) ?_) T.f3
      refine wpAny_Name (env := ksEnv ql (xS f) hp.objs.size fI (.ref cda) cc) (wpAny_loadName_local rfl xs_self n04 (look_self T.f2 T.f1 v (.ref e)) ?_) (by decide)
      refine set_plain X₄ (ox := excO C h₃.objs.size) (od := none) ⟨hx₄, rfl, rfl, trivial⟩ T.sa ?_
      refine exc_osa X₄ hx₄ hcl (show refsVE (.ref C :: bm) = true from hbm) rfl T.no (fun h₅ tk₅ dx k₅ dn dne hx₅ hn₅ => ?_)
      have z4 : hp.objs.size < h₄.objs.size := n04.lt
      exact wpAny_execs_nil (hq h₅ tk₅ dx ⟨fun b o hb z => k₅ b o hb (k04 b o hb z), ⟨_, hx₅⟩, Nat.le_of_lt (Nat.lt_of_lt_of_le z4 dn), dne, hn₅⟩)
structure XMade (h h' : Heap) (e C d : Addr) (f : Str) (v : Value) : Prop where
  keep : ∀ b o, h.get? b = some o → h'.get? b = some o
  new : h.objs.size ≤ e
  obj : ∃ t1 : Addr, h'.get? e = some { cls := .ref C, dict := some d, data := .fields #[.ref t1, .none, .none, .none, .bool false, .none] }
  dbig : h.objs.size ≤ d
  dne : d ≠ e
  ns : h'.Ns1 d (fun y => if y = f then some v else none)
theorem vx_made (T : ExT P K mg x f C) {v : Value} (X : K.In s.heap) (hG : s.heap.Ns mainGlobals mg) (hB : ∃ mb, s.heap.Ns builtinsNs mb ∧ ∀ y : Str, y ≠ "__name__" → mb y = bootBuiltins y) (hlim : s.heap.NoLimit)
    (hroom : A.depth + 1 < recursionLimit) (hq : ∀ h' tk e d, XMade s.heap h' e C d f v → R (.ok (.ret (.ref e))) { s with heap := h', toks := tk }) :
    codeAny (model P w) A (.call (.ref C) ⟨[v], []⟩) R s := by
  obtain ⟨nm, q, N, bs, bm, sn, sub, ab, col, dd, k0, k1, k2, k3, k5, hC, hbm⟩ := T.cls
  obtain ⟨fI, _, _, _, _, _, _, _, _, _, _, _, _, _, _, _, _, _, _, _, _, _, _, _, hi, tI, _⟩ := T.fn
  obtain ⟨hp, g, dr, tk, os⟩ := s
  have k : ∀ b o, hp.get? b = some o → ((hp.push (kdv_tup [v])).push (excO C hp.objs.size)).get? b = some o := fun b o z => Heap.get?_push_of_some _ (Heap.get?_push_of_some _ z)
  have hget : ((hp.push (kdv_tup [v])).push (excO C hp.objs.size)).get? (hp.objs.size + 1) = some (excO C hp.objs.size) := by heap_get
  have hnx : K.lookup (hp.objs.size + 1) = none := by
    cases z : K.lookup (hp.objs.size + 1) with
    | none => rfl
    | some o => exact absurd (Nat.lt_of_succ_lt (Heap.lt_size (show hp.get? (hp.objs.size + 1) = some o from X _ _ z))) (Nat.lt_irrefl _)
  obtain ⟨mb, hmb, hbt⟩ := hB
  refine call_own PySem.F.excBase_ValueError (fun X => refsVE_contains X bm hbm) (X _ _ hC) (looks_findIn X hi) (fun self => bind_fn X self tI) (by show 1 ≤ sizeLine; decide) ?_
  refine vx_init (s := ⟨(hp.push (kdv_tup [v])).push (excO C hp.objs.size), g, dr, tk, os⟩) T (X.keeps k) (hG.keeps k) ⟨mb, hmb.keeps k, hbt⟩ (hlim.keeps k) hget hnx hroom hi fun h' tk' dx M => ⟨rfl, ?_⟩
  have z : hp.objs.size + 1 + 1 ≤ dx := by
    have q := M.dbig
    simpa only [Heap.size_push] using q
  exact hq h' tk' (hp.objs.size + 1) dx ⟨fun b o y => M.keep b o (Nat.ne_of_lt (Nat.lt_succ_of_lt (Heap.lt_size y))) (k b o y), Nat.le_succ _, M.obj, (by show hp.objs.size ≤ dx; omega), M.dne, M.ns⟩
end
end Fm
namespace Fm
open PySem PySem.Spec PyProof.Rows L2
theorem relO_one {v : V} {u : Value} (r : RelV v u) (f g : Str) : RelO (List.lookup g [(f, v)]) (if g = f then some u else none) := by
  by_cases hw : g = f
  · subst hw
    rw [if_pos rfl]
    rw [show List.lookup g [(g, v)] = some v by simp [List.lookup]]
    exact r
  · rw [if_neg hw]
    have q : (g == f) = false := by simpa using hw
    rw [show List.lookup g [(f, v)] = none by simp [List.lookup, q]]
    trivial
section
variable {X : Cx} {C : Addr} {x f : Str}
def tMkX (C : Addr) (f : Str) (ta : TA) : L2.St → Hp → XK → Prop := fun σ H Q => ta σ H fun vs H1 => ∃ v, vs = [v] ∧ ∀ d, H1 d = none → Q (.ref C) (some d) (upd H1 d (.xd [(f, v)]))
end
end Fm
namespace Fm
open PySem PySem.Spec PyProof.Rows L2
def txtOf : Value → Str
  | .str k _ => k
  | _ => Str.empty
section
variable {P : Program} {w : World} {A : Around} {E : Value → Shared → Prop} {s : Shared} {a : Addr} {S : Str → Bool} {n : Nat}
end
def SetSO (P : Program) (w : World) (a : Addr) (S : Str → Bool) (n : Nat) : HO := .ext fun h => SetS P w h a S n
section
variable {X : Cx}
def rSetOfS (K : PySem.W.Frag) (P : Program) (w : World) : List V → Hp → VK → Prop := fun xs H Q => ∃ (l : Addr) (ts : List Str), xs = [V.ref l] ∧ SqL K H l (ts.map V.str) ∧ ts.length ≤ 1000 ∧
  ∀ p (n : Nat), H p = none → n ≤ ts.length → Q (.ref p) (upd H p (SetSO P w p (fun j => decide (j ∈ ts)) n))
def rSortedSS (P : Program) (w : World) : List V → Hp → VK → Prop := fun vs H Q => ∃ (a : Addr) (S : Str → Bool) (n : Nat), vs = [V.ref a] ∧ H a = some (SetSO P w a S n) ∧ n < 64 ∧
  ∀ (xs : List Str) (p : Addr), sortedS xs = true → xs.Nodup → (∀ k, k ∈ xs ↔ S k = true) → xs.length = n → H p = none → Q (.ref p) (upd H p (.lst (xs.map V.str)))
end
section
variable {P : Program} {w : World} {A : Around} {E : Value → Shared → Prop} {s : Shared}
abbrev LsAt (h : Heap) (a : Addr) (vs : List Value) : Prop := ∃ n, IsL h a vs.toArray n
end
section
variable {P : Program} {w : World} {fs ex : List Addr} {H : Hp} {h h' : Heap} {a : Addr} {o : HO}
end
section
variable {X : Cx}
def rSumL (K : PySem.W.Frag) : List V → Hp → VK → Prop := fun vs H Q => ∃ (a b : Addr) (ls : List (Addr × List V)), vs = [.ref a, .ref b] ∧ SqL K H a (ls.map fun e => V.ref e.1) ∧ H b = some (.lst []) ∧ (∀ e ∈ ls, H e.1 = some (.lst e.2)) ∧ ((ls.map (·.2)).flatten).length ≤ sizeLine ∧
  (ls = [] → Q (.ref b) H) ∧ ∀ p, H p = none → Q (.ref p) (upd H p (.lst ((ls.map (·.2)).flatten)))
end
abbrev veMro : List Value := [.type "ValueError", .type "Exception", .type "BaseException", .type "object"]
structure ExZ (K : PySem.W.Frag) (mg : Str → Option Value) (x : Str) (C : Addr) : Prop where
  gC : mg x = some (.ref C)
  exC : PySem.W.subIn K (.ref C) (.type "BaseException") = some true
  hdC : PySem.W.hasDictIn K C = true
  tyC : PySem.W.typeIn K (.ref C) = some (.type "type")
  kC : PySem.W.keepIn K (.ref C) = true
  q : PySem.W.excIn K C veMro "ValueError.__new__" = true
section
variable {X : Cx} {C : Addr} {x : Str}
end
theorem kitOne_exd {K : PySem.W.Frag} {C D : Addr} (h : PySem.W.subIn K (.ref D) (.ref C) = some false) (hne : D ≠ C) (hc : PySem.W.hasDictIn K C = true) (ht : PySem.W.typeIn K (.ref C) = some (.type "type")) : PySem.W.kitOne K (.ref D) (.ref C) = some false := by
  unfold PySem.W.kitOne
  rw [if_neg (by simpa using hne)]
  show (if _ then _ else _) = _
  rw [if_pos ?_]
  · exact h
  · rw [ht]
    obtain ⟨cd, e, _⟩ := PySem.W.any_some hc
    simp [e]
theorem kitOne_ve {K : PySem.W.Frag} {D : Addr} (h : PySem.W.subIn K (.ref D) (.type "ValueError") = some true) : PySem.W.kitOne K (.ref D) (.type "ValueError") = some true := by
  unfold PySem.W.kitOne
  rw [if_neg (by simp)]
  show (if PySem.W.kitMeta "ValueError" = true then PySem.W.subIn K (.ref D) (.type "ValueError") else none) = _
  rw [if_pos (by decide +kernel)]
  exact h
end Fm
namespace Fm
open PySem PySem.Spec PyProof.Rows L2 SlX
section
variable {X : Cx} {CX : CXT} {k : Nat} {f C : Addr} {fd : FuncData} {ps : List Str} {sp : Sp} {E : L2.St → XK} {x : Str} {p pos : Pos} {e : Expr} {es : List Expr} {t : TA}
theorem run_makeS {pins : List (Addr × Obj)} {σ : L2.St} {H : Hp} {s : Shared} {Q : VK} {us : List Value} {vs : List V} (M : Mk X.K C f) (F : FnOk X.prog X.w X.K X.mg X.base CX k f fd ps sp) (hr : Room (k + 1) X.A) (hb : Binds X.K fd ps [])
    (hx : PassesAt CX X σ (E σ)) (I : Inv X pins σ H s) (r : Vals vs us)
    (h : ∀ x dx, H x = none → H dx = none → dx ≠ x → sp (.ref x :: vs) (upd (upd H dx (.own x)) x (.ins C dx [])) (fun v H2 => v = .non ∧ Q (.ref x) H2) (E σ)) :
    wpAny (model X.prog X.w) X.A (call (.ref C) us) (EP X pins σ Q) X.xe s := by
  have hq := h (s.heap.objs.size + 1) s.heap.objs.size (I.hok.fresh (Nat.le_succ _)) (I.hok.fresh (Nat.le_refl _)) (Nat.ne_of_lt (Nat.lt_succ_self _))
  have I2 := Inv.made (C := C) I
  have r2 : Vals (V.ref (s.heap.objs.size + 1) :: vs) (Value.ref (s.heap.objs.size + 1) :: us) := .cons rfl r
  have hl : (Value.ref (s.heap.objs.size + 1) :: us).length = ps.length := by
    have e := r2.length
    rw [F.len _ _ _ _ hq] at e
    exact e.symm
  have b := hb { s with heap := (s.heap.push _).push _ } (Value.ref (s.heap.objs.size + 1) :: us) I2.kIn (by rw [List.append_nil]; exact hl)
  rw [List.append_nil] at b
  refine wpAny_call (make_map (f := f) I.kIn M.makes M.init (beq_iff_eq.mp M.fn) (codeAny_mono (F.run _ X.stack _ _ ⟨Value.ref (s.heap.objs.size + 1) :: us, []⟩ (Value.ref (s.heap.objs.size + 1) :: us) _ _ (E σ) (hr.make C us [])
    (I2.env0.make C us []) b r2 hq) fun r s' hq' => ?_))
  cases r with
  | error e => exact hx pins _ _ e s' I2 hq'
  | ok fl =>
    cases fl with
    | ret u =>
      obtain ⟨v, H', I3, rv, ev, q3⟩ := I2.after hq'
      subst ev
      exact ⟨rv, ⟨V.ref (s.heap.objs.size + 1), H', I3, rfl, q3⟩⟩
    | next => exact False.elim hq'
    | brk => exact False.elim hq'
    | cont => exact False.elim hq'
def tMakeS (C : Addr) (sp : Sp) (E : L2.St → XK) (t : TA) : TE := fun σ H Q => t σ H fun vs H1 => ∀ x dx, H1 x = none → H1 dx = none → dx ≠ x → sp (.ref x :: vs) (upd (upd H1 dx (.own x)) x (.ins C dx [])) (fun v H2 => v = .non ∧ Q (.ref x) H2) (E σ)
theorem pe_makeS (M : Mk X.K C f) (F : FnOk X.prog X.w X.K X.mg X.base CX k f fd ps sp) (hr : Room (k + 1) X.A) (hg : Gl X x) (hm : X.mg x = some (.ref C)) (hb : Binds X.K fd ps []) (hx : ∀ σ, PassesAt CX X σ (E σ))
    (ha : PA X (e :: es) t) (hdb : (x == ("__debug__" : Str)) = false := by decide) (he : starEach (e :: es) X.env = (false, eval e X.env) :: starEach es X.env := by rfl) (hpl : (backTo pos (starEach es X.env)).any (·.1) = false := by rfl) :
    PE X (.Call (.Name x p) (e :: es) [] pos) (tMakeS C sp E t) := by
  refine ⟨fun pins s σ H Q I h => ?_⟩
  refine wpAny_Call_Name_kw (ld_glob I hg hm ?_ hdb)
  refine PySem.W.callWith_K (h₀ := X.base) I.ok.mod.kin M.kp (thn (ha.run pos pins s σ H _ I h) fun us s1 ⟨vs, H1, I1, r, q⟩ => ⟨I1.kIn, ?_⟩) he hpl
  exact run_makeS M F hr hb (hx σ) I1 r q
end
end Fm
namespace Fm
open PySem PySem.Spec PyProof.Rows L2
structure MethAt (K : PySem.W.Frag) (C : Addr) (m q : Str) (st : Stmt) (ps : List Str) where
  f : Addr
  fd : FuncData
  F : Fun K m q st f fd
  M : Meth K C m f
  b : Binds K fd ps []
structure ExN (K : PySem.W.Frag) (mg : Str → Option Value) (x : Str) (C : Addr) : Prop where
  gC : mg x = some (.ref C)
  exC : PySem.W.subIn K (.ref C) (.type "BaseException") = some true
  hdC : PySem.W.hasDictIn K C = true
  tyC : PySem.W.typeIn K (.ref C) = some (.type "type")
section
variable {X : Cx} {a : Addr} {oe : Obj} {cls : Value} {d : Option Addr} {pn : List (Addr × Obj)}
def rIsX (K : PySem.W.Frag) (a : Addr) (cls : Value) (d : Option Addr) : List V → Hp → VK → Prop := fun xs H Q => ∃ (D : Addr) (c : V) (cv : Value) (b : Bool), cls = .ref D ∧ ExcC K D ∧
  (d = none ∨ ∃ dd fs, d = some dd ∧ H dd = some (.xd fs)) ∧ xs = [.ref a, c] ∧ (∀ u, RelV c u → u = cv) ∧ PySem.W.kitOne K (.ref D) cv = some b ∧ Q (.bl b) H
theorem call_isX (hz : Zc cls d oe) (hf : ∃ vs, oe.data = .fields vs) : CallR (X.suite a ((a, oe) :: pn)) (.builtin "isinstance") (rIsX X.K a cls d) := by
  intro pins s σ H xs us Q I r h
  obtain ⟨D, c, cv, b, rfl, C, hd, rfl, hcv, e, q⟩ := h
  obtain ⟨u1, u2, rfl, rx, rt⟩ := vals2 r
  cases (show u1 = Value.ref a from rx)
  have ec := hcv _ rt
  subst ec
  obtain ⟨hget, _⟩ := I.pin (a, oe) (List.mem_append.mpr (.inl List.mem_cons_self))
  obtain ⟨vs, hv⟩ := hf
  have no : PySem.W.notCls oe = true := by
    unfold PySem.W.notCls
    rw [hv] <;> rfl
  obtain ⟨od, J⟩ : ∃ od, PySem.W.InstAt s.heap a oe D od := by
    rcases hd with rfl | ⟨dd, fs, rfl, hx⟩
    · refine ⟨none, hget, hz.1, no, ?_⟩
      rw [hz.2]
      trivial
    · obtain ⟨mA, hns, _⟩ := (show ObjOk X.prog X.w H s.heap dd (.xd fs) from I.hok dd _ hx)
      obtain ⟨od, ho, _⟩ := lookIn_ns hns
      refine ⟨some od, hget, hz.1, no, ?_⟩
      rw [hz.2]
      exact ho
  have hcl : (PySem.W.clsIn X.K D).isSome = true := by
    obtain ⟨cd, hc, _⟩ := PySem.W.any_some C.hd
    rw [hc]
    rfl
  exact PySem.W.kia_one (PySem.W.kitx_exc hcl C.hg C.hk C.hs C.ha C.hn C.ht C.hm) I.kIn J e (fun z => nomatch z) fun tk => ⟨.bl b, H, I.kept (t' := tk) fun _ _ z => z, rfl, q⟩
def tXfG (K : PySem.W.Frag) (a : Addr) (cls : Value) (d : Option Addr) (f : Str) (te : TE) : TE := fun σ H Q => te σ H fun x H1 => x = .ref a ∧ ∃ (C dd : Addr) (fs : List (Str × V)) (v : V), cls = .ref C ∧ XfC K C ∧ PySem.W.findIn K (.ref C) f = some none ∧
  d = some dd ∧ H1 dd = some (.xd fs) ∧ fs.lookup f = some v ∧ Q v H1
end
end Fm
namespace Fm
open PySem PySem.Spec PyProof.Rows L2
def ltSI (p q : Str × Int) : Bool := if p.1 = q.1 then decide (p.2 < q.2) else decide (p.1.cps.toList < q.1.cps.toList)
def IsSI (h : Heap) (v : Value) (x : Str) (i : Int) : Prop := ∃ (a : Addr) (o : Obj) (t u : Tok) (n : Nat), v = .ref a ∧ h.get? a = some o ∧ o.cls = .type "tuple" ∧ o.data = .seq #[.str x t, .int i u] n
theorem IsSI.one {h : Heap} {v : Value} {x y : Str} {i j : Int} (a : IsSI h v x i) (b : IsSI h v y j) : x = y ∧ i = j := by
  obtain ⟨p, o, t, u, n, rfl, ho, _, hd⟩ := a
  obtain ⟨p', o', t', u', n', e, ho', _, hd'⟩ := b
  cases e
  rw [ho] at ho'
  cases ho'
  rw [hd] at hd'
  injection hd' with h1 _
  have h2 := congrArg Array.toList h1
  simp at h2
  exact ⟨h2.1.1, h2.2.1⟩
section
variable {prog : Program} {w : World} {A : Around} {E : Value → Shared → Prop} {s : Shared}
end
section
variable {X : Cx}
def rItemsK : V → List V → Hp → VK → Prop := fun x xs H Q => ∃ (a : Addr) (kvs : List (L2.Key × V)), x = .ref a ∧ xs = [] ∧ H a = some (.dK kvs) ∧ ∀ p, H p = none → Q (.ref p) (upd H p (DX.itemsO p a))
abbrev rowK (r : Str × Int) : L2.Key × V := (Sum.inr r.1, .int r.2)
def rSortSI : List V → Hp → VK → Prop := fun xs H Q => ∃ (p a : Addr) (rows : List (Str × Int)), xs = [.ref p] ∧ H p = some (DX.itemsO p a) ∧ H a = some (.dK (rows.map rowK)) ∧
  ∀ (H' : Hp) (l : Addr) (ps : List (Addr × Str × Int)), (∀ b o, H b = some o → H' b = some o) → H l = none → (ps.map (·.2)).Perm rows → (ps.map (·.2)).Pairwise (fun e f => e.1.cps.toList < f.1.cps.toList) → H' l = some (.lst (ps.map fun z => V.ref z.1)) →
    (∀ z ∈ ps, H' z.1 = some (.tup [.str z.2.1, .int z.2.2])) → Q (.ref l) H'
end
end Fm
namespace Fm
open PySem PySem.Spec PyProof.Rows L2
structure KOrd (prog : Program) (w : World) (keys : List Value) (ltk : Value → Value → Bool) : Prop where
  swo : SrtO.Swo ltk
  kind : 2 ≤ keys.length → keyKind' keys.toArray = pure oneType'
  cmp : ∀ A s, SrtO.Cmp prog w A s oneType' (fun p => p.1 ∈ keys) (SrtO.lt2 ltk)
def sv : Value → List Nat
  | .str x _ => x.cps.toList
  | _ => []
def ltSv (v u : Value) : Bool := decide (sv v < sv u)
section
variable {prog : Program} {w : World} {A : Around} {E : Value → Shared → Prop} {s : Shared}
end
def ltV : V → V → Bool
  | .int i, .int j => decide (i < j)
  | .str x, .str y => decide (x.cps.toList < y.cps.toList)
  | _, _ => false
def KeysV (ks : List V) : Prop := (∃ ns : List Int, ks = ns.map V.int) ∨ (∃ xs : List Str, ks = xs.map V.str)
section
variable {X : Cx} {n : Nat} {f : Addr} {sp : Sp}
def rSortK (K : PySem.W.Frag) (f : Addr) (sp : Sp) : List V → List V → Hp → VK → Prop := fun vs zs H Q => ∃ (a : Addr) (xs ks : List V), vs = [.ref a] ∧ zs = [.ref f] ∧ (SqL K H a xs ∨ SqT K H a xs) ∧ ks.length = xs.length ∧ KeysV ks ∧
  (∀ (i : Nat) (x k : V), xs[i]? = some x → ks[i]? = some k → ∀ Q' : VK, Q' k H → sp [x] H Q' E0) ∧
  ∀ (ps : List (V × V)) (p : Addr) (H' : Hp), ps.Perm (ks.zip xs) → ps.Pairwise (fun p q => ltV q.1 p.1 = false) → H p = none → (∀ b o, H b = some o → H' b = some o) → H' p = some (.lst (ps.map (·.2))) → Q (.ref p) H'
end
end Fm
namespace Fm
open PySem PySem.Spec PyProof.Rows L2 SlX
structure PropAt (K : PySem.W.Frag) (C : Addr) (m q : Str) (st : Stmt) (ps : List Str) where
  f : Addr
  fd : FuncData
  F : Fun K m q st f fd
  p : Addr
  at_ : PySem.W.findIn K (.ref C) m = some (some (.ref p))
  get : PySem.W.specialIn K (.ref p) "__get__" = some (some (.builtin "property.__get__"))
  tk : PySem.W.takesIn K (.ref p) = some true
  rc : ∃ rest, PySem.W.recIn K p "property" = some (.ref f :: rest)
  b : Binds K fd ps []
section
variable {X : Cx} {CX : CXT} {C g : Addr} {n : Nat} {sp : Sp} {E : XK}
def rLenOwn (C : Addr) (sp : Sp) (E : XK) : List V → Hp → VK → Prop := fun xs H Q => ∃ a dx vs, xs = [V.ref a] ∧ Slt H a C dx vs ∧ sp [.ref a] H (fun z H' => ∃ i : Nat, z = .int i ∧ i ≤ 1000000 ∧ Q z H') E
end
end Fm
namespace Fm
open PySem PySem.Spec PyProof.Rows L2 SlX
structure DefAt (K : PySem.W.Frag) (mg : Str → Option Value) (x : Str) (st : Stmt) (ps : List Str) where
  f : Addr
  fd : FuncData
  F : Fun K x x st f fd
  g : mg x = some (.ref f)
  b : Binds K fd ps []
def topS (i : Nat) : Stmt := PySem.Challenge.pw_framemoves_k97_terms_and_moves_read.main.body.getD i (.Pass ⟨0, 0, 0, 0⟩)
abbrev s__wall : Stmt := topS 0
abbrev N__wall : List Str := ["k"]
abbrev P__wall : List Str := ["k"]
abbrev s_is_integer : Stmt := topS 10
abbrev N_is_integer : List Str := ["thing"]
abbrev P_is_integer : List Str := ["thing"]
theorem sc_is_integer : FnScope N_is_integer P_is_integer (defScope s_is_integer) := ⟨rfl, rfl, rfl, by decide +kernel, rfl, by decide +kernel, by decide +kernel⟩
abbrev s_is_name : Stmt := topS 11
abbrev N_is_name : List Str := ["thing", "sign"]
abbrev P_is_name : List Str := ["thing"]
theorem sc_is_name : FnScope N_is_name P_is_name (defScope s_is_name) := ⟨rfl, rfl, rfl, by decide +kernel, rfl, by decide +kernel, by decide +kernel⟩
abbrev s_is_term : Stmt := topS 12
abbrev N_is_term : List Str := ["thing", "waiting", "one"]
abbrev P_is_term : List Str := ["thing"]
theorem sc_is_term : FnScope N_is_term P_is_term (defScope s_is_term) := ⟨rfl, rfl, rfl, by decide +kernel, rfl, by decide +kernel, by decide +kernel⟩
abbrev s_is_term_over : Stmt := topS 13
abbrev N_is_term_over : List Str := ["many", "thing", "waiting", "one"]
abbrev P_is_term_over : List Str := ["many", "thing"]
theorem sc_is_term_over : FnScope N_is_term_over P_is_term_over (defScope s_is_term_over) := ⟨rfl, rfl, rfl, by decide +kernel, rfl, by decide +kernel, by decide +kernel⟩
abbrev s_put : Stmt := topS 15
abbrev N_put : List Str := ["term", "values", "part"]
abbrev P_put : List Str := ["term", "values"]
theorem sc_put : FnScope N_put P_put (defScope s_put) := ⟨rfl, rfl, rfl, by decide +kernel, rfl, by decide +kernel, by decide +kernel⟩
abbrev s_put_all : Stmt := topS 16
abbrev N_put_all : List Str := ["terms", "values", "term"]
abbrev P_put_all : List Str := ["terms", "values"]
abbrev s_size : Stmt := topS 17
abbrev N_size : List Str := ["terms", "found", "waiting", "term"]
abbrev P_size : List Str := ["terms"]
theorem sc_size : FnScope N_size P_size (defScope s_size) := ⟨rfl, rfl, rfl, by decide +kernel, rfl, by decide +kernel, by decide +kernel⟩
abbrev s_is_move : Stmt := topS 22
abbrev N_is_move : List Str := ["thing", "number"]
abbrev P_is_move : List Str := ["thing"]
theorem sc_is_move : FnScope N_is_move P_is_move (defScope s_is_move) := ⟨rfl, rfl, rfl, by decide +kernel, rfl, by decide +kernel, by decide +kernel⟩
abbrev s_need : Stmt := topS 28
abbrev N_need : List Str := ["holds"]
abbrev P_need : List Str := ["holds"]
theorem sc_need : FnScope N_need P_need (defScope s_need) := ⟨rfl, rfl, rfl, by decide +kernel, rfl, by decide +kernel, by decide +kernel⟩
abbrev s_listed : Stmt := topS 29
abbrev N_listed : List Str := ["terms", "term"]
abbrev P_listed : List Str := ["terms"]
theorem sc_listed : FnScope N_listed P_listed (defScope s_listed) := ⟨rfl, rfl, rfl, by decide +kernel, rfl, by decide +kernel, by decide +kernel⟩
abbrev s_show_term : Stmt := topS 30
abbrev N_show_term : List Str := ["term"]
abbrev P_show_term : List Str := ["term"]
theorem sc_show_term : FnScope N_show_term P_show_term (defScope s_show_term) := ⟨rfl, rfl, rfl, by decide +kernel, rfl, by decide +kernel, by decide +kernel⟩
abbrev s_read_integer : Stmt := topS 31
abbrev N_read_integer : List Str := ["word", "digits", "sign"]
abbrev P_read_integer : List Str := ["word"]
theorem sc_read_integer : FnScope N_read_integer P_read_integer (defScope s_read_integer) := ⟨rfl, rfl, rfl, by decide +kernel, rfl, by decide +kernel, by decide +kernel⟩
abbrev s_tokens_of : Stmt := topS 32
abbrev N_tokens_of : List Str := ["text", "found", "word", "sign"]
abbrev P_tokens_of : List Str := ["text"]
theorem sc_tokens_of : FnScope N_tokens_of P_tokens_of (defScope s_tokens_of) := ⟨rfl, rfl, rfl, by decide +kernel, rfl, by decide +kernel, by decide +kernel⟩
abbrev s_leaf : Stmt := topS 33
abbrev N_leaf : List Str := ["word"]
abbrev P_leaf : List Str := ["word"]
theorem sc_leaf : FnScope N_leaf P_leaf (defScope s_leaf) := ⟨rfl, rfl, rfl, by decide +kernel, rfl, by decide +kernel, by decide +kernel⟩
abbrev s_parsed : Stmt := topS 34
abbrev N_parsed : List Str := ["tokens", "opened", "term", "at", "token"]
abbrev P_parsed : List Str := ["tokens"]
theorem sc_parsed : FnScope N_parsed P_parsed (defScope s_parsed) := ⟨rfl, rfl, rfl, by decide +kernel, rfl, by decide +kernel, by decide +kernel⟩
abbrev s_need_term : Stmt := topS 35
abbrev N_need_term : List Str := ["term"]
abbrev P_need_term : List Str := ["term"]
theorem sc_need_term : FnScope N_need_term P_need_term (defScope s_need_term) := ⟨rfl, rfl, rfl, by decide +kernel, rfl, by decide +kernel, by decide +kernel⟩
abbrev s_read_term : Stmt := topS 36
abbrev N_read_term : List Str := ["text", "term"]
abbrev P_read_term : List Str := ["text"]
theorem sc_read_term : FnScope N_read_term P_read_term (defScope s_read_term) := ⟨rfl, rfl, rfl, by decide +kernel, rfl, by decide +kernel, by decide +kernel⟩
abbrev s_read_listed : Stmt := topS 37
abbrev N_read_listed : List Str := ["text", "terms", "term"]
abbrev P_read_listed : List Str := ["text"]
theorem sc_read_listed : FnScope N_read_listed P_read_listed (defScope s_read_listed) := ⟨rfl, rfl, rfl, by decide +kernel, rfl, by decide +kernel, by decide +kernel⟩
abbrev s_read_move : Stmt := topS 38
abbrev N_read_move : List Str := ["text", "words", "numbers", "variables", "terms", "recipe", "move", "word"]
abbrev P_read_move : List Str := ["text"]
theorem sc_read_move : FnScope N_read_move P_read_move (defScope s_read_move) := ⟨rfl, rfl, rfl, by decide +kernel, rfl, by decide +kernel, by decide +kernel⟩
abbrev s__law_bag : Stmt := topS 40
abbrev N__law_bag : List Str := ["_law_script", "_law_cell"]
abbrev P__law_bag : List Str := ["_law_script"]
theorem sc__law_bag : FnScope N__law_bag P__law_bag (defScope s__law_bag) := ⟨rfl, rfl, rfl, by decide +kernel, rfl, by decide +kernel, by decide +kernel⟩
abbrev s__law_take : Stmt := topS 41
abbrev N__law_take : List Str := ["_law_bag_here", "_law_many", "_law_cell", "_law_mixed", "_law_value", "_law_begin", "_law_second"]
abbrev P__law_take : List Str := ["_law_bag_here", "_law_many"]
theorem sc__law_take : FnScope N__law_take P__law_take (defScope s__law_take) := ⟨rfl, rfl, rfl, by decide +kernel, rfl, by decide +kernel, by decide +kernel⟩
abbrev s__law_alike : Stmt := topS 42
abbrev N__law_alike : List Str := ["_law_found", "_law_due"]
abbrev P__law_alike : List Str := ["_law_found", "_law_due"]
theorem sc__law_alike : FnScope N__law_alike P__law_alike (defScope s__law_alike) := ⟨rfl, rfl, rfl, by decide +kernel, rfl, by decide +kernel, by decide +kernel⟩
abbrev s__law_names : Stmt := topS 43
abbrev N__law_names : List Str := ["_law_bag_here", "_law_many", "_law_letters", "_law_words", "_law_way", "_law_turn", "_law_base", "_law_at", "_law_k"]
abbrev P__law_names : List Str := ["_law_bag_here", "_law_many"]
theorem sc__law_names : FnScope N__law_names P__law_names (defScope s__law_names) := ⟨rfl, rfl, rfl, by decide +kernel, rfl, by decide +kernel, by decide +kernel⟩
abbrev s__law_term : Stmt := topS 44
abbrev N__law_term : List Str := ["_law_bag_here", "_law_names_here", "_law_many", "_law_deep", "_law_way", "_law_name", "_law_parts", "_law_k"]
abbrev P__law_term : List Str := ["_law_bag_here", "_law_names_here", "_law_many", "_law_deep"]
theorem sc__law_term : FnScope N__law_term P__law_term (defScope s__law_term) := ⟨rfl, rfl, rfl, by decide +kernel, rfl, by decide +kernel, by decide +kernel⟩
abbrev s__law_size : Stmt := topS 45
abbrev N__law_size : List Str := ["_law_terms", "_law_term_here"]
abbrev P__law_size : List Str := ["_law_terms"]
theorem sc__law_size : FnScope N__law_size P__law_size (defScope s__law_size) := ⟨rfl, rfl, rfl, by decide +kernel, rfl, by decide +kernel, by decide +kernel⟩
abbrev s__law_is_whole : Stmt := topS 46
abbrev N__law_is_whole : List Str := ["_law_thing", "_law_low", "_law_high"]
abbrev P__law_is_whole : List Str := ["_law_thing", "_law_low", "_law_high"]
theorem sc__law_is_whole : FnScope N__law_is_whole P__law_is_whole (defScope s__law_is_whole) := ⟨rfl, rfl, rfl, by decide +kernel, rfl, by decide +kernel, by decide +kernel⟩
abbrev s__law_is_word : Stmt := topS 47
abbrev N__law_is_word : List Str := ["_law_thing", "_law_sign"]
abbrev P__law_is_word : List Str := ["_law_thing"]
theorem sc__law_is_word : FnScope N__law_is_word P__law_is_word (defScope s__law_is_word) := ⟨rfl, rfl, rfl, by decide +kernel, rfl, by decide +kernel, by decide +kernel⟩
abbrev s__law_is_term : Stmt := topS 48
abbrev N__law_is_term : List Str := ["_law_thing", "_law_many", "_law_pile", "_law_one"]
abbrev P__law_is_term : List Str := ["_law_thing", "_law_many"]
theorem sc__law_is_term : FnScope N__law_is_term P__law_is_term (defScope s__law_is_term) := ⟨rfl, rfl, rfl, by decide +kernel, rfl, by decide +kernel, by decide +kernel⟩
abbrev s__law_are_terms : Stmt := topS 49
abbrev N__law_are_terms : List Str := ["_law_thing", "_law_many", "_law_one"]
abbrev P__law_are_terms : List Str := ["_law_thing", "_law_many"]
theorem sc__law_are_terms : FnScope N__law_are_terms P__law_are_terms (defScope s__law_are_terms) := ⟨rfl, rfl, rfl, by decide +kernel, rfl, by decide +kernel, by decide +kernel⟩
abbrev s__law_term_text : Stmt := topS 50
abbrev N__law_term_text : List Str := ["_law_term_here"]
abbrev P__law_term_text : List Str := ["_law_term_here"]
theorem sc__law_term_text : FnScope N__law_term_text P__law_term_text (defScope s__law_term_text) := ⟨rfl, rfl, rfl, by decide +kernel, rfl, by decide +kernel, by decide +kernel⟩
abbrev s__law_listed_text : Stmt := topS 51
abbrev N__law_listed_text : List Str := ["_law_terms", "_law_term_here"]
abbrev P__law_listed_text : List Str := ["_law_terms"]
theorem sc__law_listed_text : FnScope N__law_listed_text P__law_listed_text (defScope s__law_listed_text) := ⟨rfl, rfl, rfl, by decide +kernel, rfl, by decide +kernel, by decide +kernel⟩
abbrev s__law_move_text : Stmt := topS 52
abbrev N__law_move_text : List Str := ["_law_numbers", "_law_kind", "_law_variables", "_law_terms", "_law_one"]
abbrev P__law_move_text : List Str := ["_law_numbers", "_law_kind", "_law_variables", "_law_terms"]
theorem sc__law_move_text : FnScope N__law_move_text P__law_move_text (defScope s__law_move_text) := ⟨rfl, rfl, rfl, by decide +kernel, rfl, by decide +kernel, by decide +kernel⟩
abbrev s__law_read_number : Stmt := topS 53
abbrev N__law_read_number : List Str := ["_law_word", "_law_digits", "_law_sign"]
abbrev P__law_read_number : List Str := ["_law_word"]
theorem sc__law_read_number : FnScope N__law_read_number P__law_read_number (defScope s__law_read_number) := ⟨rfl, rfl, rfl, by decide +kernel, rfl, by decide +kernel, by decide +kernel⟩
abbrev s__law_cut_word : Stmt := topS 54
abbrev N__law_cut_word : List Str := ["_law_text", "_law_at", "_law_end"]
abbrev P__law_cut_word : List Str := ["_law_text", "_law_at"]
theorem sc__law_cut_word : FnScope N__law_cut_word P__law_cut_word (defScope s__law_cut_word) := ⟨rfl, rfl, rfl, by decide +kernel, rfl, by decide +kernel, by decide +kernel⟩
abbrev s__law_read_at : Stmt := topS 55
abbrev N__law_read_at : List Str := ["_law_text", "_law_at", "_law_word", "_law_end", "_law_found", "_law_parts"]
abbrev P__law_read_at : List Str := ["_law_text", "_law_at"]
theorem sc__law_read_at : FnScope N__law_read_at P__law_read_at (defScope s__law_read_at) := ⟨rfl, rfl, rfl, by decide +kernel, rfl, by decide +kernel, by decide +kernel⟩
abbrev s__law_read_parts : Stmt := topS 56
abbrev N__law_read_parts : List Str := ["_law_text", "_law_at", "_law_found", "_law_sign", "_law_one"]
abbrev P__law_read_parts : List Str := ["_law_text", "_law_at"]
theorem sc__law_read_parts : FnScope N__law_read_parts P__law_read_parts (defScope s__law_read_parts) := ⟨rfl, rfl, rfl, by decide +kernel, rfl, by decide +kernel, by decide +kernel⟩
abbrev s__law_read_term : Stmt := topS 57
abbrev N__law_read_term : List Str := ["_law_text", "_law_found"]
abbrev P__law_read_term : List Str := ["_law_text"]
theorem sc__law_read_term : FnScope N__law_read_term P__law_read_term (defScope s__law_read_term) := ⟨rfl, rfl, rfl, by decide +kernel, rfl, by decide +kernel, by decide +kernel⟩
abbrev s__law_read_listed : Stmt := topS 58
abbrev N__law_read_listed : List Str := ["_law_text", "_law_found", "_law_term_here"]
abbrev P__law_read_listed : List Str := ["_law_text"]
theorem sc__law_read_listed : FnScope N__law_read_listed P__law_read_listed (defScope s__law_read_listed) := ⟨rfl, rfl, rfl, by decide +kernel, rfl, by decide +kernel, by decide +kernel⟩
abbrev s__law_read_move : Stmt := topS 59
abbrev N__law_read_move : List Str := ["_law_text", "_law_words", "_law_numbers", "_law_terms", "_law_word", "_law_one"]
abbrev P__law_read_move : List Str := ["_law_text"]
theorem sc__law_read_move : FnScope N__law_read_move P__law_read_move (defScope s__law_read_move) := ⟨rfl, rfl, rfl, by decide +kernel, rfl, by decide +kernel, by decide +kernel⟩
abbrev s__law_told : Stmt := topS 60
abbrev N__law_told : List Str := ["_law_way", "_law_thing", "_law_found", "e"]
abbrev P__law_told : List Str := ["_law_way", "_law_thing"]
theorem sc__law_told : FnScope N__law_told P__law_told (defScope s__law_told) := ⟨rfl, rfl, rfl, by decide +kernel, rfl, by decide +kernel, by decide +kernel⟩
abbrev s__law_bent : Stmt := topS 61
abbrev N__law_bent : List Str := ["_law_bag_here", "_law_text", "_law_at", "_law_way", "_law_sign"]
abbrev P__law_bent : List Str := ["_law_bag_here", "_law_text"]
theorem sc__law_bent : FnScope N__law_bent P__law_bent (defScope s__law_bent) := ⟨rfl, rfl, rfl, by decide +kernel, rfl, by decide +kernel, by decide +kernel⟩
abbrev s__law_chain : Stmt := topS 62
abbrev N__law_chain : List Str := ["_law_name", "_law_many", "_law_third", "_law_parts", "_law_one"]
abbrev P__law_chain : List Str := ["_law_name", "_law_many"]
theorem sc__law_chain : FnScope N__law_chain P__law_chain (defScope s__law_chain) := ⟨rfl, rfl, rfl, by decide +kernel, rfl, by decide +kernel, by decide +kernel⟩
abbrev s__law_move_of : Stmt := topS 63
abbrev N__law_move_of : List Str := ["_law_texts"]
abbrev P__law_move_of : List Str := ["_law_texts"]
theorem sc__law_move_of : FnScope N__law_move_of P__law_move_of (defScope s__law_move_of) := ⟨rfl, rfl, rfl, by decide +kernel, rfl, by decide +kernel, by decide +kernel⟩
abbrev s__law_great_right : Stmt := topS 64
abbrev N__law_great_right : List Str := ["_law_many", "_law_text", "_law_term_here", "_law_k", "_law_bad"]
abbrev P__law_great_right : List Str := []
theorem sc__law_great_right : FnScope N__law_great_right P__law_great_right (defScope s__law_great_right) := ⟨rfl, rfl, rfl, by decide +kernel, rfl, by decide +kernel, by decide +kernel⟩
abbrev s__law_numbers_refused : Stmt := topS 65
abbrev N__law_numbers_refused : List Str := ["_law_words", "_law_at", "_law_number"]
abbrev P__law_numbers_refused : List Str := []
theorem sc__law_numbers_refused : FnScope N__law_numbers_refused P__law_numbers_refused (defScope s__law_numbers_refused) := ⟨rfl, rfl, rfl, by decide +kernel, rfl, by decide +kernel, by decide +kernel⟩
abbrev s_law : Stmt := topS 66
abbrev N_law : List Str := ["_law_script", "_law_bag_here", "_law_odd", "_law_turn", "_law_operations", "_law_way", "_law_text", "_law_variables", "_law_terms", "_law_numbers", "_law_kind", "_law_again", "_law_thing", "_law_mine", "_law_due", "_law_inner", "_law_k"]
abbrev P_law : List Str := ["_law_script"]
theorem sc_law : FnScope N_law P_law (defScope s_law) := ⟨rfl, rfl, rfl, by decide +kernel, rfl, by decide +kernel, by decide +kernel⟩
abbrev s_Recipe___init__ : Stmt := inClass (topS 19) 1
abbrev N_Recipe___init__ : List Str := ["self", "variables", "terms", "term"]
abbrev P_Recipe___init__ : List Str := ["self", "variables", "terms"]
theorem sc_Recipe___init__ : FnScope N_Recipe___init__ P_Recipe___init__ (defScope s_Recipe___init__) := ⟨rfl, rfl, rfl, by decide +kernel, rfl, by decide +kernel, by decide +kernel⟩
abbrev s_Recipe_variables : Stmt := inClass (topS 19) 2
abbrev N_Recipe_variables : List Str := ["self"]
abbrev P_Recipe_variables : List Str := ["self"]
theorem sc_Recipe_variables : FnScope N_Recipe_variables P_Recipe_variables (defScope s_Recipe_variables) := ⟨rfl, rfl, rfl, by decide +kernel, rfl, by decide +kernel, by decide +kernel⟩
abbrev s_Recipe_terms : Stmt := inClass (topS 19) 3
abbrev N_Recipe_terms : List Str := ["self"]
abbrev P_Recipe_terms : List Str := ["self"]
theorem sc_Recipe_terms : FnScope N_Recipe_terms P_Recipe_terms (defScope s_Recipe_terms) := ⟨rfl, rfl, rfl, by decide +kernel, rfl, by decide +kernel, by decide +kernel⟩
abbrev s_Recipe_keeping : Stmt := inClass (topS 19) 4
abbrev N_Recipe_keeping : List Str := ["many"]
abbrev P_Recipe_keeping : List Str := ["many"]
abbrev s_Recipe___call__ : Stmt := inClass (topS 19) 5
abbrev N_Recipe___call__ : List Str := ["self", "values"]
abbrev P_Recipe___call__ : List Str := ["self", "values"]
abbrev s_Recipe___mul__ : Stmt := inClass (topS 19) 6
abbrev N_Recipe___mul__ : List Str := ["self", "other"]
abbrev P_Recipe___mul__ : List Str := ["self", "other"]
abbrev s_Recipe___eq__ : Stmt := inClass (topS 19) 7
abbrev N_Recipe___eq__ : List Str := ["self", "other"]
abbrev P_Recipe___eq__ : List Str := ["self", "other"]
abbrev s_Recipe___len__ : Stmt := inClass (topS 19) 8
abbrev N_Recipe___len__ : List Str := ["self"]
abbrev P_Recipe___len__ : List Str := ["self"]
abbrev s_Recipe___repr__ : Stmt := inClass (topS 19) 9
abbrev N_Recipe___repr__ : List Str := ["self"]
abbrev P_Recipe___repr__ : List Str := ["self"]
structure TX (K : PySem.W.Frag) (mg : Str → Option Value) where
  d__wall : DefAt K mg "_wall" s__wall P__wall
  d_is_integer : DefAt K mg "is_integer" s_is_integer P_is_integer
  d_is_name : DefAt K mg "is_name" s_is_name P_is_name
  d_is_term : DefAt K mg "is_term" s_is_term P_is_term
  d_is_term_over : DefAt K mg "is_term_over" s_is_term_over P_is_term_over
  d_put : DefAt K mg "put" s_put P_put
  d_put_all : DefAt K mg "put_all" s_put_all P_put_all
  d_size : DefAt K mg "size" s_size P_size
  d_is_move : DefAt K mg "is_move" s_is_move P_is_move
  d_need : DefAt K mg "need" s_need P_need
  d_listed : DefAt K mg "listed" s_listed P_listed
  d_show_term : DefAt K mg "show_term" s_show_term P_show_term
  d_read_integer : DefAt K mg "read_integer" s_read_integer P_read_integer
  d_tokens_of : DefAt K mg "tokens_of" s_tokens_of P_tokens_of
  d_leaf : DefAt K mg "leaf" s_leaf P_leaf
  d_parsed : DefAt K mg "parsed" s_parsed P_parsed
  d_need_term : DefAt K mg "need_term" s_need_term P_need_term
  d_read_term : DefAt K mg "read_term" s_read_term P_read_term
  d_read_listed : DefAt K mg "read_listed" s_read_listed P_read_listed
  d_read_move : DefAt K mg "read_move" s_read_move P_read_move
  d__law_bag : DefAt K mg "_law_bag" s__law_bag P__law_bag
  d__law_take : DefAt K mg "_law_take" s__law_take P__law_take
  d__law_alike : DefAt K mg "_law_alike" s__law_alike P__law_alike
  d__law_names : DefAt K mg "_law_names" s__law_names P__law_names
  d__law_term : DefAt K mg "_law_term" s__law_term P__law_term
  d__law_size : DefAt K mg "_law_size" s__law_size P__law_size
  d__law_is_whole : DefAt K mg "_law_is_whole" s__law_is_whole P__law_is_whole
  d__law_is_word : DefAt K mg "_law_is_word" s__law_is_word P__law_is_word
  d__law_is_term : DefAt K mg "_law_is_term" s__law_is_term P__law_is_term
  d__law_are_terms : DefAt K mg "_law_are_terms" s__law_are_terms P__law_are_terms
  d__law_term_text : DefAt K mg "_law_term_text" s__law_term_text P__law_term_text
  d__law_listed_text : DefAt K mg "_law_listed_text" s__law_listed_text P__law_listed_text
  d__law_move_text : DefAt K mg "_law_move_text" s__law_move_text P__law_move_text
  d__law_read_number : DefAt K mg "_law_read_number" s__law_read_number P__law_read_number
  d__law_cut_word : DefAt K mg "_law_cut_word" s__law_cut_word P__law_cut_word
  d__law_read_at : DefAt K mg "_law_read_at" s__law_read_at P__law_read_at
  d__law_read_parts : DefAt K mg "_law_read_parts" s__law_read_parts P__law_read_parts
  d__law_read_term : DefAt K mg "_law_read_term" s__law_read_term P__law_read_term
  d__law_read_listed : DefAt K mg "_law_read_listed" s__law_read_listed P__law_read_listed
  d__law_read_move : DefAt K mg "_law_read_move" s__law_read_move P__law_read_move
  d__law_told : DefAt K mg "_law_told" s__law_told P__law_told
  d__law_bent : DefAt K mg "_law_bent" s__law_bent P__law_bent
  d__law_chain : DefAt K mg "_law_chain" s__law_chain P__law_chain
  d__law_move_of : DefAt K mg "_law_move_of" s__law_move_of P__law_move_of
  d__law_great_right : DefAt K mg "_law_great_right" s__law_great_right P__law_great_right
  d__law_numbers_refused : DefAt K mg "_law_numbers_refused" s__law_numbers_refused P__law_numbers_refused
  d_law : DefAt K mg "law" s_law P_law
  C_Recipe : Addr
  g_Recipe : mg "Recipe" = some (.ref C_Recipe)
  k_Recipe : PySem.W.keepIn K (.ref C_Recipe) = true
  c_Recipe : SCls K C_Recipe
  mk_Recipe : PySem.W.makesIn K C_Recipe = true
  is_Recipe : SIsi K C_Recipe
  ne_Recipe : PySem.W.findIn K (.ref C_Recipe) "__ne__" = some (some (.builtin "object.__ne__"))
  ty_Recipe : PySem.W.typeIn K (.ref C_Recipe) = some (.type "type")
  p_Recipe_its_terms : Addr
  sl_Recipe_its_terms : Slot1 K C_Recipe "its_terms" p_Recipe_its_terms 0
  p_Recipe_its_variables : Addr
  sl_Recipe_its_variables : Slot1 K C_Recipe "its_variables" p_Recipe_its_variables 1
  d_Recipe___init__ : MethAt K C_Recipe "__init__" "Recipe.__init__" s_Recipe___init__ P_Recipe___init__
  d_Recipe_variables : PropAt K C_Recipe "variables" "Recipe.variables" s_Recipe_variables P_Recipe_variables
  d_Recipe_terms : PropAt K C_Recipe "terms" "Recipe.terms" s_Recipe_terms P_Recipe_terms
  d_Recipe_keeping : StatAt K C_Recipe "keeping" "Recipe.keeping" s_Recipe_keeping P_Recipe_keeping
  d_Recipe___call__ : MethAt K C_Recipe "__call__" "Recipe.__call__" s_Recipe___call__ P_Recipe___call__
  d_Recipe___mul__ : MethAt K C_Recipe "__mul__" "Recipe.__mul__" s_Recipe___mul__ P_Recipe___mul__
  d_Recipe___eq__ : MethAt K C_Recipe "__eq__" "Recipe.__eq__" s_Recipe___eq__ P_Recipe___eq__
  d_Recipe___len__ : MethAt K C_Recipe "__len__" "Recipe.__len__" s_Recipe___len__ P_Recipe___len__
  d_Recipe___repr__ : MethAt K C_Recipe "__repr__" "Recipe.__repr__" s_Recipe___repr__ P_Recipe___repr__
  mul_Recipe : PySem.W.selfFirst K C_Recipe = true
  nl_Recipe : PySem.W.subIn K (.ref C_Recipe) (.type "list") = some false
  nt_Recipe : PySem.W.subIn K (.ref C_Recipe) (.type "tuple") = some false
  b_ValueError : mg "ValueError" = none
  b_abs : mg "abs" = none
  b_all : mg "all" = none
  b_bool : mg "bool" = none
  b_int : mg "int" = none
  b_isinstance : mg "isinstance" = none
  b_len : mg "len" = none
  b_list : mg "list" = none
  b_range : mg "range" = none
  b_repr : mg "repr" = none
  b_str : mg "str" = none
  b_sum : mg "sum" = none
  b_tuple : mg "tuple" = none
  v_LETTERS : Value
  c_LETTERS : mg "LETTERS" = some v_LETTERS
  r_LETTERS : RelV (.str "abcdefghijklmnopqrstuvwxyz") v_LETTERS
  v_MOST_LETTERS : Value
  c_MOST_LETTERS : mg "MOST_LETTERS" = some v_MOST_LETTERS
  r_MOST_LETTERS : RelV (.int 8) v_MOST_LETTERS
  v_MOST_PARTS : Value
  c_MOST_PARTS : mg "MOST_PARTS" = some v_MOST_PARTS
  r_MOST_PARTS : RelV (.int 3) v_MOST_PARTS
  a_KINDS : Addr
  c_KINDS : mg "KINDS" = some (.ref a_KINDS)
  q_KINDS : ∀ H : Hp, SqT K H a_KINDS [.str "may", .str "must"]
  v_DIGITS : Value
  c_DIGITS : mg "DIGITS" = some v_DIGITS
  r_DIGITS : RelV (.str "0123456789") v_DIGITS
  v_SIGNS : Value
  c_SIGNS : mg "SIGNS" = some v_SIGNS
  r_SIGNS : RelV (.str "(,)") v_SIGNS
  v_MOST_DIGITS : Value
  c_MOST_DIGITS : mg "MOST_DIGITS" = some v_MOST_DIGITS
  r_MOST_DIGITS : RelV (.int 40) v_MOST_DIGITS
  v_MOST_OPERATIONS : Value
  c_MOST_OPERATIONS : mg "MOST_OPERATIONS" = some v_MOST_OPERATIONS
  r_MOST_OPERATIONS : RelV (.int 200) v_MOST_OPERATIONS
structure TY (P : Program) (K : PySem.W.Frag) (mg : Str → Option Value) where
  C_MoveError : Addr
  x_MoveError : ExN K mg "MoveError" C_MoveError
  C_Wrong : Addr
  x_Wrong : ExT P K mg "Wrong" "place" C_Wrong
  C_Unlike : Addr
  x_Unlike : ExZ K mg "Unlike" C_Unlike
  C_NoText : Addr
  x_NoText : ExZ K mg "NoText" C_NoText
  xc_Wrong : ExcC K C_Wrong
  xc_Unlike : ExcC K C_Unlike
  xc_NoText : ExcC K C_NoText
  ed_Unlike_Wrong : PySem.W.kitOne K (.ref C_Unlike) (.ref C_Wrong) = some false
  ev_Wrong : PySem.W.kitOne K (.ref C_Wrong) (.type "ValueError") = some true
  ev_NoText : PySem.W.kitOne K (.ref C_NoText) (.type "ValueError") = some true
  em_Wrong_MoveError : PySem.W.exmOne K (.ref C_Wrong) (.ref C_MoveError) = some true
  em_Unlike_MoveError : PySem.W.exmOne K (.ref C_Unlike) (.ref C_MoveError) = some true
  em_NoText_MoveError : PySem.W.exmOne K (.ref C_NoText) (.ref C_MoveError) = some true
end Fm
namespace Fm
open PySem PySem.Spec PyProof.Rows L2
section
variable {P : Program} {w : World} {K : PySem.W.Frag} {mg : Str → Option Value} {base : Heap}
def sp_bag (K : PySem.W.Frag) : Sp := fun vs H Q _ => ∃ (a : Addr) (ns : List Int), vs = [.ref a] ∧ SqL K H a (ns.map V.int) ∧ ns.length ≤ 63 ∧ ∀ H' p, Mv [] H H' → H p = none → Bag H' p → Q (.ref p) H'
theorem cut63 (xs : List V) (h : xs.length ≤ 63) : cutV xs none (some 63) = xs := by
  unfold cutV
  rw [HT.sIx_none, show HT.sIx xs.length xs.length (some 63) = min 63 xs.length from HT.sIx_nat xs.length xs.length 63, List.drop_zero, List.take_of_length_le (by omega)]
theorem ok__law_bag (T : TX K mg) {k : Nat} : FnOk P w K mg base CX0 (k + 1) T.d__law_bag.f T.d__law_bag.fd P__law_bag (sp_bag K) := by
  refine T.d__law_bag.F.ok sc__law_bag (fun vs H Q E h => ?_) (fun cdv A outer s H vs Q E hr h => ?_)
  · obtain ⟨a, ns, rfl, _⟩ := h
    rfl
  · obtain ⟨a, ns, rfl, hS, hl, q⟩ := h
    refine ⟨_, (pss_one (ps_ret (pe_lst (pa_cons pe_int (pa_cons pe_int (pa_cons pe_int (pa_cons (pe_lc (own := [("_law_cell", 1)]) (g := gName 1) (by rfl) sc__law_bag.nd (pi_seq (pe_slice (r := rSlG K) sl_G (pv 0) po_none (po_some pe_int))) (blkOk_by (own := [("_law_cell", 1)]) (N := N__law_bag) (sc := defScope s__law_bag) (by decide +kernel)) (fun _ _ _ _ _ => pg_name (i := 1) sc__law_bag.nd rfl (Or.inl rfl)) (fun _ _ _ _ _ => pts_nil) (fun _ _ _ _ _ => (pe_callB call_abs (by rfl) T.b_abs bt_abs (pa_cons (pv 1) pa_nil)))) pa_nil))))))), ?_⟩
    refine ⟨.ref a, rfl, 63, rfl, Or.inl ⟨a, _, rfl, hS, fun c nc => ⟨c, rfl, Or.inl ⟨⟨_, .inl (.inl upd_same)⟩, fun D nD => ?_⟩⟩⟩⟩
    have hlen : (ns.map V.int).length ≤ 63 := by rw [List.length_map]; exact hl
    rw [cut63 _ hlen] at nD ⊢
    refine lc_list (K := K) (a := c) (xs := ns.map V.int) (fun i H3 => ∃ ms : List Int, H3 c = some (.lst (ns.map V.int)) ∧ H3 D = some (.lst (ms.map V.int)) ∧ ms.length = i ∧ (∀ n ∈ ms, 0 ≤ n) ∧ Mv [] H H3)
      ⟨[], ?_, upd_same, rfl, by simp, ?_⟩ (fun i H3 _ h3 => ?_) (fun i x H3 hx h3 => ?_) (fun H3 h3 => ?_)
    · rw [upd_ne (ne_of_none upd_same nD), upd_same]
    · exact (Mv.new nc).trans (.new nD)
    · obtain ⟨ms, h1, _⟩ := h3
      exact .inl (.inl h1)
    · obtain ⟨ms, h1, h2, h4, h5, h6⟩ := h3
      obtain ⟨n, hn, rfl⟩ : ∃ n ∈ ns, x = .int n := by
        have := List.mem_of_getElem? hx
        obtain ⟨n, hn, e⟩ := List.mem_map.mp this
        exact ⟨n, hn, e.symm⟩
      have hDc : c ≠ D := ne_of_none upd_same nD
      refine ⟨rfl, .int n, rfl, n, rfl, _, h2, ?_, ms ++ [if n < 0 then -n else n], ?_, ?_, ?_, ?_, ?_⟩
      · rw [List.length_map]
        have := (List.getElem?_eq_some_iff.mp hx).1
        rw [List.length_map] at this
        exact small1000 (by omega)
      · rw [upd_ne hDc]
        exact h1
      · rw [upd_same, List.map_append]
        rfl
      · simp [h4]
      · intro z hz
        rcases List.mem_append.mp hz with hz | hz
        · exact h5 z hz
        · rw [List.mem_singleton.mp hz]
          split <;> omega
      · exact h6.wr ((Mv.new nc).free nD)
    · obtain ⟨ms, h1, h2, h4, h5, h6⟩ := h3
      refine ⟨(by decide : 4 ≤ sizeLine), fun p np => q _ p (h6.trans (.new np)) (h6.free np) ⟨D, 0, 1234567891, 0, ms, upd_same, ?_, ?_, h5, by decide, by decide, by decide⟩⟩
      · rw [upd_ne (ne_of_none h2 np)]
        exact h2
      · rw [h4, List.length_map]
        exact hl
def sp_take : Sp := fun vs H Q _ => ∃ (b : Addr) (n : Int), vs = [.ref b, .int n] ∧ Bag H b ∧ 0 < n ∧ n ≤ 1000000 ∧ ∀ (i : Int) H', 0 ≤ i → i < n → Dr b H H' → Q (.int i) H'
theorem Bag.set {H : Hp} {b c : Addr} {ns : List Int} {s m k : Int} {xs : List V} (hb : H b = some (.lst xs)) (hc : H c = some (.lst (ns.map V.int))) (hcb : c ≠ b)
    (hl : ns.length ≤ 63) (hn : ∀ n ∈ ns, 0 ≤ n) (h1 : 0 ≤ s) (h2 : 0 ≤ k) (h3 : 0 ≤ m) : BagC (upd H b (.lst [.int s, .int m, .int k, .ref c])) b c :=
  ⟨s, m, k, ns, upd_same, by rw [upd_ne hcb]; exact hc, hl, hn, h1, h2, h3⟩
theorem rd_set {p : Addr} {xs ys : List V} {k : Int} {j : Nat} {v : V} {H : Hp} {Q : Hp → Prop} (hp : H p = some (.lst xs)) (hj : ixN xs.length k = some j) (hy : xs.set j v = ys)
    (h : ∀ H', H' p = some (.lst ys) → Mv [p] H H' → (∀ a, a ≠ p → H' a = H a) → Q H') : rSetL (.ref p) (.int k) v H Q := by
  refine ⟨p, xs, k, j, rfl, rfl, hp, hj, ?_⟩
  rw [hy]
  exact h _ upd_same (.set hp (by simp)) fun a ha => upd_ne ha
theorem ok__law_take (T : TX K mg) {k : Nat} : FnOk P w K mg base CX0 (k + 1) T.d__law_take.f T.d__law_take.fd P__law_take sp_take := by
  refine T.d__law_take.F.ok sc__law_take (fun vs H Q E h => ?_) (fun cdv A outer s H vs Q E hr h => ?_)
  · obtain ⟨a, ns, rfl, _⟩ := h
    rfl
  · obtain ⟨b, n, rfl, hB, h0, h1, q⟩ := h
    have hu64 := hr.units
    refine ⟨_, (Evl.pss_cut (ps_if (pt_cmpR (r := rEqG K) (op_eqG hu64) (pe_ix (r := rIx K) ix_seq (pv 0) pe_int (fun _ _ => rfl)) pe_int (nomark _)) (pss_cons (ps_set (i := 2) sc__law_take.nd rfl (Or.inl rfl) pe_int) (Evl.pss_cut (ps_if (pt_cmpR op_lt (pe_ix (r := rIx K) ix_seq (pv 0) pe_int (fun _ _ => rfl)) (pe_callB (r := rLenG K) call_lenG (by rfl) T.b_len bt_len (pa_cons (pe_ix (r := rIx K) ix_seq (pv 0) pe_int (fun _ _ => rfl)) pa_nil)) (nomark _)) (pss_one (ps_set (i := 2) sc__law_take.nd rfl (Or.inl rfl) (pe_ix (r := rIx K) ix_seq (pe_ix (r := rIx K) ix_seq (pv 0) pe_int (fun _ _ => rfl)) (pe_ix (r := rIx K) ix_seq (pv 0) pe_int (fun _ _ => rfl)) (fun _ _ => rfl)))) pss_nil) (pss_cons (ps_augS (pv 0) pe_int get_G pe_int ip_add set_list) (Evl.pss_cut (ps_if (pt_cmpR op_ge (pv 2) pe_int (nomark _)) (pss_one (ps_asg (pv 2) (pg_sub (pv 0) pe_int set_list))) pss_nil) (pss_cons (ps_set (i := 3) sc__law_take.nd rfl (Or.inl rfl) (pe_op (r := rAddG K) op_addG (pe_op (r := rAddG K) op_addG (pe_op op_mulG (pe_ix (r := rIx K) ix_seq (pv 0) pe_int (fun _ _ => rfl)) pe_int) (pe_op op_mod (pe_callTy call_int1 (by rfl) T.b_int bt_int (pa_cons (pv 2) pa_nil)) pe_int)) (pe_op op_mulG pe_int (pe_ix (r := rIx K) ix_seq (pv 0) pe_int (fun _ _ => rfl))))) (pss_one (ps_asg (pe_op op_mod (pe_callTy call_int1 (by rfl) T.b_int bt_int (pa_cons (pv 3) pa_nil)) pe_int) (pg_sub (pv 0) pe_int set_list)))))))) pss_nil) (pss_cons (ps_if (pt_cmpR op_gt (pe_ix (r := rIx K) ix_seq (pv 0) pe_int (fun _ _ => rfl)) pe_int (nomark _)) (pss_cons (ps_set (i := 4) sc__law_take.nd rfl (Or.inl rfl) (pe_op op_mod (pe_callTy call_int1 (by rfl) T.b_int bt_int (pa_cons (pe_ix (r := rIx K) ix_seq (pv 0) pe_int (fun _ _ => rfl)) pa_nil)) (pv 1))) (pss_cons (ps_asg (pe_op op_fdivW (pe_ix (r := rIx K) ix_seq (pv 0) pe_int (fun _ _ => rfl)) (pv 1)) (pg_sub (pv 0) pe_int set_list)) (pss_one (ps_ret (pv 4))))) pss_nil) (pss_cons (ps_set (i := 5) sc__law_take.nd rfl (Or.inl rfl) (pe_op op_mod (pe_callTy call_int1 (by rfl) T.b_int bt_int (pa_cons (pe_op op_mulG (pe_op (r := rAddG K) op_addG (pe_ix (r := rIx K) ix_seq (pv 0) pe_int (fun _ _ => rfl)) pe_int) pe_int) pa_nil)) pe_int)) (pss_cons (ps_set (i := 6) sc__law_take.nd rfl (Or.inl rfl) (pe_op op_mod (pe_callTy call_int1 (by rfl) T.b_int bt_int (pa_cons (pe_op op_mulG (pe_op op_mod (pe_callTy call_int1 (by rfl) T.b_int bt_int (pa_cons (pe_op op_mulG (pv 5) (pv 5)) pa_nil)) pe_int) pe_int) pa_nil)) pe_int)) (pss_cons (ps_if (pt_cmpR op_gt (pv 1) pe_int (nomark _)) (pss_one (ps_ret (pe_op op_mod (pe_callTy call_int1 (by rfl) T.b_int bt_int (pa_cons (pe_op (r := rAddG K) op_addG (pe_op op_mulG (pv 6) pe_int) (pv 5)) pa_nil)) (pv 1)))) pss_nil) (pss_one (ps_ret (pe_op op_mod (pe_callTy call_int1 (by rfl) T.b_int bt_int (pa_cons (pe_op op_fdivW (pv 6) pe_int) pa_nil)) (pv 1))))))))), ?_⟩
    obtain ⟨c, hB⟩ := hB
    have hBC := hB
    obtain ⟨z, m, j, ns, eb, ec, hl, hn, hz, hj, hm⟩ := hB
    have hcb : c ≠ b := Bag.ne (xs := [.int z, .int m, .int j]) eb ec
    have sq : ∀ {H : Hp} {xs : List V}, H b = some (.lst xs) → SqL K H b xs := fun h => .inl (.inl h)
    refine ⟨fun σ H1 => ∃ y2 y3 y4 y5 y6, σ = [some (.ref b), some (.int n), y2, y3, y4, y5, y6] ∧ Dr b H H1 ∧ BagC H1 b c, ?_, fun σ H1 hM => ?_⟩
    · refine ⟨.ref b, rfl, Or.inl ⟨b, _, 0, .int z, rfl, rfl, sq eb, rfl, Or.inl ⟨rfl, _, rfl, ite2 (fun e => ?_) (fun e => ?_)⟩⟩⟩
      · -- cell = 0; the next cell
        refine ⟨fun σ H1 => ∃ x : Int, 0 ≤ x ∧ σ = [some (.ref b), some (.int n), some (.int x), none, none, none, none] ∧ H1 = H, ?_, fun σ H1 hM => ?_⟩
        · refine ⟨.ref b, rfl, Or.inl ⟨b, _, 2, .int j, rfl, rfl, sq eb, rfl, .ref b, rfl, Or.inl ⟨b, _, 3, .ref c, rfl, rfl, sq eb, rfl, Or.inl ⟨c, _, rfl, .inl (.inl (.inl ec)), j, _, rfl, rfl, _, rfl, ite2 (fun e => ?_) (fun e => ?_)⟩⟩⟩⟩
          · have e' : j < (ns.map V.int).length := of_decide_eq_true e
            obtain ⟨i, rfl⟩ := Int.eq_ofNat_of_zero_le hj
            have hi : i < ns.length := by
              rw [List.length_map] at e'
              omega
            have gi : (ns.map V.int)[i]? = some (.int ns[i]) := by
              rw [List.getElem?_map, List.getElem?_eq_getElem hi]
              rfl
            refine ⟨.ref b, rfl, Or.inl ⟨b, _, 3, .ref c, rfl, rfl, sq eb, rfl, .ref b, rfl, Or.inl ⟨b, _, 2, .int (i : Int), rfl, rfl, sq eb, rfl, Or.inl ⟨c, _, _, .int ns[i], rfl, rfl, .inl (.inl ec), atI_nat gi, ?_⟩⟩⟩⟩
            exact ⟨ns[i], hn _ (List.getElem_mem hi), rfl, rfl⟩
          · exact ⟨0, Int.le_refl _, rfl, rfl⟩
        · obtain ⟨x, hx, rfl, rfl⟩ := hM
          refine ⟨.ref b, rfl, b, _, 2, .int j, rfl, rfl, sq eb, rfl, j, 1, rfl, rfl, rd_set eb rfl rfl fun H2 eb2 m1 k1 => ?_⟩
          have ec2 : H2 c = some (.lst (ns.map V.int)) := by rw [k1 c hcb]; exact ec
          refine ⟨fun σ H3 => ∃ z' : Int, 0 ≤ z' ∧ σ = [some (.ref b), some (.int n), some (.int x), none, none, none, none] ∧ H3 b = some (.lst [.int z', .int m, .int (j + 1), .ref c]) ∧ H3 c = some (.lst (ns.map V.int)) ∧ Mv [b] H2 H3, ?_, fun σ H3 hM => ?_⟩
          · refine ⟨.int x, rfl, x, _, rfl, rfl, _, rfl, ite2 (fun e => ?_) (fun e => ?_)⟩
            · refine ⟨.int x, rfl, .ref b, rfl, b, _, 0, 0, rfl, rfl, eb2, rfl, x, hx, rfl, upd_same, ?_, .set eb2 (by simp)⟩
              rw [upd_ne hcb]
              exact ec2
            · exact ⟨z, hz, rfl, eb2, ec2, .refl⟩
          · obtain ⟨z', hz', rfl, eb3, ec3, m3⟩ := hM
            refine ⟨.ref b, rfl, Or.inl ⟨b, _, 1, .int m, rfl, rfl, sq eb3, rfl, Or.inl ⟨m, 48271, rfl, rfl, .inr ⟨by decide, by decide⟩, .int x, rfl, Or.inl ⟨x, rfl, x, _, rfl, rfl, (by decide : (0 : Int) < _), ?_⟩⟩⟩⟩
            refine Or.inl ⟨_, _, rfl, rfl, .ref b, rfl, Or.inl ⟨b, _, 2, .int (j + 1), rfl, rfl, sq eb3, rfl, Or.inl ⟨7919, j + 1, rfl, rfl, .inl ⟨by decide, by decide⟩, Or.inl ⟨_, _, rfl, rfl, ?_⟩⟩⟩⟩
            refine ⟨_, rfl, Or.inl ⟨_, rfl, _, _, rfl, rfl, (by decide : (0 : Int) < _), .ref b, rfl, b, _, 1, 1, rfl, rfl, eb3, rfl, _, _, _, _, _, rfl, ?_, ?_⟩⟩
            · exact .mkc ((m1.trans m3).trans (.set eb3 (by simp))) hBC (Bag.set eb3 ec3 hcb hl hn hz' (by omega) (Int.emod_nonneg _ (by decide)))
            · exact Bag.set eb3 ec3 hcb hl hn hz' (by omega) (Int.emod_nonneg _ (by decide))
      · exact ⟨_, _, _, _, _, rfl, .refl, z, m, j, ns, eb, ec, hl, hn, hz, hj, hm⟩
    · obtain ⟨y2, y3, y4, y5, y6, rfl, hD, hB⟩ := hM
      have hBC1 := hB
      obtain ⟨z, m, j, ns, eb, ec, hl, hn, hz, hj, hm⟩ := hB
      have hcb : c ≠ b := Bag.ne (xs := [.int z, .int m, .int j]) eb ec
      refine ⟨.ref b, rfl, Or.inl ⟨b, _, 0, .int z, rfl, rfl, sq eb, rfl, z, 0, rfl, rfl, _, rfl, ite2 (fun e => ?_) (fun e => ?_)⟩⟩
      · -- value = int(bag[0]) % many; bag[0] = bag[0] // many; return value
        refine ⟨.ref b, rfl, Or.inl ⟨b, _, 0, .int z, rfl, rfl, sq eb, rfl, Or.inl ⟨z, rfl, .int n, rfl, z, n, rfl, rfl, h0, ?_⟩⟩⟩
        refine ⟨.ref b, rfl, Or.inl ⟨b, _, 0, .int z, rfl, rfl, sq eb, rfl, .int n, rfl, z, n, rfl, rfl, ?_, ?_⟩⟩
        · exact wide_div (b := 64) h0 (by omega) (by decide) (by decide)
        · refine ⟨.ref b, rfl, b, _, 0, 0, rfl, rfl, eb, rfl, ?_⟩
          refine ⟨.int (z % n), rfl, q _ _ (Int.emod_nonneg z (by omega)) (Int.emod_lt_of_pos z h0) (hD.trans (.mkc (.set eb (by simp)) hBC1 ?_))⟩
          exact Bag.set eb ec hcb hl hn (Int.ediv_nonneg hz (by omega)) hj hm
      · refine ⟨.ref b, rfl, Or.inl ⟨b, _, 1, .int m, rfl, rfl, sq eb, rfl, Or.inl ⟨m, 1, rfl, rfl, Or.inl ⟨_, _, rfl, rfl, .inr ⟨by decide, by decide⟩, Or.inl ⟨_, rfl, _, _, rfl, rfl, (by decide : (0 : Int) < _), ?_⟩⟩⟩⟩⟩
        have hx0 : 0 ≤ (m + 1) * 39373 % 1000000007 := Int.emod_nonneg _ (by decide)
        have hx1 : (m + 1) * 39373 % 1000000007 < 1000000007 := Int.emod_lt_of_pos _ (by decide)
        refine ⟨_, rfl, _, rfl, Or.inl ⟨(m + 1) * 39373 % 1000000007, (m + 1) * 39373 % 1000000007, rfl, rfl, .inl ⟨by omega, by omega⟩, Or.inl ⟨_, rfl, _, _, rfl, rfl, (by decide : (0 : Int) < _), Or.inl ⟨_, _, rfl, rfl, .inr ⟨by decide, by decide⟩, Or.inl ⟨_, rfl, _, _, rfl, rfl, (by decide : (0 : Int) < _), ?_⟩⟩⟩⟩⟩
        refine ⟨.int n, rfl, n, _, rfl, rfl, _, rfl, ite2 (fun e => ?_) (fun e => ?_)⟩
        · exact absurd (of_decide_eq_true e) (by omega)
        · refine ⟨_, rfl, _, 7, rfl, rfl, ⟨by decide, by decide⟩, Or.inl ⟨_, rfl, .int n, rfl, _, n, rfl, rfl, h0, ?_⟩⟩
          exact q _ _ (Int.emod_nonneg _ (by omega)) (Int.emod_lt_of_pos _ h0) hD
end
end Fm
namespace Fm
open PySem PySem.Spec PyProof.Rows L2
def sp_names : Sp := fun vs H Q _ => ∃ (b : Addr) (n : Nat), vs = [.ref b, .int n] ∧ Bag H b ∧ 0 < n ∧ n ≤ 12 ∧
  ∀ (p : Addr) (xs : List Str) H', xs.length = n → (∀ x ∈ xs, Nm x) → H p = none → H' p = some (.lst (xs.map V.str)) → Dr b H H' → Q (.ref p) H'
theorem rd_split {X : Cx} {a b : Str} {H : Hp} {Q : VK} (P : List Str → Bool) (hP : P (Txt.split a b) = true)
    (h : ∀ p ws H', P ws = true → H p = none → H' p = some (.lst (ws.map V.str)) → Mv [] H H' → Q (.ref p) H') : rNewStrs (Txt.split a b) H Q :=
  fun p np => h p _ _ hP np upd_same (.new np)
theorem str_len_append (x y : Str) : (x ++ y).length = x.length + y.length := by first | exact strLen_append x y | (show (x.cps ++ y.cps).size = _; simp [Str.length])
theorem str_cps_append (x y : Str) : (x ++ y).cps.toList = x.cps.toList ++ y.cps.toList := by
  show (x.cps ++ y.cps).toList = _
  simp
theorem join_chars : ∀ l : List Nat, Txt.join "" (l.map fun c => (⟨#[c]⟩ : Str)) = ⟨l.toArray⟩
  | [] => by decide +kernel
  | [c] => by
    show Builtin.Str.glued _ _ = _
    rw [StrLaws.glued_eq_join]
    rfl
  | c :: d :: l => by
    have ih := join_chars (d :: l)
    show Builtin.Str.glued _ _ = _
    have ih' : Builtin.Str.glued "" ((d :: l).map fun c => (⟨#[c]⟩ : Str)) = ⟨(d :: l).toArray⟩ := ih
    rw [StrLaws.glued_eq_join] at ih' ⊢
    show (⟨#[c]⟩ : Str) ++ "" ++ Str.join "" ((d :: l).map fun c => (⟨#[c]⟩ : Str)) = _
    rw [ih']
    show (⟨(#[c] ++ #[]) ++ (d :: l).toArray⟩ : Str) = _
    simp
theorem cutS_to (z : Str) (i : Nat) (h : i ≤ z.length) : (cutS z none (some (i : Int))).cps.toList = z.cps.toList.take i := by
  unfold cutS
  rw [HT.sIx_none, HT.sIx_nat, Nat.min_eq_left h]
  simp
theorem cutS_from (z : Str) (i : Nat) (h : i ≤ z.length) : (cutS z (some (i : Int)) none).cps.toList = z.cps.toList.drop i := by
  unfold cutS
  rw [HT.sIx_none, HT.sIx_nat, Nat.min_eq_left h]
  have e : z.cps.toList.length = z.length := by simp [Str.length]
  show ((z.cps.toList.drop i).take (z.length - i)).toArray.toList = _
  rw [List.take_of_length_le (by rw [List.length_drop, e]; exact Nat.le_refl _)]
theorem len_cps (z : Str) : z.cps.toList.length = z.length := by simp [Str.length]
theorem sum_ones : ∀ cs : List Nat, ((cs.map fun c => (⟨#[c]⟩ : Str)).map (·.length)).sum = cs.length
  | [] => rfl
  | c :: cs => by
    have := sum_ones cs
    simp only [List.map_cons, List.sum_cons, List.length_cons, this]
    show 1 + cs.length = _
    omega
theorem cutV_from {xs : List V} {i : Int} (h0 : 0 ≤ i) (h : i ≤ xs.length) : cutV xs (some i) none = xs.drop i.toNat := by
  obtain ⟨j, rfl⟩ := Int.eq_ofNat_of_zero_le h0
  unfold cutV
  rw [HT.sIx_none, HT.sIx_nat, Nat.min_eq_left (by omega), List.take_of_length_le (by rw [List.length_drop]; exact Nat.le_refl _)]
  rfl
theorem cutV_to {xs : List V} {i : Int} (h0 : 0 ≤ i) : cutV xs none (some i) = xs.take i.toNat := by
  obtain ⟨j, rfl⟩ := Int.eq_ofNat_of_zero_le h0
  unfold cutV
  rw [HT.sIx_none, HT.sIx_nat, List.drop_zero]
  show xs.take (min j xs.length - 0) = xs.take j
  rw [Nat.sub_zero]
  by_cases e : j ≤ xs.length
  · rw [Nat.min_eq_left e]
  · rw [Nat.min_eq_right (by omega), List.take_of_length_le (Nat.le_refl _), List.take_of_length_le (by omega)]
theorem rd_letter {K : PySem.W.Frag} {z : Str} {j : Int} {H : Hp} {Q : VK} (hz : (decide (z.length = 26) && z.cps.toList.all fun c => decide (97 ≤ c) && decide (c ≤ 122)) = true) (h0 : 0 ≤ j) (h1 : j < 26)
    (h : ∀ c : Nat, 97 ≤ c → c ≤ 122 → z.cps.toList[j.toNat]? = some c → Q (.str ⟨#[c]⟩) H) : rIx K (.str z) (.int j) H Q := by
  simp only [Bool.and_eq_true, decide_eq_true_eq, List.all_eq_true] at hz
  obtain ⟨hl, ha⟩ := hz
  obtain ⟨i, rfl⟩ := Int.eq_ofNat_of_zero_le h0
  have hi : i < z.cps.toList.length := by rw [len_cps, hl]; omega
  have e := List.getElem?_eq_getElem hi
  have hc := ha _ (List.getElem_mem hi)
  exact Or.inr (Or.inr ⟨z, i, _, rfl, rfl, by rw [hl]; decide, atI_nat e, h _ hc.1 hc.2 e⟩)
section
variable {P : Program} {w : World} {K : PySem.W.Frag} {mg : Str → Option Value} {base : Heap}
theorem ok__law_names (T : TX K mg) {k : Nat} : FnOk P w K mg base CX0 (k + 2) T.d__law_names.f T.d__law_names.fd P__law_names sp_names := by
  have G__law_take : FnOk P w K mg base CX0 (k + 1) T.d__law_take.f T.d__law_take.fd P__law_take sp_take := ok__law_take T
  refine T.d__law_names.F.ok sc__law_names (fun vs H Q E h => ?_) (fun cdv A outer s H vs Q E hr h => ?_)
  · obtain ⟨b, n, rfl, _⟩ := h
    rfl
  · obtain ⟨b, n, rfl, hB, h0, h1, q⟩ := h
    have hu64 := hr.units
    refine ⟨_, (pss_cons (ps_set (i := 2) sc__law_names.nd rfl (Or.inr rfl) pe_str) (pss_cons (ps_set (i := 3) sc__law_names.nd rfl (Or.inl rfl) pe_str) (pss_cons (ps_set (i := 3) sc__law_names.nd rfl (Or.inl rfl) (pe_bm PySem.F.plainAttrs_str PySem.F.slot_str_split PySem.F.type_str_split mt_split (pe_op (r := rAddG K) op_addG (pv 3) pe_str) (pa_cons pe_str pa_nil))) (pss_cons (ps_asg (pe_tup (pa_cons (pe_call G__law_take (hr.mono (by omega)) rfl T.d__law_take.g T.d__law_take.F.kp T.d__law_take.b .nil pass0 (pa_cons (pv 0) (pa_cons pe_int pa_nil))) (pa_cons (pe_call G__law_take (hr.mono (by omega)) rfl T.d__law_take.g T.d__law_take.F.kp T.d__law_take.b .nil pass0 (pa_cons (pv 0) (pa_cons pe_int pa_nil))) pa_nil))) (pg_tup rfl (pgs_cons (pg_name (i := 4) sc__law_names.nd rfl (Or.inl rfl)) (pgs_cons (pg_name (i := 5) sc__law_names.nd rfl (Or.inr rfl)) pgs_nil)))) (pss_cons (ps_set (i := 6) sc__law_names.nd rfl (Or.inr rfl) (pe_bm PySem.F.plainAttrs_str PySem.F.slot_str_join PySem.F.type_str_join mt_join pe_str (pa_cons (pe_lc (own := [("_law_k", 8)]) (g := gName 8) (by rfl) sc__law_names.nd (pi_range1 (by rfl) T.b_range (pa_cons (pe_op (r := rAddG K) op_addG pe_int (pe_call G__law_take (hr.mono (by omega)) rfl T.d__law_take.g T.d__law_take.F.kp T.d__law_take.b .nil pass0 (pa_cons (pv 0) (pa_cons pe_int pa_nil)))) pa_nil)) (blkOk_by (own := [("_law_k", 8)]) (N := N__law_names) (sc := defScope s__law_names) (by decide +kernel)) (fun _ _ _ _ _ => pg_name (i := 8) sc__law_names.nd rfl (Or.inl rfl)) (fun _ _ _ _ _ => pts_nil) (fun _ _ _ _ _ => (pe_ix (r := rIx K) ix_seq (pv 2) (pe_call G__law_take (hr.mono (by omega)) rfl T.d__law_take.g T.d__law_take.F.kp T.d__law_take.b .nil pass0 (pa_cons (pv 0) (pa_cons pe_int pa_nil))) (fun _ _ => rfl)))) pa_nil))) (pss_cons (ps_set (i := 7) sc__law_names.nd rfl (Or.inr rfl) (pe_call G__law_take (hr.mono (by omega)) rfl T.d__law_take.g T.d__law_take.F.kp T.d__law_take.b .nil pass0 (pa_cons (pv 0) (pa_cons (pe_op (r := rAddG K) op_addG (pe_callB (r := rLenG K) call_lenG (by rfl) T.b_len bt_len (pa_cons (pv 6) pa_nil)) pe_int) pa_nil)))) (pss_cons (ps_if (pt_cmpR (r := rEqG K) (op_eqG hu64) (pv 4) pe_int (nomark _)) (pss_one (ps_ret (pe_slice (r := rSlG K) sl_G (pe_op (r := rAddG K) op_addG (pe_slice (r := rSlG K) sl_G (pv 3) (po_some (pv 5)) po_none) (pe_slice (r := rSlG K) sl_G (pv 3) po_none (po_some (pv 5)))) po_none (po_some (pv 1))))) pss_nil) (pss_cons (ps_if (pt_cmpR (r := rEqG K) (op_eqG hu64) (pv 4) pe_int (nomark _)) (pss_one (ps_ret (pe_lc (own := [("_law_k", 8)]) (g := gName 8) (by rfl) sc__law_names.nd (pi_range1 (by rfl) T.b_range (pa_cons (pv 1) pa_nil)) (blkOk_by (own := [("_law_k", 8)]) (N := N__law_names) (sc := defScope s__law_names) (by decide +kernel)) (fun _ _ _ _ _ => pg_name (i := 8) sc__law_names.nd rfl (Or.inl rfl)) (fun _ _ _ _ _ => pts_nil) (fun _ _ _ _ _ => (pe_ix (r := rIx K) ix_seq (pv 2) (pe_op op_mod (pe_callTy call_int1 (by rfl) T.b_int bt_int (pa_cons (pe_op (r := rAddG K) op_addG (pv 5) (pe_op op_mulG pe_int (pv 8))) pa_nil)) pe_int) (fun _ _ => rfl)))))) pss_nil) (pss_one (ps_ret (pe_lc (own := [("_law_k", 8)]) (g := gName 8) (by rfl) sc__law_names.nd (pi_range1 (by rfl) T.b_range (pa_cons (pv 1) pa_nil)) (blkOk_by (own := [("_law_k", 8)]) (N := N__law_names) (sc := defScope s__law_names) (by decide +kernel)) (fun _ _ _ _ _ => pg_name (i := 8) sc__law_names.nd rfl (Or.inl rfl)) (fun _ _ _ _ _ => pts_nil) (fun _ _ _ _ _ => (pe_op (r := rAddG K) op_addG (pe_op (r := rAddG K) op_addG (pe_slice (r := rSlG K) sl_G (pv 6) po_none (po_some (pv 7))) (pe_ix (r := rIx K) ix_seq (pv 2) (pe_op op_mod (pe_callTy call_int1 (by rfl) T.b_int bt_int (pa_cons (pe_op (r := rAddG K) op_addG (pv 5) (pe_op op_mulG pe_int (pv 8))) pa_nil)) pe_int) (fun _ _ => rfl))) (pe_slice (r := rSlG K) sl_G (pv 6) (po_some (pv 7)) po_none)))))))))))))), ?_⟩
    refine ⟨_, rfl, Or.inr (Or.inl ⟨_, _, rfl, rfl, by decide +kernel, rfl, _, _, rfl, rfl, by decide +kernel, by decide +kernel, ?_⟩)⟩
    refine rd_split (X := (cxOf CX0 P w K mg base N__law_names "_law_names" (defScope s__law_names) T.d__law_names.f cdv A outer s H E)) (fun ws => decide (ws.length = 20) && ws.all fun x => decide (Nm x)) (by decide +kernel) fun wp ws H1 hws nwp ewp m1 => ?_
    simp only [Bool.and_eq_true, decide_eq_true_eq, List.all_eq_true] at hws
    obtain ⟨hw20, hwN⟩ := hws
    refine ⟨.ref b, rfl, b, 4, rfl, hB.mv m1, by decide, by decide, fun way H2 hw0 hw1 d2 => ⟨.ref b, rfl, b, 20, rfl, d2.bag (hB.mv m1), by decide, by decide, fun turn H3 ht0 ht1 d3 => ?_⟩⟩
    refine ⟨(by decide : 2 ≤ sizeLine), fun p np => ⟨p, _, rfl, .inl (.inl upd_same), rfl, _, _, rfl, _, _, rfl, rfl, ?_⟩⟩
    have d14 := (d2.trans d3).trans (Dr.new (o := .tup [.int way, .int turn]) np)
    have hB4 := d14.bag (hB.mv m1)
    generalize upd H3 p (.tup [.int way, .int turn]) = H4 at d14 hB4 ⊢
    have hwb : wp ≠ b := (hB.fneq nwp)
    have ew4 : H4 wp = some (.lst (ws.map V.str)) := d14.get hwb ewp
    refine ⟨rfl, .ref b, rfl, b, 7, rfl, hB4, by decide, by decide, fun l H5 hl0 hl1 d5 => Or.inl ⟨1, l, rfl, rfl, 1 + l, rfl, by omega, by omega, fun D nD => ?_⟩⟩
    have hB5 := d5.bag hB4
    refine lc_range (lo := 0) (n := (1 + l).toNat) (fun i H6 => ∃ cs : List Nat, H6 D = some (.lst (cs.map fun c => V.str ⟨#[c]⟩)) ∧ cs.length = i ∧ (∀ c ∈ cs, 97 ≤ c ∧ c ≤ 122) ∧ Dr b H5 H6)
      ⟨[], upd_same, rfl, by simp, Dr.new nD⟩ (fun i H6 hi h6 => ?_) (fun H6 h6 => ?_)
    · obtain ⟨cs, e6, l6, c6, d6⟩ := h6
      refine ⟨rfl, _, rfl, .ref b, rfl, b, 26, rfl, d6.bag hB5, by decide, by decide, fun j H7 hj0 hj1 d7 => rd_letter (by decide +kernel) hj0 hj1 fun c hc0 hc1 _ => ?_⟩
      refine ⟨_, d7.get (hB5.fneq nD) e6, ?_, cs ++ [c], ?_, by simp [l6], ?_, (d6.trans d7).wr nD⟩
      · rw [List.length_map, l6]
        exact small1000 (by omega)
      · rw [upd_same, List.map_append]
        rfl
      · intro z hz
        rcases List.mem_append.mp hz with hz | hz
        · exact c6 z hz
        · rw [List.mem_singleton.mp hz]
          exact ⟨hc0, hc1⟩
    · obtain ⟨cs, e6, l6, c6, d6⟩ := h6
      have hmap : cs.map (fun c => V.str ⟨#[c]⟩) = (cs.map fun c => (⟨#[c]⟩ : Str)).map V.str := by rw [List.map_map]; rfl
      refine ⟨_, D, _, rfl, rfl, .inl (.inl (.inl (by rw [← hmap]; exact e6))), ?_, ?_⟩
      · rw [sum_ones, List.length_map, l6, show ("" : Str).length = 0 from by decide]
        omega
      · rw [join_chars]
        obtain ⟨B, hB0, hBl, hBc⟩ : ∃ B : Str, B = ⟨cs.toArray⟩ ∧ B.length = (1 + l).toNat ∧ ∀ c ∈ B.cps.toList, 97 ≤ c ∧ c ≤ 122 := ⟨_, rfl, by rw [← l6]; rfl, by simpa using c6⟩
        rw [← hB0]
        have hB6 := d6.bag hB5
        refine ⟨.ref b, rfl, .str B, rfl, Or.inr (Or.inl ⟨B, rfl, Nat.le_of_lt (small1000 (by omega)), Or.inl ⟨_, 1, rfl, rfl, b, _, rfl, hB6, by omega, by omega, fun pl H7 hp0 hp1 d7 => ?_⟩⟩)⟩
        have d17 := (d14.trans d5).trans (d6.trans d7)
        have ew7 : H7 wp = some (.lst (ws.map V.str)) := d17.get hwb ewp
        have dH7 : Dr b H H7 := (Dr.of m1).trans d17
        have hB7 : Bag H7 b := dH7.bag hB
        have lenL : ∀ c : Nat, (⟨#[c]⟩ : Str).length = 1 := fun _ => rfl
        have fresh : ∀ {p H'}, Mv [] H7 H' → H' p = none → H p = none := fun m e => dH7.free hB (m.free e)
        refine ⟨.int way, rfl, Or.inl ⟨rfl, _, rfl, ite2 (fun e => ?_) (fun e => ?_)⟩⟩
        · -- the words, turned
          refine ⟨.ref wp, rfl, .int turn, rfl, turn, rfl, Or.inl ⟨wp, _, rfl, .inl (.inl ew7), fun p1 np1 => ?_⟩⟩
          have n1 : wp ≠ p1 := ne_of_none ew7 np1
          refine ⟨.ref wp, rfl, .int turn, rfl, turn, rfl, Or.inl ⟨wp, _, rfl, .inl (.inl (by rw [upd_ne n1]; exact ew7)), fun p2 np2 => ?_⟩⟩
          have n2 : p1 ≠ p2 := ne_of_none upd_same np2
          rw [cutV_from ht0 (by rw [List.length_map]; omega), cutV_to ht0] at *
          refine Or.inr (Or.inr (Or.inr ⟨p1, p2, _, _, rfl, rfl, by rw [upd_ne n2, upd_same], upd_same, ?_, fun p3 np3 => ?_⟩))
          · rw [List.length_drop, List.length_take, List.length_map]
            exact Nat.le_of_lt (small1000 (by omega))
          · refine ⟨.int n, rfl, (n : Int), rfl, Or.inl ⟨p3, _, rfl, .inl (.inl upd_same), fun p4 np4 => ?_⟩⟩
            refine q p4 ((ws.drop turn.toNat ++ ws.take turn.toNat).take n) _ ?_ (fun x hx => ?_) (fresh (((Mv.new (S := []) np1).trans (Mv.new np2)).trans (Mv.new np3)) np4) ?_ (dH7.trans (Dr.of (((Mv.new np1).trans (Mv.new np2)).trans ((Mv.new np3).trans (Mv.new np4)))))
            · rw [List.length_take, List.length_append, List.length_drop, List.length_take]
              omega
            · have h := List.mem_of_mem_take hx
              rcases List.mem_append.mp h with h | h
              · exact hwN x (List.mem_of_mem_drop h)
              · exact hwN x (List.mem_of_mem_take h)
            · rw [upd_same, cutV_to (by omega), List.map_take, List.map_append, List.map_drop, List.map_take]
              rfl
        · refine ⟨.int way, rfl, Or.inl ⟨rfl, _, rfl, ite2 (fun e => ?_) (fun e => ?_)⟩⟩
          · refine ⟨.int n, rfl, (n : Int), rfl, by omega, by omega, fun D8 nD8 => ?_⟩
            refine lc_range (lo := 0) (n := (n : Int).toNat) (fun i H8 => ∃ xs : List Str, H8 D8 = some (.lst (xs.map V.str)) ∧ xs.length = i ∧ (∀ x ∈ xs, Nm x) ∧ Mv [] H7 H8)
              ⟨[], upd_same, rfl, by simp, .new nD8⟩ (fun i H8 hi h8 => ?_) (fun H8 h8 => ?_)
            · obtain ⟨xs, e8, l8, c8, m8⟩ := h8
              refine ⟨rfl, _, rfl, .int turn, rfl, _, rfl, Or.inl ⟨3, _, rfl, rfl, .inl ⟨by decide, by decide⟩, Or.inl ⟨turn, _, rfl, rfl, Or.inl ⟨_, rfl, _, _, rfl, rfl, (by decide : (0 : Int) < _), ?_⟩⟩⟩⟩
              refine rd_letter (by decide +kernel) (Int.emod_nonneg _ (by decide)) (Int.emod_lt_of_pos _ (by decide)) fun c hc0 hc1 _ => ?_
              refine ⟨_, e8, ?_, xs ++ [⟨#[c]⟩], ?_, by simp [l8], ?_, m8.wr nD8⟩
              · rw [List.length_map, l8]
                exact small1000 (by omega)
              · rw [upd_same, List.map_append]
                rfl
              · intro z hz
                rcases List.mem_append.mp hz with hz | hz
                · exact c8 z hz
                · rw [List.mem_singleton.mp hz]
                  exact ⟨by rw [lenL]; decide, by rw [lenL]; decide, by simpa using ⟨hc0, hc1⟩⟩
            · obtain ⟨xs, e8, l8, c8, m8⟩ := h8
              exact q D8 xs H8 (by omega) c8 (dH7.free hB nD8) e8 (dH7.trans (Dr.of m8))
          · refine ⟨.int n, rfl, (n : Int), rfl, by omega, by omega, fun D8 nD8 => ?_⟩
            obtain ⟨at', rfl⟩ := Int.eq_ofNat_of_zero_le hp0
            have hat : at' ≤ B.length := by omega
            refine lc_range (lo := 0) (n := (n : Int).toNat) (fun i H8 => ∃ xs : List Str, H8 D8 = some (.lst (xs.map V.str)) ∧ xs.length = i ∧ (∀ x ∈ xs, Nm x) ∧ Mv [] H7 H8)
              ⟨[], upd_same, rfl, by simp, .new nD8⟩ (fun i H8 hi h8 => ?_) (fun H8 h8 => ?_)
            · obtain ⟨xs, e8, l8, c8, m8⟩ := h8
              have hsz : B.length ≤ sizeLine := Nat.le_of_lt (small1000 (by omega))
              have l1 : (cutS B none (some (at' : Int))).length = at' := by rw [← len_cps, cutS_to B at' hat, List.length_take, len_cps]; omega
              have l2 : (cutS B (some (at' : Int)) none).length = B.length - at' := by rw [← len_cps, cutS_from B at' hat, List.length_drop, len_cps]
              refine ⟨rfl, .str B, rfl, _, rfl, _, rfl, Or.inr (Or.inr ⟨B, rfl, hsz, _, rfl, .int turn, rfl, _, rfl, Or.inl ⟨3, _, rfl, rfl, .inl ⟨by decide, by decide⟩, Or.inl ⟨turn, _, rfl, rfl, Or.inl ⟨_, rfl, _, _, rfl, rfl, (by decide : (0 : Int) < _), ?_⟩⟩⟩⟩)⟩
              refine rd_letter (by decide +kernel) (Int.emod_nonneg _ (by decide)) (Int.emod_lt_of_pos _ (by decide)) fun c hc0 hc1 _ => ?_
              refine Or.inr (Or.inl ⟨_, _, rfl, rfl, by rw [l1, lenL]; exact Nat.le_of_lt (small1000 (by omega)), .str B, rfl, _, rfl, _, rfl, Or.inr (Or.inr ⟨B, rfl, hsz, Or.inr (Or.inl ⟨_, _, rfl, rfl, ?_, ?_⟩)⟩)⟩)
              · rw [str_len_append, l1, l2, lenL]
                exact Nat.le_of_lt (small1000 (by omega))
              · refine ⟨_, e8, ?_, xs ++ [cutS B none (some (at' : Int)) ++ ⟨#[c]⟩ ++ cutS B (some (at' : Int)) none], ?_, by simp [l8], ?_, m8.wr nD8⟩
                · rw [List.length_map, l8]
                  exact small1000 (by omega)
                · rw [upd_same, List.map_append]
                  rfl
                · intro z hz
                  rcases List.mem_append.mp hz with hz | hz
                  · exact c8 z hz
                  · rw [List.mem_singleton.mp hz]
                    refine ⟨?_, ?_, fun d hd => ?_⟩
                    · rw [str_len_append, str_len_append, l1, l2, lenL]
                      omega
                    · rw [str_len_append, str_len_append, l1, l2, lenL]
                      omega
                    · rw [str_cps_append, str_cps_append, cutS_to B at' hat, cutS_from B at' hat] at hd
                      rcases List.mem_append.mp hd with hd | hd
                      · rcases List.mem_append.mp hd with hd | hd
                        · exact hBc d (List.mem_of_mem_take hd)
                        · have : d = c := by simpa using hd
                          rw [this]
                          exact ⟨hc0, hc1⟩
                      · exact hBc d (List.mem_of_mem_drop hd)
            · obtain ⟨xs, e8, l8, c8, m8⟩ := h8
              exact q D8 xs H8 (by omega) c8 (dH7.free hB nD8) e8 (dH7.trans (Dr.of m8))
end
end Fm
namespace Fm
open PySem PySem.Spec PyProof.Rows L2
def sp_term (K : PySem.W.Frag) (d : Nat) : Sp := fun vs H Q _ => ∃ (b nm : Addr) (xs : List Str) (many deep : Int), vs = [.ref b, .ref nm, .int many, .int deep] ∧ Bag H b ∧
  H nm = some (.lst (xs.map V.str)) ∧ nm ≠ b ∧ xs ≠ [] ∧ xs.length ≤ 1000 ∧ (∀ x ∈ xs, Nm x) ∧ 0 ≤ many ∧ many ≤ 1000000 ∧ deep.toNat < d ∧
  ∀ v (t : Tm) H', t.ok (fun i => 0 ≤ i ∧ i < many) → t.dep ≤ max deep.toNat 1 → (0 < many → t.dep ≤ deep.toNat) → Im K H' v t.d → Dr b H H' → Q v H'
local macro_rules | `(tactic| walk_at "nn") => `(tactic| dsimp only [tC, tNil, tCons, tCB, tCall, gName, tSeq, tAsg, tPar, tDrop, tRet])
section
variable {P : Program} {w : World} {K : PySem.W.Frag} {mg : Str → Option Value} {base : Heap}
theorem ok__law_term (T : TX K mg) : ∀ d : Nat, FnOk P w K mg base CX0 (d + 2) T.d__law_term.f T.d__law_term.fd P__law_term (sp_term K d)
  | 0 => ⟨fun vs H Q E h => by obtain ⟨_, _, _, _, _, _, _, _, _, _, _, _, _, _, h, _⟩ := h; omega, fun _ _ _ _ _ _ _ _ _ _ _ _ _ h => by obtain ⟨_, _, _, _, _, _, _, _, _, _, _, _, _, _, h, _⟩ := h; omega⟩
  | d + 1 => by
    have G__law_term := ok__law_term T d
    have G__law_take : FnOk P w K mg base CX0 1 T.d__law_take.f T.d__law_take.fd P__law_take sp_take := ok__law_take T
    refine T.d__law_term.F.ok sc__law_term (fun vs H Q E h => ?_) (fun cdv A outer s H vs Q E hr h => ?_)
    · obtain ⟨b, nm, xs, many, deep, rfl, _⟩ := h
      rfl
    · obtain ⟨b, nm, xs, many, deep, rfl, hB, hN, hnb, hx0, hx1, hxN, hm0, hm1, hd, q⟩ := h
      have hu64 := hr.units
      have hlen : 0 < xs.length := List.length_pos_iff.mpr hx0
      refine ⟨_, (pss_cons (ps_set (i := 4) sc__law_term.nd rfl (Or.inl rfl) (pe_call G__law_take (hr.mono (by omega)) rfl T.d__law_take.g T.d__law_take.F.kp T.d__law_take.b .nil pass0 (pa_cons (pv 0) (pa_cons pe_int pa_nil)))) (pss_cons (ps_if (PW.pt (pw_and (pt_cmpR op_gt (pv 2) pe_int (nomark _)) (pw_and1 (PW.pt (pw_or (pt_cmpR op_lt (pv 3) pe_int (nomark _)) (pw_or1 (pt_cmpR (r := rEqG K) (op_eqG hu64) (pv 4) pe_int (nomark _)))))))) (pss_one (ps_ret (pe_call G__law_take (hr.mono (by omega)) rfl T.d__law_take.g T.d__law_take.F.kp T.d__law_take.b .nil pass0 (pa_cons (pv 0) (pa_cons (pv 2) pa_nil))))) pss_nil) (pss_cons (ps_par (i := 5) (j := 6) rfl sc__law_term.nd rfl rfl (by decide) rfl rfl (pa_cons (pe_ix (r := rIx K) ix_seq (pv 1) (pe_call G__law_take (hr.mono (by omega)) rfl T.d__law_take.g T.d__law_take.F.kp T.d__law_take.b .nil pass0 (pa_cons (pv 0) (pa_cons (pe_callB (r := rLenG K) call_lenG (by rfl) T.b_len bt_len (pa_cons (pv 1) pa_nil)) pa_nil))) (fun _ _ => rfl)) (pa_cons (pe_call G__law_take (hr.mono (by omega)) rfl T.d__law_take.g T.d__law_take.F.kp T.d__law_take.b .nil pass0 (pa_cons (pv 0) (pa_cons pe_int pa_nil))) pa_nil)) rfl) (pss_cons (ps_if (PW.pt (pw_or (PW.pt (pw_and (pt_cmpR op_le (pv 3) pe_int (nomark _)) (pw_and1 (pt_cmpR (r := rEqG K) (op_eqG hu64) (pv 2) pe_int (nomark _))))) (pw_or1 (pt_cmpR (r := rEqG K) (op_eqG hu64) (pv 4) pe_int (nomark _))))) (pss_one (ps_ret (pe_tup (pa_cons (pv 5) pa_nil)))) pss_nil) (pss_one (ps_ret (pe_op (r := rAddG K) op_addG (pe_tup (pa_cons (pv 5) pa_nil)) (pe_callTy (r := rTupOf K) call_tupG (by rfl) T.b_tuple bt_tuple (pa_cons (pe_lc (own := [("_law_k", 7)]) (g := gName 7) (by rfl) sc__law_term.nd (pi_range1 (by rfl) T.b_range (pa_cons (pv 6) pa_nil)) (blkOk_by (own := [("_law_k", 7)]) (N := N__law_term) (sc := defScope s__law_term) (by decide +kernel)) (fun _ _ _ _ _ => pg_name (i := 7) sc__law_term.nd rfl (Or.inl rfl)) (fun _ _ _ _ _ => pts_nil) (fun _ _ _ _ _ => (pe_call G__law_term (hr.mono (by omega)) rfl T.d__law_term.g T.d__law_term.F.kp T.d__law_term.b .nil pass0 (pa_cons (pv 0) (pa_cons (pv 1) (pa_cons (pv 2) (pa_cons (pe_op op_sub (pv 3) pe_int) pa_nil))))))) pa_nil))))))))), ?_⟩
      refine ⟨.ref b, rfl, b, 4, rfl, hB, by decide, by decide, fun way H1 hw0 hw1 d1 => ?_⟩
      have hB1 := d1.bag hB
      have hN1 := d1.get hnb hN
      dsimp only [gName, tSeq, tPar]
      refine st_if (tb_and (tb_test (tv_I (tv_var rfl) tv_c)) (tb_or (tb_test (tv_I (tv_var rfl) tv_c)) (tb_test (tv_eqI (tv_var rfl) tv_c)))) ?_ ?_
      · -- an unknown
        intro e
        simp only [Bool.and_eq_true, decide_eq_true_eq] at e
        refine ⟨.ref b, rfl, .int many, rfl, b, many, rfl, hB1, e.1, hm1, fun i H2 hi0 hi1 d2 => ?_⟩
        exact q _ (.var i) H2 ⟨hi0, hi1⟩ (by simp [Tm.dep]) (fun _ => by simp [Tm.dep]) (Im.int i) (d1.trans d2)
      · intro e
        have e1 : ¬ (0 < many ∧ deep < 1) := fun z => by simp [z.1, z.2] at e
        refine ⟨.ref nm, rfl, .ref b, rfl, .ref nm, rfl, ?_⟩
        walk_at "nn"
        refine rd_len (.inl (.inl (.inl hN1))) ?_
        refine ⟨b, _, rfl, hB1, by rw [List.length_map]; omega, by rw [List.length_map]; omega, fun ni H2 hn0 hn1 d2 => ?_⟩
        rw [List.length_map] at hn1
        have hni : ni.toNat < xs.length := by omega
        have hB2 := d2.bag hB1
        have hN2 := d2.get hnb hN1
        refine rd_ixL (.inl (.inl hN2)) hn0 (v := .str xs[ni.toNat]) (by rw [List.getElem?_map, List.getElem?_eq_getElem hni]; rfl) ?_
        obtain ⟨nx, hnx, hNm⟩ : ∃ nx, nx = xs[ni.toNat] ∧ Nm nx := ⟨_, rfl, hxN _ (List.getElem_mem hni)⟩
        rw [← hnx]
        refine ⟨.ref b, rfl, b, 4, rfl, hB2, by decide, by decide, fun parts H3 hp0 hp1 d3 => ⟨_, _, rfl, ?_⟩⟩
        have hB3 := d3.bag hB2
        have hN3 := d3.get hnb hN2
        have d13 := (d1.trans d2).trans d3
        refine st_if (tb_or (tb_and (tb_test (tv_I (tv_var rfl) tv_c)) (tb_test (tv_eqI (tv_var rfl) tv_c))) (tb_test (tv_eqI (tv_var rfl) tv_c))) ?_ ?_
        · -- a constant
          intro e
          refine ⟨_, rfl, (by decide : 1 ≤ sizeLine), fun p np => ?_⟩
          refine q _ (.op nx []) _ ⟨hNm, by simp, trivial⟩ (by simp [Tm.dep, Tm.deps]; omega) (fun z => ?_) (Im.tup (.inl (.inl upd_same)) (Ims.cons (Im.str nx) Ims.nil)) (d13.trans (Dr.new np))
          simp only [Tm.dep, Tm.deps]
          omega
        · intro e
          have e2 : ¬ (deep ≤ 1 ∧ many = 0) := fun z => by simp [z.1, z.2] at e
          have hdeep : 1 ≤ deep := by omega
          refine ⟨_, rfl, (by decide : 1 ≤ sizeLine), fun p np => ?_⟩
          have d4 := d13.trans (Dr.new (o := .tup [.str nx]) np)
          have e4 : SqT K (upd H3 p (.tup [.str nx])) p [.str nx] := .inl (.inl upd_same)
          have hB4 := d4.bag hB
          have hN4 := d4.get hnb hN
          generalize upd H3 p (.tup [.str nx]) = H4 at d4 e4 hB4 hN4 ⊢
          refine ⟨.int parts, rfl, parts, rfl, by omega, by omega, fun D nD => ?_⟩
          refine lc_range (lo := 0) (n := parts.toNat) (fun i H5 => ∃ (vs : List V) (ts : List Tm), H5 D = some (.lst vs) ∧ Ims K H5 vs (Tm.ds ts) ∧ ts.length = i ∧ Tm.oks (fun i => 0 ≤ i ∧ i < many) ts ∧ Tm.deps ts ≤ max (deep - 1).toNat 1 ∧ (0 < many → Tm.deps ts ≤ (deep - 1).toNat) ∧ Dr b H4 H5)
            ⟨[], [], upd_same, Ims.nil, rfl, trivial, by simp [Tm.deps], fun _ => by simp [Tm.deps], Dr.new nD⟩ (fun i H5 hi h5 => ?_) (fun H5 h5 => ?_)
          · obtain ⟨vs, ts, e5, i5, l5, o5, p5, r5, d5⟩ := h5
            have hB5 := d5.bag hB4
            have hN5 := d5.get hnb hN4
            refine ⟨rfl, .ref b, rfl, .ref nm, rfl, .int many, rfl, .int deep, rfl, deep, 1, rfl, rfl, b, nm, xs, many, deep - 1, rfl, hB5, hN5, hnb, hx0, hx1, hxN, hm0, hm1, by omega, fun v t H6 ho hd1 hd2 him d6 => ?_⟩
            refine ⟨_, d6.get (hB4.fneq nD) e5, ?_, vs ++ [v], ts ++ [t], upd_same, ?_, by simp [l5], ?_, ?_, fun z => ?_, (d5.trans d6).wr nD⟩
            · rw [i5.length, Tm.ds_map, List.length_map, l5]
              exact small1000 (by omega)
            · rw [show Tm.ds (ts ++ [t]) = Tm.ds ts ++ [t.d] by simp [Tm.ds_map]]
              exact ((i5.mv d6.mv).append (Ims.cons him Ims.nil)).mv (Mv.set (S := [D]) (d6.get (hB4.fneq nD) e5) (by simp))
            · rw [Tm.oks_iff] at o5 ⊢
              intro y hy
              rcases List.mem_append.mp hy with hy | hy
              · exact o5 y hy
              · rw [List.mem_singleton.mp hy]
                exact ho
            · rw [Tm.deps_le] at p5 ⊢
              intro y hy
              rcases List.mem_append.mp hy with hy | hy
              · exact p5 y hy
              · rw [List.mem_singleton.mp hy]
                exact hd1
            · have r5' := r5 z
              have hd2' := hd2 z
              rw [Tm.deps_le] at r5' ⊢
              intro y hy
              rcases List.mem_append.mp hy with hy | hy
              · exact r5' y hy
              · rw [List.mem_singleton.mp hy]
                exact hd2'
          · obtain ⟨vs, ts, e5, i5, l5, o5, p5, r5, d5⟩ := h5
            walk_at "nn"
            refine rd_tupOf (.inl (.inl e5)) fun p6 H6 m6 e6 => ?_
            refine rd_cat (m6.sqT (d5.mv.sqT e4)) e6 ?_ fun p7 H7 m7 e7 => ?_
            · rw [i5.length, Tm.ds_map, List.length_map, l5]
              exact Nat.le_of_lt (small1000 (by simp; omega))
            · refine q _ (.op nx ts) H7 ⟨hNm, by omega, o5⟩ ?_ (fun z => ?_) (Im.tup e7 ?_) (d4.trans (d5.trans (Dr.of (m6.trans m7))))
              · simp only [Tm.dep]
                omega
              · have := r5 z
                simp only [Tm.dep]
                omega
              · exact Ims.cons (Im.str nx) ((i5.mv m6).mv m7)
end
end Fm
namespace Fm
open PySem PySem.Spec PyProof.Rows L2
local macro_rules | `(tactic| walk_at "nn") => `(tactic| dsimp only [tC, tNil, tCons, tCB, tCall, gName, tSeq, tAsg, tPar, tDrop, tRet])
def Look1 (K : PySem.W.Frag) (H : Hp) (vals : V) (P : Int → Prop) (f : Int → Tm) : Prop := ∃ a, vals = .ref a ∧
  ((∃ xs, SqL K H a xs ∧ ∀ i, P i → 0 ≤ i ∧ ∃ v, xs[i.toNat]? = some v ∧ Im K H v (f i).d) ∨
   (∃ xs, SqT K H a xs ∧ ∀ i, P i → 0 ≤ i ∧ ∃ v, xs[i.toNat]? = some v ∧ Im K H v (f i).d) ∨
   (∃ kvs, H a = some (.dK kvs) ∧ ∀ i, P i → ∃ v, valV kvs (.inl i) = some v ∧ Im K H v (f i).d))
theorem Look1.mv {K : PySem.W.Frag} {H H' : Hp} {vals : V} {P : Int → Prop} {f : Int → Tm} (h : Look1 K H vals P f) (m : Mv [] H H') : Look1 K H' vals P f := by
  obtain ⟨a, rfl, h⟩ := h
  refine ⟨a, rfl, ?_⟩
  rcases h with ⟨xs, h1, h2⟩ | ⟨xs, h1, h2⟩ | ⟨xs, h1, h2⟩
  · refine .inl ⟨xs, m.same.seq h1, fun i hi => ?_⟩
    obtain ⟨h0, v, hv, hm⟩ := h2 i hi
    exact ⟨h0, v, hv, hm.mv m⟩
  · refine .inr (.inl ⟨xs, m.sqT h1, fun i hi => ?_⟩)
    obtain ⟨h0, v, hv, hm⟩ := h2 i hi
    exact ⟨h0, v, hv, hm.mv m⟩
  · refine .inr (.inr ⟨xs, m.same _ _ h1, fun i hi => ?_⟩)
    obtain ⟨v, hv, hm⟩ := h2 i hi
    exact ⟨v, hv, hm.mv m⟩
def sp_put (K : PySem.W.Frag) (d : Nat) : Sp := fun vs H Q _ => ∃ (v vals : V) (t : Tm) (P : Int → Prop) (f : Int → Tm), vs = [v, vals] ∧ Im K H v t.d ∧ t.ok P ∧ t.dep < d ∧ Look1 K H vals P f ∧
  ∀ v' H', Mv [] H H' → Im K H' v' (t.put f).d → Q v' H'
section
variable {P : Program} {w : World} {K : PySem.W.Frag} {mg : Str → Option Value} {base : Heap}

theorem ok_put (T : TX K mg) : ∀ d : Nat, FnOk P w K mg base CX0 (d + 1) T.d_put.f T.d_put.fd P_put (sp_put K d)
  | 0 => ⟨fun vs H Q E h => by obtain ⟨_, _, _, _, _, _, _, _, h, _⟩ := h; omega, fun _ _ _ _ _ _ _ _ _ _ _ _ _ h => by obtain ⟨_, _, _, _, _, _, _, _, h, _⟩ := h; omega⟩
  | d + 1 => by
    have G_put := ok_put T d
    refine T.d_put.F.ok sc_put (fun vs H Q E h => ?_) (fun cdv A outer s H vs Q E hr h => ?_)
    · obtain ⟨_, _, _, _, _, rfl, _⟩ := h
      rfl
    · obtain ⟨v, vals, t, R, f, rfl, him, hok, hdp, hlk, q⟩ := h
      have hu1 := hu_of hr
      refine ⟨_, (pss_cons (ps_if (pt_val (pe_callB (r := rIsi K) call_isi (by rfl) T.b_isinstance bt_isinstance (pa_cons (pv 0) (pa_cons (pe_ty T.b_int bt_int) pa_nil)))) (pss_one (ps_ret (pe_or2 (pe_ix (r := rIx K) ix_seq (pv 1) (pv 0) (fun _ _ => rfl)) (pe_dget hu1 (pv 1) (pv 0) (fun _ _ => rfl))))) pss_nil) (pss_one (ps_ret (pe_op (r := rAddG K) op_addG (pe_slice (r := rSlG K) sl_G (pv 0) po_none (po_some pe_int)) (pe_callTy (r := rTupOf K) call_tupG (by rfl) T.b_tuple bt_tuple (pa_cons (pe_lc (own := [("part", 2)]) (g := gName 2) (by rfl) sc_put.nd (pi_seq (pe_slice (r := rSlG K) sl_G (pv 0) (po_some pe_int) po_none)) (blkOk_by (own := [("part", 2)]) (N := N_put) (sc := defScope s_put) (by decide +kernel)) (fun _ _ _ _ _ => pg_name (i := 2) sc_put.nd rfl (Or.inl rfl)) (fun _ _ _ _ _ => pts_nil) (fun _ _ _ _ _ => (pe_call G_put (hr.mono (by omega)) rfl T.d_put.g T.d_put.F.kp T.d_put.b .nil pass0 (pa_cons (pv 2) (pa_cons (pv 1) pa_nil))))) pa_nil)))))), ?_⟩
      refine ⟨v, rfl, ?_⟩
      walk_at "nn"
      refine rd_isInt him ?_
      refine ⟨_, rfl, ?_⟩
      cases t with
      | var i =>
        cases him.intI
        obtain ⟨a, rfl, hlk⟩ := hlk
        rcases hlk with ⟨xs, h1, h2⟩ | ⟨xs, h1, h2⟩ | ⟨xs, h1, h2⟩
        · obtain ⟨h0, y, hy, hm⟩ := h2 i hok
          exact Or.inl ⟨.ref a, rfl, .int i, rfl, rd_ixL h1 h0 hy (q _ _ .refl hm)⟩
        · obtain ⟨h0, y, hy, hm⟩ := h2 i hok
          exact Or.inl ⟨.ref a, rfl, .int i, rfl, rd_ixT h1 h0 hy (q _ _ .refl hm)⟩
        · obtain ⟨y, hy, hm⟩ := h2 i hok
          exact Or.inr ⟨.ref a, rfl, .int i, rfl, a, y, rfl, by rw [← hy]; exact DGet.k (k := .inl i) h1, q _ _ .refl hm⟩
      | op x ts =>
        obtain ⟨a, xs0, rfl, ha, hxs⟩ := him.tupI
        obtain ⟨x', xs, rfl, hx', hys⟩ := hxs.invD
        cases hx'.strI
        refine ⟨.ref a, rfl, 1, rfl, rd_slA ha fun p1 H1 m1 e1 => ⟨.ref a, rfl, 1, rfl, rd_sl1 (m1.sqT ha) fun p2 H2 m2 e2 => ⟨p2, rfl, Or.inr ⟨⟨_, e2⟩, fun D nD => ?_⟩⟩⟩⟩
        have m12 := m1.trans m2
        have hl : xs.length = ts.length := by rw [hys.length, Tm.ds_map, List.length_map]
        refine lc_tup (K := K) (a := p2) (xs := xs) (fun i H3 => ∃ ys, H3 D = some (.lst ys) ∧ Ims K H3 ys (Tm.ds ((ts.take i).map (Tm.put f))) ∧ Mv [] H2 H3)
          ⟨[], upd_same, Ims.nil, .new nD⟩ (fun i H3 _ h3 => ?_) (fun i z H3 hz h3 => ?_) (fun H3 h3 => ?_)
        · obtain ⟨ys, _, _, m3⟩ := h3
          exact m3.sqT e2
        · obtain ⟨ys, e3, i3, m3⟩ := h3
          obtain ⟨zd, hzd, hzi⟩ := hys.get hz
          rw [Tm.ds_map, List.getElem?_map] at hzd
          obtain ⟨zt, hzt, rfl⟩ := Option.map_eq_some_iff.mp hzd
          have hmem := List.mem_of_getElem? hzt
          refine ⟨rfl, z, rfl, vals, rfl, z, vals, zt, R, f, rfl, hzi.mv (m12.trans m3), Tm.oks_iff.mp hok.2.2 zt hmem, ?_, hlk.mv (m12.trans m3), fun y H4 m4 h4 => ?_⟩
          · have h5 := Tm.deps_le.mp (show Tm.deps ts ≤ Tm.deps ts from Nat.le_refl _) zt hmem
            simp only [Tm.dep] at hdp
            omega
          · have e4 := m4.same _ _ e3
            refine ⟨_, e4, ?_, ys ++ [y], upd_same, ?_, (m3.trans m4).wr nD⟩
            · have h6 := (List.getElem?_eq_some_iff.mp hzt).1
              have h7 := hok.2.1
              rw [i3.length, Tm.ds_map, List.length_map, List.length_map, List.length_take]
              exact small1000 (by omega)
            · rw [List.take_add_one, hzt]
              rw [show Tm.ds (List.map (Tm.put f) (ts.take i ++ (some zt).toList)) = Tm.ds ((ts.take i).map (Tm.put f)) ++ [(zt.put f).d] by simp [Tm.ds_map]]
              exact ((i3.mv m4).append (Ims.cons h4 Ims.nil)).mv (Mv.set (S := [D]) e4 (by simp))
        · obtain ⟨ys, e3, i3, m3⟩ := h3
          rw [hl, List.take_length] at i3
          walk_at "nn"
          refine rd_tupOf (.inl (.inl e3)) fun p4 H4 m4 e4 => ?_
          refine rd_cat (m4.sqT (m3.sqT (m2.sqT e1))) e4 ?_ fun p5 H5 m5 e5 => ?_
          · have h7 := hok.2.1
            rw [i3.length, Tm.ds_map, List.length_map, List.length_map]
            exact Nat.le_of_lt (small1000 (by simp; omega))
          · refine q _ H5 (((m12.trans m3).trans m4).trans m5) (Im.tup e5 (Ims.cons (Im.str x) ?_))
            rw [← Tm.puts_map] at i3
            exact (i3.mv m4).mv m5

end
end Fm
namespace Fm
open PySem PySem.Spec PyProof.Rows L2
local macro_rules | `(tactic| walk_at "nn") => `(tactic| dsimp only [tC, tNil, tCons, tCB, tCall, gName, tSeq, tAsg, tPar, tDrop, tRet])
theorem line5 {n : Nat} (h : n ≤ 100000) : n ≤ sizeLine := Nat.le_trans h (by decide)
theorem line5lt {n : Nat} (h : n ≤ 100000) : n < sizeLine := Nat.lt_of_le_of_lt h (by decide)
theorem Tm.mem_parts {x : Str} {us ts : List Tm} (h : Tm.op x us ∈ ts) : Tm.deps us < Tm.deps ts := by
  have := Tm.deps_le.mp (show Tm.deps ts ≤ Tm.deps ts from Nat.le_refl _) _ h
  simp only [Tm.dep] at this
  omega
theorem Tm.lv_mem : ∀ {t : Tm} {ts : List Tm}, t ∈ ts → t.lv ≤ Tm.lvs ts
  | t, u :: ts, h => by
    rcases List.mem_cons.mp h with rfl | h
    · simp only [Tm.lvs]; omega
    · have := Tm.lv_mem h
      simp only [Tm.lvs]; omega
def sp_leavesR (K : PySem.W.Frag) (d : Nat) : Sp := fun vs H Q _ => ∃ (a : Addr) (xs : List V) (ts : List Tm), vs = [.ref a] ∧ (SqL K H a xs ∨ SqT K H a xs) ∧ Ims K H xs (Tm.ds ts) ∧ Tm.deps ts < d ∧ Tm.lvs ts ≤ 100000 ∧
  ∀ p H', H p = none → Mv [] H H' → H' p = some (.lst ((Tm.leavesL ts).map V.int)) → Q (.ref p) H'
def sp_sizeR (K : PySem.W.Frag) (d : Nat) : Sp := fun vs H Q _ => ∃ (a : Addr) (xs : List V) (ts : List Tm), vs = [.ref a] ∧ (SqL K H a xs ∨ SqT K H a xs) ∧ Ims K H xs (Tm.ds ts) ∧ Tm.deps ts < d ∧ ts.length ≤ 100000 ∧ Tm.oks (fun _ => True) ts ∧
  ∀ H', Mv [] H H' → Q (.int (Tm.sizes ts)) H'
section
variable {P : Program} {w : World} {K : PySem.W.Frag} {mg : Str → Option Value} {base : Heap}
theorem sizes_sum : ∀ ts : List Tm, (ts.map fun t => ((t.size : Nat) : Int)).sum = ((Tm.sizes ts : Nat) : Int)
  | [] => by simp [Tm.sizes]
  | t :: ts => by
    rw [List.map_cons, List.sum_cons, sizes_sum ts]
    simp only [Tm.sizes]
    omega
theorem ok__law_size (T : TX K mg) : ∀ d : Nat, FnOk P w K mg base CX0 (d + 1) T.d__law_size.f T.d__law_size.fd P__law_size (sp_sizeR K d)
  | 0 => ⟨fun vs H Q E h => by obtain ⟨_, _, _, _, _, _, h, _⟩ := h; omega, fun _ _ _ _ _ _ _ _ _ _ _ _ _ h => by obtain ⟨_, _, _, _, _, _, h, _⟩ := h; omega⟩
  | d + 1 => by
    have G__law_size := ok__law_size T d
    refine T.d__law_size.F.ok sc__law_size (fun vs H Q E h => ?_) (fun cdv A outer s H vs Q E hr h => ?_)
    · obtain ⟨_, _, _, rfl, _⟩ := h
      rfl
    · obtain ⟨a, xs, ts, rfl, hS, hxs, hdp, hln, hok, q⟩ := h
      refine ⟨_, (pss_one (ps_ret (pe_callB (r := rSum K) (cr_sum rfl) (by rfl) T.b_sum bt_sum (pa_cons (pe_lc (own := [("_law_term_here", 1)]) (g := gName 1) (by rfl) sc__law_size.nd (pi_seq (pv 0)) (blkOk_by (own := [("_law_term_here", 1)]) (N := N__law_size) (sc := defScope s__law_size) (by decide +kernel)) (fun _ _ _ _ _ => pg_name (i := 1) sc__law_size.nd rfl (Or.inl rfl)) (fun _ _ _ _ _ => pts_nil) (fun _ _ _ _ _ => (pe_ifExp (pt_val (pe_callB (r := rIsi K) call_isi (by rfl) T.b_isinstance bt_isinstance (pa_cons (pv 1) (pa_cons (pe_ty T.b_int bt_int) pa_nil)))) pe_int (pe_op (r := rAddG K) op_addG pe_int (pe_call G__law_size (hr.mono (by omega)) rfl T.d__law_size.g T.d__law_size.F.kp T.d__law_size.b .nil pass0 (pa_cons (pe_slice (r := rSlG K) sl_G (pv 1) (po_some pe_int) po_none) pa_nil)))))) pa_nil)))), ?_⟩
      have hl : xs.length = ts.length := by rw [hxs.length, Tm.ds_map, List.length_map]
      refine ⟨.ref a, rfl, a, rfl, ?_⟩
      refine lc_seq (xs := xs) hS (fun i D H1 => H1 D = some (.lst (((ts.take i).map fun t => ((t.size : Nat) : Int)).map V.int)) ∧ Mv [] H H1)
        (fun D nD => ⟨upd_same, .new nD⟩) (fun i D H1 nD h1 => h1.2) (fun D nD i x H1 hx h1 => ?_) (fun D H1 nD h1 => ?_)
      · obtain ⟨e1, m1⟩ := h1
        obtain ⟨xd, hxd, him⟩ := hxs.get hx
        rw [Tm.ds_map, List.getElem?_map] at hxd
        obtain ⟨t, ht, rfl⟩ := Option.map_eq_some_iff.mp hxd
        have hmem := List.mem_of_getElem? ht
        have hi : i < ts.length := (List.getElem?_eq_some_iff.mp ht).1
        have htake : (ts.take (i + 1)).map (fun t => ((t.size : Nat) : Int)) = (ts.take i).map (fun t => ((t.size : Nat) : Int)) ++ [(t.size : Int)] := by
          rw [List.take_add_one, ht]
          simp
        refine ⟨rfl, x, rfl, ?_⟩
        walk_at "nn"
        refine rd_isInt (him.mv m1) ?_
        refine ⟨_, rfl, ?_⟩
        cases t with
        | var j =>
          refine ⟨_, e1, ?_, ?_, m1.wr nD⟩
          · rw [List.length_map, List.length_map, List.length_take]
            exact line5lt (by omega)
          · rw [upd_same, htake, List.map_append]
            rfl
        | op x us =>
          obtain ⟨a1, ys0, rfl, ha1, hys⟩ := him.tupI
          obtain ⟨x', ys, rfl, hx', hzs⟩ := hys.invD
          have hlt := Tm.mem_parts hmem
          have hok1 := Tm.oks_iff.mp hok _ hmem
          refine ⟨.ref a1, rfl, 1, rfl, rd_sl1 (m1.sqT ha1) fun p1 H2 m2 e2 => ?_⟩
          refine ⟨p1, ys, us, rfl, .inr e2, (hzs.mv m1).mv m2, by omega, by have := hok1.2.1; omega, hok1.2.2, fun H3 m3 => ?_⟩
          refine Or.inl ⟨1, _, rfl, rfl, _, (m2.trans m3).same _ _ e1, ?_, ?_, ((m1.trans m2).trans m3).wr nD⟩
          · rw [List.length_map, List.length_map, List.length_take]
            exact line5lt (by omega)
          · rw [upd_same, htake, List.map_append]
            have e9 : (1 : Int) + ((Tm.sizes us : Nat) : Int) = (((Tm.op x us).size : Nat) : Int) := by simp only [Tm.size]; omega
            show some (HO.lst (_ ++ [V.int ((1 : Int) + ((Tm.sizes us : Nat) : Int))])) = _
            rw [e9]
            rfl
      · obtain ⟨e1, m1⟩ := h1
        rw [hl, List.take_length] at e1
        refine ⟨D, _, rfl, .inl (.inl e1), ?_⟩
        rw [sizes_sum]
        exact q H1 m1
end
end Fm
namespace Fm
open PySem PySem.Spec PyProof.Rows L2
local macro_rules | `(tactic| walk_at "nn") => `(tactic| dsimp only [tC, tNil, tCons, tCB, tCall, gName, tSeq, tAsg, tPar, tDrop, tRet])
local macro_rules | `(tactic| walk_at "nc") => `(tactic| dsimp only [tC, tNil, tCons, tCB])
structure Nms (H : Hp) (b nm : Addr) (xs : List Str) : Prop where
  at_ : H nm = some (.lst (xs.map V.str))
  ne : nm ≠ b
  some_ : xs ≠ []
  few : xs.length ≤ 1000
  ok : ∀ x ∈ xs, Nm x
theorem Nms.dr {H H' : Hp} {b nm : Addr} {xs : List Str} (h : Nms H b nm xs) (d : Dr b H H') : Nms H' b nm xs := ⟨d.get h.ne h.at_, h.ne, h.some_, h.few, h.ok⟩
def sp_alike (K : PySem.W.Frag) : Sp := fun vs H Q _ => ∃ (x y : V) (d : PyData), vs = [x, y] ∧ Dp K H x d ∧ Dp K H y d ∧ Shw d ∧ Q (.bl true) H
section
variable {P : Program} {w : World} {K : PySem.W.Frag} {mg : Str → Option Value} {base : Heap}
theorem ok__law_alike (T : TX K mg) {k : Nat} : FnOkG P w K mg base CX0 (k + 1) T.d__law_alike.f T.d__law_alike.fd P__law_alike (sp_alike K) := by
  refine okG T.d__law_alike.F sc__law_alike (fun vs H Q E h => ?_) (fun cdv A outer s H vs Q E hgd hr h => ?_)
  · obtain ⟨_, _, _, rfl, _⟩ := h
    rfl
  · obtain ⟨x, y, d, rfl, hx, hy, hs, q⟩ := h
    have hu64 := hr.units
    refine ⟨_, (pss_one (ps_ret (pe_and (pe_cmpR (r := rEqG K) (op_eqG hu64) (pv 0) (pv 1) (nomark _)) (pe_one (pe_cmpR (r := rEqG K) (op_eqG hu64) (pe_callB (r := rReprG K) (call_reprG hgd hu64) (by rfl) T.b_repr bt_repr (pa_cons (pv 0) pa_nil)) (pe_callB (r := rReprG K) (call_reprG hgd hu64) (by rfl) T.b_repr bt_repr (pa_cons (pv 1) pa_nil)) (nomark _)))))), ?_⟩
    have hf := fine_lay d hs.fi
    refine ⟨x, rfl, y, rfl, Or.inr ⟨d, d, hx, hy, hs.shaped, hs.shaped, _, rfl, ?_⟩⟩
    rw [hs.eqv]
    refine ⟨x, rfl, ?_⟩
    walk_at "nc"
    refine ⟨x, d, rfl, hx, hf.2.1, hf.2.2, hs.dp, hs.len, y, rfl, ?_⟩
    refine ⟨y, d, rfl, hy, hf.2.1, hf.2.2, hs.dp, hs.len, Or.inl ⟨rfl, ?_⟩⟩
    rw [decide_eq_true rfl]
    exact q
end
end Fm
namespace Fm
open PySem PySem.Spec PyProof.Rows L2
local macro_rules | `(tactic| walk_at "nn") => `(tactic| dsimp only [tC, tNil, tCons, tCB, tCall, gName, tSeq, tAsg, tPar, tDrop, tRet])
def Tm.nod (ts : List Tm) : Nat := Tm.sizes ts + Tm.lvs ts
theorem Tm.nod_len : ∀ ts : List Tm, ts.length ≤ Tm.nod ts
  | [] => Nat.zero_le _
  | t :: ts => by
    have h := Tm.nod_len ts
    have h1 : 1 ≤ t.size + t.lv := by cases t <;> simp [Tm.size, Tm.lv] <;> omega
    simp only [Tm.nod, Tm.sizes, Tm.lvs, List.length_cons] at *
    omega
theorem Tm.nod_append (ts us : List Tm) : Tm.nod (ts ++ us) = Tm.nod ts + Tm.nod us := by
  unfold Tm.nod
  rw [Tm.sizes_append, Tm.lvs_append]
  omega
theorem Tm.nod_op (x : Str) (us : List Tm) : Tm.nod [Tm.op x us] = Tm.nod us + 1 := by
  simp only [Tm.nod, Tm.sizes, Tm.lvs, Tm.size, Tm.lv]
  omega
theorem Tm.nod_var (i : Int) : Tm.nod [Tm.var i] = 1 := by simp [Tm.nod, Tm.sizes, Tm.lvs, Tm.size, Tm.lv]
theorem Tm.ds_append (ts us : List Tm) : Tm.ds (ts ++ us) = Tm.ds ts ++ Tm.ds us := by simp [Tm.ds_map]
section
variable {K : PySem.W.Frag} {H : Hp}
theorem Ims.reverse : ∀ {ds : List PyData} {vs : List V}, Ims K H vs ds → Ims K H vs.reverse ds.reverse
  | [], _, h => by rw [h.nilD]; exact Ims.nil
  | d :: ds, _, h => by
    obtain ⟨v, vs', rfl, h1, h2⟩ := h.invD
    rw [List.reverse_cons, List.reverse_cons]
    exact h2.reverse.append (Ims.cons h1 Ims.nil)
theorem Ims.last {vs : List V} {ds : List PyData} {d : PyData} (h : Ims K H vs (ds ++ [d])) : ∃ vs' v, vs = vs' ++ [v] ∧ Ims K H vs' ds ∧ Im K H v d := by
  have hr := h.reverse
  rw [List.reverse_append] at hr
  obtain ⟨v, vs', e, h1, h2⟩ := hr.invD
  refine ⟨vs'.reverse, v, ?_, ?_, h1⟩
  · have := congrArg List.reverse e
    simpa using this
  · have := h2.reverse
    simpa using this
end
def sp_size (K : PySem.W.Frag) : Sp := fun vs H Q _ => ∃ (a : Addr) (xs : List V) (ts : List Tm) (P : Int → Prop), vs = [.ref a] ∧ (SqL K H a xs ∨ SqT K H a xs) ∧ Ims K H xs (Tm.ds ts) ∧ Tm.oks P ts ∧ (∀ i, P i → i.natAbs < 10 ^ 40) ∧ Tm.deps ts ≤ 50 ∧
  Tm.nod ts ≤ 100000 ∧ ∀ H', Mv [] H H' → Q (.int (Tm.sizes ts)) H'
def sp_leaves (K : PySem.W.Frag) : Sp := fun vs H Q _ => ∃ (a : Addr) (xs : List V) (ts : List Tm) (P : Int → Prop), vs = [.ref a] ∧ (SqL K H a xs ∨ SqT K H a xs) ∧ Ims K H xs (Tm.ds ts) ∧ Tm.oks P ts ∧ (∀ i, P i → i.natAbs < 10 ^ 40) ∧ Tm.deps ts ≤ 50 ∧
  Tm.nod ts ≤ 100000 ∧ ∀ p H', H p = none → Mv [] H H' → H' p = some (.lst ((Tm.leavesL ts).map V.int)) → Q (.ref p) H'
section
variable {P : Program} {w : World} {K : PySem.W.Frag} {mg : Str → Option Value} {base : Heap}
end
end Fm
namespace Fm
open PySem PySem.Spec PyProof.Rows L2
local macro_rules | `(tactic| walk_at "nn") => `(tactic| dsimp only [tC, tNil, tCons, tCB, tCall, gName, tSeq, tAsg, tPar, tDrop, tRet])
section
variable {P : Program} {w : World} {K : PySem.W.Frag} {mg : Str → Option Value} {base : Heap}
end
end Fm
namespace Fm
open PySem PySem.Spec PyProof.Rows L2
local macro_rules | `(tactic| walk_at "nn") => `(tactic| dsimp only [tC, tNil, tCons, tCB, tCall, gName, tSeq, tAsg, tPar, tDrop, tRet])
local macro_rules | `(tactic| walk_at "nc") => `(tactic| dsimp only [tC, tNil, tCons, tCB])
def stpN (acc : List Int) (u : Int) : List Int := if u ∈ acc then acc else acc ++ [u]
def ordr (l : List Int) : List Int := l.foldl stpN []
mutual
theorem Tm.ok_on {P R : Int → Prop} : ∀ t : Tm, t.ok P → (∀ i ∈ t.leaves, R i) → t.ok R
  | .var i, _, h => h i (by simp [Tm.leaves])
  | .op x ts, k, h => ⟨k.1, k.2.1, Tm.oks_on ts k.2.2 fun i hi => h i (by simpa [Tm.leaves] using hi)⟩
theorem Tm.oks_on {P R : Int → Prop} : ∀ ts : List Tm, Tm.oks P ts → (∀ i ∈ Tm.leavesL ts, R i) → Tm.oks R ts
  | [], _, _ => trivial
  | t :: ts, k, h => ⟨Tm.ok_on t k.1 fun i hi => h i (by simp [Tm.leavesL, hi]), Tm.oks_on ts k.2 fun i hi => h i (by simp [Tm.leavesL, hi])⟩
end
def numF (o : List Int) (u : Int) : Tm := .var ((o.idxOf u : Nat) : Int)
def NumD (kvs : List (Key × V)) (o : List Int) : Prop := kvs.length = o.length ∧ ∀ u, valV kvs (.inl u) = if u ∈ o then some (.int ((o.idxOf u : Nat) : Int)) else none
theorem idx_new {o : List Int} {u x : Int} (h : x ∈ o) : (o ++ [u]).idxOf x = o.idxOf x := by
  rw [List.idxOf_append, if_pos h]
theorem idx_last {o : List Int} {u : Int} (h : u ∉ o) : (o ++ [u]).idxOf u = o.length := by
  rw [List.idxOf_append, if_neg h]
  simp
theorem NumD.stpN {kvs : List (Key × V)} {o : List Int} {u : Int} (h : NumD kvs o) (hu : u ∉ o) : NumD (putK kvs (.inl u) (.int ((o.length : Nat) : Int))) (o ++ [u]) := by
  have hn : valV kvs (.inl u) = none := by rw [h.2 u, if_neg hu]
  refine ⟨by rw [putK_new _ hn, List.length_append, List.length_append, h.1]; rfl, fun x => ?_⟩
  rw [valV_put, h.2 x]
  by_cases e : x = u
  · subst e
    rw [if_pos rfl, if_pos (by simp), idx_last hu]
  · rw [if_neg (fun z => e (Sum.inl.inj z))]
    by_cases hx : x ∈ o
    · rw [if_pos hx, if_pos (by simp [hx]), idx_new hx]
    · rw [if_neg hx, if_neg (by simp [hx, e])]
def sp_unknowns (K : PySem.W.Frag) : Sp := fun vs H Q _ => ∃ (a : Addr) (xs : List V) (ts : List Tm) (P : Int → Prop) (fw : List Int), vs = [.ref a] ∧ (SqL K H a xs ∨ SqT K H a xs) ∧ Ims K H xs (Tm.ds ts) ∧ Tm.oks P ts ∧ (∀ i, P i → i.natAbs < 10 ^ 40) ∧ Tm.deps ts ≤ 50 ∧
  Tm.nod ts ≤ 4000 ∧ (∀ i, P i → i ∈ fw) ∧ fw.length < 64 ∧ ∀ p H' (ns : List Int), H p = none → Mv [] H H' → H' p = some (.lst (ns.map V.int)) → ns.Pairwise (· < ·) → (∀ k, k ∈ ns ↔ k ∈ Tm.leavesL ts) → Q (.ref p) H'
def sp_numbered (K : PySem.W.Frag) : Sp := fun vs H Q _ => ∃ (a : Addr) (xs : List V) (ts : List Tm) (P : Int → Prop), vs = [.ref a] ∧ (SqL K H a xs ∨ SqT K H a xs) ∧ Ims K H xs (Tm.ds ts) ∧ Tm.oks P ts ∧ (∀ i, P i → i.natAbs < 10 ^ 40) ∧ Tm.deps ts ≤ 50 ∧
  Tm.nod ts ≤ 4000 ∧ ∀ p H' ys, H p = none → Mv [] H H' → H' p = some (.lst ys) → Ims K H' ys (Tm.ds (Tm.puts (numF (ordr (Tm.leavesL ts))) ts)) → Q (.ref p) H'
section
variable {P : Program} {w : World} {K : PySem.W.Frag} {mg : Str → Option Value} {base : Heap}
end
end Fm
namespace Fm
open PySem PySem.Spec PyProof.Rows L2
local macro_rules | `(tactic| walk_at "nn") => `(tactic| dsimp only [tC, tNil, tCons, tCB, tCall, gName, tSeq, tAsg, tPar, tDrop, tRet])
local macro_rules | `(tactic| walk_at "nc") => `(tactic| dsimp only [tC, tNil, tCons, tCB])
theorem hu65_of {k : Nat} {A : Around} (h : Room k A) : A.units + 65 < cLine := by
  have := h.un
  omega
def sp_kind (K : PySem.W.Frag) (f : Th → Bool) : Sp := fun vs H Q _ => ∃ (v : V) (t : Th) (b : Addr), vs = [v] ∧ Is K b H v t ∧ ∀ H', Mv [] H H' → Q (.bl (f t)) H'
section
variable {P : Program} {w : World} {K : PySem.W.Frag} {mg : Str → Option Value} {base : Heap}
theorem ok_is_integer (T : TX K mg) {k : Nat} : FnOk P w K mg base CX0 (k + 1) T.d_is_integer.f T.d_is_integer.fd P_is_integer (sp_kind K isWhole) := by
  refine T.d_is_integer.F.ok sc_is_integer (fun vs H Q E h => ?_) (fun cdv A outer s H vs Q E hr h => ?_)
  · obtain ⟨_, _, _, rfl, _⟩ := h
    rfl
  · obtain ⟨v, t, b, rfl, hv, q⟩ := h
    refine ⟨_, (pss_one (ps_ret (pe_and (pe_callB (r := rIsi K) call_isi (by rfl) T.b_isinstance bt_isinstance (pa_cons (pv 0) (pa_cons (pe_ty T.b_int bt_int) pa_nil))) (pe_one (pe_not (pe_callB (r := rIsi K) call_isi (by rfl) T.b_isinstance bt_isinstance (pa_cons (pv 0) (pa_cons (pe_ty T.b_bool bt_bool) pa_nil)))))))), ?_⟩
    refine ⟨v, rfl, ?_⟩
    walk_at "nn"
    refine rd_isi hv (kit_int t) ?_
    refine ⟨_, rfl, ?_⟩
    cases t with
    | int j =>
      refine ⟨v, rfl, ?_⟩
      walk_at "nc"
      exact rd_isi hv (kit_bool (.int j)) ⟨_, rfl, q H .refl⟩
    | bl c =>
      refine ⟨v, rfl, ?_⟩
      walk_at "nc"
      exact rd_isi hv (kit_bool (.bl c)) ⟨_, rfl, q H .refl⟩
    | non => exact q H .refl
    | str x => exact q H .refl
    | tup ts => exact q H .refl
    | lst => exact q H .refl
    | dct => exact q H .refl
theorem ok_is_name (T : TX K mg) {k : Nat} : FnOk P w K mg base CX0 (k + 1) T.d_is_name.f T.d_is_name.fd P_is_name (sp_kind K isNamed) := by
  refine T.d_is_name.F.ok sc_is_name (fun vs H Q E h => ?_) (fun cdv A outer s H vs Q E hr h => ?_)
  · obtain ⟨_, _, _, rfl, _⟩ := h
    rfl
  · obtain ⟨v, t, b, rfl, hv, q⟩ := h
    have hu65 := hu65_of hr
    refine ⟨_, (pss_cons (ps_if (PW.pt (pw_or (pt_not (pt_val (pe_callB (r := rIsi K) call_isi (by rfl) T.b_isinstance bt_isinstance (pa_cons (pv 0) (pa_cons (pe_ty T.b_str bt_str) pa_nil))))) (pw_or1 (pt_not (pt_chain op_le op_le pe_int (pe_callB (r := rLenG K) call_lenG (by rfl) T.b_len bt_len (pa_cons (pv 0) pa_nil)) (pe_glob rfl T.c_MOST_LETTERS T.r_MOST_LETTERS)))))) (pss_one (ps_ret pe_bl)) pss_nil) (pss_one (ps_ret (pe_callB (r := rAll K) (cr_all rfl) (by rfl) T.b_all bt_all (pa_cons (pe_lc (own := [("sign", 1)]) (g := gName 1) (by rfl) sc_is_name.nd (pi_str (pv 0)) (blkOk_by (own := [("sign", 1)]) (N := N_is_name) (sc := defScope s_is_name) (by decide +kernel)) (fun _ _ _ _ _ => pg_name (i := 1) sc_is_name.nd rfl (Or.inl rfl)) (fun _ _ _ _ _ => pts_nil) (fun _ _ _ _ _ => (pe_cmpR (r := rInG K) (op_inG hu65) (pv 1) (pe_glob rfl T.c_LETTERS T.r_LETTERS) rfl))) pa_nil))))), ?_⟩
    refine ⟨v, rfl, ?_⟩
    walk_at "nn"
    refine rd_isi hv (kit_str t) ?_
    refine ⟨_, rfl, ?_⟩
    cases t with
    | int j => exact q H .refl
    | bl c => exact q H .refl
    | non => exact q H .refl
    | tup ts => exact q H .refl
    | lst => exact q H .refl
    | dct => exact q H .refl
    | str x =>
      obtain ⟨rfl, hlen⟩ := hv
      refine ⟨.str x, rfl, ?_⟩
      walk_at "nc"
      refine Or.inr (Or.inl ⟨x, rfl, Nat.le_of_lt (small1000 (by omega)), 1, _, rfl, rfl, _, rfl, ite2 (fun e1 => ?_) (fun e1 => ?_)⟩)
      · refine ⟨_, 8, rfl, rfl, _, rfl, ite2 (fun e2 => ?_) (fun e2 => ?_)⟩
        · have e : isNamed (.str x) = false := by
            simp only [isNamed, nmd]
            have : ¬ x.length ≤ 8 := by simp at e2; omega
            rw [decide_eq_false this]
            simp
          rw [e] at q
          exact q H .refl
        · have h1 : 1 ≤ x.length := by simp at e1; omega
          have h2 : x.length ≤ 8 := by simp at e2; omega
          refine ⟨.str x, rfl, x, rfl, fun D nD => ?_⟩
          have hsz : x.cps.toList.length = x.cps.size := by simp
          have hsl : x.cps.size = x.length := rfl
          refine lc_it walk_str (fun i H1 => H1 D = some (.lst (((x.cps.toList.take i).map fun c => decide (c ∈ lettersS.cps.toList)).map V.bl)) ∧ Mv [] H H1) ⟨upd_same, .new nD⟩ (fun _ _ _ _ => trivial) (fun i y H1 H2 hi h1 hy => ?_) (fun H1 h1 => ?_)
          · obtain ⟨e1, m1⟩ := h1
            obtain ⟨rfl, c, hc, rfl⟩ := hy
            have hc' : x.cps.toList[i]? = some c := by simpa using hc
            refine ⟨rfl, .str ⟨#[c]⟩, rfl, Or.inr ⟨c, _, rfl, rfl, _, e1, ?_, ?_, m1.wr nD⟩⟩
            · rw [List.length_map, List.length_map, List.length_take]
              exact small1000 (by omega)
            · rw [upd_same, List.take_add_one, hc']
              simp
              rfl
          · obtain ⟨e1, m1⟩ := h1
            rw [← hsz, List.take_length] at e1
            refine ⟨D, _, rfl, .inl (.inl e1), ?_⟩
            have e : isNamed (.str x) = ((x.cps.toList.map fun c => decide (c ∈ lettersS.cps.toList)).all id) := by
              simp only [isNamed, nmd]
              rw [decide_eq_true h1, decide_eq_true h2, List.all_map]
              rfl
            rw [← e]
            exact q H1 m1
      · have e : isNamed (.str x) = false := by
          simp only [isNamed, nmd]
          have : ¬ 1 ≤ x.length := by simp at e1; omega
          rw [decide_eq_false this]
          simp
        rw [e] at q
        exact ⟨_, rfl, q H .refl⟩
end
end Fm
namespace Fm
open PySem PySem.Spec PyProof.Rows L2
local macro_rules | `(tactic| walk_at "nn") => `(tactic| dsimp only [tC, tNil, tCons, tCB, tCall, gName, tSeq, tAsg, tPar, tDrop, tRet])
local macro_rules | `(tactic| walk_at "nc") => `(tactic| dsimp only [tC, tNil, tCons, tCB])
theorem isTerms_append (ts us : List Th) : isTerms (ts ++ us) = (isTerms ts && isTerms us) := by
  rw [isTerms_all, isTerms_all, isTerms_all, List.all_append]
theorem Th.cnt_pos (t : Th) : 1 ≤ t.cnt := by cases t <;> simp [Th.cnt]
theorem Th.cnts_len : ∀ ts : List Th, ts.length ≤ Th.cnts ts
  | [] => Nat.zero_le _
  | t :: ts => by
    have := Th.cnts_len ts
    have := t.cnt_pos
    simp only [Th.cnts, List.length_cons]
    omega
def sp_isTerm (K : PySem.W.Frag) : Sp := fun vs H Q _ => ∃ (v : V) (t : Th) (b : Addr), vs = [v] ∧ Is K b H v t ∧ t.cnt ≤ 90000 ∧ ∀ H', Mv [] H H' → Q (.bl (isTerm t)) H'
section
variable {P : Program} {w : World} {K : PySem.W.Frag} {mg : Str → Option Value} {base : Heap}
theorem ok_is_term (T : TX K mg) {k : Nat} : FnOk P w K mg base CX0 (k + 2) T.d_is_term.f T.d_is_term.fd P_is_term (sp_isTerm K) := by
  have G_is_integer : FnOk P w K mg base CX0 1 T.d_is_integer.f T.d_is_integer.fd P_is_integer (sp_kind K isWhole) := ok_is_integer T
  have G_is_name : FnOk P w K mg base CX0 1 T.d_is_name.f T.d_is_name.fd P_is_name (sp_kind K isNamed) := ok_is_name T
  refine T.d_is_term.F.ok sc_is_term (fun vs H Q E h => ?_) (fun cdv A outer s H vs Q E hr h => ?_)
  · obtain ⟨_, _, _, rfl, _⟩ := h
    rfl
  · obtain ⟨v, t, b, rfl, hv, hcn, q⟩ := h
    have hu65 := hu65_of hr
    refine ⟨_, (pss_cons (ps_set (i := 1) sc_is_term.nd rfl (Or.inl rfl) (pe_lst (pa_cons (pv 0) pa_nil))) (pss_cons (ps_while PassesOwn.never (pt_cmpR (r := rNeNil K) (op_neNil (Nat.lt_of_le_of_lt (Nat.le_add_right _ 65) hu65)) (pv 1) (pe_lst pa_nil) (nomark _)) (pss_cons (ps_set (i := 2) sc_is_term.nd rfl (Or.inl rfl) (pe_bm0 PySem.F.plainAttrs_list PySem.F.slot_list_pop PySem.F.type_list_pop mt_pop (pv 1))) (pss_one (ps_if (pt_val (pe_call G_is_integer (hr.mono (by omega)) rfl T.d_is_integer.g T.d_is_integer.F.kp T.d_is_integer.b .nil pass0 (pa_cons (pv 2) pa_nil))) (pss_one (ps_if (pt_cmpR op_lt (pv 2) pe_int (nomark _)) (pss_one (ps_ret pe_bl)) pss_nil)) (pss_one (ps_if (PW.pt (pw_or (pt_not (pt_val (pe_callB (r := rIsi K) call_isi (by rfl) T.b_isinstance bt_isinstance (pa_cons (pv 2) (pa_cons (pe_ty T.b_tuple bt_tuple) pa_nil))))) (pw_or (pt_not (pt_chain op_le op_le pe_int (pe_callB (r := rLenG K) call_lenG (by rfl) T.b_len bt_len (pa_cons (pv 2) pa_nil)) (pe_op (r := rAddG K) op_addG pe_int (pe_glob rfl T.c_MOST_PARTS T.r_MOST_PARTS)))) (pw_or1 (pt_not (pt_val (pe_call G_is_name (hr.mono (by omega)) rfl T.d_is_name.g T.d_is_name.F.kp T.d_is_name.b .nil pass0 (pa_cons (pe_ix (r := rIx K) ix_seq (pv 2) pe_int (fun _ _ => rfl)) pa_nil)))))))) (pss_one (ps_ret pe_bl)) (pss_one (ps_expr (pe_bm PySem.F.plainAttrs_list PySem.F.slot_list_extend PySem.F.type_list_extend (r := rExtG K) mt_extendG (pv 1) (pa_cons (pe_slice (r := rSlG K) sl_G (pv 2) (po_some pe_int) po_none) pa_nil)))))))))) (pss_one (ps_ret pe_bl)))), ?_⟩
    refine ⟨v, rfl, (by decide : 1 ≤ sizeLine), fun l nl => ?_⟩
    refine ⟨fun m σ H2 => ∃ (ys : List V) (us : List Th) (y : Option V), σ = [some v, some (.ref l), y] ∧ H2 l = some (.lst ys) ∧ IsAll K b H ys us ∧ isTerms us = isTerm t ∧ Th.cnts us ≤ 90000 ∧ m = Th.cnts us ∧ Mv [] H H2,
      ⟨_, [v], [t], none, rfl, upd_same, IsAll.cons hv IsAll.nil, by simp [isTerms], by simp only [Th.cnts]; omega, rfl, .new nl⟩, fun m σ H2 hW => ?_⟩
    obtain ⟨ys, us, y, rfl, e2, i2, s2, b2, rfl, m2⟩ := hW
    refine ⟨.ref l, rfl, Nat.zero_le _, fun q1 n1 => ⟨l, q1, ys, rfl, rfl, .inl (.inl (same_new n1 _ _ e2)), .inl (.inl upd_same), ?_⟩⟩
    have m23 : Mv [] H (upd H2 q1 (.lst [])) := m2.trans (.new n1)
    have e3 : upd H2 q1 (.lst []) l = some (.lst ys) := same_new n1 _ _ e2
    generalize upd H2 q1 (.lst []) = H3 at m23 e3 ⊢
    refine ⟨_, rfl, ?_⟩
    rcases List.eq_nil_or_concat us with rfl | ⟨us', u, rfl⟩
    · have hy : ys = [] := i2
      subst hy
      rw [show isTerms ([] : List Th) = true from by simp [isTerms]] at s2
      rw [← s2] at q
      exact q H3 m23
    · rw [List.concat_eq_append] at *
      obtain ⟨ys', z, rfl, i4, hz⟩ := IsAll.last rfl i2
      rw [show (!(ys' ++ [z]).isEmpty) = true by simp]
      refine ⟨fun σ' H' => ∃ m', m' < Th.cnts (us' ++ [u]) ∧ _, fun _ _ h => h, ?_⟩
      refine ⟨.ref l, rfl, .inl ⟨rfl, _, .inl (.inl e3)⟩, l, _, z, rfl, rfl, e3, by simp, ?_⟩
      have m25 : Mv [] H (upd H3 l (.lst (ys' ++ [z]).dropLast)) := m23.wr nl
      have e5 : upd H3 l (.lst (ys' ++ [z]).dropLast) l = some (.lst ys') := by rw [upd_same, List.dropLast_concat]
      generalize upd H3 l (.lst (ys' ++ [z]).dropLast) = H5 at m25 e5 ⊢
      rw [Th.cnts_append] at b2 ⊢
      rw [isTerms_append] at s2
      have e1u : isTerms [u] = isTerm u := by simp [isTerms]
      have c1u : Th.cnts [u] = u.cnt := by simp [Th.cnts]
      rw [e1u] at s2
      rw [c1u] at b2 ⊢
      have hpos := u.cnt_pos
      have hbad : isTerm u = false → isTerm t = false := fun e => by rw [← s2, e, Bool.and_false]
      refine ⟨z, rfl, z, u, b, rfl, hz.mv0 m25, fun H6 m6 => ?_⟩
      have m26 := m25.trans m6
      have e6 := m6.same _ _ e5
      refine ⟨_, rfl, ?_⟩
      have bad : isTupT u = false → isWhole u = false → isTerm u = false := fun h1 h2 => by
        cases u <;> simp [isTupT, isWhole, isTerm] at *
      cases u with
      | int i =>
        cases (show z = V.int i from hz)
        refine ⟨.int i, rfl, i, 0, rfl, rfl, _, rfl, ite2 (fun e => ?_) (fun e => ?_)⟩
        · have h0 : ¬ 0 ≤ i := by simp at e; omega
          have e9 := hbad (by simp only [isTerm]; exact decide_eq_false h0)
          rw [e9] at q
          exact q H6 m26
        · have h0 : 0 ≤ i := by simp at e; omega
          refine ⟨Th.cnts us', by omega, ys', us', _, rfl, e6, i4, ?_, by omega, rfl, m26⟩
          rw [← s2]
          simp only [isTerm]
          rw [decide_eq_true h0, Bool.and_true]
      | tup ts =>
        obtain ⟨a1, zs0, rfl, ha1, hzs0⟩ := hz
        have hl0 := hzs0.length
        have ha6 := m26.sqT ha1
        refine ⟨.ref a1, rfl, ?_⟩
        walk_at "nn"
        refine rd_isi (show Is K b H6 (.ref a1) (.tup ts) from ⟨a1, zs0, rfl, ha6, hzs0.mv0 m26⟩) (kit_tup (.tup ts)) ⟨_, rfl, ?_⟩
        refine ⟨.ref a1, rfl, ?_⟩
        walk_at "nc"
        refine rd_len (.inr ha6) ⟨1, _, rfl, rfl, _, rfl, ite2 (fun e => ?_) (fun e => ?_)⟩
        · have h1 : 1 ≤ zs0.length := by simp at e; omega
          refine Or.inl ⟨1, 3, rfl, rfl, _, _, rfl, rfl, _, rfl, ite2 (fun e1 => ?_) (fun e1 => ?_)⟩
          · have h2 : ¬ zs0.length ≤ 4 := by simp at e1; omega
            have e9 := hbad (by
              cases ts with
              | nil => simp [isTerm]
              | cons t0 tr =>
                simp only [List.length_cons] at hl0
                simp only [isTerm]
                rw [decide_eq_false (show ¬ tr.length ≤ 3 by omega)]
                simp)
            rw [e9] at q
            exact q H6 m26
          · have h2 : zs0.length ≤ 4 := by simp at e1; omega
            cases ts with
            | nil =>
              simp only [List.length_nil] at hl0
              omega
            | cons t0 tr =>
              obtain ⟨z0, zs, rfl, hz0, hzs⟩ := hzs0
              simp only [List.length_cons] at hl0 h2
              refine ⟨.ref a1, rfl, rd_ixT ha6 (by decide) (v := z0) rfl ?_⟩
              refine ⟨z0, t0, b, rfl, hz0.mv0 m26, fun H7 m7 => ⟨_, rfl, ite2 (fun e2 => ?_) (fun e2 => ?_)⟩⟩
              · have e9 := hbad (by
                  simp only [isTerm]
                  rw [show isNamed t0 = false by simpa using e2]
                  simp)
                rw [e9] at q
                exact q H7 (m26.trans m7)
              · have m27 := m26.trans m7
                have e7 := m7.same _ _ e6
                refine ⟨.ref l, rfl, .inl ⟨rfl, _, .inl (.inl e7)⟩, .ref a1, rfl, 1, rfl, rd_sl1 (m27.sqT ha1) fun p8 H8 m8 e8 => ?_⟩
                have hl4 := i4.length
                have hc4 := Th.cnts_len us'
                simp only [Th.cnt, Th.cnts] at b2 ⊢
                have hpos0 := t0.cnt_pos
                have hczs := Th.cnts_len tr
                refine Or.inr ⟨l, p8, ys', zs, rfl, rfl, m8.same _ _ e7, e8, Nat.le_trans (show ys'.length + zs.length ≤ 100000 by omega) (by decide), ?_⟩
                refine ⟨Th.cnts (us' ++ tr), by rw [Th.cnts_append]; omega, ys' ++ zs, us' ++ tr, _, rfl, upd_same, i4.append hzs, ?_, by rw [Th.cnts_append]; omega, rfl, (m27.trans m8).wr nl⟩
                rw [← s2, isTerms_append]
                simp only [isTerm]
                rw [show isNamed t0 = true by simpa using e2, decide_eq_true (show tr.length ≤ 3 by omega)]
                rfl
        · have h1 : ¬ 1 ≤ zs0.length := by simp at e; omega
          have e9 := hbad (by
            cases ts with
            | nil => simp [isTerm]
            | cons t0 tr =>
              simp only [List.length_cons] at hl0
              omega)
          rw [e9] at q
          exact ⟨_, rfl, q H6 m26⟩
      | non =>
        refine ⟨z, rfl, ?_⟩
        walk_at "nn"
        refine rd_isi (hz.mv0 m26) (kit_tup .non) ⟨_, rfl, ?_⟩
        have e9 := hbad (by simp [isTerm])
        rw [e9] at q
        exact q H6 m26
      | bl c =>
        refine ⟨z, rfl, ?_⟩
        walk_at "nn"
        refine rd_isi (hz.mv0 m26) (kit_tup (.bl c)) ⟨_, rfl, ?_⟩
        have e9 := hbad (by simp [isTerm])
        rw [e9] at q
        exact q H6 m26
      | str x =>
        refine ⟨z, rfl, ?_⟩
        walk_at "nn"
        refine rd_isi (hz.mv0 m26) (kit_tup (.str x)) ⟨_, rfl, ?_⟩
        have e9 := hbad (by simp [isTerm])
        rw [e9] at q
        exact q H6 m26
      | lst =>
        refine ⟨z, rfl, ?_⟩
        walk_at "nn"
        refine rd_isi (hz.mv0 m26) (kit_tup .lst) ⟨_, rfl, ?_⟩
        have e9 := hbad (by simp [isTerm])
        rw [e9] at q
        exact q H6 m26
      | dct =>
        refine ⟨z, rfl, ?_⟩
        walk_at "nn"
        refine rd_isi (hz.mv0 m26) (kit_tup .dct) ⟨_, rfl, ?_⟩
        have e9 := hbad (by simp [isTerm])
        rw [e9] at q
        exact q H6 m26
end
end Fm
namespace Fm
open PySem PySem.Spec PyProof.Rows L2
local macro_rules | `(tactic| walk_at "nn") => `(tactic| dsimp only [tC, tNil, tCons, tCB, tCall, gName, tSeq, tAsg, tPar, tDrop, tRet])
local macro_rules | `(tactic| walk_at "nc") => `(tactic| dsimp only [tC, tNil, tCons, tCB])
def initS (x : Str) : Str := ⟨(x.cps.toList.take (x.length - 1)).toArray⟩
def dashed (x : Str) : Bool := decide (x.cps.toList.drop (x.length - 1) = [45])
def isOutc : Th → Bool
  | .str x => if dashed x = true then nmd (initS x) else nmd x
  | _ => false
def sp_vals (K : PySem.W.Frag) : Sp := fun vs H Q _ => ∃ (n : Int) (v : V) (t : Th) (b : Addr), vs = [.int n, v] ∧ Is K b H v t ∧ t.cnt ≤ 90000 ∧ ∀ H', Mv [] H H' → Q (.bl (match t with | .tup ts => decide ((ts.length : Int) = n) && isTerms ts | _ => false)) H'
section
variable {P : Program} {w : World} {K : PySem.W.Frag} {mg : Str → Option Value} {base : Heap}
end
end Fm
namespace Fm
open PySem PySem.Spec PyProof.Rows L2
local macro_rules | `(tactic| walk_at "nn") => `(tactic| dsimp only [tC, tNil, tCons, tCB, tCall, gName, tSeq, tAsg, tPar, tDrop, tRet])
local macro_rules | `(tactic| walk_at "nc") => `(tactic| dsimp only [tC, tNil, tCons, tCB])
section
variable {P : Program} {w : World} {K : PySem.W.Frag} {mg : Str → Option Value} {base : Heap}
end
end Fm
namespace Fm
open PySem PySem.Spec PyProof.Rows L2 SlX
local macro_rules | `(tactic| walk_at "nn") => `(tactic| dsimp only [tC, tNil, tCons, tCB, tCall, gName, tSeq, tAsg, tPar, tDrop, tRet])
local macro_rules | `(tactic| walk_at "nc") => `(tactic| dsimp only [tC, tNil, tCons, tCB, tCall])
abbrev P40 (i : Int) : Prop := 0 ≤ i ∧ i.natAbs < 10 ^ 40
def sp_show (K : PySem.W.Frag) (d : Nat) : Sp := fun vs H Q _ => ∃ (v : V) (t : Tm), vs = [v] ∧ Im K H v t.d ∧ t.ok P40 ∧ t.dep < d ∧ t.cx.length ≤ 100000 ∧ ∀ H', Mv [] H H' → Q (.str (SX.S t.cx)) H'
def sp_lis (K : PySem.W.Frag) (d : Nat) : Sp := fun vs H Q _ => ∃ (a : Addr) (xs : List V) (ts : List Tm), vs = [.ref a] ∧ SqT K H a xs ∧ Ims K H xs (Tm.ds ts) ∧ Tm.oks P40 ts ∧ Tm.deps ts < d ∧ (lisC ts).length ≤ 100000 ∧ ∀ H', Mv [] H H' → Q (.str (SX.S (lisC ts))) H'
theorem num_str {i : Int} (h : 0 ≤ i) : ((toString i : String) : Str) = SX.S (TL.numL i.toNat) := by
  obtain ⟨n, rfl⟩ := Int.eq_ofNat_of_zero_le h
  rw [Int.toNat_natCast]
  exact SX.num_S n
theorem num_log {i : Int} (h : i.natAbs < 10 ^ 40) : i.natAbs.log2 < 1920 := by
  exact Nat.lt_of_lt_of_le (PySem.Flt.log2_lt_of (k := 140) (by decide) (Nat.lt_trans h (by decide +kernel))) (by decide)
theorem joinL_part : ∀ {l : List (List Nat)} {p : List Nat}, p ∈ l → p.length ≤ (TL.joinL [44] l).length
  | [q], p, h => by
    rw [List.mem_singleton.mp h]
    exact Nat.le_refl _
  | q :: q' :: l, p, h => by
    simp only [TL.joinL, List.length_append]
    rcases List.mem_cons.mp h with rfl | h
    · omega
    · have := joinL_part h
      omega
theorem joinL_sum : ∀ (l : List (List Nat)), (l.map List.length).sum + (l.length - 1) = (TL.joinL [44] l).length
  | [] => rfl
  | [q] => by simp [TL.joinL]
  | q :: q' :: l => by
    have := joinL_sum (q' :: l)
    simp only [TL.joinL, List.length_append, List.map_cons, List.sum_cons, List.length_cons, List.length_nil] at this ⊢
    omega
theorem cx_part {t : Tm} {ts : List Tm} (h : t ∈ ts) : t.cx.length ≤ (lisC ts).length := by
  have := joinL_part (List.mem_map.mpr ⟨t, h, rfl⟩ : t.cx ∈ ts.map Tm.cx)
  unfold lisC
  rw [List.length_cons, List.length_append]
  omega
section
variable {P : Program} {w : World} {K : PySem.W.Frag} {mg : Str → Option Value} {base : Heap}
theorem ok_listed_of (T : TX K mg) {d k : Nat} (G_show_term : FnOk P w K mg base CX0 k T.d_show_term.f T.d_show_term.fd P_show_term (sp_show K d)) : FnOk P w K mg base CX0 (k + 1) T.d_listed.f T.d_listed.fd P_listed (sp_lis K d) := by
  refine T.d_listed.F.ok sc_listed (fun vs H Q E h => ?_) (fun cdv A outer s H vs Q E hr h => ?_)
  · obtain ⟨_, _, _, rfl, _⟩ := h
    rfl
  · obtain ⟨a, xs, ts, rfl, ha, hx, ho, hd, hl, q⟩ := h
    have hu64 := hr.units
    have hxl : xs.length = ts.length := by rw [hx.length, Tm.ds_map, List.length_map]
    refine ⟨_, (pss_one (ps_ret (pe_op (r := rAddG K) op_addG (pe_op (r := rAddG K) op_addG pe_str (pe_bm PySem.F.plainAttrs_str PySem.F.slot_str_join PySem.F.type_str_join mt_join pe_str (pa_cons (pe_lc (own := [("term", 1)]) (g := gName 1) (by rfl) sc_listed.nd (pi_seq (pv 0)) (blkOk_by (own := [("term", 1)]) (N := N_listed) (sc := defScope s_listed) (by decide +kernel)) (fun _ _ _ _ _ => pg_name (i := 1) sc_listed.nd rfl (Or.inl rfl)) (fun _ _ _ _ _ => pts_nil) (fun _ _ _ _ _ => (pe_call G_show_term (hr.mono (by omega)) rfl T.d_show_term.g T.d_show_term.F.kp T.d_show_term.b .nil pass0 (pa_cons (pv 1) pa_nil)))) pa_nil))) pe_str))), ?_⟩
    refine ⟨rfl, .ref a, rfl, a, rfl, ?_⟩
    have hjl := joinL_sum (ts.map Tm.cx)
    have hll : (lisC ts).length = (TL.joinL [44] (ts.map Tm.cx)).length + 2 := by simp [lisC]
    have htl : ts.length ≤ 100001 := by
      rw [List.length_map] at hjl
      omega
    refine lc_seq (xs := xs) (.inr ha) (fun i D H1 => H1 D = some (.lst ((((ts.take i).map Tm.cx).map SX.S).map V.str)) ∧ Mv [] H H1)
      (fun D nD => ⟨upd_same, .new nD⟩) (fun i D H1 nD h1 => h1.2) (fun D nD i x H1 hx1 h1 => ?_) (fun D H1 nD h1 => ?_)
    · obtain ⟨e1, m1⟩ := h1
      obtain ⟨xd, hxd, him⟩ := hx.get hx1
      rw [Tm.ds_map, List.getElem?_map] at hxd
      obtain ⟨u, hu, rfl⟩ := Option.map_eq_some_iff.mp hxd
      have hmem := List.mem_of_getElem? hu
      have hi := (List.getElem?_eq_some_iff.mp hu).1
      refine ⟨rfl, x, rfl, x, u, rfl, him.mv m1, Tm.oks_iff.mp ho u hmem, Nat.lt_of_le_of_lt (Tm.deps_le.mp (Nat.le_refl _) u hmem) hd, Nat.le_trans (cx_part hmem) hl, fun H2 m2 => ?_⟩
      have e2 := m2.same _ _ e1
      refine ⟨_, e2, ?_, ?_, (m1.trans m2).wr nD⟩
      · rw [List.length_map, List.length_map, List.length_map, List.length_take]
        exact Nat.lt_of_le_of_lt (show _ ≤ 100001 by omega) (by decide)
      · rw [upd_same, List.take_add_one, hu]
        simp
    · obtain ⟨e1, m1⟩ := h1
      rw [hxl, List.take_length] at e1
      refine ⟨_, D, _, rfl, rfl, .inl (.inl (.inl e1)), ?_, ?_⟩
      · have l1 : (("," : String) : Str).length = 1 := by decide +kernel
        rw [show (fun y : Str => y.length) = fun y : Str => y.length from rfl, SX.lens, List.length_map, List.length_map, l1]
        have h2 : ((ts.map Tm.cx).map fun x => x.length).sum = ((ts.map Tm.cx).map List.length).sum := rfl
        rw [List.length_map] at hjl
        rw [h2]
        omega
      · have ej : Txt.join "," ((ts.map Tm.cx).map SX.S) = SX.S (TL.joinL [44] (ts.map Tm.cx)) := by
          rw [show (("," : String) : Str) = SX.S [44] by decide +kernel]
          exact SX.join_S [44] _
        rw [ej]
        refine Or.inr (Or.inl ⟨_, _, rfl, rfl, ?_, ?_⟩)
        · rw [show (("(" : String) : Str) = SX.S [40] by decide +kernel, SX.S_len, SX.S_len]
          exact Nat.le_trans (show _ ≤ 100002 by simp; omega) (by decide)
        rw [show (("(" : String) : Str) = SX.S [40] by decide +kernel, SX.S_cat]
        refine Or.inr (Or.inl ⟨_, _, rfl, rfl, ?_, ?_⟩)
        · rw [show ((")" : String) : Str) = SX.S [41] by decide +kernel, SX.S_len, SX.S_len]
          exact Nat.le_trans (show _ ≤ 100003 by simp; omega) (by decide)
        rw [show ((")" : String) : Str) = SX.S [41] by decide +kernel, SX.S_cat]
        exact q H1 m1
theorem ok_show_term (T : TX K mg) : ∀ d : Nat, FnOk P w K mg base CX0 (2 * d + 1) T.d_show_term.f T.d_show_term.fd P_show_term (sp_show K d)
  | 0 => ⟨fun vs H Q E h => by obtain ⟨_, _, _, _, _, h, _⟩ := h; omega, fun _ _ _ _ _ _ _ _ _ _ _ _ _ h => by obtain ⟨_, _, _, _, _, h, _⟩ := h; omega⟩
  | d + 1 => by
    have G_listed : FnOk P w K mg base CX0 (2 * d + 2) T.d_listed.f T.d_listed.fd P_listed (sp_lis K d) := ok_listed_of T (ok_show_term T d)
    refine T.d_show_term.F.ok sc_show_term (fun vs H Q E h => ?_) (fun cdv A outer s H vs Q E hr h => ?_)
    · obtain ⟨_, _, rfl, _⟩ := h
      rfl
    · obtain ⟨v, t, rfl, him, ho, hd, hl, q⟩ := h
      have hu64 := hr.units
      refine ⟨_, (pss_cons (ps_if (pt_val (pe_callB (r := rIsi K) call_isi (by rfl) T.b_isinstance bt_isinstance (pa_cons (pv 0) (pa_cons (pe_ty T.b_int bt_int) pa_nil)))) (pss_one (ps_ret (pe_callTy call_str_int (by rfl) T.b_str bt_str (pa_cons (pv 0) pa_nil)))) pss_nil) (pss_one (ps_ret (pe_ifExp (pt_cmpR (r := rEqG K) (op_eqG hu64) (pe_callB (r := rLenG K) call_lenG (by rfl) T.b_len bt_len (pa_cons (pv 0) pa_nil)) pe_int (nomark _)) (pe_ix (r := rIx K) ix_seq (pv 0) pe_int (fun _ _ => rfl)) (pe_op (r := rAddG K) op_addG (pe_ix (r := rIx K) ix_seq (pv 0) pe_int (fun _ _ => rfl)) (pe_call G_listed (hr.mono (by omega)) rfl T.d_listed.g T.d_listed.F.kp T.d_listed.b .nil pass0 (pa_cons (pe_slice (r := rSlG K) sl_G (pv 0) (po_some pe_int) po_none) pa_nil))))))), ?_⟩
      refine ⟨v, rfl, ?_⟩
      walk_at "nn"
      refine rd_isInt him ?_
      refine ⟨_, rfl, ?_⟩
      cases t with
      | var i =>
        cases him.intI
        refine ⟨.int i, rfl, i, rfl, num_log ho.2, ?_⟩
        rw [num_str ho.1]
        exact q H .refl
      | op x ts =>
        obtain ⟨a, z1, rfl, ha, hz1⟩ := him.tupI
        obtain ⟨n1, xs, rfl, hn1, hxs⟩ := hz1.invD
        cases hn1.strI
        have hxl : xs.length = ts.length := by rw [hxs.length, Tm.ds_map, List.length_map]
        refine ⟨.ref a, rfl, ?_⟩
        walk_at "nc"
        refine rd_len (.inr ha) (Or.inl ⟨rfl, _, rfl, ?_⟩)
        cases ts with
        | nil =>
          rw [decide_eq_true (by rw [List.length_cons, hxl]; rfl)]
          refine ⟨.ref a, rfl, rd_ixT ha (by decide) (v := .str x) rfl ?_⟩
          have := q H .refl
          rwa [Tm.cx, Tm.cxP, List.append_nil, S_tl'] at this
        | cons u ts =>
          rw [decide_eq_false (fun z => by
            have := V.int.inj z
            rw [List.length_cons, hxl, List.length_cons] at this
            omega)]
          refine ⟨.ref a, rfl, rd_ixT ha (by decide) (v := .str x) rfl ⟨.ref a, rfl, 1, rfl, rd_sl1 ha fun p H1 m1 e1 => ?_⟩⟩
          have hxn : x.cps.toList.length ≤ 8 := by have := ho.1.2.1; simpa [Str.length] using this
          have hll : (lisC (u :: ts)).length ≤ 100000 := by
            rw [lisC_cons]
            rw [Tm.cx, List.length_append] at hl
            omega
          simp only [Tm.dep] at hd
          refine ⟨p, xs, u :: ts, rfl, e1, hxs.mv m1, ho.2.2, by omega, hll, fun H2 m2 => ?_⟩
          refine Or.inr (Or.inl ⟨_, _, rfl, rfl, ?_, ?_⟩)
          · have e1 : x.length = x.cps.toList.length := by simp [Str.length]
            have e2 : (SX.S (lisC (u :: ts))).length = (lisC (u :: ts)).length := SX.S_len _
            exact Nat.le_trans (show x.length + (SX.S (lisC (u :: ts))).length ≤ 100008 by omega) (by decide)
          have := q H2 (m1.trans m2)
          rw [Tm.cx, ← lisC_cons, ← SX.S_cat, S_tl'] at this
          exact this
theorem ok_listed (T : TX K mg) (d : Nat) : FnOk P w K mg base CX0 (2 * d + 2) T.d_listed.f T.d_listed.fd P_listed (sp_lis K d) := ok_listed_of T (ok_show_term T d)
theorem ok__law_listed_text_of (T : TX K mg) {d k : Nat} (G__law_term_text : FnOk P w K mg base CX0 k T.d__law_term_text.f T.d__law_term_text.fd P__law_term_text (sp_show K d)) : FnOk P w K mg base CX0 (k + 1) T.d__law_listed_text.f T.d__law_listed_text.fd P__law_listed_text (sp_lis K d) := by
  refine T.d__law_listed_text.F.ok sc__law_listed_text (fun vs H Q E h => ?_) (fun cdv A outer s H vs Q E hr h => ?_)
  · obtain ⟨_, _, _, rfl, _⟩ := h
    rfl
  · obtain ⟨a, xs, ts, rfl, ha, hx, ho, hd, hl, q⟩ := h
    have hu64 := hr.units
    have hxl : xs.length = ts.length := by rw [hx.length, Tm.ds_map, List.length_map]
    refine ⟨_, (pss_one (ps_ret (pe_op (r := rAddG K) op_addG (pe_op (r := rAddG K) op_addG pe_str (pe_bm PySem.F.plainAttrs_str PySem.F.slot_str_join PySem.F.type_str_join mt_join pe_str (pa_cons (pe_lc (own := [("_law_term_here", 1)]) (g := gName 1) (by rfl) sc__law_listed_text.nd (pi_seq (pv 0)) (blkOk_by (own := [("_law_term_here", 1)]) (N := N__law_listed_text) (sc := defScope s__law_listed_text) (by decide +kernel)) (fun _ _ _ _ _ => pg_name (i := 1) sc__law_listed_text.nd rfl (Or.inl rfl)) (fun _ _ _ _ _ => pts_nil) (fun _ _ _ _ _ => (pe_call G__law_term_text (hr.mono (by omega)) rfl T.d__law_term_text.g T.d__law_term_text.F.kp T.d__law_term_text.b .nil pass0 (pa_cons (pv 1) pa_nil)))) pa_nil))) pe_str))), ?_⟩
    refine ⟨rfl, .ref a, rfl, a, rfl, ?_⟩
    have hjl := joinL_sum (ts.map Tm.cx)
    have hll : (lisC ts).length = (TL.joinL [44] (ts.map Tm.cx)).length + 2 := by simp [lisC]
    have htl : ts.length ≤ 100001 := by
      rw [List.length_map] at hjl
      omega
    refine lc_seq (xs := xs) (.inr ha) (fun i D H1 => H1 D = some (.lst ((((ts.take i).map Tm.cx).map SX.S).map V.str)) ∧ Mv [] H H1)
      (fun D nD => ⟨upd_same, .new nD⟩) (fun i D H1 nD h1 => h1.2) (fun D nD i x H1 hx1 h1 => ?_) (fun D H1 nD h1 => ?_)
    · obtain ⟨e1, m1⟩ := h1
      obtain ⟨xd, hxd, him⟩ := hx.get hx1
      rw [Tm.ds_map, List.getElem?_map] at hxd
      obtain ⟨u, hu, rfl⟩ := Option.map_eq_some_iff.mp hxd
      have hmem := List.mem_of_getElem? hu
      have hi := (List.getElem?_eq_some_iff.mp hu).1
      refine ⟨rfl, x, rfl, x, u, rfl, him.mv m1, Tm.oks_iff.mp ho u hmem, Nat.lt_of_le_of_lt (Tm.deps_le.mp (Nat.le_refl _) u hmem) hd, Nat.le_trans (cx_part hmem) hl, fun H2 m2 => ?_⟩
      have e2 := m2.same _ _ e1
      refine ⟨_, e2, ?_, ?_, (m1.trans m2).wr nD⟩
      · rw [List.length_map, List.length_map, List.length_map, List.length_take]
        exact Nat.lt_of_le_of_lt (show _ ≤ 100001 by omega) (by decide)
      · rw [upd_same, List.take_add_one, hu]
        simp
    · obtain ⟨e1, m1⟩ := h1
      rw [hxl, List.take_length] at e1
      refine ⟨_, D, _, rfl, rfl, .inl (.inl (.inl e1)), ?_, ?_⟩
      · have l1 : (("," : String) : Str).length = 1 := by decide +kernel
        rw [show (fun y : Str => y.length) = fun y : Str => y.length from rfl, SX.lens, List.length_map, List.length_map, l1]
        have h2 : ((ts.map Tm.cx).map fun x => x.length).sum = ((ts.map Tm.cx).map List.length).sum := rfl
        rw [List.length_map] at hjl
        rw [h2]
        omega
      · have ej : Txt.join "," ((ts.map Tm.cx).map SX.S) = SX.S (TL.joinL [44] (ts.map Tm.cx)) := by
          rw [show (("," : String) : Str) = SX.S [44] by decide +kernel]
          exact SX.join_S [44] _
        rw [ej]
        refine Or.inr (Or.inl ⟨_, _, rfl, rfl, ?_, ?_⟩)
        · rw [show (("(" : String) : Str) = SX.S [40] by decide +kernel, SX.S_len, SX.S_len]
          exact Nat.le_trans (show _ ≤ 100002 by simp; omega) (by decide)
        rw [show (("(" : String) : Str) = SX.S [40] by decide +kernel, SX.S_cat]
        refine Or.inr (Or.inl ⟨_, _, rfl, rfl, ?_, ?_⟩)
        · rw [show ((")" : String) : Str) = SX.S [41] by decide +kernel, SX.S_len, SX.S_len]
          exact Nat.le_trans (show _ ≤ 100003 by simp; omega) (by decide)
        rw [show ((")" : String) : Str) = SX.S [41] by decide +kernel, SX.S_cat]
        exact q H1 m1
theorem ok__law_term_text (T : TX K mg) : ∀ d : Nat, FnOk P w K mg base CX0 (2 * d + 1) T.d__law_term_text.f T.d__law_term_text.fd P__law_term_text (sp_show K d)
  | 0 => ⟨fun vs H Q E h => by obtain ⟨_, _, _, _, _, h, _⟩ := h; omega, fun _ _ _ _ _ _ _ _ _ _ _ _ _ h => by obtain ⟨_, _, _, _, _, h, _⟩ := h; omega⟩
  | d + 1 => by
    have G__law_listed_text : FnOk P w K mg base CX0 (2 * d + 2) T.d__law_listed_text.f T.d__law_listed_text.fd P__law_listed_text (sp_lis K d) := ok__law_listed_text_of T (ok__law_term_text T d)
    refine T.d__law_term_text.F.ok sc__law_term_text (fun vs H Q E h => ?_) (fun cdv A outer s H vs Q E hr h => ?_)
    · obtain ⟨_, _, rfl, _⟩ := h
      rfl
    · obtain ⟨v, t, rfl, him, ho, hd, hl, q⟩ := h
      have hu64 := hr.units
      refine ⟨_, (pss_cons (ps_if (pt_val (pe_callB (r := rIsi K) call_isi (by rfl) T.b_isinstance bt_isinstance (pa_cons (pv 0) (pa_cons (pe_ty T.b_int bt_int) pa_nil)))) (pss_one (ps_ret (pe_callTy call_str_int (by rfl) T.b_str bt_str (pa_cons (pv 0) pa_nil)))) pss_nil) (pss_one (ps_ret (pe_ifExp (pt_cmpR (r := rEqG K) (op_eqG hu64) (pe_callB (r := rLenG K) call_lenG (by rfl) T.b_len bt_len (pa_cons (pv 0) pa_nil)) pe_int (nomark _)) (pe_ix (r := rIx K) ix_seq (pv 0) pe_int (fun _ _ => rfl)) (pe_op (r := rAddG K) op_addG (pe_ix (r := rIx K) ix_seq (pv 0) pe_int (fun _ _ => rfl)) (pe_call G__law_listed_text (hr.mono (by omega)) rfl T.d__law_listed_text.g T.d__law_listed_text.F.kp T.d__law_listed_text.b .nil pass0 (pa_cons (pe_slice (r := rSlG K) sl_G (pv 0) (po_some pe_int) po_none) pa_nil))))))), ?_⟩
      refine ⟨v, rfl, ?_⟩
      walk_at "nn"
      refine rd_isInt him ?_
      refine ⟨_, rfl, ?_⟩
      cases t with
      | var i =>
        cases him.intI
        refine ⟨.int i, rfl, i, rfl, num_log ho.2, ?_⟩
        rw [num_str ho.1]
        exact q H .refl
      | op x ts =>
        obtain ⟨a, z1, rfl, ha, hz1⟩ := him.tupI
        obtain ⟨n1, xs, rfl, hn1, hxs⟩ := hz1.invD
        cases hn1.strI
        have hxl : xs.length = ts.length := by rw [hxs.length, Tm.ds_map, List.length_map]
        refine ⟨.ref a, rfl, ?_⟩
        walk_at "nc"
        refine rd_len (.inr ha) (Or.inl ⟨rfl, _, rfl, ?_⟩)
        cases ts with
        | nil =>
          rw [decide_eq_true (by rw [List.length_cons, hxl]; rfl)]
          refine ⟨.ref a, rfl, rd_ixT ha (by decide) (v := .str x) rfl ?_⟩
          have := q H .refl
          rwa [Tm.cx, Tm.cxP, List.append_nil, S_tl'] at this
        | cons u ts =>
          rw [decide_eq_false (fun z => by
            have := V.int.inj z
            rw [List.length_cons, hxl, List.length_cons] at this
            omega)]
          refine ⟨.ref a, rfl, rd_ixT ha (by decide) (v := .str x) rfl ⟨.ref a, rfl, 1, rfl, rd_sl1 ha fun p H1 m1 e1 => ?_⟩⟩
          have hxn : x.cps.toList.length ≤ 8 := by have := ho.1.2.1; simpa [Str.length] using this
          have hll : (lisC (u :: ts)).length ≤ 100000 := by
            rw [lisC_cons]
            rw [Tm.cx, List.length_append] at hl
            omega
          simp only [Tm.dep] at hd
          refine ⟨p, xs, u :: ts, rfl, e1, hxs.mv m1, ho.2.2, by omega, hll, fun H2 m2 => ?_⟩
          refine Or.inr (Or.inl ⟨_, _, rfl, rfl, ?_, ?_⟩)
          · have e1 : x.length = x.cps.toList.length := by simp [Str.length]
            have e2 : (SX.S (lisC (u :: ts))).length = (lisC (u :: ts)).length := SX.S_len _
            exact Nat.le_trans (show x.length + (SX.S (lisC (u :: ts))).length ≤ 100008 by omega) (by decide)
          have := q H2 (m1.trans m2)
          rw [Tm.cx, ← lisC_cons, ← SX.S_cat, S_tl'] at this
          exact this
end
end Fm
namespace Fm
open PySem PySem.Spec PyProof.Rows L2
section
variable {P : Program} {w : World} {K : PySem.W.Frag} {mg : Str → Option Value} {base : Heap}
theorem _root_.L2.Fun.okN {x qual : Str} {st : Stmt} {f : Addr} {fd : FuncData} {N ps : List Str} {k : Nat} {sp : Sp} (F : Fun K x qual st f fd) (S : FnScope N ps (defScope st)) (len : ∀ vs H Q E, sp vs H Q E → vs.length = ps.length)
    (hbody : ∀ (cdv : Value) (A : Around) (outer : List Env) (s : Shared) (H : Hp) (vs : List V) (Q : VK) (E : XK), Room k (A.deeper (envOfC qual (defScope st) s.heap.objs.size f cdv)) → sp vs H Q E →
      ∃ t, PSs (cxOf (L2N.CX P w) P w K mg base N qual (defScope st) f cdv A outer s H E) (defBody st) t ∧ t { nx := fun _ H' => Q .non H', rt := Q } (start N vs) H) : FnOk P w K mg base (L2N.CX P w) (k + 1) f fd ps sp := by
  obtain ⟨oc, od, kV, doc, pm, an, cdv, ct, osl, rfl, lk, hcd⟩ := F.ex
  exact fn_of lk hcd S len fun A outer s H vs Q E hr hsp => hbody cdv A outer s H vs Q E hr hsp
theorem cx_imp {outer : List Env} {H : Hp} {s : Shared} {E : XK} {u : Value} {s' : Shared} (h : L2N.CX P w outer H s E u s') : L2.CX P w outer H s E u s' := by
  obtain ⟨a, B, H', cls, d, e, fl, r⟩ := h
  exact ⟨a, B, H', cls, d, e, L2H.flyingZ_imp (fun o z => z.zc) fl, r⟩
theorem FnOk.ofN {k : Nat} {f : Addr} {fd : FuncData} {ps : List Str} {sp : Sp} (F : FnOk P w K mg base (L2N.CX P w) k f fd ps sp) : FnOk P w K mg base (L2.CX P w) k f fd ps sp :=
  ⟨F.len, fun A outer s H args us vs Q E hr he hb hv hs => codeAny_mono (F.run A outer s H args us vs Q E hr he hb hv hs) fun r s' h => by
    cases r with
    | ok fl => cases fl <;> exact h
    | error e => exact cx_imp h⟩
end
section
variable {X : Cx} {C : Addr} {x f : Str}
theorem pmk_z5 {p pos : Pos} (T : ExZ X.K X.mg x C) (hg : Gl X x := by rfl) (hdb : (x == ("__debug__" : Str)) = false := by decide) : L2H.PMk5 X (.Call (.Name x p) [] [] pos) (fun _ H Q => Q (.ref C) none H) := by
  intro pins s σ H Q I h
  refine wpAny_Call_Name_kw (ld_glob I hg T.gC ?_ hdb)
  refine PySem.W.callWith_K0 I.kIn T.kC ?_
  obtain ⟨bm, N, nm, qn, bs, hdct, sn, sub, ab, col, dd, k0, k1, k2, k3, k5, mN, hC, hN, hni, tl⟩ := exc_obj I.kIn T.q
  exact wpAny_call_exc_subT PySem.F.excBase_ValueError tl hC hN hni (fun h' e hm => L2H.mk_of5 I hm (raises_own T.exC T.tyC) h (I.hok.gone hm.new)) (Nat.zero_le _)
theorem pmk_zN {p pos : Pos} (T : ExZ X.K X.mg x C) (hg : Gl X x := by rfl) (hdb : (x == ("__debug__" : Str)) = false := by decide) : L2N.PMk X (.Call (.Name x p) [] [] pos) (fun _ H Q => Q (.ref C) none H) := (pmk_z5 T hg hdb).pmk
theorem pmk_x5 {a : Expr} {ta : TA} {p pos : Pos} {k : Nat} (T : ExT X.prog X.K X.mg x f C) (hr : Room k X.A) (ha : PA X [a] ta) (hg : Gl X x := by rfl) (hdb : (x == ("__debug__" : Str)) = false := by decide)
    (he : starEach (a :: []) X.env = (false, eval a X.env) :: starEach [] X.env := by rfl) (hpl : (backTo pos (starEach [] X.env)).any (·.1) = false := by rfl) :
    L2H.PMk5 X (.Call (.Name x p) [a] [] pos) (tMkX C f ta) := by
  intro pins s σ H Q I h
  refine wpAny_Call_Name_kw (ld_glob I hg T.gC ?_ hdb)
  refine PySem.W.callWith_K (h₀ := X.base) I.ok.mod.kin T.kC (thn (ha.run pos pins s σ H _ I h) fun us s1 hh => ?_) he hpl
  obtain ⟨vs, H1, I1, r1, v, rfl, q1⟩ := hh
  refine ⟨I1.kIn, ?_⟩
  obtain ⟨v', rfl, rv⟩ := r1.one
  have keepB : ∀ b o, X.base.get? b = some o → s1.heap.get? b = some o := fun b o z => (I1.env0.bs b o z).1
  have hG := I1.env0.mod.glob.keeps keepB
  obtain ⟨mb, hmb, hbt⟩ := I1.env0.mod.blt
  show wpAny _ _ (call (.ref C) [v']) _ _ _
  have hlim := I1.nolimit
  have hmb' := hmb.keeps keepB
  obtain ⟨hp, g, dr, tk, os⟩ := s1
  refine wpAny_call (vx_made T I1.kIn hG ⟨mb, hmb', hbt⟩ hlim (by have := hr.dp; omega) fun h' tk' e d M => ?_)
  show L2N.MkP X pins σ Q (.ref e) ⟨h', g, dr, tk', os⟩ ∧ L2H.Six (.ref e) ⟨h', g, dr, tk', os⟩
  obtain ⟨t1, hoe⟩ := M.obj
  have hns := M.ns
  refine ⟨?_, fun a oe vs ea hg' hd => ?_⟩
  · obtain ⟨G', g1, g2⟩ := restrict h' fun b => decide (b ≠ e)
    have gk : ∀ b, b ≠ e → G'.get? b = h'.get? b := fun b hb => g1 b (decide_eq_true hb)
    have ge : G'.get? e = none := g2 e (by simp)
    have old : ∀ b o, hp.get? b = some o → G'.get? b = some o := fun b o q => (gk b (Nat.ne_of_lt (Nat.lt_of_lt_of_le (Heap.lt_size q) M.new))).trans (M.keep b o q)
    have ob : ObjOk X.prog X.w (upd H1 d (.xd [(f, v)])) G' d (.xd [(f, v)]) := ⟨_, hns.at (fun o q => (gk d M.dne).trans q), fun y => relO_one rv f y⟩
    have J : Inv X pins σ (upd H1 d (.xd [(f, v)])) ⟨G', g, dr, tk', os⟩ := I1.laid (t' := tk') old M.dbig ob
    refine ⟨e, _, _, ⟨G', g, dr, tk', os⟩, _, .ref C, some d, rfl, J, fun b o q => ?_, ge, hoe, ⟨rfl, rfl, fun vs z => by cases z; rfl⟩, rfl, rfl, ?_, rfl, I1.bare, raises_own T.exC T.tyC, q1 d (I1.hok.fresh M.dbig)⟩
    · by_cases hb : b = e
      · have q' : G'.get? b = some o := q
        rw [hb, ge] at q'
        cases q'
      · exact (gk b hb).symm.trans q
    · rw [upd_ne (Ne.symm M.dne)]
      exact I1.hok.fresh M.new
  · cases ea
    have he' : h'.get? e = some oe := hg'
    rw [hoe] at he'
    cases he'
    cases hd
    show (4 : Nat) < 6
    decide
theorem pmk_xN {a : Expr} {ta : TA} {p pos : Pos} {k : Nat} (T : ExT X.prog X.K X.mg x f C) (hr : Room k X.A) (ha : PA X [a] ta) (hg : Gl X x := by rfl) (hdb : (x == ("__debug__" : Str)) = false := by decide)
    (he : starEach (a :: []) X.env = (false, eval a X.env) :: starEach [] X.env := by rfl) (hpl : (backTo pos (starEach [] X.env)).any (·.1) = false := by rfl) :
    L2N.PMk X (.Call (.Name x p) [a] [] pos) (tMkX C f ta) := (pmk_x5 T hr ha hg hdb he hpl).pmk
end
end Fm
namespace Fm
open PySem PySem.Spec PyProof.Rows L2
section
variable {M : Model} {A : Around} {E : Value → Shared → Prop} {s : Shared} {env : Env}
theorem noteFrame_eq {e : Value} {ce env : Env} (h : ce.frame = env.frame) : noteFrame e ce = noteFrame e env := by
  unfold noteFrame PySem.frameOf
  rw [h]
def compPostX (M : Model) (A : Around) (E : Value → Shared → Prop) (use : Option (Value → Sem Unit)) (Q : Value → Shared → Prop) (acc : Value) (ce : Env) (r : Result) (s' : Shared) : Prop :=
  match r, use with
  | .ok _, none => ∃ m, s'.heap.Ns ce.locals m ∧ ∀ h', Heap.SameBut ce.locals s'.heap h' → Q acc { s' with heap := h' }
  | .ok _, some u => wpAny M A (u acc) (fun _ s'' => ∃ m, s''.heap.Ns ce.locals m ∧ ∀ h', Heap.SameBut ce.locals s''.heap h' → Q .none { s'' with heap := h' }) E s'
  | .error x, _ => ∃ m, s'.heap.Ns ce.locals m ∧ ∀ h', Heap.SameBut ce.locals s'.heap h' → wpAny M A (passOn "comprehension.variables-let-go" x ce : Sem Value) (fun _ _ => False) E { s' with heap := h' }
theorem comprehension_X {e : Expr} {scope : Scope} {pos : Pos} {newAcc first : Sem Value} {g : Comprehension} {gs : List Comprehension} {cl : List (Str × Addr)} {use : Option (Value → Sem Unit)}
    {Q : Value → Shared → Prop}
    (hcl : clausesOf e = g :: gs) (hs : ∀ x, foldedSetIterable g.iter env x = pure x) (hclos : closureFor scope env = pure cl)
    (hkind : scope.kind = .function) (hnames : ∀ x ∈ scope.names, x.2 = .local → scope.names.lookup x.1 = some .local)
    (h : wpAny M A first (fun x s₁ => wpAny M A (pyIter x) (fun it s₂ => wpAny M A newAcc (fun acc s₃ =>
      wpAny M A (newFunctionEnv scope env.globals cl [] env.qual none .none (some env)) (fun cenv s₄ =>
        codeAny M A (.compStart e 0 it acc { cenv with scope := relabel scope env }) (compPostX M A E use Q acc { cenv with scope := relabel scope env }) s₄) E s₃) E s₂) E s₁) E s) :
    wpAny M A (comprehension e scope env pos newAcc false first use) Q E s := by
  unfold comprehension
  rw [hclos, hcl]
  refine wpAny_bind (wpAny_mono h (fun x s₁ h₁ => wpAny_bind (wpAny_standAt (wpAny_bind (wpAny_of_eq (hs x) (wpAny_bind (wpAny_holding (wpAny_mono h₁ (fun it s₂ h₂ =>
    wpAny_standIf (wpAny_bind (wpAny_mono h₂ (fun acc s₃ h₃ => wpAny_bind (wpAny_pure (wpAny_bind (wpAny_mono h₃ (fun cenv s₄ h₄ => ?_) fun _ _ h' => h')))) fun _ _ h' => h')))
      fun _ _ h' => h'))))))) fun _ _ h' => h')
  dsimp only
  have hv : ∀ x ∈ (scope.names.filter fun x => (x.2 == .local || x.2 == .cell) && x.1 != (".0" : Str)).reverse, x.2 = .local →
      Env.kindOf { cenv with scope := relabel scope env } x.1 = some .local := fun x hx hl => lookup_relabel_local (hnames x (List.mem_filter.mp (List.mem_reverse.mp hx)).1 hl)
  have hv' : ∀ x ∈ (scope.names.filter fun x => (x.2 == .local || x.2 == .cell) && x.1 != (".0" : Str)).reverse.drop 1 ++ (scope.names.filter fun x => (x.2 == .local || x.2 == .cell) && x.1 != (".0" : Str)).reverse.take 1,
      x.2 = .local → Env.kindOf { cenv with scope := relabel scope env } x.1 = some .local := fun x hx hl => by
    rcases List.mem_append.mp hx with h1 | h1
    · exact hv x (List.mem_of_mem_drop h1) hl
    · exact hv x (List.mem_of_mem_take h1) hl
  refine wpAny_holding (wpAny_bind (wpAny_attempt (wpAny_holding (wpAny_run (codeAny_mono h₄ fun r s' hr => ?_)))))
  cases r with
  | ok f =>
    cases use with
    | none =>
      obtain ⟨m, hn, hr⟩ := hr
      exact wpAny_bind (wpAny_holding (wpAny_comp_letGo (cenv := { cenv with scope := relabel scope env }) hkind _ s' m hv hn fun h' m' _ hs' => wpAny_pure (hr h' hs')))
    | some u =>
      refine wpAny_bind (wpAny_rule (wpAny_bind (wpAny_holding (wpAny_mono hr (fun _ s'' hr' => ?_) fun _ _ h' => h'))))
      obtain ⟨m, hn, hr'⟩ := hr'
      exact wpAny_bind (wpAny_comp_letGo (cenv := { cenv with scope := relabel scope env }) hkind _ s'' m hv' hn fun h' m' _ hs' => wpAny_pure (hr' h' hs'))
  | error x =>
    have hr' : ∃ m, s'.heap.Ns cenv.locals m ∧ ∀ h', Heap.SameBut cenv.locals s'.heap h' → wpAny M A (passOn "comprehension.variables-let-go" x { cenv with scope := relabel scope env } : Sem Value) (fun _ _ => False) E { s' with heap := h' } := by cases use <;> exact hr
    obtain ⟨m, hn, hr⟩ := hr'
    exact wpAny_bind (wpAny_holding (wpAny_comp_letGo (cenv := { cenv with scope := relabel scope env }) hkind _ s' m hv hn fun h' m' _ hs' => wpAny_mono (hr h' hs') (fun _ _ f => f.elim) fun _ _ y => y))
end
section
variable {M : Model} {A : Around} {E : Value → Shared → Prop} {s : Shared} {Z : Obj → Prop} {base : Heap} {env : Env} {outer : List Env} {L e : Addr}
theorem looks_heldZ {fl : Value} {Q : Unit → Shared → Prop} (hZ : PXN.Steady1 Z) (hfr : A.frames = some (env :: outer)) (hf : env.frame = some L) (hfl : (fl == rawInt L) = false)
    (hkb : base.StaysIn s.heap) (hen : base.get? e = none) (hl : s.heap.FunFrames base (env :: outer)) (ht : HandSPX.TracedZ s.heap base e Z fl)
    (hQ : ∀ h', HandSPX.HeldZ base (env :: outer) e Z L h' → s.heap.UpToSlots h' → Q () { s with heap := h' }) : wpAny M A (noteFrame (.ref e) env) Q E s := by
  obtain ⟨oe, vs, T, oT, ts, he, hz, hd, h1, hnT, hTe, hT, hdT, h3⟩ := ht
  unfold noteFrame
  simp only [hf]
  refine wpAny_bind (wpAny_field he hd h1 ?_)
  rw [if_pos (show (Value.ref T != Value.none) = true from by simp)]
  refine wpAny_bind (wpAny_field hT hdT h3 ?_)
  rw [if_neg (show ¬ ((fl == rawInt L) = true) from by rw [hfl]; simp)]
  refine wpAny_bind (wpAny_setField hT hdT (Array.getElem?_eq_some_iff.mp h3).1 ?_)
  have other : ∀ b, b ≠ T → (s.heap.update T (Obj.mapFields (·.setIfInBounds 3 Value.none))).get? b = s.heap.get? b := fun b hb => Heap.get?_update_other _ _ (Ne.symm hb)
  have noRecord : ∀ b o, s.heap.get? b = some o → (∀ vs, o.data ≠ .fields vs) → b ≠ T := fun b o hb hnf q => by
    rw [q, hT] at hb; injection hb with hb; subst hb; exact hnf ts hdT
  refine PXN.wpAny_entryZ hZ hfr (hl.of_keeps fun b o hb hnf => ⟨o, (other b (noRecord b o hb hnf)).trans hb, rfl⟩) hf ((other e (Ne.symm hTe)).trans he)
    (fun b o hbo => (other b fun q => by rw [q, hnT] at hbo; cases hbo).trans (hkb b o hbo)) hen hd (Array.getElem?_eq_some_iff.mp h1).1 hz fun h' hN => ?_
  obtain ⟨x1, x2, x3, x4⟩ := hN
  exact hQ h' ⟨x1, hen, x2, x3⟩ fun b o hb hnf => x4 b o ((other b (noRecord b o hb hnf)).trans hb) hnf
theorem sky_noted {C : Addr} {Q : Unit → Shared → Prop} (hZ : PXN.Steady1 Z) (hfr : A.frames = some (env :: outer)) (hf : env.frame = some L) (hC : C ≠ L)
    (x : Sky base (env :: outer) e Z C s.heap)
    (hQ : ∀ h', HandSPX.HeldZ base (env :: outer) e Z L h' → s.heap.UpToSlots h' → Q () { s with heap := h' }) : wpAny M A (noteFrame (.ref e) env) Q E s := by
  rcases x with ⟨hB, hn, hl, oe, vs, he, hz, hd, h1⟩ | fl | ⟨hkb, hen, hl, ht⟩
  · exact PXN.look_newZ hZ hfr hl hf he hB hn hd h1 hz hQ
  · exact PXN.looks_onZ hZ hfr hf fl hQ
  · refine looks_heldZ hZ hfr hf ?_ hkb hen hl ht hQ
    cases hq : (rawInt (C : Int) == rawInt (L : Int)) with
    | false => rfl
    | true =>
      have := eq_of_beq hq
      unfold rawInt at this
      injection this with this
      exact absurd (Int.ofNat.inj this) hC
end
abbrev blkX (X : Cx) (s : Shared) (H : Hp) (scope : Scope) (cenv : Env) (fp : List Addr) (xe : Value → Shared → Prop) : Cx := (X.blk s H scope cenv fp).wish xe
section
variable {X : Cx}
theorem leave_blk {Z : Value → Option Addr → Obj → Prop} (hZ : ∀ c d, PXN.Steady1 (Z c d)) {pins : List (Addr × Obj)} {σ : L2.St} {H3 : Hp} {s3 : Shared} {scope : Scope} {ce : Env} {fp : List Addr} {W : WX} {use : Option (Value → Sem Unit)} {Qf : Value → Shared → Prop} {acc : Value} {xe : Value → Shared → Prop}
    (hst : X.stack = X.env :: X.outer) (hf : X.env.frame = some X.env.locals) (hcf : ce.frame = X.env.frame) (hcl : ce.locals = s3.heap.objs.size) (I3 : Inv X pins σ H3 s3)
    (hfp : ∀ b ∈ fp, FpOk X pins H3 b ∧ b < s3.heap.objs.size)
    (tk : ∀ (u : Value) (s' : Shared), (∃ (a : Addr) (B : Heap) (sI : Shared) (pins : List (Addr × Obj)) (σ : L2.St) (H : Hp) (cls : Value) (d : Option Addr),
      u = .ref a ∧ Inv X pins σ H sI ∧ (∀ b o, sI.heap.get? b = some o → b ∉ frs X.stack → B.get? b = some o) ∧ sI.heap.UpToSlots s'.heap ∧
        Sky B X.stack a (Z cls d) X.env.locals s'.heap ∧ H a = none ∧ s'.os = sI.os ∧ AllBare s'.gens ∧ W cls d σ H) → X.xe u s') :
    ∀ (u : Value) (s' : Shared), (∃ (a : Addr) (B : Heap) (sI : Shared) (pins : List (Addr × Obj)) (σ' : L2.St) (H : Hp) (cls : Value) (d : Option Addr),
      u = .ref a ∧ Inv (blkX X s3 H3 scope ce fp xe) pins σ' H sI ∧ (∀ b o, sI.heap.get? b = some o → b ∉ frs X.stack → B.get? b = some o) ∧ sI.heap.UpToSlots s'.heap ∧
        Sky B X.stack a (Z cls d) ce.locals s'.heap ∧ H a = none ∧ s'.os = sI.os ∧ AllBare s'.gens ∧ W cls d σ H) →
      notedBy (model X.prog X.w) X.A ce (fun e s'' => compPostX (model X.prog X.w) X.A X.xe use Qf acc ce (.error e) s'') u s' := by
  rintro u s' ⟨a, B, sI, pins', σ', H', cls, d, rfl, I0, nb, up, sky, na, os, ag, w⟩
  have I : Inv (X.blk s3 H3 scope ce fp) pins' σ' H' sI := Inv.unwish I0
  have hfr : X.A.frames = some (X.env :: X.outer) := by rw [I3.ok.frames, hst]
  have hCL : ce.locals ≠ X.env.locals := by
    rw [hcl]
    exact Nat.ne_of_gt I3.lt
  obtain ⟨m, hm, _⟩ := I.loc
  have hm : sI.heap.Ns ce.locals m := hm
  have nC : H' ce.locals = none := I.free
  have hCf : ce.locals ∉ frs X.stack := fun hb => by
    rcases List.mem_cons.mp (I3.stkSub _ hb) with z | z
    · exact hCL z
    · obtain ⟨_, o, ho, _⟩ := I3.ok.funs.mem z
      have h1 := Heap.lt_size ho
      rw [hcl] at h1
      exact absurd (Nat.lt_of_lt_of_le h1 I3.sz) (Nat.lt_irrefl _)
  rw [hst] at sky
  show wpAny _ _ (noteFrame (.ref a) ce) _ _ _
  rw [noteFrame_eq hcf]
  refine sky_noted (hZ cls d) hfr hf hCL sky fun h1 held1 up1 => ?_
  have up01 := up.trans up1
  refine ⟨m, up01.ns hm, fun h2 sb => ?_⟩
  obtain ⟨k1, k2, k3, oe, vs, T, oT, ts, he, hz, hd, hv1, hnT, hTe, hT, hdT, h3⟩ := held1
  have hCd : ∀ o, h1.get? ce.locals = some o → ∀ vs, o.data ≠ .fields vs := fun o ho vs z => by
    obtain ⟨o', es, ep, ho', hd', _⟩ := up01.ns hm
    rw [ho] at ho'
    cases ho'
    rw [hd'] at z
    cases z
  have haC : a ≠ ce.locals := fun z => hCd oe (by rw [← z]; exact he) vs hd
  have hTC : T ≠ ce.locals := fun z => hCd oT (by rw [← z]; exact hT) ts hdT
  obtain ⟨B2, g1, g2⟩ := restrict B fun b => decide (b ≠ ce.locals)
  have gB : ∀ b, b ≠ ce.locals → B2.get? b = B.get? b := fun b hb => g1 b (decide_eq_true hb)
  have gC : B2.get? ce.locals = none := g2 _ (decide_eq_false fun z => z rfl)
  have gn : ∀ b, B.get? b = none → B2.get? b = none := fun b hb => by
    by_cases z : b = ce.locals
    · rw [z, gC]
    · rw [gB b z, hb]
  have held2 : HandSPX.HeldZ B2 (X.env :: X.outer) a (Z cls d) X.env.locals h2 := by
    refine ⟨fun b o e => ?_, gn a k2, ?_, oe, vs, T, oT, ts, (sb.2 a haC).trans he, hz, hd, hv1, gn T hnT, hTe, (sb.2 T hTC).trans hT, hdT, h3⟩
    · have hb : b ≠ ce.locals := fun z => by rw [z, gC] at e; cases e
      rw [gB b hb] at e
      exact (sb.2 b hb).trans (k1 b o e)
    · have key : ∀ l : List Env, (∀ b ∈ frs l, b ≠ ce.locals) → h1.FunFrames B l → h2.FunFrames B2 l := by
        intro l
        induction l with
        | nil => exact fun _ _ => trivial
        | cons q r ih =>
          rintro hl ⟨x1, ⟨L, o, x2, x3, x4, x5⟩, x6⟩
          have hL : L ∈ frs (q :: r) := List.mem_filterMap.mpr ⟨q, List.mem_cons_self, x2⟩
          refine ⟨x1, ⟨L, o, x2, gn L x3, (sb.2 L (hl L hL)).trans x4, x5⟩, ih (fun b hb => hl b ?_) x6⟩
          obtain ⟨q', hq', e'⟩ := List.mem_filterMap.mp hb
          exact List.mem_filterMap.mpr ⟨q', List.mem_cons_of_mem _ hq', e'⟩
      exact key _ (fun b hb z => hCf (by rw [hst, ← z]; exact hb)) k3
  unfold PySem.passOn
  refine wpAny_bind (wpAny_field ((sb.2 a haC).trans he) hd hv1 ?_)
  rw [if_neg (show ¬ ((Value.ref T == Value.none) = true) from by simp)]
  have fin : wpAny (model X.prog X.w) X.A (setFlight (.ref a) ce.frame) (fun _ s4 => wpAny (model X.prog X.w) X.A (throw (.ref a) : Sem Value) (fun _ _ => False) X.xe s4) X.xe { s' with heap := h2 } := by
    rw [hcf, hf]
    refine HandSPX.setFlight_onZ held2 fun h4 hh4 up4 => wpAny_throw (tk _ _ ?_)
    have I7 : Inv X pins σ H' sI := I3.call' (ch := fp) I.os I.base I.hok I.bare fun b hb => ⟨(hfp b hb).1.2.2.2.1, (hfp b hb).1.2.1, (hfp b hb).1.2.2.2.2.1, (hfp b hb).1.2.2.2.2.2⟩
    obtain ⟨G, q1, q2⟩ := restrict sI.heap fun b => decide (b ≠ ce.locals)
    have gk : ∀ b o, b ≠ ce.locals → sI.heap.get? b = some o → G.get? b = some o := fun b o hb e => by
      rw [q1 b (decide_eq_true hb)]
      exact e
    have gs : ∀ b o, G.get? b = some o → b ≠ ce.locals ∧ sI.heap.get? b = some o := fun b o e => by
      have hb : b ≠ ce.locals := fun z => by
        rw [z, q2 _ (decide_eq_false fun z => z rfl)] at e
        cases e
      exact ⟨hb, by rw [← q1 b (decide_eq_true hb)]; exact e⟩
    obtain ⟨f0, f1, f2, f3, f4, f5⟩ := I3.fpOk (H' := H') (b := ce.locals) (Nat.le_of_eq hcl.symm) nC
    have I8 : Inv X pins σ H' { sI with heap := G, toks := sI.toks } := I7.turned gk f0 f1 f3 f4 f5
    refine ⟨a, B2, { sI with heap := G, toks := sI.toks }, pins, σ, H', cls, d, rfl, I8, fun b o e hb => ?_, fun b o e hn => ?_, .inr (.inr (by rw [hst]; exact hh4)), na, os, ag, w⟩
    · obtain ⟨e1, e2⟩ := gs b o e
      rw [gB b e1]
      exact nb b o e2 hb
    · obtain ⟨e1, e2⟩ := gs b o e
      obtain ⟨sl, e3⟩ := up01 b o e2 hn
      exact up4 b { o with slots := sl } ((sb.2 b e1).trans e3) hn
  first
    | exact wpAny_bind (wpAny_pure (wpAny_bind fin))
    | exact wpAny_bind fin
theorem zc1 (c : Value) (d : Option Addr) : PXN.Steady1 (Zc c d) := PXN.steady_and PXN.steady_cls PXN.steady_dict
def tLcX (W : WX) (wi : TI) (g : TG) (tt : TT) (te : XK → TE) (vs : List Nat) : TE := fun σ H Q => tLc wi g tt (te fun cls d H' => W cls d σ H') vs σ H Q
theorem lc_coreX {pins : List (Addr × Obj)} {s : Shared} {σ : L2.St} {H : Hp} {Q : VK} {elt tg iter : Expr} {ifs : List Expr} {scope : Scope} {own : List (Str × Nat)} {pos pos' : Pos} {wi : TI} {g : TG} {tt : TT} {te : TE} {use : Option (Value → Sem Unit)} {Qf : Value → Shared → Prop} {PT : (Value → Shared → Prop) → Cx → Prop}
    (hst : X.stack = X.env :: X.outer) (hfe : X.env.frame = some X.env.locals)
    (tkb : ∀ (s3 : Shared) (H3 : Hp) (C : Addr) (cl : List (Str × Addr)) (fp : List Addr) (xe : Value → Shared → Prop) (acc : Value), (compEnvC scope cl C X.env).locals = s3.heap.objs.size → Inv X pins σ H3 s3 → (∀ b ∈ fp, FpOk X pins H3 b ∧ b < s3.heap.objs.size) →
      xe = (notedBy (model X.prog X.w) X.A (compEnvC scope cl C X.env) fun e s'' => compPostX (model X.prog X.w) X.A X.xe use Qf acc (compEnvC scope cl C X.env) (.error e) s'') → PT xe (blkX X s3 H3 scope (compEnvC scope cl C X.env) fp xe))
    (hc : X.calm = true) (hN : X.N.Nodup) (I : Inv X pins σ H s) (hi : PI X tg iter wi) (ok : BlkOk X.N X.env.scope scope own)
    (hg : ∀ (s : Shared) (H : Hp) (C : Addr) (cl : List (Str × Addr)) (fp : List Addr) (xe : Value → Shared → Prop), PG (blkX X s H scope (compEnvC scope cl C X.env) fp xe) tg g) (ht : ∀ (s : Shared) (H : Hp) (C : Addr) (cl : List (Str × Addr)) (fp : List Addr) (xe : Value → Shared → Prop), PTs (blkX X s H scope (compEnvC scope cl C X.env) fp xe) ifs tt)
    (he : ∀ (s : Shared) (H : Hp) (C : Addr) (cl : List (Str × Addr)) (fp : List Addr) (xe : Value → Shared → Prop), PT xe (blkX X s H scope (compEnvC scope cl C X.env) fp xe) → PE (blkX X s H scope (compEnvC scope cl C X.env) fp xe) elt te) (hs : ∀ x, foldedSetIterable iter X.env x = pure x)
    (h : tLc wi g tt te (own.map (·.2)) σ H Q)
    (hRR : ∀ D C s' m H' cl, Inv X pins σ H' s' → Q (.ref D) H' → s'.heap.Ns C m → FpOk X pins H' C → compPostX (model X.prog X.w) X.A X.xe use Qf (.ref D) (compEnvC scope cl C X.env) (.ok .next) s') :
    wpAny (model X.prog X.w) X.A (comprehension (.ListComp elt [⟨tg, iter, ifs, 0⟩] scope pos) scope X.env pos' (newList []) false (eval iter X.env) use) Qf X.xe s := by
  have hfree : ∀ y ∈ scope.names, y.2 = .free → ∃ c, X.env.cells.lookup y.1 = some c := fun y hy e => by
    rcases ok.free y hy e with k | k
    · exact I.ok.has _ (.inl k)
    · exact I.ok.has _ (.inr k)
  refine comprehension_X (use := use) rfl hs (closure_ok hfree) ok.kind (fun y hy e => by rw [ok.uniq y hy, e])
    (thn (hi.run pins s σ H _ I h) fun xv s1 hx => thn hx fun itv s2 h2 => ?_)
  obtain ⟨it, fp, tn, J, H2, e, I2, T, st2, f2, q⟩ := h2
  subst e
  refine wpAny_newObj_type (newEnv_comp ?_) (by show 0 ≤ sizeLine; decide)
  generalize hD : s2.heap.objs.size = D
  have hDn : H2 D = none := I2.hok.fresh (Nat.le_of_eq hD)
  obtain ⟨W, ⟨m0, w0⟩, turn⟩ := q D hDn
  generalize hs3 : ({ s2 with heap := s2.heap.push { cls := .type "list", data := .seq ([] : List Value).toArray } } : Shared) = s3
  have I3 : Inv X pins σ (upd H2 D (.lst [])) s3 := by
    rw [← hs3]
    refine I2.laid (t' := s2.toks) (fun b o e => Heap.get?_push_of_some _ e) (Nat.le_of_eq hD) ⟨Nat.zero_le _, [], 0, .nil, ?_⟩
    rw [← hD]
    exact Heap.get?_push_size _ rfl
  have h3 : s3.heap = s2.heap.push { cls := .type "list", data := .seq ([] : List Value).toArray } := by rw [← hs3]
  have sz : ∀ b ∈ fp, b < s2.heap.objs.size := fun b hb => by
    obtain ⟨o, e, _⟩ := T.obj _ _ st2 b hb
    exact Heap.lt_size e
  have f3 : ∀ b ∈ fp, FpOk X pins (upd H2 D (.lst [])) b ∧ b < s3.heap.objs.size := fun b hb => by
    have hlt := sz b hb
    refine ⟨⟨?_, (f2 b hb).2⟩, by rw [h3, Heap.size_push]; exact Nat.lt_succ_of_lt hlt⟩
    rw [upd_ne (by rw [← hD]; exact Nat.ne_of_lt hlt)]
    exact (f2 b hb).1
  have st3 : tn 0 s3.heap := T.keep _ _ _ st2 fun b _ o e => by rw [h3]; exact Heap.get?_push_of_some _ e
  have I4 := block_start I3 ok hN f3
  generalize hcl : cellsFrom (s3.heap.objs.size + 1) scope.names (cloFrom X.env.cells scope.names []) = cl at I4
  generalize hxe : (notedBy (model X.prog X.w) X.A (compEnvC scope cl s3.heap.objs.size X.env) fun e s'' => compPostX (model X.prog X.w) X.A X.xe use Qf (.ref D) (compEnvC scope cl s3.heap.objs.size X.env) (.error e) s'') = xe
  have ptk := tkb s3 (upd H2 D (.lst [])) s3.heap.objs.size cl fp xe (.ref D) rfl I3 f3 hxe.symm
  have pg := hg s3 (upd H2 D (.lst [])) s3.heap.objs.size cl fp xe
  have pt := ht s3 (upd H2 D (.lst [])) s3.heap.objs.size cl fp xe
  have pe := he s3 (upd H2 D (.lst [])) s3.heap.objs.size cl fp xe ptk
  show codeAny _ _ (.compStart (.ListComp elt [⟨tg, iter, ifs, 0⟩] scope pos) 0 (.ref it) (.ref D) (compEnvC scope cl s3.heap.objs.size X.env)) (compPostX (model X.prog X.w) X.A X.xe use Qf (.ref D) (compEnvC scope cl s3.heap.objs.size X.env)) { s3 with heap := pushCells (s3.heap.push { cls := .type "dict", data := .dict #[] }) scope.names }
  have nfp : ∀ b ∈ fp, (upd H2 D (.lst [])) b = none := fun b hb => (f3 b hb).1.1
  have hRR' : ∀ s' m H', Inv X pins σ H' s' → Q (.ref D) H' → s'.heap.Ns s3.heap.objs.size m → FpOk X pins H' s3.heap.objs.size → compPostX (model X.prog X.w) X.A X.xe use Qf (.ref D) (compEnvC scope cl s3.heap.objs.size X.env) (.ok .next) s' := fun s' m H' => hRR D s3.heap.objs.size s' m H' cl
  clear ptk
  generalize hce : compEnvC scope cl s3.heap.objs.size X.env = ce at I4 pg pt pe hxe hRR' ⊢
  have cL : ce.locals = s3.heap.objs.size := by subst hce; rfl
  generalize hH3 : upd H2 D (.lst []) = H3 at I3 I4 pg pt pe w0 nfp f3
  generalize hs4 : ({ s3 with heap := pushCells (s3.heap.push { cls := .type "dict", data := .dict #[] }) scope.names } : Shared) = s4 at I4 ⊢
  have st4 : tn 0 s4.heap := T.keep _ _ _ st3 fun b _ o e => by rw [← hs4]; exact pushCells_keeps _ _ _ _ (Heap.get?_push_of_some _ e)
  have stat : ∀ {σ' : L2.St} {H' : Hp} {s' : Shared}, Inv (X.blk s3 H3 scope ce fp) [] σ' H' s' → (∀ b ∈ fp, H' b = none) → ∀ b ∈ fp, FpOk (X.blk s3 H3 scope ce fp) [] H' b := fun {σ' H' s'} I' hn b hb =>
    ⟨hn b hb, (I'.ok.exf b hb).1, I'.ok.exfs b hb, .inl hb, fun x c e => (I'.ok.exf b hb).2 x c e, fun p hp => absurd (show p ∈ ([] : List (Addr × Obj)) ++ [] from hp) (by simp)⟩
  have loop : codeAny (model X.prog X.w) X.A (.compLoop (.ListComp elt [⟨tg, iter, ifs, 0⟩] scope pos) 0 (.ref it) (.ref D) ce) (compPostX (model X.prog X.w) X.A X.xe use Qf (.ref D) ce) s4 := by
    refine compLoop_any (fun n s' => ∃ i H', Inv (X.blk s3 H3 scope ce fp) [] (wipe σ (own.map (·.2))) H' s' ∧ tn i s'.heap ∧ (∀ b ∈ fp, H' b = none) ∧ W i n H') ?_ m0 ⟨0, H3, I4, st4, nfp, w0⟩
    rintro n s5 ⟨i, H5, I5, st5, n5, w5⟩
    rcases turn i n H5 w5 with ⟨stop, qq⟩ | ⟨go, Nx, hNx, step⟩
    · have td := T.done (X.blk s3 H3 scope ce fp) rfl rfl rfl hc i [] s5 _ H5 (fun _ _ => False) I5 (stat I5 n5) st5 stop
      refine thnF td fun r s6 ⟨hr, I6⟩ => ?_
      subst hr
      have I7 : Inv X pins σ H5 s6 := I3.call' (ch := fp) I6.os I6.base I6.hok I6.bare fun b hb => ⟨(f3 b hb).1.2.2.2.1, (f3 b hb).1.2.1, (f3 b hb).1.2.2.2.2.1, (f3 b hb).1.2.2.2.2.2⟩
      have nC : H5 s3.heap.objs.size = none := by
        have z : H5 ce.locals = none := I6.free
        rw [cL] at z
        exact z
      obtain ⟨m, hn, _⟩ := I6.loc
      have hn : s6.heap.Ns ce.locals m := hn
      rw [cL] at hn
      exact hRR' s6 m H5 I7 qq hn (I3.fpOk (Nat.le_refl _) nC)
    · have ti := T.item (X.blk s3 H3 scope ce fp) rfl rfl rfl hc i [] s5 _ H5 (fun _ _ => False) I5 (stat I5 n5) st5 go
      refine thnF ti fun r s6 ⟨u, hr, h6⟩ => ?_
      subst hr
      refine thnF h6 fun _ s7 ⟨x, H7, I7, r7, y7, st7, n7⟩ => ?_
      have I7' := I7.pinned (stat I7 n7) (T.obj _ _ st7)
      rw [hxe]
      refine thn (pg.run _ s7 _ H7 x u _ (I7'.wish xe) r7 (step x H7 y7)) fun _ s8 ⟨σ8, H8, I8, hw8, q8⟩ => ?_
      refine thn (pt.run _ s8 σ8 H8 _ I8 q8) fun b s9 ⟨H9, I9, q9⟩ => ?_
      have fin : ∀ {s' : Shared} {H' : Hp}, Inv (blkX X s3 H3 scope ce fp xe) ([] ++ pinsAt fp s7.heap) σ8 H' s' → Nx H' → ∃ m, m < n ∧ ∃ i H', Inv (X.blk s3 H3 scope ce fp) [] (wipe σ (own.map (·.2))) H' s' ∧ tn i s'.heap ∧ (∀ b ∈ fp, H' b = none) ∧ W i m H' := fun {s' H'} I0' nx => by
        have I' : Inv (X.blk s3 H3 scope ce fp) ([] ++ pinsAt fp s7.heap) σ8 H' s' := Inv.unwish I0'
        obtain ⟨m', hm, w'⟩ := hNx H' nx
        have pin' : ∀ b ∈ fp, ∀ o, s7.heap.get? b = some o → s'.heap.get? b = some o ∧ H' b = none := fun b hb o e =>
          let z := I'.pin (b, o) (List.mem_append_right _ (List.mem_append_right _ (mem_pinsAt hb e)))
          ⟨z.1, z.2.1⟩
        have hl : (wipe σ (own.map (·.2))).length = σ8.length := by rw [← hw8, wipe_length]
        refine ⟨m', hm, i + 1, H', (I'.unpinned (pins := [])).weak hl (fun j v e => ?_), T.keep _ _ _ st7 fun b hb o e => (pin' b hb o e).1, fun b hb => ?_, w'⟩
        · rw [← hw8] at e
          exact (wipe_some e).1
        · obtain ⟨o, e, _⟩ := T.obj _ _ st7 b hb
          exact (pin' b hb o e).2
      cases b with
      | false =>
        simp only [Bool.false_eq_true, if_false] at q9 ⊢
        exact fin I9 q9
      | true =>
        simp only [if_true] at q9 ⊢
        refine thn (pe.run _ s9 σ8 H9 _ I9 q9) fun z s10 ⟨yv, H10, I10, r10, acc, hD10, hz10, nx⟩ => ?_
        exact app_ok (X := blkX X s3 H3 scope ce fp xe) I10 hD10 hz10 r10 fun s11 I11 => fin I11 nx
  exact codeAny_compStart_list loop (T.self X.A 0 _ _ _ st4 loop)
theorem ps_setLcX {W : WX} {i : Nat} {y : Str} {py : Pos} {elt tg iter : Expr} {ifs : List Expr} {scope : Scope} {own : List (Str × Nat)} {pos spos : Pos} {wi : TI} {g : TG} {tt : TT} {te : XK → TE} (hst : X.stack = X.env :: X.outer) (hfe : X.env.frame = some X.env.locals) (tk : Takes X W) (hc : X.calm = true) (hN : X.N.Nodup) (hy : X.N[i]? = some y) (hyl : X.env.scope.names.lookup y = some .local)
    (hsw : swapsWith (.ListComp elt [⟨tg, iter, ifs, 0⟩] scope pos) (some (.Name y py)) spos.line X.env = pure true) (hi : PI X tg iter wi) (ok : BlkOk X.N X.env.scope scope own)
    (hg : ∀ (s : Shared) (H : Hp) (C : Addr) (cl : List (Str × Addr)) (fp : List Addr) (xe : Value → Shared → Prop), PG (blkX X s H scope (compEnvC scope cl C X.env) fp xe) tg g) (ht : ∀ (s : Shared) (H : Hp) (C : Addr) (cl : List (Str × Addr)) (fp : List Addr) (xe : Value → Shared → Prop), PTs (blkX X s H scope (compEnvC scope cl C X.env) fp xe) ifs tt)
    (he : ∀ (s : Shared) (H : Hp) (C : Addr) (cl : List (Str × Addr)) (fp : List Addr) (xe : Value → Shared → Prop) (Wx : XK), Takes (blkX X s H scope (compEnvC scope cl C X.env) fp xe) (fun cls d _ H' => Wx cls d H') → PE (blkX X s H scope (compEnvC scope cl C X.env) fp xe) elt (te Wx)) (hs : ∀ x, foldedSetIterable iter X.env x = pure x := by intro _; rfl) :
    PS X (.Assign [.Name y py] (.ListComp elt [⟨tg, iter, ifs, 0⟩] scope pos) spos) (tAsg (tLcX W wi g tt te (own.map (·.2))) (gName i)) := by
  refine ⟨fun pins s σ H D I h => ?_⟩
  rw [exec_Assign_Name_used _ _ _ _ hsw]
  refine wpAny_bind (wpAny_standAt (wpAny_bind ?_))
  show wpAny _ X.A (do let _ ← comprehension (.ListComp elt [⟨tg, iter, ifs, 0⟩] scope pos) scope X.env (firstIterPos [⟨tg, iter, ifs, 0⟩] pos) (newList []) false (eval iter X.env) (some (assign (.Name y py) X.env))) _ _ s
  have h : tLc wi g tt (te fun cls d H' => W cls d σ H') (own.map (·.2)) σ H (fun x H1 => gName i x σ H1 D.nx) := h
  refine wpAny_bind (thn (lc_coreX (PT := fun _ Y => Takes Y fun cls d _ H' => W cls d σ H') (Qf := fun _ s' => SP X pins D .next s') hst hfe (fun s3 H3 C cl fp xe acc e1 e2 e3 exe => ?_) hc hN I hi ok hg ht (fun s H C cl fp xe tkB => he s H C cl fp xe (fun cls d H' => W cls d σ H') tkB) hs h fun L C s' m H' cl I' q hn f => ?_) fun _ s' hq => wpAny_pure (wpAny_pure hq))
  · subst exe
    exact fun u s' x => leave_blk (Z := Zc) (W := W) (ce := compEnvC scope cl C X.env) zc1 hst hfe rfl e1 e2 e3 tk u s' x
  show wpAny _ _ (assign (.Name y py) X.env (.ref L)) _ _ _
  refine wpAny_assign_Name (store_ok2 (v := V.ref L) I' hN hy (.inl hyl) rfl (fun s2 I2 ⟨a, sb, ha⟩ => ?_) (.inr hyl))
  obtain ⟨f0, f1, f2, f3, f4, f5⟩ := f
  have haC : C ≠ a := by
    rcases ha with z | z
    · rw [z]; exact f1
    · exact fun e => f4 y a z e.symm
  refine ⟨m, hn.sameBut sb haC, fun h3 sb3 => ?_⟩
  exact ⟨_, H', I2.turned (t' := s2.toks) (fun b o hb e => (sb3.2 b hb).trans e) f0 f1 f3 f4 f5, q⟩
end
end Fm
namespace Fm
open PySem PySem.Spec PyProof.Rows L2 SlX
local macro_rules | `(tactic| walk_at "nn") => `(tactic| dsimp only [tC, tNil, tCons, tCB, tCall, gName, tSeq, tAsg, tPar, tDrop, tRet])
local macro_rules | `(tactic| walk_at "nc") => `(tactic| dsimp only [tC, tNil, tCons, tCB, tCall])
def sp_needX (D : Addr) : Sp := fun vs H Q E => ∃ (c : Bool), vs = [.bl c] ∧ (c = true → Q .non H) ∧ (c = false → E (.ref D) none H)
section
variable {P : Program} {w : World} {K : PySem.W.Frag} {mg : Str → Option Value} {base : Heap}
theorem ok_needX (T : TX K mg) (Y : TY P K mg) {k : Nat} : FnOk P w K mg base (L2N.CX P w) (k + 1) T.d_need.f T.d_need.fd P_need (sp_needX Y.C_NoText) := by
  refine T.d_need.F.okN sc_need (fun vs H Q E h => ?_) (fun cdv A outer s H vs Q E hr h => ?_)
  · obtain ⟨_, rfl, _⟩ := h
    rfl
  · obtain ⟨c, rfl, q, e⟩ := h
    refine ⟨_, (pss_one (ps_if (pt_not (pt_val (pv 0))) (pss_one (L2N.ps_raise rfl (L2N.takes_of rfl rfl rfl rfl) (pmk_zN Y.x_NoText))) pss_nil)), ?_⟩
    refine ⟨.bl c, rfl, ?_⟩
    cases c with
    | true => exact ⟨_, rfl, q rfl⟩
    | false => exact ⟨_, rfl, e rfl⟩
end
end Fm
namespace Fm
open PySem PySem.Spec PyProof.Rows L2 SlX
local macro_rules | `(tactic| walk_at "nn") => `(tactic| dsimp only [tC, tNil, tCons, tCB, tCall, gName, tSeq, tAsg, tPar, tDrop, tRet])
local macro_rules | `(tactic| walk_at "nc") => `(tactic| dsimp only [tC, tNil, tCons, tCB, tCall])
def sp_need : Sp := fun vs H Q _ => vs = [.bl true] ∧ Q .non H
abbrev wdV (w : List Nat) : V := .str (SX.S w)
def sp_readN : Sp := fun vs H Q _ => ∃ (w : List Nat) (n : Nat), vs = [wdV w] ∧ natI w = some n ∧ ∀ H', Mv [] H H' → Q (.int n) H'
def sp_toks : Sp := fun vs H Q _ => ∃ (l : List Nat), vs = [wdV l] ∧ l.length ≤ 200000 ∧ ∀ p H', H p = none → Mv [] H H' → H' p = some (.lst ((tkL l []).map wdV)) → Q (.ref p) H'
def sp_leaf (K : PySem.W.Frag) : Sp := fun vs H Q _ => ∃ (w : List Nat) (u : Tm), vs = [wdV w] ∧ w.length ≤ 900 ∧ leafI w = some u ∧ ∀ v H', Mv [] H H' → Im K H' v u.d → Q v H'
theorem digC_mem (c : Nat) : decide (c ∈ (Str.ofString "0123456789").cps.toList) = digC c := by
  have h1 : (Str.ofString "0123456789").cps.toList = [48, 49, 50, 51, 52, 53, 54, 55, 56, 57] := by decide +kernel
  rw [h1]
  unfold digC
  rw [Bool.eq_iff_iff, Bool.and_eq_true, decide_eq_true_eq, decide_eq_true_eq, decide_eq_true_eq]
  simp only [List.mem_cons, List.not_mem_nil, or_false]
  omega
theorem isSg_mem (c : Nat) : decide (c ∈ (Str.ofString "(,)").cps.toList) = isSg c := by
  have h1 : (Str.ofString "(,)").cps.toList = [40, 44, 41] := by decide +kernel
  rw [h1]
  rfl
theorem wd_eq {a b : List Nat} : decide (wdV a = wdV b) = decide (a = b) := by
  rw [Bool.eq_iff_iff, decide_eq_true_eq, decide_eq_true_eq]
  exact ⟨fun h => SX.S_inj (V.str.inj h), fun h => by rw [h]⟩
theorem tkL_len : ∀ (l w : List Nat), (tkL l w).length ≤ 2 * l.length + 1 ∧ ∀ z ∈ tkL l w, z.length ≤ w.length + l.length + 1
  | [], w => by
    rw [tkL]
    split
    · exact ⟨by simp, fun z hz => by cases hz⟩
    · exact ⟨by simp, fun z hz => by rw [List.mem_singleton.mp hz]; omega⟩
  | c :: l, w => by
    rw [tkL]
    split
    · obtain ⟨h1, h2⟩ := tkL_len l []
      simp only [List.length_nil, Nat.zero_add] at h2
      refine ⟨?_, fun z hz => ?_⟩
      · rw [List.length_append]
        split <;> simp <;> omega
      · rcases List.mem_append.mp hz with hz | hz
        · split at hz
          · rw [List.mem_singleton.mp hz]
            simp
          · rcases List.mem_cons.mp hz with rfl | hz
            · simp
              omega
            · rw [List.mem_singleton.mp hz]
              simp
        · have := h2 z hz
          simp
          omega
    · obtain ⟨h1, h2⟩ := tkL_len l (w ++ [c])
      refine ⟨by simp; omega, fun z hz => ?_⟩
      have := h2 z hz
      simp at this ⊢
      omega
theorem dig_lt : ∀ (l : List Nat) (a : Nat), (∀ c ∈ l, c ≤ 57) → l.foldl (fun acc c => acc * 10 + (c - 48)) a + 1 ≤ (a + 1) * 10 ^ l.length
  | [], a, _ => by simp
  | c :: l, a, h => by
    have h1 := dig_lt l (a * 10 + (c - 48)) fun d hd => h d (List.mem_cons_of_mem _ hd)
    have h2 := h c List.mem_cons_self
    rw [List.foldl_cons, List.length_cons, Nat.pow_succ]
    have h3 : (a * 10 + (c - 48) + 1) * 10 ^ l.length ≤ ((a + 1) * 10) * 10 ^ l.length := Nat.mul_le_mul_right _ (by omega)
    rw [Nat.mul_assoc, Nat.mul_comm 10] at h3
    omega
theorem empty_wd : V.str (Str.ofString "") = wdV [] := congrArg V.str (by decide +kernel)
section
variable {P : Program} {w : World} {K : PySem.W.Frag} {mg : Str → Option Value} {base : Heap}
theorem ok_tokens_of (T : TX K mg) {k : Nat} : FnOk P w K mg base CX0 (k + 1) T.d_tokens_of.f T.d_tokens_of.fd P_tokens_of sp_toks := by
  refine T.d_tokens_of.F.ok sc_tokens_of (fun vs H Q E h => ?_) (fun cdv A outer s H vs Q E hr h => ?_)
  · obtain ⟨_, rfl, _⟩ := h
    rfl
  · obtain ⟨l, rfl, hl, q⟩ := h
    have hu64 := hr.units
    have hu65 := hu65_of hr
    refine ⟨_, (pss_cons (ps_par (i := 1) (j := 2) rfl sc_tokens_of.nd rfl rfl (by decide) rfl rfl (pa_cons (pe_lst pa_nil) (pa_cons pe_str pa_nil)) rfl) (pss_cons (ps_for PassesOwn.never rfl (pi_str (pv 0)) (pg_name (i := 3) sc_tokens_of.nd rfl (Or.inl rfl)) (pss_one (ps_if (pt_cmpR (r := rInG K) (op_inG hu65) (pv 3) (pe_glob rfl T.c_SIGNS T.r_SIGNS) rfl) (pss_cons (ps_expr (pe_bm PySem.F.plainAttrs_list PySem.F.slot_list_extend PySem.F.type_list_extend (r := rExtG K) mt_extendG (pv 1) (pa_cons (pe_ifExp (pt_cmpR (r := rNeG K) (op_neG hu64) (pv 2) pe_str (nomark _)) (pe_lst (pa_cons (pv 2) (pa_cons (pv 3) pa_nil))) (pe_lst (pa_cons (pv 3) pa_nil))) pa_nil))) (pss_one (ps_set (i := 2) sc_tokens_of.nd rfl (Or.inl rfl) pe_str))) (pss_one (ps_set (i := 2) sc_tokens_of.nd rfl (Or.inl rfl) (pe_op (r := rAddG K) op_addG (pv 2) (pv 3))))))) (pss_one (ps_ret (pe_ifExp (pt_cmpR (r := rNeG K) (op_neG hu64) (pv 2) pe_str (nomark _)) (pe_op (r := rAddG K) op_addG (pv 1) (pe_lst (pa_cons (pv 2) pa_nil))) (pv 1)))))), ?_⟩
    have hsz : (SX.S l).cps.size = l.length := by simp
    refine ⟨Nat.zero_le _, fun D nD => ?_⟩
    have m0 : Mv [] H (upd H D (.lst [])) := .new nD
    have e0 : upd H D (.lst []) D = some (.lst []) := upd_same
    generalize upd H D (.lst []) = H0 at m0 e0 ⊢
    refine ⟨_, _, rfl, wdV l, rfl, _, rfl, ?_⟩
    refine for_it walk_str (fun i σ H1 => ∃ (fs : List (List Nat)) (wd : List Nat) (y : Option V), σ = [some (wdV l), some (.ref D), some (wdV wd), y] ∧ H1 D = some (.lst (fs.map wdV)) ∧ fs ++ tkL (l.drop i) wd = tkL l [] ∧ fs.length ≤ 2 * i ∧ wd.length ≤ i ∧ Mv [] H H1)
      ⟨[], [], none, rfl, e0, by simp, by simp, by simp, m0⟩ (fun _ _ _ _ _ => trivial) (fun i v σ H1 H2 hi h1 hv => ?_) (fun σ H1 h1 => ?_)
    · obtain ⟨fs, wd, y, rfl, e1, hf, hl1, hl2, m1⟩ := h1
      obtain ⟨rfl, c, hc, rfl⟩ := hv
      have hc' : l[i]? = some c := by simpa using hc
      have hil : i < l.length := (List.getElem?_eq_some_iff.mp hc').1
      have hdr : l.drop i = c :: l.drop (i + 1) := by
        rw [List.drop_eq_getElem_cons hil]
        congr 1
        exact (List.getElem?_eq_some_iff.mp hc').2
      rw [hdr, tkL] at hf
      refine ⟨.str ⟨#[c]⟩, rfl, Or.inr ⟨c, _, rfl, rfl, _, rfl, ?_⟩⟩
      rw [isSg_mem]
      have hlen : (fs.map wdV).length = fs.length := List.length_map ..
      cases hs : isSg c with
      | true =>
        rw [hs, if_pos rfl] at hf
        refine ⟨.ref D, rfl, .inl ⟨rfl, _, .inl (.inl e1)⟩, wdV wd, rfl, Or.inl ⟨rfl, _, rfl, ?_⟩⟩
        rw [empty_wd, wd_eq]
        by_cases hw : wd = []
        · subst hw
          rw [decide_eq_true rfl]
          refine ⟨.str ⟨#[c]⟩, rfl, (by decide : 1 ≤ sizeLine), fun q nq => ?_⟩
          refine Or.inl ⟨D, q, _, _, rfl, rfl, (Mv.new (S := []) nq).same _ _ e1, upd_same, by rw [hlen]; exact Nat.le_trans (show _ ≤ 400100 by simp; omega) (by decide), ?_⟩
          rw [if_pos rfl] at hf
          exact ⟨fs ++ [[c]], [], _, rfl, by rw [upd_same, List.map_append]; rfl, by rw [← hf, List.append_assoc], by rw [List.length_append]; simp; omega, by simp, (m1.trans (.new nq)).wr nD⟩
        · rw [decide_eq_false hw]
          refine ⟨wdV wd, rfl, .str ⟨#[c]⟩, rfl, (by decide : 2 ≤ sizeLine), fun q nq => ?_⟩
          refine Or.inl ⟨D, q, _, _, rfl, rfl, (Mv.new (S := []) nq).same _ _ e1, upd_same, by rw [hlen]; exact Nat.le_trans (show _ ≤ 400100 by simp; omega) (by decide), ?_⟩
          rw [if_neg hw] at hf
          exact ⟨fs ++ [wd, [c]], [], _, rfl, by rw [upd_same, List.map_append]; rfl, by rw [← hf, List.append_assoc], by rw [List.length_append]; simp; omega, by simp, (m1.trans (.new nq)).wr nD⟩
      | false =>
        rw [hs, if_neg (by simp)] at hf
        refine ⟨wdV wd, rfl, .str ⟨#[c]⟩, rfl, Or.inr (Or.inl ⟨_, _, rfl, rfl, ?_, ?_⟩)⟩
        · rw [SX.S_len]
          exact Nat.le_trans (show wd.length + 1 ≤ 200100 by omega) (by decide)
        · refine ⟨fs, wd ++ [c], some (.str ⟨#[c]⟩), ?_, e1, hf, by omega, by simp; omega, m1⟩
          rw [show SX.S wd ++ (⟨#[c]⟩ : Str) = SX.S (wd ++ [c]) from SX.S_cat wd [c]]
          rfl
    · obtain ⟨fs, wd, y, rfl, e1, hf, hl1, hl2, m1⟩ := h1
      rw [hsz, List.drop_length, tkL] at hf
      have hlen : (fs.map wdV).length = fs.length := List.length_map ..
      refine ⟨wdV wd, rfl, Or.inl ⟨rfl, _, rfl, ?_⟩⟩
      rw [empty_wd, wd_eq]
      by_cases hw : wd = []
      · subst hw
        rw [decide_eq_true rfl]
        rw [if_pos rfl, List.append_nil] at hf
        rw [hf] at e1
        exact ⟨.ref D, rfl, q D H1 nD m1 e1⟩
      · rw [decide_eq_false hw]
        rw [if_neg hw] at hf
        refine ⟨.ref D, rfl, wdV wd, rfl, (by decide : 1 ≤ sizeLine), fun q1 nq1 => ?_⟩
        refine rd_catL ((Mv.new (S := []) nq1).same _ _ e1) upd_same (by rw [hlen]; exact Nat.le_trans (show _ ≤ 400100 by simp; omega) (by decide)) fun p H2 np m2 e2 => ?_
        refine q p H2 ((m1.trans (.new nq1)).free np) ((m1.trans (.new nq1)).trans m2) ?_
        rw [e2, ← hf, List.map_append]
        rfl
end
end Fm
namespace Fm
open PySem PySem.Spec PyProof.Rows L2 SlX
section
variable {X : Cx} {K : PySem.W.Frag} {o e : Expr} {es : List Expr} {to : TE} {t : TA} {apos cpos : Pos} {T id : String} {name f : Str} {r : V → List V → Hp → VK → Prop}
theorem pe_slC (hK : X.K = K) (he : PE X e to) (hb : attributeBase e f X.env (eval e X.env) = eval e X.env := by rfl) : PE X (.Attribute e f apos) (SlX.tSl K to f) := by
  subst hK
  exact pe_sl he hb
end
structure TotO {κ : Type} (le : κ → κ → Bool) : Prop where
  tr : ∀ a b c, le a b = true → le b c = true → le a c = true
  to : ∀ a b, (le a b || le b a) = true
  an : ∀ a b, le a b = true → le b a = true → a = b
def leS (x y : Str) : Bool := !decide (y.cps.toList < x.cps.toList)
def leZ (i j : Int) : Bool := decide (i ≤ j)
section
variable {α κ : Type} {le : κ → κ → Bool} {k : α → κ}
def srt (le : κ → κ → Bool) (k : α → κ) (xs : List α) : List α := xs.mergeSort fun a b => le (k a) (k b)
end
section
variable {κ : Type} [DecidableEq κ]
theorem valV_mem {kvs : List (κ × V)} {k : κ} {v : V} (n : (kvs.map (·.1)).Nodup) (h : (k, v) ∈ kvs) : valV kvs k = some v := by
  induction kvs with
  | nil => exact absurd h List.not_mem_nil
  | cons p r ih =>
    rw [List.map_cons, List.nodup_cons] at n
    rcases List.mem_cons.mp h with rfl | h
    · exact valV_pos rfl
    · rw [valV_neg (fun e => n.1 (by rw [e]; exact List.mem_map.mpr ⟨_, h, rfl⟩))]
      exact ih n.2 h
theorem valV_none {kvs : List (κ × V)} {k : κ} (h : k ∉ kvs.map (·.1)) : valV kvs k = none := by
  induction kvs with
  | nil => rfl
  | cons p r ih =>
    rw [List.map_cons, List.mem_cons, not_or] at h
    rw [valV_neg (fun e => h.1 e.symm)]
    exact ih h.2
theorem putK_new {kvs : List (κ × V)} {k : κ} {v : V} (h : k ∉ kvs.map (·.1)) : putK kvs k v = kvs ++ [(k, v)] := by
  unfold putK
  rw [valV_any, valV_none h]
  rfl
end
section
variable {K : PySem.W.Frag} {H : Hp}
end
section
variable {X : Cx}
def rNeE : R2 := fun x y H Q => ∃ (a b : Addr) (kvs : List (L2.Key × V)), x = .ref a ∧ y = .ref b ∧ H a = some (.dK kvs) ∧ H b = some (.dK []) ∧ Q (.bl (!kvs.isEmpty)) H
def rEqE : R2 := fun x y H Q => ∃ (a b : Addr) (kvs : List (L2.Key × V)), x = .ref a ∧ y = .ref b ∧ H a = some (.dK kvs) ∧ H b = some (.dK []) ∧ Q (.bl kvs.isEmpty) H
end
section
variable {b p : Addr} {H H' : Hp} {o : HO}
theorem Dr.getK (d : Dr b H H') (hB : Bag H b) (h : H p = some o) (ho : ∀ xs, o ≠ .lst xs) : H' p = some o := by
  refine d.get ?_ h
  rintro rfl
  obtain ⟨xs, e⟩ := hB.lst
  rw [e] at h
  exact ho xs (Option.some.inj h).symm
theorem Mv.put {d : Addr} {u o : HO} (h : H d = some u) (hu : ∀ xs, u ≠ .tup xs) (hv : ∀ o xs, u ≠ .frz o (.tup xs)) : Mv [d] H (upd H d o) := by
  refine ⟨fun a xs r => ?_, fun a o n e => ?_⟩
  · have hd : a ≠ d := by
      rintro rfl
      rcases r with r | ⟨o, r⟩
      · rw [h] at r
        exact hu xs (Option.some.inj r)
      · rw [h] at r
        exact hv o xs (Option.some.inj r)
    exact r.imp (fun r => by rw [upd_ne hd]; exact r) fun ⟨o, r⟩ => ⟨o, by rw [upd_ne hd]; exact r⟩
  · rw [upd_ne (fun z => n (by rw [z]; exact List.mem_singleton.mpr rfl))]
    exact e
theorem slO_nolst {a C dx : Addr} {vs : List (Option V)} (xs : List V) : SlO a C dx vs ≠ .lst xs := fun z => by
  unfold SlO at z
  cases z
theorem Slt.mv {a C dx : Addr} {vs : List (Option V)} (h : Slt H a C dx vs) (m : Mv [] H H') : Slt H' a C dx vs := h.imp (fun h => ⟨m.same _ _ h.1, h.2⟩) fun h => ⟨m.same _ _ h.1, m.same _ _ h.2⟩
theorem Slt.dr {a C dx : Addr} {vs : List (Option V)} (h : Slt H a C dx vs) (d : Dr b H H') (hB : Bag H b) : Slt H' a C dx vs :=
  h.imp (fun h => ⟨d.getK hB h.1 (fun _ z => by cases z), h.2⟩) fun h => ⟨d.getK hB h.1 slO_nolst, d.getK hB h.2 (fun _ z => by cases z)⟩
end
structure ActR where
  nm : Str
  ar : Int
  outs : List (Str × Int)
structure ActA where
  r : ActR
  a : Addr
  o : Addr
def ActA.kv (z : ActA) : L2.Key × V := (.inr z.r.nm, .ref z.a)
structure ActsAt (K : PySem.W.Frag) (H : Hp) (d : Addr) (zs : List ActA) : Prop where
  at_ : H d = some (.dK (zs.map ActA.kv))
  nd : (zs.map (·.r.nm)).Nodup
  tup : ∀ z ∈ zs, SqT K H z.a [.int z.r.ar, .ref z.o]
  out : ∀ z ∈ zs, H z.o = some (.dK (z.r.outs.map rowK))
  ond : ∀ z ∈ zs, (z.r.outs.map (·.1)).Nodup
section
variable {K : PySem.W.Frag} {H H' : Hp} {b d : Addr} {zs : List ActA}
theorem ActsAt.mv (h : ActsAt K H d zs) (m : Mv [] H H') : ActsAt K H' d zs := ⟨m.same _ _ h.at_, h.nd, fun z hz => m.sqT (h.tup z hz), fun z hz => m.same _ _ (h.out z hz), h.ond⟩
theorem ActsAt.dr (h : ActsAt K H d zs) (m : Dr b H H') (hB : Bag H b) : ActsAt K H' d zs :=
  ⟨m.getK hB h.at_ (fun _ z => by cases z), h.nd, fun z hz => m.mv.sqT (h.tup z hz), fun z hz => m.getK hB (h.out z hz) (fun _ z => by cases z), h.ond⟩
theorem kv_keys (zs : List ActA) : (zs.map ActA.kv).map (·.1) = (zs.map (·.r.nm)).map Sum.inr := by
  rw [List.map_map, List.map_map]
  rfl
theorem nd_inr {xs : List Str} (n : xs.Nodup) : (xs.map (Sum.inr : Str → L2.Key)).Nodup := by
  refine List.Pairwise.map _ (fun a b h => ?_) n
  exact fun e => h (Sum.inr.inj e)
theorem ActsAt.nk (h : ActsAt K H d zs) : ((zs.map ActA.kv).map (·.1)).Nodup := by
  rw [kv_keys]
  exact nd_inr h.nd
theorem ActsAt.val (h : ActsAt K H d zs) {z : ActA} (hz : z ∈ zs) : valV (zs.map ActA.kv) (.inr z.r.nm) = some (.ref z.a) := valV_mem h.nk (List.mem_map.mpr ⟨z, hz, rfl⟩)
end
def ActR.norm (r : ActR) : ActR := { r with outs := srt leS (·.1) r.outs }
def normW (rs : List ActR) : List ActR := srt leS (·.nm) (rs.map ActR.norm)
def WldAt (K : PySem.W.Frag) (H : Hp) (C x : Addr) (rs : List ActR) : Prop := ∃ dx d zs, Slt H x C dx [some (.ref d)] ∧ ActsAt K H d zs ∧ zs.map (·.r) = rs
section
variable {K : PySem.W.Frag} {H H' : Hp} {b C x : Addr} {rs : List ActR}
theorem WldAt.mv (h : WldAt K H C x rs) (m : Mv [] H H') : WldAt K H' C x rs := by
  obtain ⟨dx, d, zs, h1, h2, h3⟩ := h
  exact ⟨dx, d, zs, Slt.mv h1 m, h2.mv m, h3⟩
theorem WldAt.dr (h : WldAt K H C x rs) (m : Dr b H H') (hB : Bag H b) : WldAt K H' C x rs := by
  obtain ⟨dx, d, zs, h1, h2, h3⟩ := h
  exact ⟨dx, d, zs, Slt.dr h1 m hB, h2.dr m hB, h3⟩
end
end Fm
namespace Fm
open PySem PySem.Spec PyProof.Rows L2
open AutoSeq1 (wpAny_loadPart')
open PySem.MeetsSeq PySem.MeetsSeq2 PySem.MeetsSeq3 PySem.SeqRoads2
def EqW (prog : Program) (w : PySem.World) (A : Around) (s : Shared) (y x : Value) (b : Bool) : Prop := ∀ (E : Value → Shared → Prop) (Q : Bool → Shared → Prop), Q b s → wpAny (model prog w) A (eqBool y x) Q E s
section
variable {prog : Program} {w : PySem.World} {A : Around} {s : Shared} {E : Value → Shared → Prop}
end
inductive HitsW (prog : Program) (w : PySem.World) (A : Around) (s : Shared) (kb : List (L2.Key × Value)) : List (L2.Key × Value) → Bool → Prop
  | done : HitsW prog w A s kb [] true
  | lacks {k : L2.Key} {v : Value} {r : List (L2.Key × Value)} : valueAt kb k = none → HitsW prog w A s kb ((k, v) :: r) false
  | meets {k : L2.Key} {v y : Value} {r : List (L2.Key × Value)} {e b : Bool} : valueAt kb k = some y → EqW prog w A s v y e → HitsW prog w A s kb r b → HitsW prog w A s kb ((k, v) :: r) (e && b)
section
variable {prog : Program} {w : PySem.World} {A : Around} {s : Shared} {E : Value → Shared → Prop}
theorem HitsW.inv {kb r : List (L2.Key × Value)} {k : L2.Key} {v : Value} {b : Bool} (h : HitsW prog w A s kb ((k, v) :: r) b) : (valueAt kb k = none ∧ b = false) ∨ ∃ y e b', valueAt kb k = some y ∧ EqW prog w A s v y e ∧ HitsW prog w A s kb r b' ∧ b = (e && b') := by
  cases h with
  | lacks h => exact .inl ⟨h, rfl⟩
  | meets h1 h2 h3 => exact .inr ⟨_, _, _, h1, h2, h3, rfl⟩
end
end Fm
namespace Fm
open PySem PySem.Spec PyProof.Rows L2
def lk (b : List (Str × Int)) (x : Str) : Option Int := (b.find? fun e => decide (e.1 = x)).map (·.2)
def hitO (b : List (Str × Int)) (e : Str × Int) : Bool := match lk b e.1 with
  | some j => e.2 == j
  | none => false
def outsEq (a b : List (Str × Int)) : Bool := a.length == b.length && a.all (hitO b)
def actEq (r q : ActR) : Bool := r.ar == q.ar && outsEq r.outs q.outs
def hitA (qs : List ActR) (r : ActR) : Bool := match qs.find? fun q => decide (q.nm = r.nm) with
  | some q => actEq r q
  | none => false
def rsEq (rs qs : List ActR) : Bool := rs.length == qs.length && rs.all (hitA qs)
section
variable {X : Cx} {pins : List (Addr × Obj)} {σ : L2.St} {H : Hp} {s : Shared}
def rEqA (K : PySem.W.Frag) : R2 := fun x y H Q => ∃ d e zs ys, x = .ref d ∧ y = .ref e ∧ ActsAt K H d zs ∧ ActsAt K H e ys ∧ Q (.bl (rsEq (zs.map (·.r)) (ys.map (·.r)))) H
end
end Fm
namespace Fm
open PySem PySem.Spec PyProof.Rows L2 SlX
theorem ActsAt.has {K : PySem.W.Frag} {H : Hp} {d : Addr} {zs : List ActA} (h : ActsAt K H d zs) (x : Str) : DGet H d (.str x) (valV (zs.map ActA.kv) (.inr x)) := Or.inl ⟨_, .inr x, .inl h.at_, rfl, rfl⟩
theorem asg_mid {te : TE} {g : TG} {D : Ends} {σ : L2.St} {H : Hp} (R : V → Hp → Prop) (h1 : ∀ Q : VK, (∀ v H', R v H' → Q v H') → te σ H Q) (h2 : ∀ v H', R v H' → g v σ H' D.nx) : tAsg te g D σ H := h1 _ h2
end Fm
namespace Fm
open PySem PySem.Spec PyProof.Rows L2 SlX
theorem mid_te {te : TE} {σ : L2.St} {H : Hp} {Q : VK} (R : V → Hp → Prop) (h1 : ∀ Q' : VK, (∀ v H', R v H' → Q' v H') → te σ H Q') (h2 : ∀ v H', R v H' → Q v H') : te σ H Q := h1 _ h2
end Fm
namespace Fm
open PySem PySem.Spec PyProof.Rows L2 SlX
local macro_rules | `(tactic| walk_at "nn") => `(tactic| dsimp only [tC, tNil, tCons, tCB, tCall, gName, tSeq, tAsg, tPar, tDrop, tRet])
local macro_rules | `(tactic| walk_at "nc") => `(tactic| dsimp only [tC, tNil, tCons, tCB, tCall])
def digsI (w : List Nat) : List Nat := if w.take 1 = [45] then w.drop 1 else w
def sp_readNX (D : Addr) : Sp := fun vs H Q E => ∃ (w : List Nat), vs = [wdV w] ∧ w.length ≤ 200000 ∧ (∀ i, intI w = some i → ∀ H', Mv [] H H' → Q (.int i) H') ∧ (intI w = none → ∀ H', Mv [] H H' → E (.ref D) none H')
theorem minus_S : Str.ofString "-" = SX.S [45] := by decide +kernel
theorem take1_45 {w : List Nat} (h : w.take 1 = [45]) : w = 45 :: w.drop 1 := by
  cases w with
  | nil => cases h
  | cons c r =>
    have : c = 45 := by simpa using h
    rw [this]
    rfl
def digsOk (w : List Nat) : Bool := decide (0 < (digsI w).length) && (decide ((digsI w).length ≤ 40) && (digsI w).all digC)
def intV (w : List Nat) : Int := if w.take 1 = [45] then -((NumText.digitsVal (digsI w) : Nat) : Int) else ((NumText.digitsVal (digsI w) : Nat) : Int)
theorem neg_str (n : Nat) : ((toString (-((n : Nat) : Int)) : String) : Str) = if n = 0 then SX.S [48] else SX.S (45 :: TL.numL n) := by
  cases n with
  | zero => rw [if_pos rfl]; decide +kernel
  | succ n =>
    rw [if_neg (by omega)]
    refine TL.ext_tl ?_
    show (Str.ofString (toString (Int.negSucc n))).cps.toList = 45 :: TL.numL (n + 1)
    rw [PyProof.Rows.signs_ofString, show toString (Int.negSucc n) = "-" ++ Nat.repr (n + 1) from rfl, String.toList_append, List.map_append, Nat.toList_repr]
    rfl
theorem digs_lt {w : List Nat} (h : digsOk w = true) : NumText.digitsVal (digsI w) < 10 ^ 40 := by
  unfold digsOk at h
  rw [Bool.and_eq_true, Bool.and_eq_true, decide_eq_true_eq, decide_eq_true_eq] at h
  have h1 := dig_lt (digsI w) 0 fun c hc => by
    have := List.all_eq_true.mp h.2.2 c hc
    unfold digC at this
    rw [Bool.and_eq_true, decide_eq_true_eq, decide_eq_true_eq] at this
    omega
  have h2 : 10 ^ (digsI w).length ≤ 10 ^ 40 := Nat.pow_le_pow_right (by decide) h.2.1
  have h3 : NumText.digitsVal (digsI w) + 1 ≤ (0 + 1) * 10 ^ (digsI w).length := h1
  omega
theorem digs_text {w : List Nat} (h : digsOk w = true) : PySem.intText? (SX.S w) = some (intV w) ∧ (SX.S w).length ≤ 640 := by
  unfold digsOk at h
  rw [Bool.and_eq_true, Bool.and_eq_true, decide_eq_true_eq, decide_eq_true_eq] at h
  obtain ⟨h1, h2, h3⟩ := h
  unfold digsI at h1 h2 h3
  unfold intV digsI
  by_cases hm : w.take 1 = [45]
  · rw [if_pos hm] at h1 h2 h3 ⊢
    rw [if_pos hm]
    have hw := take1_45 hm
    have hl : w.length = (w.drop 1).length + 1 := by
      have := congrArg List.length hw
      rw [List.length_cons] at this
      exact this
    refine ⟨?_, by rw [SX.S_len]; omega⟩
    refine intText_neg (cs := w.drop 1) (by rw [show (SX.S w).cps.toList = w by simp]; exact hw) (fun c hc => ?_) (List.length_pos_iff.mp h1) (by rw [SX.S_len]; omega)
    have z := List.all_eq_true.mp h3 c hc
    unfold digC at z
    rw [Bool.and_eq_true, decide_eq_true_eq, decide_eq_true_eq] at z
    exact z
  · rw [if_neg hm] at h1 h2 h3 ⊢
    rw [if_neg hm]
    exact ⟨SX.int_S h3 (List.length_pos_iff.mp h1) (by omega), by rw [SX.S_len]; omega⟩
theorem digs_show {w : List Nat} (h : digsOk w = true) : (((toString (intV w) : String) : Str) = SX.S w) ↔ intI w = some (intV w) := by
  have hk := h
  unfold digsOk at h
  rw [Bool.and_eq_true, Bool.and_eq_true, decide_eq_true_eq, decide_eq_true_eq] at h
  obtain ⟨h1, h2, h3⟩ := h
  by_cases hm : w.take 1 = [45]
  · have hw := take1_45 hm
    have hd : digsI w = w.drop 1 := if_pos hm
    rw [hd] at h1 h2 h3
    unfold intV
    rw [if_pos hm, hd, neg_str]
    have hI : intI w = match natI (w.drop 1) with
        | some n => if n = 0 then none else some (-(n : Int))
        | none => none := by
      rw [hw]
      rfl
    rw [hI]
    unfold natI
    by_cases hz : NumText.digitsVal (w.drop 1) = 0
    · rw [if_pos hz]
      refine ⟨fun e => ?_, fun e => ?_⟩
      · have := SX.S_inj e
        rw [hw] at this
        cases this
      · split at e
        · rename_i n hn
          split at hn
          · cases hn
            rw [if_pos hz] at e
            cases e
          · cases hn
        · cases e
    · rw [if_neg hz]
      refine ⟨fun e => ?_, fun e => ?_⟩
      · have e1 := SX.S_inj e
        rw [hw] at e1
        have e2 : TL.numL (NumText.digitsVal (w.drop 1)) = w.drop 1 := (List.cons.inj e1).2
        rw [if_pos ⟨h1, h2, h3, e2⟩]
        dsimp only
        rw [if_neg hz]
      · split at e
        · rename_i n hn
          split at hn
          · rename_i hc
            rw [hc.2.2.2, ← hw]
          · cases hn
        · cases e
  · have hd : digsI w = w := if_neg hm
    rw [hd] at h1 h2 h3
    unfold intV
    rw [if_neg hm, hd, num_str (Int.natCast_nonneg _), Int.toNat_natCast]
    have hI : intI w = (natI w).map Int.ofNat := by
      unfold intI
      split
      · rename_i ds
        exact absurd rfl hm
      · rfl
    rw [hI]
    unfold natI
    refine ⟨fun e => ?_, fun e => ?_⟩
    · rw [if_pos ⟨h1, h2, h3, SX.S_inj e⟩]
      rfl
    · split at e
      · rename_i hc
        rw [hc.2.2.2]
      · cases e
theorem intI_digs {w : List Nat} (h : digsOk w = false) : intI w = none := by
  by_cases hm : w.take 1 = [45]
  · have hw := take1_45 hm
    have hd : digsI w = w.drop 1 := if_pos hm
    unfold digsOk at h
    rw [hd] at h
    have hI : intI w = match natI (w.drop 1) with
        | some n => if n = 0 then none else some (-(n : Int))
        | none => none := by
      rw [hw]
      rfl
    rw [hI]
    unfold natI
    rw [if_neg fun z => by
      rw [decide_eq_true z.1, decide_eq_true z.2.1, z.2.2.1] at h
      cases h]
  · have hd : digsI w = w := if_neg hm
    unfold digsOk at h
    rw [hd] at h
    have hI : intI w = (natI w).map Int.ofNat := by
      unfold intI
      split
      · rename_i ds
        exact absurd rfl hm
      · rfl
    rw [hI]
    unfold natI
    rw [if_neg fun z => by
      rw [decide_eq_true z.1, decide_eq_true z.2.1, z.2.2.1] at h
      cases h]
    rfl
theorem intI_some {w : List Nat} {i : Int} (h : intI w = some i) : digsOk w = true ∧ i = intV w := by
  cases hd : digsOk w with
  | false => rw [intI_digs hd] at h; cases h
  | true =>
    refine ⟨rfl, ?_⟩
    by_cases e : ((toString (intV w) : String) : Str) = SX.S w
    · rw [(digs_show hd).mp e] at h
      exact (Option.some.inj h).symm
    · by_cases hm : w.take 1 = [45]
      · have hw := take1_45 hm
        have hdd : digsI w = w.drop 1 := if_pos hm
        have hI : intI w = match natI (w.drop 1) with
            | some n => if n = 0 then none else some (-(n : Int))
            | none => none := by
          rw [hw]
          rfl
        rw [hI] at h
        unfold intV
        rw [if_pos hm, hdd]
        unfold natI at h
        split at h
        · rename_i n hn
          split at hn
          · cases hn
            split at h
            · cases h
            · exact (Option.some.inj h).symm
          · cases hn
        · cases h
      · have hdd : digsI w = w := if_neg hm
        have hI : intI w = (natI w).map Int.ofNat := by
          unfold intI
          split
          · rename_i ds
            exact absurd rfl hm
          · rfl
        rw [hI] at h
        unfold intV
        rw [if_neg hm, hdd]
        unfold natI at h
        split at h
        · exact (Option.some.inj h).symm
        · cases h
section
variable {P : Program} {w : World} {K : PySem.W.Frag} {mg : Str → Option Value} {base : Heap}
theorem ok_read_integerX (T : TX K mg) (Y : TY P K mg) {k : Nat} : FnOk P w K mg base (L2N.CX P w) (k + 2) T.d_read_integer.f T.d_read_integer.fd P_read_integer (sp_readNX Y.C_NoText) := by
  have G_need : FnOk P w K mg base (L2N.CX P w) 1 T.d_need.f T.d_need.fd P_need (sp_needX Y.C_NoText) := ok_needX (k := 0) T Y
  refine T.d_read_integer.F.okN sc_read_integer (fun vs H Q E h => ?_) (fun cdv A outer s H vs Q E hr h => ?_)
  · obtain ⟨_, rfl, _⟩ := h
    rfl
  · obtain ⟨wd, rfl, hl, q, e⟩ := h
    have hu64 := hr.units
    have hu65 := hu65_of hr
    refine ⟨_, (pss_cons (ps_set (i := 1) sc_read_integer.nd rfl (Or.inl rfl) (pe_ifExp (pt_cmpR (r := rEqG K) (op_eqG hu64) (pe_slice (r := rSlG K) sl_G (pv 0) po_none (po_some pe_int)) pe_str (nomark _)) (pe_slice (r := rSlG K) sl_G (pv 0) (po_some pe_int) po_none) (pv 0))) (pss_cons (ps_expr (pe_callS G_need (hr.mono (by omega)) rfl T.d_need.g T.d_need.F.kp T.d_need.b (fun σ => L2N.passAt (L2N.takes_of rfl rfl rfl rfl) σ) (pa_cons (pe_and (pe_chain op_lt op_le pe_int (pe_callB (r := rLenG K) call_lenG (by rfl) T.b_len bt_len (pa_cons (pv 1) pa_nil)) (pe_glob rfl T.c_MOST_DIGITS T.r_MOST_DIGITS)) (pe_one (pe_callB (r := rAll K) (cr_all rfl) (by rfl) T.b_all bt_all (pa_cons (pe_lc (own := [("sign", 2)]) (g := gName 2) (by rfl) sc_read_integer.nd (pi_str (pv 1)) (blkOk_by (own := [("sign", 2)]) (N := N_read_integer) (sc := defScope s_read_integer) (by decide +kernel)) (fun _ _ _ _ _ => pg_name (i := 2) sc_read_integer.nd rfl (Or.inl rfl)) (fun _ _ _ _ _ => pts_nil) (fun _ _ _ _ _ => (pe_cmpR (r := rInG K) (op_inG hu65) (pv 2) (pe_glob rfl T.c_DIGITS T.r_DIGITS) rfl))) pa_nil)))) pa_nil))) (pss_cons (ps_expr (pe_callS G_need (hr.mono (by omega)) rfl T.d_need.g T.d_need.F.kp T.d_need.b (fun σ => L2N.passAt (L2N.takes_of rfl rfl rfl rfl) σ) (pa_cons (pe_cmpR (r := rEqG K) (op_eqG hu64) (pe_callTy call_str_int (by rfl) T.b_str bt_str (pa_cons (pe_callTy call_int_str (by rfl) T.b_int bt_int (pa_cons (pv 0) pa_nil)) pa_nil)) (pv 0) (nomark _)) pa_nil))) (pss_one (ps_ret (pe_callTy call_int_str (by rfl) T.b_int bt_int (pa_cons (pv 0) pa_nil))))))), ?_⟩
    have hz : (SX.S wd).length ≤ sizeLine := by
      rw [SX.S_len]
      exact Nat.le_trans hl (by decide)
    have hdl : (digsI wd).length ≤ wd.length := by
      unfold digsI
      split
      · rw [List.length_drop]
        omega
      · exact Nat.le_refl _
    refine asg_mid (fun v H' => v = wdV (digsI wd) ∧ H' = H) (fun Q' qq => ?_) (fun v H1 h1 => ?_)
    · refine ⟨wdV wd, rfl, 1, rfl, Or.inr (Or.inr ⟨_, rfl, hz, Or.inl ⟨rfl, _, rfl, ?_⟩⟩)⟩
      rw [C8.cutS_slice, SX.slice_to (by decide), show decide (V.str (SX.S (wd.take (1 : Int).toNat)) = V.str (Str.ofString "-")) = decide (wd.take 1 = [45]) by rw [minus_S]; exact wd_eq]
      by_cases hm : wd.take 1 = [45]
      · rw [decide_eq_true hm]
        refine ⟨wdV wd, rfl, 1, rfl, Or.inr (Or.inr ⟨_, rfl, hz, qq _ _ ⟨?_, rfl⟩⟩)⟩
        rw [C8.cutS_slice, SX.slice_from (by decide)]
        show wdV (wd.drop 1) = _
        unfold digsI
        rw [if_pos hm]
      · rw [decide_eq_false hm]
        exact ⟨wdV wd, rfl, qq _ _ ⟨by unfold digsI; rw [if_neg hm], rfl⟩⟩
    obtain ⟨rfl, rfl⟩ := h1
    have hzd : (SX.S (digsI wd)).length ≤ sizeLine := by
      rw [SX.S_len]
      exact Nat.le_trans (Nat.le_trans hdl hl) (by decide)
    dsimp only [gName, tSeq, tDrop, tCallS, tCons, tNil]
    refine mid_te (fun v H' => v = V.bl (digsOk wd) ∧ Mv [] H1 H') (fun Q' qq => ?_) (fun v H2 h2 => ?_)
    · have hsz : (SX.S (digsI wd)).cps.size = (digsI wd).length := by simp
      refine ⟨wdV (digsI wd), rfl, ?_⟩
      walk_at "nc"
      refine Or.inr (Or.inl ⟨_, rfl, hzd, 0, _, rfl, rfl, _, rfl, ?_⟩)
      rw [SX.S_len]
      have fls : ∀ H', Mv [] H1 H' → digsOk wd = false → Q' (V.bl false) H' := fun H' m hf => qq _ _ ⟨by rw [hf], m⟩
      by_cases h0 : 0 < (digsI wd).length
      · rw [decide_eq_true (by omega : (0 : Int) < ((digsI wd).length : Int))]
        refine ⟨_, 40, rfl, rfl, _, rfl, ?_⟩
        by_cases h40 : (digsI wd).length ≤ 40
        · rw [decide_eq_true (by omega : ((digsI wd).length : Int) ≤ 40)]
          refine ⟨wdV (digsI wd), rfl, _, rfl, fun D nD => ?_⟩
          refine lc_it walk_str (fun i H2 => H2 D = some (.lst ((((digsI wd).take i).map digC).map V.bl)) ∧ Mv [] H1 H2) ⟨upd_same, .new nD⟩ (fun _ _ _ _ => trivial) (fun i y H2 H3 hi h2 hy => ?_) (fun H2 h2 => ?_)
          · obtain ⟨e2, m2⟩ := h2
            obtain ⟨rfl, c, hc, rfl⟩ := hy
            have hc' : (digsI wd)[i]? = some c := by simpa using hc
            refine ⟨rfl, .str ⟨#[c]⟩, rfl, Or.inr ⟨c, _, rfl, rfl, _, e2, ?_, ?_, m2.wr nD⟩⟩
            · rw [List.length_map, List.length_map, List.length_take]
              exact small1000 (by omega)
            · rw [upd_same, List.take_add_one, hc', digC_mem]
              simp
          · obtain ⟨e2, m2⟩ := h2
            rw [hsz, List.take_length] at e2
            refine ⟨D, _, rfl, .inl (.inl e2), qq _ _ ⟨?_, m2⟩⟩
            unfold digsOk
            rw [show ((digsI wd).map digC).all id = (digsI wd).all digC by rw [List.all_map]; rfl, decide_eq_true h0, decide_eq_true h40]
            rfl
        · rw [decide_eq_false (by omega : ¬ ((digsI wd).length : Int) ≤ 40)]
          exact fls _ .refl (by unfold digsOk; rw [decide_eq_false h40]; simp)
      · rw [decide_eq_false (by omega : ¬ (0 : Int) < ((digsI wd).length : Int))]
        exact ⟨false, rfl, fls _ .refl (by unfold digsOk; rw [decide_eq_false h0]; simp)⟩
    obtain ⟨rfl, m2⟩ := h2
    refine ⟨digsOk wd, rfl, fun hk => ?_, fun hk => e (intI_digs hk) H2 m2⟩
    obtain ⟨hit, h640⟩ := digs_text hk
    have hlt := digs_lt hk
    have hnd : (intV wd).natAbs < 10 ^ 40 := by
      unfold intV
      split
      · rw [Int.natAbs_neg, Int.natAbs_natCast]
        exact hlt
      · rw [Int.natAbs_natCast]
        exact hlt
    refine ⟨wdV wd, rfl, _, _, rfl, hit, h640, intV wd, rfl, num_log hnd, wdV wd, rfl, Or.inl ⟨rfl, ?_⟩⟩
    have hsh := digs_show hk
    by_cases hc : ((toString (intV wd) : String) : Str) = SX.S wd
    · rw [decide_eq_true (congrArg V.str hc)]
      refine ⟨true, rfl, fun _ => ?_, (fun z => by cases z)⟩
      exact ⟨wdV wd, rfl, _, _, rfl, hit, h640, q _ (hsh.mp hc) H2 m2⟩
    · rw [decide_eq_false fun z => hc (V.str.inj z)]
      refine ⟨false, rfl, (fun z => by cases z), fun _ => e ?_ H2 m2⟩
      cases hI : intI wd with
      | none => rfl
      | some i =>
        obtain ⟨_, rfl⟩ := intI_some hI
        exact absurd (hsh.mpr hI) hc
end
end Fm
namespace Fm
open PySem PySem.Spec PyProof.Rows L2
theorem no0 {X : Cx} : ∀ (H : Hp) (s : Shared) (e : Value) (s' : Shared), CX0 X.stack H s E0 e s' → False := fun _ _ _ _ h => h
end Fm
namespace Fm
open PySem PySem.Spec PyProof.Rows L2 SlX
local macro_rules | `(tactic| walk_at "nn") => `(tactic| dsimp only [tC, tNil, tCons, tCB, tCall, gName, tSeq, tAsg, tPar, tDrop, tRet])
local macro_rules | `(tactic| walk_at "nc") => `(tactic| dsimp only [tC, tNil, tCons, tCB, tCall])
def TokOk (w : List Nat) : Prop := (∃ c, w = [c]) ∨ ((∀ c ∈ w, isSg c = false) ∧ w ≠ [])
theorem tkL_ok : ∀ (l w : List Nat), (∀ c ∈ w, isSg c = false) → ∀ z ∈ tkL l w, TokOk z
  | [], w, hw, z, hz => by
    rw [tkL] at hz
    split at hz
    · cases hz
    · rw [List.mem_singleton.mp hz]
      exact .inr ⟨hw, by assumption⟩
  | c :: l, w, hw, z, hz => by
    rw [tkL] at hz
    split at hz
    · rcases List.mem_append.mp hz with hz | hz
      · split at hz
        · exact .inl ⟨c, List.mem_singleton.mp hz⟩
        · rcases List.mem_cons.mp hz with rfl | hz
          · exact .inr ⟨hw, by assumption⟩
          · exact .inl ⟨c, List.mem_singleton.mp hz⟩
      · exact tkL_ok l [] (fun _ h => by cases h) z hz
    · rename_i hc
      refine tkL_ok l (w ++ [c]) (fun d hd => ?_) z hz
      rcases List.mem_append.mp hd with hd | hd
      · exact hw d hd
      · rw [List.mem_singleton.mp hd]
        simpa using hc
theorem tkL_mem : ∀ (l w : List Nat) (z : List Nat), z ∈ tkL l w → ∀ c ∈ z, c ∈ w ∨ c ∈ l
  | [], w, z, hz, c, hc => by
    rw [tkL] at hz
    split at hz
    · cases hz
    · rw [List.mem_singleton.mp hz] at hc
      exact .inl hc
  | d :: l, w, z, hz, c, hc => by
    rw [tkL] at hz
    split at hz
    · rcases List.mem_append.mp hz with hz | hz
      · split at hz
        · rw [List.mem_singleton.mp hz, List.mem_singleton] at hc
          exact .inr (by rw [hc]; exact List.mem_cons_self)
        · rcases List.mem_cons.mp hz with rfl | hz
          · exact .inl hc
          · rw [List.mem_singleton.mp hz, List.mem_singleton] at hc
            exact .inr (by rw [hc]; exact List.mem_cons_self)
      · rcases tkL_mem l [] z hz c hc with h | h
        · cases h
        · exact .inr (List.mem_cons_of_mem _ h)
    · rcases tkL_mem l (w ++ [d]) z hz c hc with h | h
      · rcases List.mem_append.mp h with h | h
        · exact .inl h
        · exact .inr (by rw [List.mem_singleton.mp h]; exact List.mem_cons_self)
      · exact .inr (List.mem_cons_of_mem _ h)
theorem in_signs {w : List Nat} (h : TokOk w) : (!(Builtin.Str.occurrences (Str.ofString "(,)") (SX.S w) 0 (Str.ofString "(,)").length 1).isEmpty) = decide (w.length = 1 ∧ w.all isSg = true) := by
  rcases h with ⟨c, rfl⟩ | ⟨h1, h2⟩
  · rw [show SX.S [c] = (⟨#[c]⟩ : Str) from rfl, PySem.StrLaws.found_one, isSg_mem, Bool.eq_iff_iff, decide_eq_true_eq]
    simp
  · rw [decide_eq_false (word_no h1 h2), Bool.eq_false_iff]
    intro z
    obtain ⟨i, hi1, hi2⟩ := (PySem.StrLaws.found_iff _ _).mp z
    rw [PySem.StrLaws.subAt_eq] at hi2
    have e := eq_of_beq hi2
    obtain ⟨c, r, rfl⟩ := List.exists_cons_of_ne_nil h2
    have hm : c ∈ (Str.ofString "(,)").cps.toList := by
      have : c ∈ List.take (SX.S (c :: r)).length (List.drop i (Str.ofString "(,)").cps.toList) := by
        rw [e]
        simp
      exact List.mem_of_mem_drop (List.mem_of_mem_take this)
    have h3 := h1 c List.mem_cons_self
    rw [← isSg_mem, decide_eq_false_iff_not] at h3
    exact h3 hm
structure OpAt (K : PySem.W.Frag) (S : List Addr) (H : Hp) (L : List (Addr × Str × List Tm)) : Prop where
  nd : (L.map (·.1)).Nodup
  out : ∀ e ∈ L, e.1 ∉ S
  at_ : ∀ e ∈ L, ∃ vs, H e.1 = some (.lst (.str e.2.1 :: vs)) ∧ Ims K H vs (Tm.ds e.2.2)
theorem OpAt.mv {K : PySem.W.Frag} {S : List Addr} {H H' : Hp} {L : List (Addr × Str × List Tm)} (h : OpAt K S H L) (m : Mv S H H') : OpAt K S H' L :=
  ⟨h.nd, h.out, fun e he => let ⟨vs, h1, h2⟩ := h.at_ e he; ⟨vs, m.keep _ _ (h.out e he) h1, h2.mv m⟩⟩
theorem OpAt.mv0 {K : PySem.W.Frag} {S : List Addr} {H H' : Hp} {L : List (Addr × Str × List Tm)} (h : OpAt K S H L) (m : Mv [] H H') : OpAt K S H' L := h.mv (m.mono (by simp))
abbrev opV (e : Addr × Str × List Tm) : V := .ref e.1
def opsOf (L : List (Addr × Str × List Tm)) : List (Str × List Tm) := L.reverse.map (·.2)
theorem opsOf_snoc (L : List (Addr × Str × List Tm)) (e : Addr × Str × List Tm) : opsOf (L ++ [e]) = e.2 :: opsOf L := by simp [opsOf]
inductive TvAt (K : PySem.W.Frag) (H : Hp) : V → Option Tm → Prop
  | no : TvAt K H .non none
  | is {v : V} {t : Tm} : Im K H v t.d → TvAt K H v (some t)
theorem TvAt.mv {K : PySem.W.Frag} {S : List Addr} {H H' : Hp} {v : V} {o : Option Tm} (h : TvAt K H v o) (m : Mv S H H') : TvAt K H' v o := by
  cases h with
  | no => exact .no
  | is h => exact .is (h.mv m)
theorem im_notNone {K : PySem.W.Frag} {H : Hp} {v : V} {t : Tm} (h : Im K H v t.d) : v ≠ .non := by
  cases t with
  | var i => cases h.intI; simp
  | op x ts =>
    obtain ⟨a, xs, rfl, _⟩ := h.tupI
    simp
def sp_parsed (K : PySem.W.Frag) : Sp := fun vs H Q _ => ∃ (tl : Addr) (ws : List (List Nat)) (t : Tm), vs = [.ref tl] ∧ H tl = some (.lst (ws.map wdV)) ∧ ws.length ≤ 500000 ∧ (∀ w ∈ ws, TokOk w ∧ w.length ≤ 900 ∧ ∀ c ∈ w, c < 128) ∧ runI ws [] none false = some t ∧ ∀ v H', Mv [] H H' → Im K H' v t.d → Q v H'
theorem shaped_fi15 {d : PyData} (h : fine d) (hd : PyData.depth d ≤ 64) : SeqAt.shaped d = true := by
  show (PyData.canLay0 d && decide (PyData.depth d ≤ 64)) = true
  rw [(fine_lay d h).1, decide_eq_true hd]
  rfl
theorem wd_shaped {ws : List (List Nat)} (h : ∀ w ∈ ws, ∀ c ∈ w, c < 128) : SeqAt.shaped (.list (ws.map fun w => PyData.str (SX.S w))) = true := by
  have hs : ∀ w : List Nat, (∀ c ∈ w, c < 128) → PyData.strOk (SX.S w) = true := fun w hw => by
    unfold PyData.strOk
    simp only [SX.S, Array.all_toList.symm, List.all_eq_true]
    intro c hc
    have := hw c hc
    simp
    omega
  refine shaped_fi15 ?_ ?_
  · induction ws with
    | nil => trivial
    | cons w ws ih => exact ⟨hs w (h w List.mem_cons_self), ih fun z hz => h z (List.mem_cons_of_mem _ hz)⟩
  · have : ∀ ws : List (List Nat), PyData.depthAll (ws.map fun w => PyData.str (SX.S w)) = 0 := fun ws => by
      induction ws with
      | nil => rfl
      | cons w ws ih => simp [PyData.depthAll, PyData.depth, ih]
    simp only [PyData.depth]
    have := this ws
    omega
theorem dp_words {K : PySem.W.Frag} {H : Hp} : ∀ ws : List (List Nat), DpAll K H (ws.map wdV) (ws.map fun w => PyData.str (SX.S w))
  | [] => .nil
  | w :: ws => .cons (.str _) (dp_words ws)
theorem comma_wd : V.str (Str.ofString ",") = wdV [44] := congrArg V.str (by decide +kernel)
theorem close_wd : V.str (Str.ofString ")") = wdV [41] := congrArg V.str (by decide +kernel)
theorem open_wd : V.str (Str.ofString "(") = wdV [40] := congrArg V.str (by decide +kernel)
theorem cut_mid {ws : List (List Nat)} {k : Nat} : cutV (ws.map wdV) (some ((k : Int) + 1)) (some ((k : Int) + 2)) = ((ws.drop (k + 1)).take 1).map wdV := by
  rw [show (k : Int) + 1 = ((k + 1 : Nat) : Int) by omega, show (k : Int) + 2 = ((k + 2 : Nat) : Int) by omega]
  unfold cutV
  rw [HT.sIx_nat, HT.sIx_nat, ← List.map_drop, ← List.map_take, List.length_map]
  congr 1
  by_cases h : k + 1 < ws.length
  · rw [Nat.min_eq_left (by omega), Nat.min_eq_left (by omega)]
    congr 1
    omega
  · rw [List.drop_of_length_le (by omega), List.drop_of_length_le (by omega)]
    simp
theorem head_eqv {l : List (List Nat)} : PyData.eqv (.list ((l.take 1).map fun w => PyData.str (SX.S w))) (.list ([[40]].map fun w => PyData.str (SX.S w))) = decide (l.head? = some [40]) := by
  cases l with
  | nil => rfl
  | cons a l =>
    rw [Bool.eq_iff_iff, decide_eq_true_eq]
    simp only [List.take_succ_cons, List.take_zero, List.map_cons, List.map_nil, PyData.eqv, PyData.eqvAll, List.head?_cons, Option.some.injEq, Bool.and_true, beq_iff_eq]
    exact ⟨fun h => SX.S_inj h, fun h => by rw [h]⟩
theorem runI_some (w : List Nat) (r : List (List Nat)) (op : List (Str × List Tm)) (t : Tm) : runI (w :: r) op (some t) false = if w = [44] then (match op with
      | (f, us) :: op' => runI r ((f, us ++ [t]) :: op') none false
      | [] => none)
    else if w = [41] then (match op with
      | (f, us) :: op' => runI r op' (some (.op f (us ++ [t]))) false
      | [] => none)
    else none := by
  cases op <;> rw [runI]
section
variable {P : Program} {w : World} {K : PySem.W.Frag} {mg : Str → Option Value} {base : Heap}
end
end Fm
namespace Fm
open PySem PySem.Spec PyProof.Rows L2
local macro_rules | `(tactic| walk_at "nn") => `(tactic| dsimp only [tC, tNil, tCons, tCB, tCall, gName, tSeq, tAsg, tPar, tDrop, tRet])
local macro_rules | `(tactic| walk_at "nc") => `(tactic| dsimp only [tC, tNil, tCons, tCB, tCall])
mutual
def under (many : Int) : Th → Bool
  | .int i => decide (i < many)
  | .tup (_ :: ts) => unders many ts
  | _ => true
def unders (many : Int) : List Th → Bool
  | [] => true
  | t :: ts => under many t && unders many ts
end
theorem unders_append (many : Int) (ts us : List Th) : unders many (ts ++ us) = (unders many ts && unders many us) := by
  induction ts with
  | nil => simp [unders]
  | cons t ts ih => simp [unders, ih, Bool.and_assoc]
def sp_termOver (K : PySem.W.Frag) : Sp := fun vs H Q _ => ∃ (many : Int) (v : V) (t : Th) (b : Addr), vs = [.int many, v] ∧ Is K b H v t ∧ t.cnt ≤ 90000 ∧ ∀ H', Mv [] H H' → Q (.bl (isTerm t && under many t)) H'
section
variable {P : Program} {w : World} {K : PySem.W.Frag} {mg : Str → Option Value} {base : Heap}
theorem ok_is_term_over (T : TX K mg) {k : Nat} : FnOk P w K mg base CX0 (k + 3) T.d_is_term_over.f T.d_is_term_over.fd P_is_term_over (sp_termOver K) := by
  have G_is_term : FnOk P w K mg base CX0 2 T.d_is_term.f T.d_is_term.fd P_is_term (sp_isTerm K) := ok_is_term T
  refine T.d_is_term_over.F.ok sc_is_term_over (fun vs H Q E h => ?_) (fun cdv A outer s H vs Q E hr h => ?_)
  · obtain ⟨_, _, _, _, rfl, _⟩ := h
    rfl
  · obtain ⟨many, v, t, b, rfl, hv, hcn, q⟩ := h
    have hu65 := hu65_of hr
    refine ⟨_, (pss_cons (ps_if (pt_not (pt_val (pe_call G_is_term (hr.mono (by omega)) rfl T.d_is_term.g T.d_is_term.F.kp T.d_is_term.b .nil pass0 (pa_cons (pv 1) pa_nil)))) (pss_one (ps_ret pe_bl)) pss_nil) (pss_cons (ps_set (i := 2) sc_is_term_over.nd rfl (Or.inl rfl) (pe_lst (pa_cons (pv 1) pa_nil))) (pss_cons (ps_while PassesOwn.never (pt_cmpR (r := rNeNil K) (op_neNil (Nat.lt_of_le_of_lt (Nat.le_add_right _ 65) hu65)) (pv 2) (pe_lst pa_nil) (nomark _)) (pss_cons (ps_set (i := 3) sc_is_term_over.nd rfl (Or.inl rfl) (pe_bm0 PySem.F.plainAttrs_list PySem.F.slot_list_pop PySem.F.type_list_pop mt_pop (pv 2))) (pss_one (ps_if (pt_not (pt_val (pe_callB (r := rIsi K) call_isi (by rfl) T.b_isinstance bt_isinstance (pa_cons (pv 3) (pa_cons (pe_ty T.b_int bt_int) pa_nil))))) (pss_one (ps_expr (pe_bm PySem.F.plainAttrs_list PySem.F.slot_list_extend PySem.F.type_list_extend (r := rExtG K) mt_extendG (pv 2) (pa_cons (pe_slice (r := rSlG K) sl_G (pv 3) (po_some pe_int) po_none) pa_nil)))) (pss_one (ps_if (pt_cmpR op_ge (pv 3) (pv 0) (nomark _)) (pss_one (ps_ret pe_bl)) pss_nil)))))) (pss_one (ps_ret pe_bl))))), ?_⟩
    refine ⟨v, rfl, v, t, b, rfl, hv, hcn, fun H1 m1 => ⟨_, rfl, ite2 (fun e1 => ?_) (fun e1 => ?_)⟩⟩
    · have e9 : isTerm t = false := by simpa using e1
      rw [e9] at q
      exact q H1 m1
    have e9 : isTerm t = true := by simpa using e1
    rw [e9] at q
    refine ⟨v, rfl, (by decide : 1 ≤ sizeLine), fun l nl => ?_⟩
    have nl0 := m1.free nl
    refine ⟨fun m σ H2 => ∃ (ys : List V) (us : List Th) (y : Option V), σ = [some (.int many), some v, some (.ref l), y] ∧ H2 l = some (.lst ys) ∧ IsAll K b H ys us ∧ isTerms us = true ∧ unders many us = under many t ∧ Th.cnts us ≤ 90000 ∧ m = Th.cnts us ∧ Mv [] H H2,
      ⟨_, [v], [t], none, rfl, upd_same, IsAll.cons hv IsAll.nil, by simp [isTerms, e9], by simp [unders], by simp only [Th.cnts]; omega, rfl, m1.trans (.new nl)⟩, fun m σ H2 hW => ?_⟩
    obtain ⟨ys, us, y, rfl, e2, i2, s2, t2, b2, rfl, m2⟩ := hW
    refine ⟨.ref l, rfl, Nat.zero_le _, fun q1 n1 => ⟨l, q1, ys, rfl, rfl, .inl (.inl (same_new n1 _ _ e2)), .inl (.inl upd_same), ?_⟩⟩
    have m23 : Mv [] H (upd H2 q1 (.lst [])) := m2.trans (.new n1)
    have e3 : upd H2 q1 (.lst []) l = some (.lst ys) := same_new n1 _ _ e2
    generalize upd H2 q1 (.lst []) = H3 at m23 e3 ⊢
    refine ⟨_, rfl, ?_⟩
    rcases List.eq_nil_or_concat us with rfl | ⟨us', u, rfl⟩
    · have hy : ys = [] := i2
      subst hy
      rw [show unders many ([] : List Th) = true from by simp [unders]] at t2
      rw [← t2] at q
      exact q H3 m23
    · rw [List.concat_eq_append] at *
      obtain ⟨ys', z, rfl, i4, hz⟩ := IsAll.last rfl i2
      rw [show (!(ys' ++ [z]).isEmpty) = true by simp]
      refine ⟨fun σ' H' => ∃ m', m' < Th.cnts (us' ++ [u]) ∧ _, fun _ _ h => h, ?_⟩
      refine ⟨.ref l, rfl, .inl ⟨rfl, _, .inl (.inl e3)⟩, l, _, z, rfl, rfl, e3, by simp, ?_⟩
      have m25 : Mv [] H (upd H3 l (.lst (ys' ++ [z]).dropLast)) := m23.wr nl0
      have e5 : upd H3 l (.lst (ys' ++ [z]).dropLast) l = some (.lst ys') := by rw [upd_same, List.dropLast_concat]
      generalize upd H3 l (.lst (ys' ++ [z]).dropLast) = H5 at m25 e5 ⊢
      rw [Th.cnts_append] at b2 ⊢
      rw [isTerms_append, Bool.and_eq_true] at s2
      rw [unders_append] at t2
      have e1u : isTerms [u] = isTerm u := by simp [isTerms]
      have c1u : Th.cnts [u] = u.cnt := by simp [Th.cnts]
      rw [e1u] at s2
      rw [show unders many [u] = under many u by simp [unders]] at t2
      rw [c1u] at b2 ⊢
      have hpos := u.cnt_pos
      refine ⟨z, rfl, ?_⟩
      walk_at "nn"
      refine rd_isi (hz.mv0 m25) (kit_int u) ⟨_, rfl, ?_⟩
      cases u with
      | int i =>
        cases (show z = V.int i from hz)
        refine ⟨.int i, rfl, .int many, rfl, i, many, rfl, rfl, _, rfl, ite2 (fun e => ?_) (fun e => ?_)⟩
        · have h0 : ¬ i < many := by simp at e; omega
          rw [show under many t = false by rw [← t2]; simp only [under]; rw [decide_eq_false h0, Bool.and_false]] at q
          exact q H5 m25
        · have h0 : i < many := by simp at e; omega
          refine ⟨Th.cnts us', by omega, ys', us', _, rfl, e5, i4, s2.1, ?_, by omega, rfl, m25⟩
          rw [← t2]
          simp only [under]
          rw [decide_eq_true h0, Bool.and_true]
      | tup ts =>
        obtain ⟨a1, zs0, rfl, ha1, hzs0⟩ := hz
        cases ts with
        | nil => simp [isTerm] at s2
        | cons t0 tr =>
          obtain ⟨z0, zs, rfl, hz0, hzs⟩ := hzs0
          have s3 : isTerms tr = true ∧ tr.length ≤ 3 := by
            have := s2.2
            simp only [isTerm, Bool.and_eq_true, decide_eq_true_eq] at this
            exact ⟨this.2, this.1.2⟩
          have hlz := hzs.length
          refine ⟨.ref l, rfl, .inl ⟨rfl, _, .inl (.inl e5)⟩, .ref a1, rfl, 1, rfl, rd_sl1 (m25.sqT ha1) fun p8 H8 m8 e8 => ?_⟩
          have hl4 := i4.length
          have hc4 := Th.cnts_len us'
          simp only [Th.cnt, Th.cnts] at b2 ⊢
          have hpos0 := t0.cnt_pos
          have hczs := Th.cnts_len tr
          refine Or.inr ⟨l, p8, ys', zs, rfl, rfl, m8.same _ _ e5, e8, Nat.le_trans (show ys'.length + zs.length ≤ 100000 by omega) (by decide), ?_⟩
          refine ⟨Th.cnts (us' ++ tr), by rw [Th.cnts_append]; omega, ys' ++ zs, us' ++ tr, _, rfl, upd_same, i4.append hzs, ?_, ?_, by rw [Th.cnts_append]; omega, rfl, (m25.trans m8).wr nl0⟩
          · rw [isTerms_append, s2.1, s3.1]
            rfl
          · rw [← t2, unders_append]
            simp only [under]
      | non => simp [isTerm] at s2
      | bl c => simp [isTerm] at s2
      | str x => simp [isTerm] at s2
      | lst => simp [isTerm] at s2
      | dct => simp [isTerm] at s2
end
mutual
theorem isTerm_th {R : Int → Prop} (hR : ∀ i, R i → 0 ≤ i) : ∀ t : Tm, t.ok R → isTerm t.th = true
  | .var i, h => by simpa [Tm.th, isTerm] using hR i h
  | .op x ts, h => by
    simp only [Tm.th, isTerm, isNamed, nmd_nm h.1, isTerms_ths hR ts h.2.2, Bool.true_and, Bool.and_true, ths_len, decide_eq_true_eq]
    exact h.2.1
theorem isTerms_ths {R : Int → Prop} (hR : ∀ i, R i → 0 ≤ i) : ∀ ts : List Tm, Tm.oks R ts → isTerms (Tm.ths ts) = true
  | [], _ => by simp [Tm.ths, isTerms]
  | t :: ts, h => by simp [Tm.ths, isTerms, isTerm_th hR t h.1, isTerms_ths hR ts h.2]
theorem ths_len : ∀ ts : List Tm, (Tm.ths ts).length = ts.length
  | [] => by simp [Tm.ths]
  | t :: ts => by simp [Tm.ths, ths_len ts]
end
mutual
theorem under_th {R : Int → Prop} {n : Int} (hR : ∀ i, R i → i < n) : ∀ t : Tm, t.ok R → under n t.th = true
  | .var i, h => by simpa [Tm.th, under] using hR i h
  | .op x ts, h => by
    simp only [Tm.th, under]
    exact unders_ths hR ts h.2.2
theorem unders_ths {R : Int → Prop} {n : Int} (hR : ∀ i, R i → i < n) : ∀ ts : List Tm, Tm.oks R ts → unders n (Tm.ths ts) = true
  | [], _ => by simp [Tm.ths, unders]
  | t :: ts, h => by simp [Tm.ths, unders, under_th hR t h.1, unders_ths hR ts h.2]
end
mutual
theorem cnt_th : ∀ t : Tm, t.th.cnt ≤ t.cst + t.lv
  | .var i => by simp [Tm.th, Th.cnt, Tm.lv]
  | .op x ts => by
    have := cnts_ths ts
    simp only [Tm.th, Th.cnt, Th.cnts, Tm.cst, Tm.lv]
    omega
theorem cnts_ths : ∀ ts : List Tm, Th.cnts (Tm.ths ts) ≤ Tm.csts ts + Tm.lvs ts
  | [] => by simp [Tm.ths, Th.cnts]
  | t :: ts => by
    have := cnt_th t
    have := cnts_ths ts
    simp only [Tm.ths, Th.cnts, Tm.csts, Tm.lvs]
    omega
end
end Fm
namespace Fm
open PySem PySem.Spec PyProof.Rows L2
namespace Tm
mutual
theorem put_put (f g : Int → Tm) : ∀ t : Tm, put g (put f t) = put (fun i => put g (f i)) t
  | .var _ => by simp [put]
  | .op _ ts => by simp [put, puts_puts f g ts]
theorem puts_puts (f g : Int → Tm) : ∀ ts : List Tm, puts g (puts f ts) = puts (fun i => put g (f i)) ts
  | [] => by simp [puts]
  | t :: ts => by simp [puts, put_put f g t, puts_puts f g ts]
end
mutual
theorem put_id : ∀ t : Tm, put .var t = t
  | .var _ => by simp [put]
  | .op _ ts => by simp [put, puts_id ts]
theorem puts_id : ∀ ts : List Tm, puts .var ts = ts
  | [] => by simp [puts]
  | t :: ts => by simp [puts, put_id t, puts_id ts]
end
mutual
theorem size_put (f : Int → Tm) : ∀ t : Tm, size (put f t) = size t + ((leaves t).map fun i => size (f i)).sum
  | .var _ => by simp [put, size, leaves]
  | .op _ ts => by
    simp only [put, size, leaves, sizes_puts f ts]
    omega
theorem sizes_puts (f : Int → Tm) : ∀ ts : List Tm, sizes (puts f ts) = sizes ts + ((leavesL ts).map fun i => size (f i)).sum
  | [] => by simp [puts, sizes, leavesL]
  | t :: ts => by
    simp only [puts, sizes, leavesL, size_put f t, sizes_puts f ts, List.map_append, List.sum_append]
    omega
end
mutual
theorem lv_le {P : Int → Prop} : ∀ t : Tm, ok P t → lv t ≤ 2 * size t + 1
  | .var _, _ => by simp [lv, size]
  | .op _ ts, h => by
    have := lvs_le ts h.2.2
    have := h.2.1
    simp only [lv, size]
    omega
theorem lvs_le {P : Int → Prop} : ∀ ts : List Tm, oks P ts → lvs ts ≤ 2 * sizes ts + ts.length
  | [], _ => by simp [lvs]
  | t :: ts, h => by
    have := lv_le t h.1
    have := lvs_le ts h.2
    simp only [lvs, sizes, List.length_cons]
    omega
end
theorem size_le {t : Tm} : ∀ {ts : List Tm}, t ∈ ts → size t ≤ sizes ts
  | u :: ts, h => by
    rcases List.mem_cons.mp h with rfl | h
    · simp only [sizes]; omega
    · have := size_le h
      simp only [sizes]; omega
theorem sizes_small {P : Int → Prop} : ∀ (n : Nat) (t : Tm), ok P t → dep t ≤ n → 2 * size t + 1 ≤ 3 ^ n := by
  intro n
  induction n with
  | zero =>
    intro t h hd
    cases t with
    | var i => simp [size]
    | op x ts => simp [dep] at hd
  | succ n ih =>
    intro t h hd
    have hp : 1 ≤ 3 ^ n := Nat.one_le_pow _ _ (by decide)
    cases t with
    | var i =>
      simp only [size, Nat.pow_succ]
      omega
    | op x ts =>
      have hs : ∀ us : List Tm, oks P us → deps us ≤ n → 2 * sizes us + us.length ≤ us.length * 3 ^ n := by
        intro us
        induction us with
        | nil => intro _ _; simp [sizes]
        | cons u us ih2 =>
          intro ho hdd
          have h1 := ih u ho.1 (by simp only [deps] at hdd; omega)
          have h2 := ih2 ho.2 (by simp only [deps] at hdd; omega)
          simp only [sizes, List.length_cons, Nat.add_mul, Nat.one_mul]
          omega
      have h1 := hs ts h.2.2 (by simp only [dep] at hd; omega)
      have h3 := h.2.1
      simp only [size, Nat.pow_succ]
      generalize 3 ^ n = m at *
      have : ts.length = 0 ∨ ts.length = 1 ∨ ts.length = 2 ∨ ts.length = 3 := by omega
      rcases this with e | e | e | e <;> rw [e] at h1 <;> omega
end Tm
def vat (vs : List Tm) (i : Int) : Tm := (vs[i.toNat]?).getD (.var i)
def chAt (chs : List (Int × Tm)) (i : Nat) : Tm := ((chs.find? fun c => c.1 == (i : Int)).map (·.2)).getD (.var i)
def chT (n : Nat) (chs : List (Int × Tm)) : List Tm := (List.range n).map (chAt chs)
def chg (vs : List Tm) (chs : List (Int × Tm)) : List Tm := (chT vs.length chs).map (Tm.put (vat vs))
structure ChDp (many : Int) (dc : Nat) (chs : List (Int × Tm)) : Prop where
  ok : ∀ c ∈ chs, c.2.ok fun i => 0 ≤ i ∧ i < many
  dp : ∀ c ∈ chs, c.2.dep ≤ dc
end Fm
namespace Fm
open PySem PySem.Spec PyProof.Rows L2 SlX
local macro_rules | `(tactic| walk_at "nn") => `(tactic| dsimp only [tC, tNil, tCons, tCB, tCall, gName, tSeq, tAsg, tPar, tDrop, tRet])
local macro_rules | `(tactic| walk_at "nc") => `(tactic| dsimp only [tC, tNil, tCons, tCB, tCall])
def On (x : Str) : Prop := isOutc (.str x) = true ∧ x.length ≤ 9
structure ActR.ok (r : ActR) : Prop where
  nm : Nm r.nm
  ar0 : 0 ≤ r.ar
  ar2 : r.ar ≤ 2
  o1 : 1 ≤ r.outs.length
  o6 : r.outs.length ≤ 6
  on : ∀ e ∈ r.outs, On e.1 ∧ 0 ≤ e.2 ∧ e.2 ≤ 2
def within (m : Int) : Th → Bool
  | .int i => decide (0 ≤ i) && decide (i ≤ m)
  | _ => false
def sp_within (K : PySem.W.Frag) : Sp := fun vs H Q _ => ∃ (v : V) (t : Th) (b : Addr) (m : Int), vs = [v, .int m] ∧ Is K b H v t ∧ ∀ H', Mv [] H H' → Q (.bl (within m t)) H'
def sp_outs : Sp := fun vs H Q _ => ∃ (o : Addr) (rows : List (Str × Int)), vs = [.ref o] ∧ H o = some (.dK (rows.map rowK)) ∧ (rows.map (·.1)).Nodup ∧ 1 ≤ rows.length ∧ rows.length ≤ 6 ∧ (∀ e ∈ rows, On e.1 ∧ 0 ≤ e.2 ∧ e.2 ≤ 2) ∧ ∀ H', Mv [] H H' → Q (.bl true) H'
def sp_act (K : PySem.W.Frag) : Sp := fun vs H Q _ => ∃ (r : ActR) (a o : Addr), vs = [.ref a] ∧ SqT K H a [.int r.ar, .ref o] ∧ H o = some (.dK (r.outs.map rowK)) ∧ (r.outs.map (·.1)).Nodup ∧ r.ok ∧ ∀ H', Mv [] H H' → Q (.bl true) H'
theorem tyx_sqT {K : PySem.W.Frag} {H : Hp} {a : Addr} {xs : List V} (h : SqT K H a xs) : TyX K H (.ref a) (.type "tuple") := by
  rcases h with (hs | ⟨o, hs⟩) | ⟨o, its, n, hk, hc, _⟩
  · exact .base (.tup hs)
  · exact .fTuple hs
  · exact .kTuple hk hc
section
variable {P : Program} {w : World} {K : PySem.W.Frag} {mg : Str → Option Value} {base : Heap}
end
end Fm
namespace Fm
open PySem PySem.Spec PyProof.Rows L2 SlX
local macro_rules | `(tactic| walk_at "nn") => `(tactic| dsimp only [tC, tNil, tCons, tCB, tCall, gName, tSeq, tAsg, tPar, tDrop, tRet])
local macro_rules | `(tactic| walk_at "nc") => `(tactic| dsimp only [tC, tNil, tCons, tCB, tCall])
def WldF (K : PySem.W.Frag) (H0 H : Hp) (C x : Addr) (rs : List ActR) : Prop := ∃ dx d zs, Slt H x C dx [some (.ref d)] ∧ ActsAt K H d zs ∧ zs.map (·.r) = rs ∧ H0 d = none ∧ ∀ z ∈ zs, H0 z.o = none
theorem WldF.at_ {K : PySem.W.Frag} {H0 H : Hp} {C x : Addr} {rs : List ActR} (h : WldF K H0 H C x rs) : WldAt K H C x rs := by
  obtain ⟨dx, d, zs, h1, h2, h3, _⟩ := h
  exact ⟨dx, d, zs, h1, h2, h3⟩
def sp_World (K : PySem.W.Frag) (C : Addr) : Sp := fun vs H Q _ => ∃ (x dx d : Addr) (zs : List ActA) (H0 : Hp), vs = [.ref x, .ref d] ∧ H = upd (upd H0 dx (.own x)) x (.ins C dx []) ∧ H0 x = none ∧ H0 dx = none ∧ dx ≠ x ∧ ActsAt K H0 d zs ∧ (∀ z ∈ zs, z.r.ok) ∧ zs.length < 60 ∧
  ∀ H', Mv [] H0 H' → WldF K H0 H' C x (normW (zs.map (·.r))) → Q .non H'
section
variable {P : Program} {w : World} {K : PySem.W.Frag} {mg : Str → Option Value} {base : Heap}
end
end Fm
namespace Fm
open PySem PySem.Spec PyProof.Rows L2 SlX
local macro_rules | `(tactic| walk_at "nn") => `(tactic| dsimp only [tC, tNil, tCons, tCB, tCall, gName, tSeq, tAsg, tPar, tDrop, tRet])
local macro_rules | `(tactic| walk_at "nc") => `(tactic| dsimp only [tC, tNil, tCons, tCB, tCall])
def sp_Wacts (K : PySem.W.Frag) (C : Addr) : Sp := fun vs H Q _ => ∃ (x : Addr) (rs : List ActR), vs = [.ref x] ∧ WldAt K H C x rs ∧ ∀ p, H p = none → Q (.ref p) (upd H p (.lst ((rs.map (·.nm)).map V.str)))
def sp_Wargs (K : PySem.W.Frag) (C : Addr) : Sp := fun vs H Q _ => ∃ (x : Addr) (rs : List ActR) (r : ActR), vs = [.ref x, .str r.nm] ∧ WldAt K H C x rs ∧ r ∈ rs ∧ Q (.int r.ar) H
def sp_Wouts (K : PySem.W.Frag) (C : Addr) : Sp := fun vs H Q _ => ∃ (x : Addr) (rs : List ActR) (r : ActR), vs = [.ref x, .str r.nm] ∧ WldAt K H C x rs ∧ r ∈ rs ∧ ∀ p, H p = none → Q (.ref p) (upd H p (.lst ((r.outs.map (·.1)).map V.str)))
def sp_Wbrings (K : PySem.W.Frag) (C : Addr) : Sp := fun vs H Q _ => ∃ (x : Addr) (rs : List ActR) (r : ActR) (y : Str) (i : Int), vs = [.ref x, .str r.nm, .str y] ∧ WldAt K H C x rs ∧ r ∈ rs ∧ (y, i) ∈ r.outs ∧ Q (.int i) H
section
variable {P : Program} {w : World} {K : PySem.W.Frag} {mg : Str → Option Value} {base : Heap}
end
end Fm
namespace Fm
open PySem PySem.Spec PyProof.Rows L2 SlX
local macro_rules | `(tactic| walk_at "nn") => `(tactic| dsimp only [tC, tNil, tCons, tCB, tCall, gName, tSeq, tAsg, tPar, tDrop, tRet])
local macro_rules | `(tactic| walk_at "nc") => `(tactic| dsimp only [tC, tNil, tCons, tCB, tCall])
inductive Sta where
  | set (chs : List (Int × Tm)) (goal : Int)
  | ask (act : Str) (ts : List Tm) (ways : List (Str × List Int × Int))
  | fin (word : Str) (ts : List Tm)
def chD (c : Int × Tm) : PyData := .tuple [.int c.1, c.2.d]
def wayD (w : Str × List Int × Int) : PyData := .tuple [.str w.1, .tuple (w.2.1.map .int), .int w.2.2]
def Sta.d : Sta → PyData
  | .set chs goal => .tuple [.str "set", .tuple (chs.map chD), .int goal]
  | .ask act ts ways => .tuple [.str "ask", .str act, .tuple (Tm.ds ts), .tuple (ways.map wayD)]
  | .fin word ts => .tuple [.str "end", .str word, .tuple (Tm.ds ts)]
def TmOver (many : Int) (t : Tm) : Prop := t.ok (fun i => 0 ≤ i ∧ i < many) ∧ t.th.cnt ≤ 5000 ∧ t.dep ≤ 50
def ChOk (many : Int) (chs : List (Int × Tm)) : Prop := (chs.map (·.1)).Nodup ∧ chs.length ≤ 24 ∧ ∀ c ∈ chs, 0 ≤ c.1 ∧ c.1 < many ∧ TmOver many c.2
def WayOk (r : ActR) (many places : Int) (w : Str × List Int × Int) : Prop := ∃ i, (w.1, i) ∈ r.outs ∧ (w.2.1.length : Int) = i ∧ w.2.1.Nodup ∧ (∀ j ∈ w.2.1, 0 ≤ j ∧ j < many) ∧ 0 ≤ w.2.2 ∧ w.2.2 < places
structure AskOk (r : ActR) (many places : Int) (ts : List Tm) (ways : List (Str × List Int × Int)) : Prop where
  len : (ts.length : Int) = r.ar
  ts : ∀ t ∈ ts, TmOver many t
  pm : (ways.map (·.1)).Perm (r.outs.map (·.1))
  ways : ∀ w ∈ ways, WayOk r many places w
def Sta.ok (rs : List ActR) (many places : Int) : Sta → Prop
  | .set chs goal => ChOk many chs ∧ 0 ≤ goal ∧ goal < places
  | .ask act ts ways => ∃ r ∈ rs, r.nm = act ∧ AskOk r many places ts ways
  | .fin word ts => Nm word ∧ ts.length ≤ 2 ∧ ∀ t ∈ ts, TmOver many t
structure WOk (rs : List ActR) : Prop where
  ok : ∀ r ∈ rs, r.ok
  nd : (rs.map (·.nm)).Nodup
  few : rs.length < 60
  ond : ∀ r ∈ rs, (r.outs.map (·.1)).Nodup
  pw : ∀ r ∈ rs, (r.outs.map (·.1)).Pairwise fun a b => leS a b = true
def inPl (places : Int) : Th → Bool
  | .int i => decide (0 ≤ i) && decide (i < places)
  | _ => false
def sp_diff (K : PySem.W.Frag) : Sp := fun vs H Q _ => ∃ (many : Int) (a : Addr) (ns : List Int), vs = [.int many, .ref a] ∧ SqT K H a (ns.map V.int) ∧ ns.Nodup ∧ ns.length ≤ 1000 ∧ (∀ i ∈ ns, 0 ≤ i ∧ i < many) ∧ ∀ H', Mv [] H H' → Q (.bl true) H'
def sp_termsOver (K : PySem.W.Frag) : Sp := fun vs H Q _ => ∃ (many : Int) (v : V) (ts : List Tm), vs = [.int many, v] ∧ Im K H v (.tuple (Tm.ds ts)) ∧ ts.length ≤ 1000 ∧ (∀ t ∈ ts, TmOver many t) ∧ ∀ H', Mv [] H H' → Q (.bl true) H'
def sp_place (K : PySem.W.Frag) : Sp := fun vs H Q _ => ∃ (places : Int) (v : V) (t : Th) (b : Addr), vs = [.int places, v] ∧ Is K b H v t ∧ ∀ H', Mv [] H H' → Q (.bl (inPl places t)) H'
def sp_pair (K : PySem.W.Frag) : Sp := fun vs H Q _ => ∃ (v : V) (d e : PyData), vs = [v] ∧ Im K H v (.tuple [d, e]) ∧ Q (.bl true) H
section
variable {P : Program} {w : World} {K : PySem.W.Frag} {mg : Str → Option Value} {base : Heap}
end
end Fm
namespace Fm
open PySem PySem.Spec PyProof.Rows L2 SlX
local macro_rules | `(tactic| walk_at "nn") => `(tactic| dsimp only [tC, tNil, tCons, tCB, tCall, gName, tSeq, tAsg, tPar, tDrop, tRet])
local macro_rules | `(tactic| walk_at "nc") => `(tactic| dsimp only [tC, tNil, tCons, tCB, tCall])
def sp_set (K : PySem.W.Frag) : Sp := fun vs H Q _ => ∃ (many places : Int) (v : V) (chs : List (Int × Tm)) (goal : Int), vs = [.int many, .int places, v] ∧ Im K H v (Sta.set chs goal).d ∧ ChOk many chs ∧ 0 ≤ goal ∧ goal < places ∧ ∀ H', Mv [] H H' → Q (.bl true) H'
def sp_end (K : PySem.W.Frag) : Sp := fun vs H Q _ => ∃ (many : Int) (v : V) (word : Str) (ts : List Tm), vs = [.int many, v] ∧ Im K H v (Sta.fin word ts).d ∧ Nm word ∧ ts.length ≤ 2 ∧ (∀ t ∈ ts, TmOver many t) ∧ ∀ H', Mv [] H H' → Q (.bl true) H'
def sp_way (K : PySem.W.Frag) (C : Addr) : Sp := fun vs H Q _ => ∃ (x : Addr) (many places : Int) (v : V) (rs : List ActR) (r : ActR) (wy : Str × List Int × Int), vs = [.ref x, .int many, .int places, .str r.nm, v] ∧ WldAt K H C x rs ∧ r ∈ rs ∧ Im K H v (wayD wy) ∧ WayOk r many places wy ∧
  (∀ e ∈ r.outs, 0 ≤ e.2 ∧ e.2 ≤ 2) ∧ ∀ H', Mv [] H H' → Q (.bl true) H'
section
variable {P : Program} {w : World} {K : PySem.W.Frag} {mg : Str → Option Value} {base : Heap}
end
end Fm
namespace Fm
open PySem PySem.Spec PyProof.Rows L2 SlX
local macro_rules | `(tactic| walk_at "nn") => `(tactic| dsimp only [tC, tNil, tCons, tCB, tCall, gName, tSeq, tAsg, tPar, tDrop, tRet])
local macro_rules | `(tactic| walk_at "nc") => `(tactic| dsimp only [tC, tNil, tCons, tCB, tCall])
def sp_ask (K : PySem.W.Frag) (C : Addr) : Sp := fun vs H Q _ => ∃ (x : Addr) (many places : Int) (v : V) (rs : List ActR) (r : ActR) (ts : List Tm) (ways : List (Str × List Int × Int)), vs = [.ref x, .int many, .int places, v] ∧ WldAt K H C x rs ∧ WOk rs ∧ r ∈ rs ∧ Im K H v (Sta.ask r.nm ts ways).d ∧ AskOk r many places ts ways ∧
  ∀ H', Mv [] H H' → Q (.bl true) H'
section
variable {P : Program} {w : World} {K : PySem.W.Frag} {mg : Str → Option Value} {base : Heap}
end
end Fm
namespace Fm
open PySem PySem.Spec PyProof.Rows L2 SlX
local macro_rules | `(tactic| walk_at "nn") => `(tactic| dsimp only [tC, tNil, tCons, tCB, tCall, gName, tSeq, tAsg, tPar, tDrop, tRet])
local macro_rules | `(tactic| walk_at "nc") => `(tactic| dsimp only [tC, tNil, tCons, tCB, tCall])
section
variable {P : Program} {w : World} {K : PySem.W.Frag} {mg : Str → Option Value} {base : Heap}
end
end Fm
namespace Fm
open PySem PySem.Spec PyProof.Rows L2 SlX
local macro_rules | `(tactic| walk_at "nn") => `(tactic| dsimp only [tC, tNil, tCons, tCB, tCall, gName, tSeq, tAsg, tPar, tDrop, tRet])
local macro_rules | `(tactic| walk_at "nc") => `(tactic| dsimp only [tC, tNil, tCons, tCB, tCall])
def kI : V → Int
  | .int i => i
  | _ => 0
def kS : V → Str
  | .str x => x
  | _ => ""
def Sta.ord : Sta → Sta
  | .set chs goal => .set (srt leZ (·.1) chs) goal
  | .ask act ts ways => .ask act ts (srt leS (·.1) ways)
  | .fin word ts => .fin word ts
def Sta.keyed : Sta → Prop
  | .set chs _ => (chs.map (·.1)).Nodup ∧ chs.length ≤ 1000
  | .ask _ _ ways => (ways.map (·.1)).Nodup ∧ ways.length ≤ 1000
  | .fin _ _ => True
def sp_stmt (K : PySem.W.Frag) (C : Addr) : Sp := fun vs H Q _ => ∃ (x : Addr) (many places : Int) (v : V) (rs : List ActR) (st : Sta), vs = [.ref x, .int many, .int places, v] ∧ WldAt K H C x rs ∧ WOk rs ∧ Im K H v st.d ∧ st.ok rs many places ∧ many ≤ 1000000 ∧ places ≤ 1000000 ∧
  ∀ H', Mv [] H H' → Q (.bl true) H'
theorem sta_tup : ∀ st : Sta, ∃ y e es, st.d = .tuple (.str y :: e :: es)
  | .set _ _ => ⟨_, _, _, rfl⟩
  | .ask _ _ _ => ⟨_, _, _, rfl⟩
  | .fin _ _ => ⟨_, _, _, rfl⟩
section
variable {P : Program} {w : World} {K : PySem.W.Frag} {mg : Str → Option Value} {base : Heap}
end
end Fm
namespace Fm
open PySem PySem.Spec PyProof.Rows L2 SlX
local macro_rules | `(tactic| walk_at "nn") => `(tactic| dsimp only [tC, tNil, tCons, tCB, tCall, gName, tSeq, tAsg, tPar, tDrop, tRet])
local macro_rules | `(tactic| walk_at "nc") => `(tactic| dsimp only [tC, tNil, tCons, tCB, tCall])
def sp_first_of (K : PySem.W.Frag) : Sp := fun vs H Q _ => ∃ (a : Addr) (x : V) (xs : List V), vs = [.ref a] ∧ SqT K H a (x :: xs) ∧ Q x H
def sp_ordered (K : PySem.W.Frag) : Sp := fun vs H Q _ => ∃ (v : V) (st : Sta), vs = [v] ∧ Im K H v st.d ∧ st.keyed ∧ ∀ v' H', Mv [] H H' → Im K H' v' st.ord.d → Q v' H'
section
variable {P : Program} {w : World} {K : PySem.W.Frag} {mg : Str → Option Value} {base : Heap}
end
end Fm
namespace Fm
open PySem PySem.Spec PyProof.Rows L2 SlX
local macro_rules | `(tactic| walk_at "nn") => `(tactic| dsimp only [tC, tNil, tCons, tCB, tCall, gName, tSeq, tAsg, tPar, tDrop, tRet])
local macro_rules | `(tactic| walk_at "nc") => `(tactic| dsimp only [tC, tNil, tCons, tCB, tCall])
section
variable {H0 H : Hp} {x dx C : Addr} {vs : List (Option V)}
theorem Mv.sl (m : Mv [] H0 H) (nx : H0 x = none) (ndx : H0 dx = none) : Mv [] H0 (slH H x C dx vs) := by
  unfold slH
  exact (m.wr ndx).wr nx
theorem Mv.slP {u u2 : HO} (hne : dx ≠ x) (hx : H x = some u) (h1 : ∀ xs, u ≠ .tup xs) (h2 : ∀ o xs, u ≠ .frz o (.tup xs)) (hd : H dx = some u2) (h3 : ∀ xs, u2 ≠ .tup xs) (h4 : ∀ o xs, u2 ≠ .frz o (.tup xs)) : Mv [x, dx] H (slH H x C dx vs) := by
  have m1 : Mv [x, dx] H (upd H dx (.xd [])) := (Mv.put hd h3 h4).mono (by simp)
  have m2 : Mv [x, dx] (upd H dx (.xd [])) (slH H x C dx vs) := (Mv.put (u := u) (by rw [upd_ne hne.symm]; exact hx) h1 h2).mono (by simp)
  exact m1.trans m2
theorem slH_x : slH H x C dx vs x = some (SlO x C dx vs) := upd_same
theorem slH_dx (hne : dx ≠ x) : slH H x C dx vs dx = some (.xd []) := by
  unfold slH
  rw [upd_ne hne]
  exact upd_same
theorem slO_notup {xs : List V} : SlO x C dx vs ≠ .tup xs := fun z => by
  unfold SlO at z
  cases z
theorem slO_nofrz {o : Obj} {xs : List V} : SlO x C dx vs ≠ .frz o (.tup xs) := fun z => by
  unfold SlO at z
  cases z
theorem Mv.slA (hne : dx ≠ x) (hx : H x = some (.ins C dx [])) (hd : H dx = some (.own x)) {us : List (Option V)} : Mv [x, dx] H (slH H x C dx us) := .slP hne hx (fun _ z => by cases z) (fun _ _ z => by cases z) hd (fun _ z => by cases z) (fun _ _ z => by cases z)
theorem Mv.slB (hne : dx ≠ x) (hx : H x = some (SlO x C dx vs)) (hd : H dx = some (.xd [])) {us : List (Option V)} : Mv [x, dx] H (slH H x C dx us) := .slP hne hx (fun _ => slO_notup) (fun _ _ => slO_nofrz) hd (fun _ z => by cases z) (fun _ _ z => by cases z)
end
def CodAt (K : PySem.W.Frag) (H : Hp) (C CW x wx : Addr) (rs : List ActR) (many given : Int) (sts : List Sta) : Prop := ∃ dx l xs, Slt H x C dx [some (.int given), some (.ref l), some (.int many), some (.ref wx)] ∧ WldAt K H CW wx rs ∧ H l = some (.lst xs) ∧ Ims K H xs (sts.map Sta.d)
def CodL (K : PySem.W.Frag) (H : Hp) (C CW l x wx : Addr) (rs : List ActR) (many given : Int) (sts : List Sta) : Prop := ∃ dx xs, Slt H x C dx [some (.int given), some (.ref l), some (.int many), some (.ref wx)] ∧ WldAt K H CW wx rs ∧ H l = some (.lst xs) ∧ Ims K H xs (sts.map Sta.d)
theorem CodL.at_ {K : PySem.W.Frag} {H : Hp} {C CW l x wx : Addr} {rs : List ActR} {many given : Int} {sts : List Sta} : CodL K H C CW l x wx rs many given sts → CodAt K H C CW x wx rs many given sts := fun ⟨dx, xs, h⟩ => ⟨dx, l, xs, h⟩
theorem Slt.put {H : Hp} {p a C dx : Addr} {o : HO} {zs : List V} {vs : List (Option V)} (h : Slt H a C dx vs) (hp : H p = some (.lst zs)) : Slt (upd H p o) a C dx vs := by
  have ne : ∀ {q u}, H q = some u → (∀ xs, u ≠ .lst xs) → q ≠ p := fun e n z => by
    subst z
    rw [hp] at e
    exact n _ (Option.some.inj e).symm
  rcases h with ⟨h1, h2⟩ | ⟨h1, h2⟩
  · exact .inl ⟨by rw [upd_ne (ne h1 (fun _ z => by cases z))]; exact h1, h2⟩
  · exact .inr ⟨by rw [upd_ne (ne h1 slO_nolst)]; exact h1, by rw [upd_ne (ne h2 (fun _ z => by cases z))]; exact h2⟩
theorem CodL.put {K : PySem.W.Frag} {H : Hp} {C CW l x wx p : Addr} {o : HO} {zs : List V} {rs : List ActR} {many given : Int} {sts : List Sta} (h : CodL K H C CW l x wx rs many given sts) (hp : H p = some (.lst zs)) (hl : l ≠ p) (hW : WldAt K (upd H p o) CW wx rs) : CodL K (upd H p o) C CW l x wx rs many given sts := by
  obtain ⟨dx, xs, h1, _, h3, h4⟩ := h
  exact ⟨dx, xs, Slt.put h1 hp, hW, by rw [upd_ne hl]; exact h3, h4.mv (Mv.set (S := [p]) hp (by simp))⟩
theorem Bag.ne_sta {K : PySem.W.Frag} {H : Hp} {b l : Addr} {xs : List V} {sts : List Sta} (hB : Bag H b) (hl : H l = some (.lst xs)) (hx : Ims K H xs (sts.map Sta.d)) : l ≠ b := by
  rintro rfl
  obtain ⟨c, s, m, k, ns, h1, _⟩ := hB
  rw [h1] at hl
  have := Option.some.inj hl
  injection this with this
  subst this
  cases sts with
  | nil => have := hx.nilD; cases this
  | cons st sts =>
    obtain ⟨v, vs, e, h2, _⟩ := hx.invD
    cases e
    obtain ⟨y, e1, es, hst⟩ := sta_tup st
    rw [hst] at h2
    obtain ⟨a, xs, e, _⟩ := h2.tupI
    cases e
section
variable {K : PySem.W.Frag} {H H' : Hp} {b C CW x wx : Addr} {rs : List ActR} {many given : Int} {sts : List Sta}
theorem CodAt.mv (h : CodAt K H C CW x wx rs many given sts) (m : Mv [] H H') : CodAt K H' C CW x wx rs many given sts := by
  obtain ⟨dx, l, xs, h1, h2, h3, h4⟩ := h
  exact ⟨dx, l, xs, Slt.mv h1 m, h2.mv m, m.same _ _ h3, h4.mv m⟩
theorem CodL.dr {l : Addr} (h : CodL K H C CW l x wx rs many given sts) (m : Dr b H H') (hB : Bag H b) : CodL K H' C CW l x wx rs many given sts := by
  obtain ⟨dx, xs, h1, h2, h3, h4⟩ := h
  exact ⟨dx, xs, Slt.dr h1 m hB, h2.dr m hB, m.get (hB.ne_sta h3 h4) h3, h4.mv m.mv⟩
theorem CodAt.dr (h : CodAt K H C CW x wx rs many given sts) (m : Dr b H H') (hB : Bag H b) : CodAt K H' C CW x wx rs many given sts := by
  obtain ⟨dx, l, xs, h1, h2, h3, h4⟩ := h
  exact ⟨dx, l, xs, Slt.dr h1 m hB, h2.dr m hB, m.get (hB.ne_sta h3 h4) h3, h4.mv m.mv⟩
end
def sp_Code (K : PySem.W.Frag) (C CW : Addr) : Sp := fun vs H Q _ => ∃ (x dx wx sl : Addr) (rs : List ActR) (many given : Int) (xs : List V) (sts : List Sta) (H0 : Hp), vs = [.ref x, .ref wx, .int many, .int given, .ref sl] ∧ H = upd (upd H0 dx (.own x)) x (.ins C dx []) ∧ H0 x = none ∧ H0 dx = none ∧ dx ≠ x ∧
  WldAt K H0 CW wx rs ∧ WOk rs ∧ 0 ≤ many ∧ many ≤ 24 ∧ 0 ≤ given ∧ given ≤ many ∧ (H0 sl = some (.lst xs) ∨ SqT K H0 sl xs) ∧ Ims K H0 xs (sts.map Sta.d) ∧ (∀ st ∈ sts, st.ok rs many sts.length) ∧ 0 < sts.length ∧ sts.length ≤ 1000 ∧
  ∀ l H', Mv [] H0 H' → H0 l = none → CodL K H' C CW l x wx rs many given (sts.map Sta.ord) → Q .non H'
theorem Mv.seq {K : PySem.W.Frag} {H H' : Hp} {a : Addr} {xs : List V} (m : Mv [] H H') (h : SqL K H a xs ∨ SqT K H a xs) : SqL K H' a xs ∨ SqT K H' a xs := h.imp (fun h => m.same.seq h) fun h => m.sqT h
section
variable {P : Program} {w : World} {K : PySem.W.Frag} {mg : Str → Option Value} {base : Heap}
end
end Fm
namespace Fm
open PySem PySem.Spec PyProof.Rows L2 SlX
local macro_rules | `(tactic| walk_at "nn") => `(tactic| dsimp only [tC, tNil, tCons, tCB, tCall, gName, tSeq, tAsg, tPar, tDrop, tRet])
local macro_rules | `(tactic| walk_at "nc") => `(tactic| dsimp only [tC, tNil, tCons, tCB, tCall])
def sp_stAt (K : PySem.W.Frag) (C CW D : Addr) : Sp := fun vs H Q E => ∃ (x wx : Addr) (rs : List ActR) (many given : Int) (sts : List Sta) (i : Int), vs = [.ref x, .int i] ∧ CodAt K H C CW x wx rs many given sts ∧
  (0 ≤ i → i < sts.length → ∀ v st H', sts[i.toNat]? = some st → Mv [] H H' → Im K H' v st.d → Q v H') ∧
  (¬ (0 ≤ i ∧ i < sts.length) → ∀ d H', Mv [] H H' → H' d = none → E (.ref D) (some d) (upd H' d (.xd [("place", .int i)])))
def isSet (sts : List Sta) (p : Int) : Bool := match sts[p.toNat]? with
  | some (.set _ _) => true
  | _ => false
def stp (sts : List Sta) (p : Int) : Int := match sts[p.toNat]? with
  | some (.set _ g) => g
  | _ => p
def orb (sts : List Sta) (p : Int) : Nat → Int
  | 0 => p
  | n + 1 => stp sts (orb sts p n)
def Shows (sts : List Sta) (p : Int) : Option Int → Prop
  | some q => ∃ n, orb sts p n = q ∧ isSet sts q = false
  | none => ∀ n, isSet sts (orb sts p n) = true
def optV : Option Int → V
  | some i => .int i
  | none => .non
def sp_showing (K : PySem.W.Frag) (C CW D : Addr) : Sp := fun vs H Q E => ∃ (x wx : Addr) (rs : List ActR) (many given : Int) (sts : List Sta) (i : Int), vs = [.ref x, .int i] ∧ CodAt K H C CW x wx rs many given sts ∧ sts.length ≤ 1000 ∧ (∀ chs g, Sta.set chs g ∈ sts → 0 ≤ g ∧ g < sts.length) ∧
  (0 ≤ i → i < sts.length → ∀ r H', Shows sts i r → Mv [] H H' → Q (optV r) H') ∧
  (¬ (0 ≤ i ∧ i < sts.length) → ∀ d H', Mv [] H H' → H' d = none → E (.ref D) (some d) (upd H' d (.xd [("place", .int i)])))
section
variable {P : Program} {w : World} {K : PySem.W.Frag} {mg : Str → Option Value} {base : Heap}
end
end Fm
namespace Fm
open PySem PySem.Spec PyProof.Rows L2 SlX
local macro_rules | `(tactic| walk_at "nn") => `(tactic| dsimp only [tC, tNil, tCons, tCB, tCall, gName, tSeq, tAsg, tPar, tDrop, tRet])
local macro_rules | `(tactic| walk_at "nc") => `(tactic| dsimp only [tC, tNil, tCons, tCB, tCall])
def fit (i : Int) : Prop := i.natAbs < 10 ^ 40
structure VsOk (us : List Tm) : Prop where
  ok : Tm.oks fit us
  dp : Tm.deps us ≤ 50
  nd : Tm.nod us ≤ 10000
structure TsOk (many : Int) (ts : List Tm) : Prop where
  ok : Tm.oks (fun i => 0 ≤ i ∧ i < many) ts
  dp : Tm.deps ts ≤ 50
  nd : Tm.nod ts ≤ 10000
theorem Tm.nod_mem {t : Tm} {ts : List Tm} (h : t ∈ ts) : Tm.nod [t] ≤ Tm.nod ts := by
  have h1 := Tm.size_le h
  have h2 := Tm.lv_mem h
  simp only [Tm.nod, Tm.sizes, Tm.lvs]
  omega
theorem VsOk.one {us : List Tm} (h : VsOk us) {t : Tm} (ht : t ∈ us) : Tm.oks fit [t] ∧ Tm.deps [t] ≤ 50 ∧ Tm.nod [t] ≤ 10000 := by
  refine ⟨⟨Tm.oks_iff.mp h.ok t ht, trivial⟩, ?_, Nat.le_trans (Tm.nod_mem ht) h.nd⟩
  have := Tm.deps_le.mp h.dp t ht
  simp only [Tm.deps]
  omega
def sp_putAll (K : PySem.W.Frag) (d : Nat) : Sp := fun vs H Q _ => ∃ (a c : Addr) (xs ys : List V) (ts us : List Tm), vs = [.ref a, .ref c] ∧ (SqL K H a xs ∨ SqT K H a xs) ∧ Ims K H xs (Tm.ds ts) ∧ (SqL K H c ys ∨ SqT K H c ys) ∧ Ims K H ys (Tm.ds us) ∧
  Tm.oks (fun i => 0 ≤ i ∧ i < us.length) ts ∧ Tm.deps ts < d ∧ ts.length ≤ 1000 ∧ ∀ p zs H', Mv [] H H' → SqT K H' p zs → Ims K H' zs (Tm.ds (ts.map (Tm.put (vat us)))) → Q (.ref p) H'
def sp_sizePut (K : PySem.W.Frag) : Sp := fun vs H Q _ => ∃ (a c : Addr) (xs ys : List V) (ts us : List Tm), vs = [.ref a, .ref c] ∧ (SqL K H a xs ∨ SqT K H a xs) ∧ Ims K H xs (Tm.ds ts) ∧ (SqL K H c ys ∨ SqT K H c ys) ∧ Ims K H ys (Tm.ds us) ∧
  TsOk us.length ts ∧ VsOk us ∧ us.length ≤ 1000 ∧ ∀ H', Mv [] H H' → Q (.int (Tm.sizes (ts.map (Tm.put (vat us))))) H'
section
variable {P : Program} {w : World} {K : PySem.W.Frag} {mg : Str → Option Value} {base : Heap}
end
end Fm
namespace Fm
open PySem PySem.Spec PyProof.Rows L2
theorem paired_snoc {α β : Type} {F : α → β → Prop} : ∀ {l₁ : List α} {l₂ : List β} {a : α} {b : β}, Paired F l₁ l₂ → F a b → Paired F (l₁ ++ [a]) (l₂ ++ [b])
  | _, _, _, _, .nil, h => .cons h .nil
  | _, _, _, _, .cons x t, h => .cons x (paired_snoc t h)
theorem paired_len {α β : Type} {F : α → β → Prop} : ∀ {l₁ : List α} {l₂ : List β}, Paired F l₁ l₂ → l₁.length = l₂.length
  | _, _, .nil => rfl
  | _, _, .cons _ t => by simp [paired_len t]
theorem paired_bl {f : Th → Bool} : ∀ {ys : List V} {ts : List Th}, Paired (fun y t => y = V.bl (f t)) ys ts → ys = (ts.map f).map V.bl
  | _, _, .nil => rfl
  | _, _, .cons h t => by rw [h, paired_bl t]; rfl
theorem lc_th {K : PySem.W.Frag} {a b : Addr} {xs : List V} {ts : List Th} {g : TG} {tt : TT} {te : TE} {vs : List Nat} {σ : L2.St} {H : Hp} {Qd : Addr → Hp → Prop} (c : Th → Bool) (Rel : V → Th → Prop) (hS : SqL K H a xs ∨ SqT K H a xs) (hI : IsAll K b H xs ts) (hlen : ts.length ≤ 90000)
    (hs : ∀ x t H' (Q : VK) (R : Hp → Prop), t ∈ ts → Is K b H x t → Mv [] H H' → (c t = true → ∀ y H4, Rel y t → Mv [] H' H4 → Q y H4) → (c t = false → ∀ H4, Mv [] H' H4 → R H4) →
      g x (wipe σ vs) H' fun σ2 H2 => wipe σ2 vs = wipe σ vs ∧ tt σ2 H2 fun k H3 => if k = true then te σ2 H3 Q else R H3)
    (hd : ∀ D ys H', H D = none → H' D = some (.lst ys) → Paired Rel ys (ts.filter c) → Mv [] H H' → Qd D H') :
    ((∃ xs, SqL K H a xs) ∧ ∀ D, H D = none → ∃ W : Nat → Nat → Hp → Prop, (∃ m, W 0 m (upd H D (.lst []))) ∧ ∀ i m H, W i m H →
      ((Itl K a).stop i H ∧ Qd D H) ∨ ((Itl K a).go i H ∧ ∃ Nx : Hp → Prop, (∀ H', Nx H' → ∃ m', m' < m ∧ W (i + 1) m' H') ∧ ∀ x H', (Itl K a).yld i H x H' → g x (wipe σ vs) H' fun σ2 H2 => wipe σ2 vs = wipe σ vs ∧ tt σ2 H2 fun k H3 =>
        if k = true then te σ2 H3 fun y H4 => ∃ acc, H4 D = some (.lst acc) ∧ acc.length < sizeLine ∧ Nx (upd H4 D (.lst (acc ++ [y]))) else Nx H3)) ∨
    ((∃ xs, SqT K H a xs) ∧ ∀ D, H D = none → ∃ W : Nat → Nat → Hp → Prop, (∃ m, W 0 m (upd H D (.lst []))) ∧ ∀ i m H, W i m H →
      ((Itt K a).stop i H ∧ Qd D H) ∨ ((Itt K a).go i H ∧ ∃ Nx : Hp → Prop, (∀ H', Nx H' → ∃ m', m' < m ∧ W (i + 1) m' H') ∧ ∀ x H', (Itt K a).yld i H x H' → g x (wipe σ vs) H' fun σ2 H2 => wipe σ2 vs = wipe σ vs ∧ tt σ2 H2 fun k H3 =>
        if k = true then te σ2 H3 fun y H4 => ∃ acc, H4 D = some (.lst acc) ∧ acc.length < sizeLine ∧ Nx (upd H4 D (.lst (acc ++ [y]))) else Nx H3)) := by
  have hxl := hI.length
  refine lc_seq hS (fun i D H1 => ∃ ys, H1 D = some (.lst ys) ∧ Paired Rel ys ((ts.take i).filter c) ∧ Mv [] H H1)
    (fun D nD => ⟨[], upd_same, .nil, .new nD⟩) (fun i D H1 nD h1 => h1.choose_spec.2.2) (fun D nD i x H1 hx h1 => ?_) (fun D H1 nD h1 => ?_)
  · obtain ⟨ys, e1, i1, m1⟩ := h1
    obtain ⟨t, ht, him⟩ := hI.get hx
    have hil := (List.getElem?_eq_some_iff.mp ht).1
    have htk : ts.take (i + 1) = ts.take i ++ [t] := by rw [List.take_add_one, ht]; rfl
    refine hs x t H1 _ _ (List.mem_of_getElem? ht) him m1 (fun hc y H4 hy m4 => ?_) (fun hc H3 m3 => ?_)
    · have e4 := m4.same _ _ e1
      refine ⟨ys, e4, ?_, ys ++ [y], upd_same, ?_, (m1.trans m4).wr nD⟩
      · rw [paired_len i1]
        have h3 : ((ts.take i).filter c).length ≤ (ts.take i).length := List.length_filter_le _ _
        rw [List.length_take] at h3
        exact Nat.lt_of_le_of_lt (show _ ≤ 90000 by omega) (by decide)
      · rw [htk, List.filter_append]
        simp only [List.filter_cons, hc, if_true, List.filter_nil]
        exact paired_snoc i1 hy
    · refine ⟨ys, m3.same _ _ e1, ?_, m1.trans m3⟩
      rw [htk, List.filter_append]
      simp only [List.filter_cons, hc, Bool.false_eq_true, if_false, List.filter_nil, List.append_nil]
      exact i1
  · obtain ⟨ys, e1, i1, m1⟩ := h1
    rw [hxl, List.take_length] at i1
    exact hd D ys H1 nD e1 i1 m1
end Fm
namespace Fm
open PySem PySem.Spec PyProof.Rows L2 SlX
local macro_rules | `(tactic| walk_at "nn") => `(tactic| dsimp only [tC, tNil, tCons, tCB, tCall, gName, tSeq, tAsg, tPar, tDrop, tRet])
local macro_rules | `(tactic| walk_at "nc") => `(tactic| dsimp only [tC, tNil, tCons, tCB, tCall])
inductive RcV (K : PySem.W.Frag) (b C : Addr) (H : Hp) : V → Option (List V × List Th) → Prop
  | lst {a : Addr} {xs : List V} {ts : List Th} : a ≠ b → H a = some (.lst xs) → IsAll K b H xs ts → RcV K b C H (.ref a) (some (xs, ts))
  | tup {a : Addr} {xs : List V} {ts : List Th} : SqT K H a xs → IsAll K b H xs ts → RcV K b C H (.ref a) (some (xs, ts))
  | odd {v : V} {t : Th} : Is K b H v t → isLstT t = false → isTupT t = false → RcV K b C H v none
  | ins {a dx : Addr} {vs : List (Option V)} : Slt H a C dx vs → RcV K b C H (.ref a) none
def recWrong (tm : Th) (rows : Option (List V × List Th)) : Option Nat :=
  match tm with
  | .int many => if many < 0 then some 0 else match rows with
    | some r => if (r.2.all fun t => isTerm t && under many t) = true then none else some 1
    | none => some 1
  | _ => some 0
def RecAt (K : PySem.W.Frag) (H : Hp) (C x : Addr) (many : Int) (ts : List Tm) : Prop := ∃ dx p xs, Slt H x C dx [some (.ref p), some (.int many)] ∧ SqT K H p xs ∧ Ims K H xs (Tm.ds ts)
section
variable {K : PySem.W.Frag} {H H' : Hp} {b C x : Addr}
theorem RcV.mv0 {v : V} {o : Option (List V × List Th)} (h : RcV K b C H v o) (m : Mv [] H H') : RcV K b C H' v o := by
  cases h with
  | lst h0 h1 h2 => exact .lst h0 (m.same _ _ h1) (h2.mv0 m)
  | tup h1 h2 => exact .tup (m.sqT h1) (h2.mv0 m)
  | odd h h1 h2 => exact .odd (h.mv0 m) h1 h2
  | ins h => exact .ins (Slt.mv h m)
theorem RecAt.mv {many : Int} {ts : List Tm} (h : RecAt K H C x many ts) (m : Mv [] H H') : RecAt K H' C x many ts := by
  obtain ⟨dx, p, xs, h1, h2, h3⟩ := h
  exact ⟨dx, p, xs, Slt.mv h1 m, m.sqT h2, h3.mv m⟩
theorem RecAt.dr {many : Int} {ts : List Tm} (h : RecAt K H C x many ts) (m : Dr b H H') (hB : Bag H b) : RecAt K H' C x many ts := by
  obtain ⟨dx, p, xs, h1, h2, h3⟩ := h
  exact ⟨dx, p, xs, Slt.dr h1 m hB, m.mv.sqT h2, h3.mv m.mv⟩
theorem rd_isTX {v : V} {o : Option (List V × List Th)} {p : Addr} {Q : VK} (h : RcV K b C H v o) (hp : H p = some (.tup [.ty "list", .ty "tuple"])) (hc : SCls K C) (hi : SIsi K C) (hn : PySem.W.kitAny K (.ref C) [.type "list", .type "tuple"] = some false) (q : Q (.bl o.isSome) H) : rIsiTX K [v, .ref p] H Q := by
  have key : (∃ t c, TyX K H v t ∧ PySem.W.kitAny K t [.type "list", .type "tuple"] = some c ∧ c = o.isSome) ∨ ∃ a dx vs, v = .ref a ∧ Slt H a C dx vs ∧ o = none := by
    cases h with
    | lst h0 h1 h2 => exact .inl ⟨_, true, .base (.lst h1), kitAny_cons (b := true) (kit_ty (b := "list") (by decide +kernel)) (fun z => by cases z) (fun _ => rfl), rfl⟩
    | tup h1 h2 => exact .inl ⟨_, true, tyx_sqT h1, kitAny_cons (r := true) (kit_ty (a := "tuple") (b := "list") (r := false) (by decide +kernel)) (fun _ => kitAny_cons (b := true) (kit_ty (by decide +kernel)) (fun z => by cases z) (fun _ => rfl)) (fun z => by cases z), rfl⟩
    | @odd _ t h h1 h2 =>
      refine .inl ⟨_, false, tyx_is h, kitAny_cons (kit_ty (kit_lst t)) (fun _ => kitAny_cons (kit_ty (kit_tup t)) (fun _ => rfl) (fun e => ?_)) (fun e => ?_), rfl⟩
      · rw [h2] at e
        cases e
      · rw [h1] at e
        cases e
    | ins h => exact .inr ⟨_, _, _, rfl, h, rfl⟩
  rcases key with ⟨t, c, ht, hk, rfl⟩ | ⟨a, dx, vs, rfl, hs, rfl⟩
  · exact .inl ⟨_, p, _, t, [.type "list", .type "tuple"], o.isSome, rfl, hp, .cons (.ty "list") (.cons (.ty "tuple") .nil), ht, hk, q⟩
  · exact .inr ⟨a, C, dx, vs, p, _, [.type "list", .type "tuple"], false, rfl, hp, .cons (.ty "list") (.cons (.ty "tuple") .nil), hs, hc, hi, hn, q⟩
end
theorem rd_tupSq {K : PySem.W.Frag} {H : Hp} {a : Addr} {xs : List V} {Q : VK} (h : SqL K H a xs ∨ SqT K H a xs) (q : ∀ p H', Mv [] H H' → SqT K H' p xs → Q (.ref p) H') : rTupOf K [.ref a] H Q :=
  h.elim (fun h => rd_tupOf h q) fun h => ⟨a, xs, rfl, .inr ⟨h, q a H .refl h⟩⟩
def sp_RecT (K : PySem.W.Frag) (C EW : Addr) : Sp := fun vs H Q E => ∃ (x dx : Addr) (mv tv : V) (b : Addr) (tm : Th) (rows : Option (List V × List Th)) (H0 : Hp), vs = [.ref x, mv, tv] ∧ H = upd (upd H0 dx (.own x)) x (.ins C dx []) ∧ H0 x = none ∧ H0 dx = none ∧ dx ≠ x ∧
  Is K b H0 mv tm ∧ RcV K b C H0 tv rows ∧ (∀ r, rows = some r → r.2.length ≤ 90000 ∧ ∀ t ∈ r.2, t.cnt ≤ 90000) ∧
  (∀ k : Nat, recWrong tm rows = some k → ∀ dd H', Mv [] H0 H' → H' dd = none → E (.ref EW) (some dd) (upd H' dd (.xd [("place", .int (k : Nat))]))) ∧
  ∀ many r, tm = .int many → rows = some r → recWrong tm rows = none → ∀ p H', Mv [] H0 H' → Slt H' x C dx [some (.ref p), some (.int many)] → SqT K H' p r.1 → Q .non H'
section
variable {P : Program} {w : World} {K : PySem.W.Frag} {mg : Str → Option Value} {base : Heap}
theorem ok_Recipe___init__N (T : TX K mg) (Y : TY P K mg) {k : Nat} : FnOk P w K mg base (L2N.CX P w) (k + 5) T.d_Recipe___init__.f T.d_Recipe___init__.fd P_Recipe___init__ (sp_RecT K T.C_Recipe Y.C_Wrong) := by
  have G_is_integer : FnOk P w K mg base CX0 1 T.d_is_integer.f T.d_is_integer.fd P_is_integer (sp_kind K isWhole) := ok_is_integer T
  have G_is_term_over : FnOk P w K mg base CX0 3 T.d_is_term_over.f T.d_is_term_over.fd P_is_term_over (sp_termOver K) := ok_is_term_over T
  refine T.d_Recipe___init__.F.okN sc_Recipe___init__ (fun vs H Q E h => ?_) (fun cdv A outer s H vs Q E hr h => ?_)
  · obtain ⟨_, _, _, _, _, _, _, _, rfl, _⟩ := h
    rfl
  · obtain ⟨x, dx, mv, tv, b, tm, rows, H0, rfl, eH, nx, ndx, hne, hm0, hT0, hbd, qW, q⟩ := h
    have hu65 := hu65_of hr
    have hu64 := hr.units
    refine ⟨_, (pss_cons (ps_if (PW.pt (pw_or (pt_not (pt_val (pe_call G_is_integer (hr.mono (by omega)) rfl T.d_is_integer.g T.d_is_integer.F.kp T.d_is_integer.b .nil pass0 (pa_cons (pv 1) pa_nil)))) (pw_or1 (pt_cmpR op_lt (pv 1) pe_int (nomark _))))) (pss_one (L2N.ps_raise rfl (L2N.takes_of rfl rfl rfl rfl) (pmk_xN Y.x_Wrong hr (pa_cons pe_int pa_nil)))) pss_nil) (pss_cons (ps_if (PW.pt (pw_or (pt_not (pt_val (pe_callB (r := rIsiTX K) call_isiTX (by rfl) T.b_isinstance bt_isinstance (pa_cons (pv 2) (pa_cons (pe_tup (pa_cons (pe_ty T.b_list bt_list) (pa_cons (pe_ty T.b_tuple bt_tuple) pa_nil))) pa_nil))))) (pw_or1 (pt_not (pt_val (pe_callB (r := rAll K) (cr_all rfl) (by rfl) T.b_all bt_all (pa_cons (pe_lc (own := [("term", 3)]) (g := gName 3) (by rfl) sc_Recipe___init__.nd (pi_seq (pv 2)) (blkOk_by (own := [("term", 3)]) (N := N_Recipe___init__) (sc := defScope s_Recipe___init__) (by decide +kernel)) (fun _ _ _ _ _ => pg_name (i := 3) sc_Recipe___init__.nd rfl (Or.inl rfl)) (fun _ _ _ _ _ => pts_nil) (fun _ _ _ _ _ => (pe_call G_is_term_over (hr.mono (by omega)) rfl T.d_is_term_over.g T.d_is_term_over.F.kp T.d_is_term_over.b .nil pass0 (pa_cons (pv 1) (pa_cons (pv 3) pa_nil))))) pa_nil))))))) (pss_one (L2N.ps_raise rfl (L2N.takes_of rfl rfl rfl rfl) (pmk_xN Y.x_Wrong hr (pa_cons pe_int pa_nil)))) pss_nil) (pss_cons (ps_sl (pv 0) (pv 1)) (pss_one (ps_sl (pv 0) (pe_callTy (r := rTupOf K) call_tupG (by rfl) T.b_tuple bt_tuple (pa_cons (pv 2) pa_nil))))))), ?_⟩
    have mH : Mv [] H0 H := by
      rw [eH]
      exact (Mv.new ndx).wr nx
    have hx : H x = some (.ins T.C_Recipe dx []) := by rw [eH]; exact upd_same
    have hdx : H dx = some (.own x) := by rw [eH, upd_ne hne]; exact upd_same
    clear eH
    have hm := hm0.mv0 mH
    have hT := hT0.mv0 mH
    have wrong : ∀ (k : Nat) H1, recWrong tm rows = some k → Mv [] H H1 → ∀ dd, H1 dd = none → E (.ref Y.C_Wrong) (some dd) (upd H1 dd (.xd [("place", .int (k : Nat))])) := fun k H1 hk m1 dd nd => qW k hk dd H1 (mH.trans m1) nd
    refine ⟨mv, rfl, mv, tm, b, rfl, hm, fun H1 m1 => ⟨_, rfl, ?_⟩⟩
    cases htm : isWhole tm with
    | false =>
      refine ⟨.int 0, rfl, fun dd nd => wrong 0 H1 ?_ m1 dd nd⟩
      cases tm <;> first | rfl | cases htm
    | true =>
      obtain ⟨many, rfl⟩ : ∃ i, tm = .int i := by
        cases tm <;> first | exact ⟨_, rfl⟩ | cases htm
      cases (show mv = V.int many from hm)
      refine ⟨.int many, rfl, many, 0, rfl, rfl, _, rfl, ite2 (fun e0 => ?_) (fun e0 => ?_)⟩
      · have h0 : many < 0 := by simpa using e0
        refine ⟨.int 0, rfl, fun dd nd => wrong 0 H1 ?_ m1 dd nd⟩
        show (if many < 0 then some 0 else _) = _
        rw [if_pos h0]
      have h0 : ¬ many < 0 := by simpa using e0
      refine ⟨tv, rfl, (by decide : 2 ≤ sizeLine), fun p5 np5 => ?_⟩
      have m5 : Mv [] H (upd H1 p5 (.tup [.ty "list", .ty "tuple"])) := m1.trans (.new np5)
      have e5 : upd H1 p5 (.tup [.ty "list", .ty "tuple"]) p5 = some (.tup [.ty "list", .ty "tuple"]) := upd_same
      generalize upd H1 p5 (.tup [.ty "list", .ty "tuple"]) = H5 at m5 e5 ⊢
      have hT5 := hT.mv0 m5
      walk_at "nn"
      refine rd_isTX hT5 e5 T.c_Recipe T.is_Recipe (kitAny_no T.nl_Recipe T.nt_Recipe) ?_
      refine ⟨_, rfl, ?_⟩
      cases hrows : rows with
      | none =>
        refine ⟨.int 1, rfl, fun dd nd => wrong 1 H5 ?_ m5 dd nd⟩
        rw [hrows]
        show (if many < 0 then some 0 else _) = _
        rw [if_neg h0]
      | some r =>
        obtain ⟨xs, ts⟩ := r
        subst hrows
        obtain ⟨sl, rfl, hSq0, hxs0⟩ : ∃ sl, tv = .ref sl ∧ (SqL K H0 sl xs ∨ SqT K H0 sl xs) ∧ IsAll K b H0 xs ts := by
          cases hT0 with
          | lst h0 h1 h2 => exact ⟨_, rfl, .inl (.inl (.inl h1)), h2⟩
          | tup h1 h2 => exact ⟨_, rfl, .inr h1, h2⟩
        have hSq := (mH.trans m5).seq hSq0
        have hxs := hxs0.mv0 (mH.trans m5)
        obtain ⟨hl, hcn⟩ := hbd _ rfl
        refine ⟨.ref sl, rfl, sl, rfl, ?_⟩
        refine lc_th (K := K) (b := b) (fun _ => true) (fun y t => y = V.bl (isTerm t && under many t)) hSq hxs hl (fun y t H6 Q' R hm' hy m6 k1 _ => ?_) (fun D ys H6 nD e6 hp m6 => ?_)
        · exact ⟨rfl, .int many, rfl, y, rfl, many, y, t, b, rfl, hy.mv0 m6, hcn t hm', fun H7 m7 => k1 rfl _ H7 rfl m7⟩
        · rw [List.filter_eq_self.mpr fun _ _ => rfl] at hp
          rw [paired_bl hp] at e6
          have m06 := m5.trans m6
          refine ⟨D, _, rfl, .inl (.inl e6), ?_⟩
          have ea : (ts.map fun t => isTerm t && under many t).all id = ts.all fun t => isTerm t && under many t := by rw [List.all_map]; rfl
          rw [ea]
          refine ⟨_, rfl, ite2 (fun e1 => ?_) (fun e1 => ?_)⟩
          · refine ⟨.int 1, rfl, fun dd nd => wrong 1 H6 ?_ m06 dd nd⟩
            show (if many < 0 then some 0 else if _ then none else some 1) = _
            rw [if_neg h0, if_neg (by simpa using e1)]
          · have hgood : recWrong (.int many) (some (xs, ts)) = none := by
              show (if many < 0 then some 0 else if _ then none else some 1) = _
              rw [if_neg h0, if_pos (by simpa using e1)]
            have hx6 := m06.same _ _ hx
            have hd6 := m06.same _ _ hdx
            refine ⟨.int many, rfl, .ref x, rfl, x, T.C_Recipe, dx, T.p_Recipe_its_variables, [], 1, rfl, Or.inl ⟨hx6, rfl⟩, T.c_Recipe, T.sl_Recipe_its_variables, ?_⟩
            have m7 := (mH.trans m06).sl (C := T.C_Recipe) (vs := putS 1 (.int many) []) nx ndx
            have k7 := Mv.slA hne hx6 hd6 (us := putS 1 (.int many) [])
            have hx7 := slH_x (H := H6) (x := x) (C := T.C_Recipe) (dx := dx) (vs := putS 1 (.int many) [])
            have hd7 := slH_dx (H := H6) (C := T.C_Recipe) (vs := putS 1 (.int many) []) hne
            have hs7 := slH_slt (H := H6) (C := T.C_Recipe) (vs := putS 1 (.int many) []) hne
            generalize slH H6 x T.C_Recipe dx (putS 1 (.int many) []) = H7 at k7 m7 hx7 hd7 hs7 ⊢
            refine ⟨.ref sl, rfl, ?_⟩
            walk_at "nc"
            refine rd_tupSq (m7.seq hSq0) fun p H8 m8 e8 => ?_
            have hx8 := m8.same _ _ hx7
            have hd8 := m8.same _ _ hd7
            refine ⟨.ref x, rfl, x, T.C_Recipe, dx, T.p_Recipe_its_terms, _, 0, rfl, Slt.mv hs7 m8, T.c_Recipe, T.sl_Recipe_its_terms, ?_⟩
            have m9 := (m7.trans m8).sl (C := T.C_Recipe) (vs := putS 0 (.ref p) (putS 1 (.int many) [])) nx ndx
            have k9 := Mv.slB hne hx8 hd8 (us := putS 0 (.ref p) (putS 1 (.int many) []))
            have hs9 := slH_slt (H := H8) (C := T.C_Recipe) (vs := putS 0 (.ref p) (putS 1 (.int many) [])) hne
            generalize slH H8 x T.C_Recipe dx (putS 0 (.ref p) (putS 1 (.int many) [])) = H9 at m9 k9 hs9 ⊢
            exact q many _ rfl rfl hgood p H9 m9 hs9 (k9.sqT e8)
end
end Fm
namespace Fm
open PySem PySem.Spec PyProof.Rows L2 SlX
local macro_rules | `(tactic| walk_at "nn") => `(tactic| dsimp only [tC, tNil, tCons, tCB, tCall, gName, tSeq, tAsg, tPar, tDrop, tRet])
local macro_rules | `(tactic| walk_at "nc") => `(tactic| dsimp only [tC, tNil, tCons, tCB, tCall])
def rIsiX (K : PySem.W.Frag) (u : Value) : List V → Hp → VK → Prop := fun xs H Q => rIsiSl K u xs H Q ∨ rIsi K xs H Q
def plainTy (T : String) : Bool := match fastBuiltinMro T with
  | some l => l.all fun v => match v with | .ref _ => false | _ => true
  | none => false
def sp_WorldEq (K : PySem.W.Frag) (C : Addr) : Sp := fun vs H Q _ => ∃ (x : Addr) (rs : List ActR) (y : V), vs = [.ref x, y] ∧ WldAt K H C x rs ∧
  ((∃ x2 rs2, y = .ref x2 ∧ WldAt K H C x2 rs2 ∧ Q (.bl (rsEq rs rs2)) H) ∨ ∃ T, TyX K H y (.type T) ∧ plainTy T = true ∧ Q (.bl false) H)
section
variable {P : Program} {w : World} {K : PySem.W.Frag} {mg : Str → Option Value} {base : Heap}
end
end Fm
namespace Fm
open PySem PySem.Spec PyProof.Rows L2 SlX
local macro_rules | `(tactic| walk_at "nn") => `(tactic| dsimp only [tC, tNil, tCons, tCB, tCall, gName, tSeq, tAsg, tPar, tDrop, tRet])
local macro_rules | `(tactic| walk_at "nc") => `(tactic| dsimp only [tC, tNil, tCons, tCB, tCall])
def tsD (ts : List Tm) : PyData := .tuple (Tm.ds ts)
def over (n : Int) (i : Int) : Prop := 0 ≤ i ∧ i < n
def varsT (n : Nat) : List Tm := (List.range n).map fun i => Tm.var (i : Nat)
def sp_Recvars (K : PySem.W.Frag) (C : Addr) : Sp := fun vs H Q _ => ∃ (x : Addr) (many : Int) (ts : List Tm), vs = [.ref x] ∧ RecAt K H C x many ts ∧ Q (.int many) H
def sp_Recterms (K : PySem.W.Frag) (C : Addr) : Sp := fun vs H Q _ => ∃ (x : Addr) (many : Int) (ts : List Tm), vs = [.ref x] ∧ RecAt K H C x many ts ∧ ∀ v, Im K H v (tsD ts) → Q v H
def sp_Reclen (K : PySem.W.Frag) (C : Addr) : Sp := fun vs H Q _ => ∃ (x : Addr) (many : Int) (ts : List Tm), vs = [.ref x] ∧ RecAt K H C x many ts ∧ Q (.int ts.length) H
def sp_Reckeep (K : PySem.W.Frag) (C : Addr) : Sp := fun vs H Q _ => ∃ (many : Int), vs = [.int many] ∧ 0 ≤ many ∧ many ≤ 1000 ∧ ∀ x H', Mv [] H H' → RecAt K H' C x many (varsT many.toNat) → Q (.ref x) H'
def sp_Reccall (K : PySem.W.Frag) (C : Addr) (d : Nat) : Sp := fun vs H Q _ => ∃ (x c : Addr) (many : Int) (ts us : List Tm) (ys : List V), vs = [.ref x, .ref c] ∧ RecAt K H C x many ts ∧ (SqL K H c ys ∨ SqT K H c ys) ∧ Ims K H ys (Tm.ds us) ∧
  Tm.oks (fun i => 0 ≤ i ∧ i < us.length) ts ∧ Tm.deps ts < d ∧ ts.length ≤ 1000 ∧ ∀ v H', Mv [] H H' → Im K H' v (tsD (ts.map (Tm.put (vat us)))) → Q v H'
def sp_Recmul (K : PySem.W.Frag) (C EU : Addr) (d : Nat) : Sp := fun vs H Q E => ∃ (x y : Addr) (many wide : Int) (ts us : List Tm), vs = [.ref x, .ref y] ∧ RecAt K H C x many ts ∧ RecAt K H C y wide us ∧ 0 ≤ many ∧ ts.length ≤ 1000 ∧
  (wide ≠ ts.length → E (.ref EU) none H) ∧
  (wide = ts.length → Tm.oks (fun i => 0 ≤ i ∧ i < many) ts ∧ Tm.oks (fun i => 0 ≤ i ∧ i < ts.length) us ∧ Tm.deps us < d ∧ us.length ≤ 1000 ∧ (∀ t ∈ us.map (Tm.put (vat ts)), t.cst + t.lv ≤ 90000) ∧ ∀ z H', Mv [] H H' → RecAt K H' C z many (us.map (Tm.put (vat ts))) → Q (.ref z) H')
def recEq (many many2 : Int) (ts ts2 : List Tm) : Bool := decide (many = many2) && PyData.eqv (tsD ts) (tsD ts2)
def sp_RecipeEq (K : PySem.W.Frag) (C : Addr) : Sp := fun vs H Q _ => ∃ (x : Addr) (many : Int) (ts : List Tm) (y : V), vs = [.ref x, y] ∧ RecAt K H C x many ts ∧ SeqAt.shaped (tsD ts) = true ∧
  ((∃ x2 many2 ts2, y = .ref x2 ∧ RecAt K H C x2 many2 ts2 ∧ SeqAt.shaped (tsD ts2) = true ∧ Q (.bl (recEq many many2 ts ts2)) H) ∨ (∃ T, TyX K H y (.type T) ∧ plainTy T = true ∧ Q (.bl false) H))
def recText (many : Int) (ts : List Tm) : Str := Str.ofString "Recipe(" ++ (PyData.int many).shown ++ Str.ofString ", " ++ (tsD ts).shown ++ Str.ofString ")"
def sp_Recrepr (K : PySem.W.Frag) (C : Addr) : Sp := fun vs H Q _ => ∃ (x : Addr) (many : Int) (ts : List Tm), vs = [.ref x] ∧ RecAt K H C x many ts ∧ many.natAbs < 10 ^ 40 ∧ Shw (tsD ts) ∧ Q (.str (recText many ts)) H
theorem ths_map : ∀ ts : List Tm, Tm.ths ts = ts.map Tm.th
  | [] => by simp [Tm.ths]
  | t :: ts => by simp [Tm.ths, ths_map ts]
def vv : Tm → V
  | .var i => .int i
  | _ => .non
theorem RecAt.tm {K : PySem.W.Frag} {H : Hp} {C x : Addr} {many : Int} {ts : List Tm} (h : RecAt K H C x many ts) : ∃ dx p xs, Slt H x C dx [some (.ref p), some (.int many)] ∧ SqT K H p xs ∧ Ims K H xs (Tm.ds ts) ∧ xs.length = ts.length := by
  obtain ⟨dx, p, xs, h1, h2, h3⟩ := h
  exact ⟨dx, p, xs, h1, h2, h3, by rw [h3.length, Tm.ds_map, List.length_map]⟩
section
variable {P : Program} {w : World} {K : PySem.W.Frag} {mg : Str → Option Value} {base : Heap}
theorem ok_Recipe_variables (T : TX K mg) {k : Nat} : FnOk P w K mg base CX0 (k + 1) T.d_Recipe_variables.f T.d_Recipe_variables.fd P_Recipe_variables (sp_Recvars K T.C_Recipe) := by
  refine T.d_Recipe_variables.F.ok sc_Recipe_variables (fun vs H Q E h => ?_) (fun cdv A outer s H vs Q E hr h => ?_)
  · obtain ⟨_, _, _, rfl, _⟩ := h
    rfl
  · obtain ⟨x, many, ts, rfl, hR, q⟩ := h
    obtain ⟨dx, p, xs, hs, hp, hx, hl⟩ := hR.tm
    refine ⟨_, (pss_one (ps_ret (pe_slC (K := K) rfl (pv 0)))), ?_⟩
    exact ⟨.ref x, rfl, x, T.C_Recipe, dx, T.p_Recipe_its_variables, _, 1, .int many, rfl, hs, T.c_Recipe, T.sl_Recipe_its_variables, rfl, q⟩
theorem ok_Recipe_terms (T : TX K mg) {k : Nat} : FnOk P w K mg base CX0 (k + 1) T.d_Recipe_terms.f T.d_Recipe_terms.fd P_Recipe_terms (sp_Recterms K T.C_Recipe) := by
  refine T.d_Recipe_terms.F.ok sc_Recipe_terms (fun vs H Q E h => ?_) (fun cdv A outer s H vs Q E hr h => ?_)
  · obtain ⟨_, _, _, rfl, _⟩ := h
    rfl
  · obtain ⟨x, many, ts, rfl, hR, q⟩ := h
    obtain ⟨dx, p, xs, hs, hp, hx, hl⟩ := hR.tm
    refine ⟨_, (pss_one (ps_ret (pe_slC (K := K) rfl (pv 0)))), ?_⟩
    exact ⟨.ref x, rfl, x, T.C_Recipe, dx, T.p_Recipe_its_terms, _, 0, .ref p, rfl, hs, T.c_Recipe, T.sl_Recipe_its_terms, rfl, q _ (.tup hp hx)⟩
end
end Fm
namespace Fm
open PySem PySem.Spec PyProof.Rows L2 SlX
local macro_rules | `(tactic| walk_at "nn") => `(tactic| dsimp only [tC, tNil, tCons, tCB, tCall, gName, tSeq, tAsg, tPar, tDrop, tRet])
local macro_rules | `(tactic| walk_at "nc") => `(tactic| dsimp only [tC, tNil, tCons, tCB, tCall])
section
variable {P : Program} {w : World} {K : PySem.W.Frag} {mg : Str → Option Value} {base : Heap}
end
end Fm
namespace Fm
open PySem PySem.Spec PyProof.Rows L2 SlX
local macro_rules | `(tactic| walk_at "nn") => `(tactic| dsimp only [tC, tNil, tCons, tCB, tCall, gName, tSeq, tAsg, tPar, tDrop, tRet])
local macro_rules | `(tactic| walk_at "nc") => `(tactic| dsimp only [tC, tNil, tCons, tCB, tCall])
structure TxF (ts : List Tm) : Prop where
  ok : Tm.oks P40 ts
  dep : Tm.deps ts ≤ 20
  nod : Tm.nod ts ≤ 900
  siz : ∀ t ∈ ts, t.size ≤ 200
def sp_needT (K : PySem.W.Frag) : Sp := fun vs H Q _ => ∃ (v : V) (t : Tm), vs = [v] ∧ Im K H v t.d ∧ TxF [t] ∧ ∀ H', Mv [] H H' → Q .non H'
def sp_readT (K : PySem.W.Frag) : Sp := fun vs H Q _ => ∃ (t : Tm), vs = [wdV t.cx] ∧ TxF [t] ∧ ∀ v H', Mv [] H H' → Im K H' v t.d → Q v H'
def sp_readL (K : PySem.W.Frag) : Sp := fun vs H Q _ => ∃ (ts : List Tm), vs = [wdV (lisC ts)] ∧ TxF ts ∧ ts.length ≤ 100 ∧ ∀ v H', Mv [] H H' → Im K H' v (tsD ts) → Q v H'
theorem num_len {i : Int} (h : P40 i) : (TL.numL i.toNat).length ≤ 40 := TL.numL_len (by decide) (by have := h.2; omega)
theorem txF_lis {ts : List Tm} (h : TxF ts) : (lisC ts).length ≤ 80000 := by
  cases ts with
  | nil => decide
  | cons t ts =>
    rw [lisC_cons]
    have h1 := cxP_len (t :: ts) h.ok fun i hi => num_len (Tm.oks_leaves _ h.ok i hi)
    have h2 := h.nod
    unfold Tm.nod at h2
    omega
theorem TxF.one {ts : List Tm} {t : Tm} (h : TxF ts) (ht : t ∈ ts) : TxF [t] := by
  obtain ⟨a, b, rfl⟩ := List.append_of_mem ht
  refine ⟨⟨Tm.oks_iff.mp h.ok t ht, trivial⟩, ?_, ?_, fun u hu => h.siz u (by rw [List.mem_singleton.mp hu]; exact ht)⟩
  · have := Tm.deps_le.mp h.dep t ht
    simp only [Tm.deps]
    omega
  · have := h.nod
    rw [Tm.nod_append, show t :: b = [t] ++ b from rfl, Tm.nod_append] at this
    omega
mutual
theorem cx_asc : ∀ t : Tm, t.ok P40 → ∀ c ∈ t.cx, c < 128
  | .var i, _, c, hc => by
    have := TL.numL_digits i.toNat c hc
    omega
  | .op x ts, h, c, hc => by
    rw [Tm.cx, List.mem_append] at hc
    rcases hc with hc | hc
    · have := h.1.2.2 c hc
      omega
    · exact cxP_asc ts h.2.2 c hc
theorem cxP_asc : ∀ ts : List Tm, Tm.oks P40 ts → ∀ c ∈ Tm.cxP ts, c < 128
  | [], _, c, hc => by cases hc
  | t :: ts, h, c, hc => by
    rw [Tm.cxP, List.mem_cons, List.mem_append] at hc
    rcases hc with rfl | hc | hc
    · decide
    · exact cx_asc t h.1 c hc
    · exact cxs_asc ts h.2 c hc
theorem cxs_asc : ∀ ts : List Tm, Tm.oks P40 ts → ∀ c ∈ Tm.cxs ts, c < 128
  | [], _, c, hc => by
    rw [Tm.cxs, List.mem_singleton] at hc
    omega
  | t :: ts, h, c, hc => by
    rw [Tm.cxs, List.mem_cons, List.mem_append] at hc
    rcases hc with rfl | hc | hc
    · decide
    · exact cx_asc t h.1 c hc
    · exact cxs_asc ts h.2 c hc
end
mutual
theorem tk_short : ∀ t : Tm, t.ok P40 → ∀ z ∈ t.tk, z.length ≤ 40
  | .var i, h, z, hz => by
    rw [Tm.tk, List.mem_singleton] at hz
    rw [hz]
    exact num_len h
  | .op x ts, h, z, hz => by
    rw [Tm.tk, List.mem_cons] at hz
    rcases hz with rfl | hz
    · have := h.1.2.1
      have e : x.cps.toList.length = x.length := by simp [Str.length]
      omega
    · exact tkP_short ts h.2.2 z hz
theorem tkP_short : ∀ ts : List Tm, Tm.oks P40 ts → ∀ z ∈ Tm.tkP ts, z.length ≤ 40
  | [], _, z, hz => by cases hz
  | t :: ts, h, z, hz => by
    rw [Tm.tkP, List.mem_cons, List.mem_append] at hz
    rcases hz with rfl | hz | hz
    · decide
    · exact tk_short t h.1 z hz
    · exact tks_short ts h.2 z hz
theorem tks_short : ∀ ts : List Tm, Tm.oks P40 ts → ∀ z ∈ Tm.tks ts, z.length ≤ 40
  | [], _, z, hz => by
    rw [Tm.tks, List.mem_singleton] at hz
    rw [hz]
    decide
  | t :: ts, h, z, hz => by
    rw [Tm.tks, List.mem_cons, List.mem_append] at hz
    rcases hz with rfl | hz | hz
    · decide
    · exact tk_short t h.1 z hz
    · exact tks_short ts h.2 z hz
end
mutual
theorem th_nodN : ∀ t : Tm, t.th.cnt ≤ 2 * t.size + t.lv
  | .var i => by simp [Tm.th, Th.cnt, Tm.lv]
  | .op x ts => by
    have := ths_nodN ts
    simp only [Tm.th, Th.cnt, Th.cnts, Tm.size, Tm.lv]
    omega
theorem ths_nodN : ∀ ts : List Tm, Th.cnts (Tm.ths ts) ≤ 2 * Tm.sizes ts + Tm.lvs ts
  | [] => by simp [Tm.ths, Th.cnts]
  | t :: ts => by
    have h1 := th_nodN t
    have h2 := ths_nodN ts
    simp only [Tm.ths, Th.cnts, Tm.sizes, Tm.lvs]
    omega
end
theorem rd_isStrW {K : PySem.W.Frag} {H : Hp} {x : Str} {Q : VK} (q : Q (.bl true) H) : rIsi K [.str x, .ty "str"] H Q := ⟨.str x, .ty "str", _, _, true, rfl, .ty "str", .base (.str x), kit_ty (by decide +kernel), q⟩
section
variable {P : Program} {w : World} {K : PySem.W.Frag} {mg : Str → Option Value} {base : Heap}
end
end Fm
namespace Fm
open PySem PySem.Spec PyProof.Rows L2 SlX
local macro_rules | `(tactic| walk_at "nn") => `(tactic| dsimp only [tC, tNil, tCons, tCB, tCall, gName, tSeq, tAsg, tPar, tDrop, tRet])
local macro_rules | `(tactic| walk_at "nc") => `(tactic| dsimp only [tC, tNil, tCons, tCB, tCall])
def sp_nameW : Sp := fun vs H Q _ => ∃ (w : List Nat), vs = [wdV w] ∧ w.length ≤ 200000 ∧ ∀ H', Mv [] H H' → Q (.bl (nmd (SX.S w))) H'
def sp_sizeG (K : PySem.W.Frag) : Sp := fun vs H Q _ => ∃ (a : Addr) (xs : List V) (ts : List Tm), vs = [.ref a] ∧ (SqL K H a xs ∨ SqT K H a xs) ∧ Ims K H xs (Tm.ds ts) ∧
  Tm.nod ts ≤ 100000 ∧ ∀ H', Mv [] H H' → Q (.int (Tm.sizes ts)) H'
def sp_leafX (K : PySem.W.Frag) (D : Addr) : Sp := fun vs H Q E => ∃ (w : List Nat), vs = [wdV w] ∧ w ≠ [] ∧ w.length ≤ 200000 ∧ (∀ u, leafI w = some u → ∀ v H', Mv [] H H' → Im K H' v u.d → Q v H') ∧ (leafI w = none → ∀ H', Mv [] H H' → E (.ref D) none H')
section
variable {P : Program} {w : World} {K : PySem.W.Frag} {mg : Str → Option Value} {base : Heap}
theorem ok_is_nameW (T : TX K mg) {k : Nat} : FnOk P w K mg base CX0 (k + 1) T.d_is_name.f T.d_is_name.fd P_is_name sp_nameW := by
  refine T.d_is_name.F.ok sc_is_name (fun vs H Q E h => ?_) (fun cdv A outer s H vs Q E hr h => ?_)
  · obtain ⟨_, rfl, _⟩ := h
    rfl
  · obtain ⟨wd, hv, hl, q⟩ := h
    have hu65 := hu65_of hr
    obtain ⟨x, hx⟩ : ∃ x, SX.S wd = x := ⟨_, rfl⟩
    have hlen : x.length ≤ 200000 := by rw [← hx, SX.S_len]; exact hl
    rw [hx] at q
    have hv : vs = [.str x] := by rw [hv, ← hx]
    subst hv
    clear hx
    refine ⟨_, (pss_cons (ps_if (PW.pt (pw_or (pt_not (pt_val (pe_callB (r := rIsi K) call_isi (by rfl) T.b_isinstance bt_isinstance (pa_cons (pv 0) (pa_cons (pe_ty T.b_str bt_str) pa_nil))))) (pw_or1 (pt_not (pt_chain op_le op_le pe_int (pe_callB (r := rLenG K) call_lenG (by rfl) T.b_len bt_len (pa_cons (pv 0) pa_nil)) (pe_glob rfl T.c_MOST_LETTERS T.r_MOST_LETTERS)))))) (pss_one (ps_ret pe_bl)) pss_nil) (pss_one (ps_ret (pe_callB (r := rAll K) (cr_all rfl) (by rfl) T.b_all bt_all (pa_cons (pe_lc (own := [("sign", 1)]) (g := gName 1) (by rfl) sc_is_name.nd (pi_str (pv 0)) (blkOk_by (own := [("sign", 1)]) (N := N_is_name) (sc := defScope s_is_name) (by decide +kernel)) (fun _ _ _ _ _ => pg_name (i := 1) sc_is_name.nd rfl (Or.inl rfl)) (fun _ _ _ _ _ => pts_nil) (fun _ _ _ _ _ => (pe_cmpR (r := rInG K) (op_inG hu65) (pv 1) (pe_glob rfl T.c_LETTERS T.r_LETTERS) rfl))) pa_nil))))), ?_⟩
    refine ⟨.str x, rfl, ?_⟩
    walk_at "nn"
    refine rd_isStrW ?_
    refine ⟨_, rfl, ?_⟩
    refine ⟨.str x, rfl, ?_⟩
    walk_at "nc"
    refine Or.inr (Or.inl ⟨x, rfl, Nat.le_trans hlen (by decide), 1, _, rfl, rfl, _, rfl, ite2 (fun e1 => ?_) (fun e1 => ?_)⟩)
    · refine ⟨_, 8, rfl, rfl, _, rfl, ite2 (fun e2 => ?_) (fun e2 => ?_)⟩
      · have e : nmd x = false := by
          unfold nmd
          have : ¬ x.length ≤ 8 := by simp at e2; omega
          rw [decide_eq_false this]
          simp
        rw [e] at q
        exact q H .refl
      · have h1 : 1 ≤ x.length := by simp at e1; omega
        have h2 : x.length ≤ 8 := by simp at e2; omega
        refine ⟨.str x, rfl, x, rfl, fun D nD => ?_⟩
        have hsz : x.cps.toList.length = x.cps.size := by simp
        have hsl : x.cps.size = x.length := rfl
        refine lc_it walk_str (fun i H1 => H1 D = some (.lst (((x.cps.toList.take i).map fun c => decide (c ∈ lettersS.cps.toList)).map V.bl)) ∧ Mv [] H H1) ⟨upd_same, .new nD⟩ (fun _ _ _ _ => trivial) (fun i y H1 H2 hi h1 hy => ?_) (fun H1 h1 => ?_)
        · obtain ⟨e1, m1⟩ := h1
          obtain ⟨rfl, c, hc, rfl⟩ := hy
          have hc' : x.cps.toList[i]? = some c := by simpa using hc
          refine ⟨rfl, .str ⟨#[c]⟩, rfl, Or.inr ⟨c, _, rfl, rfl, _, e1, ?_, ?_, m1.wr nD⟩⟩
          · rw [List.length_map, List.length_map, List.length_take]
            exact small1000 (by omega)
          · rw [upd_same, List.take_add_one, hc']
            simp
            rfl
        · obtain ⟨e1, m1⟩ := h1
          rw [← hsz, List.take_length] at e1
          refine ⟨D, _, rfl, .inl (.inl e1), ?_⟩
          have e : nmd x = ((x.cps.toList.map fun c => decide (c ∈ lettersS.cps.toList)).all id) := by
            unfold nmd
            rw [decide_eq_true h1, decide_eq_true h2, List.all_map]
            rfl
          rw [← e]
          exact q H1 m1
    · have e : nmd x = false := by
        unfold nmd
        have : ¬ 1 ≤ x.length := by simp at e1; omega
        rw [decide_eq_false this]
        simp
      rw [e] at q
      exact ⟨_, rfl, q H .refl⟩
theorem ok_sizeG (T : TX K mg) {k : Nat} : FnOk P w K mg base CX0 (k + 1) T.d_size.f T.d_size.fd P_size (sp_sizeG K) := by
  refine T.d_size.F.ok sc_size (fun vs H Q E h => ?_) (fun cdv A outer s H vs Q E hr h => ?_)
  · obtain ⟨_, _, _, rfl, _⟩ := h
    rfl
  · obtain ⟨a, xs, ts, rfl, hS, hxs, hnd, q⟩ := h
    have hu64 := hr.units
    have hu65 := hu65_of hr
    refine ⟨_, (pss_cons (ps_par (i := 1) (j := 2) rfl sc_size.nd rfl rfl (by decide) rfl rfl (pa_cons pe_int (pa_cons (pe_callTy (r := rListG K) (call_listA rfl) (by rfl) T.b_list bt_list (pa_cons (pv 0) pa_nil)) pa_nil)) rfl) (pss_cons (ps_while PassesOwn.never (pt_cmpR (r := rNeNil K) (op_neNil (Nat.lt_of_le_of_lt (Nat.le_add_right _ 65) hu65)) (pv 2) (pe_lst pa_nil) (nomark _)) (pss_cons (ps_set (i := 3) sc_size.nd rfl (Or.inl rfl) (pe_bm0 PySem.F.plainAttrs_list PySem.F.slot_list_pop PySem.F.type_list_pop mt_pop (pv 2))) (pss_one (ps_if (pt_not (pt_val (pe_callB (r := rIsi K) call_isi (by rfl) T.b_isinstance bt_isinstance (pa_cons (pv 3) (pa_cons (pe_ty T.b_int bt_int) pa_nil))))) (pss_cons (ps_set (i := 1) sc_size.nd rfl (Or.inl rfl) (pe_op (r := rAddG K) op_addG (pv 1) pe_int)) (pss_one (ps_expr (pe_bm PySem.F.plainAttrs_list PySem.F.slot_list_extend PySem.F.type_list_extend (r := rExtG K) mt_extendG (pv 2) (pa_cons (pe_slice (r := rSlG K) sl_G (pv 3) (po_some pe_int) po_none) pa_nil))))) pss_nil)))) (pss_one (ps_ret (pv 1))))), ?_⟩
    refine ⟨.ref a, rfl, ?_⟩
    walk_at "nn"
    refine Or.inl (rd_listOf hS fun l H1 nl m1 e1 => ⟨_, _, rfl, ?_⟩)
    refine ⟨fun m σ H2 => ∃ (ys : List V) (us : List Tm) (n : Int) (y : Option V), σ = [some (.ref a), some (.int n), some (.ref l), y] ∧ H2 l = some (.lst ys) ∧ Ims K H2 ys (Tm.ds us) ∧
      n + (Tm.sizes us : Nat) = (Tm.sizes ts : Nat) ∧ Tm.nod us ≤ 100000 ∧ m = Tm.nod us ∧ Mv [] H H2, ⟨_, xs, ts, 0, none, rfl, e1, hxs.mv m1, by omega, hnd, rfl, m1⟩, fun m σ H2 hW => ?_⟩
    obtain ⟨ys, us, n, y, rfl, e2, i2, s2, b2, rfl, m2⟩ := hW
    refine ⟨.ref l, rfl, Nat.zero_le _, fun q1 n1 => ?_⟩
    have m3 : Mv [] H2 (upd H2 q1 (.lst [])) := .new n1
    have e3 : upd H2 q1 (.lst []) l = some (.lst ys) := m3.same _ _ e2
    refine ⟨l, q1, ys, rfl, rfl, .inl (.inl e3), .inl (.inl upd_same), ?_⟩
    have m23 := m2.trans m3
    have i3 := i2.mv m3
    generalize upd H2 q1 (.lst []) = H3 at m3 e3 m23 i3 ⊢
    have hye : ys.isEmpty = us.isEmpty := by
      have hl := i3.length
      rw [Tm.ds_map, List.length_map] at hl
      cases ys <;> cases us <;> simp at hl ⊢
    rw [hye]
    refine ⟨_, rfl, ?_⟩
    rcases List.eq_nil_or_concat us with rfl | ⟨us', u, rfl⟩
    · refine ⟨.int n, rfl, ?_⟩
      have e : n = (Tm.sizes ts : Nat) := by
        simp only [Tm.sizes] at s2
        omega
      rw [e]
      exact q H3 m23
    · rw [List.concat_eq_append] at *
      rw [show (!(us' ++ [u]).isEmpty) = true by simp]
      rw [Tm.ds_append] at i3
      obtain ⟨ys', z, rfl, i4, hz⟩ := Ims.last (ds := Tm.ds us') (d := u.d) i3
      refine ⟨fun σ' H' => ∃ m', m' < Tm.nod (us' ++ [u]) ∧ _, fun _ _ h => h, ?_⟩
      refine ⟨.ref l, rfl, .inl ⟨rfl, _, .inl (.inl e3)⟩, l, _, z, rfl, rfl, e3, by simp, ?_⟩
      have nl' := nl
      have m5 : Mv [l] H3 (upd H3 l (.lst (ys' ++ [z]).dropLast)) := .set e3 (by simp)
      have m25 : Mv [] H (upd H3 l (.lst (ys' ++ [z]).dropLast)) := m23.wr nl
      have e5 : upd H3 l (.lst (ys' ++ [z]).dropLast) l = some (.lst ys') := by rw [upd_same, List.dropLast_concat]
      generalize upd H3 l (.lst (ys' ++ [z]).dropLast) = H5 at m5 m25 e5 ⊢
      refine ⟨z, rfl, ?_⟩
      walk_at "nn"
      refine rd_isInt (hz.mv m5) ?_
      refine ⟨_, rfl, ?_⟩
      rw [Tm.nod_append] at b2 ⊢
      rw [Tm.sizes_append] at s2
      cases u with
      | var i =>
        refine ⟨Tm.nod us', by rw [Tm.nod_var]; omega, ys', us', n, _, rfl, e5, i4.mv m5, ?_, by omega, rfl, m25⟩
        simp only [Tm.sizes, Tm.size] at s2
        omega
      | op x vs =>
        obtain ⟨a1, zs0, rfl, ha1, hzs0⟩ := (hz.mv m5).tupI
        obtain ⟨x', zs, rfl, hx', hzs⟩ := hzs0.invD
        refine ⟨.int n, rfl, Or.inl ⟨n, 1, rfl, rfl, ?_⟩⟩
        refine ⟨.ref l, rfl, .inl ⟨rfl, _, .inl (.inl e5)⟩, .ref a1, rfl, 1, rfl, rd_sl1 ha1 fun p6 H6 m6 e6 => ?_⟩
        have e7 := m6.same _ _ e5
        have hlen : zs.length = vs.length := by rw [hzs.length, Tm.ds_map, List.length_map]
        have hl' : ys'.length = us'.length := by rw [i4.length, Tm.ds_map, List.length_map]
        have h1 := Tm.nod_len vs
        have h2 := Tm.nod_len us'
        rw [Tm.nod_op] at b2 ⊢
        refine Or.inr ⟨l, p6, ys', zs, rfl, rfl, e7, e6, line5 (by omega), ?_⟩
        refine ⟨Tm.nod (us' ++ vs), by rw [Tm.nod_append]; omega, ys' ++ zs, us' ++ vs, n + 1, _, rfl, upd_same, ?_, ?_, by rw [Tm.nod_append]; omega, rfl, (m25.trans m6).wr nl⟩
        · rw [Tm.ds_append]
          exact (((i4.mv m5).mv m6).append (hzs.mv m6)).mv (Mv.set (S := [l]) e7 (by simp))
        · simp only [Tm.sizes, Tm.size] at s2
          rw [Tm.sizes_append]
          omega
theorem ok_leafX (T : TX K mg) (Y : TY P K mg) {k : Nat} : FnOk P w K mg base (L2N.CX P w) (k + 3) T.d_leaf.f T.d_leaf.fd P_leaf (sp_leafX K Y.C_NoText) := by
  have G_need : FnOk P w K mg base (L2N.CX P w) 1 T.d_need.f T.d_need.fd P_need (sp_needX Y.C_NoText) := ok_needX (k := 0) T Y
  have G_read_integer : FnOk P w K mg base (L2N.CX P w) 2 T.d_read_integer.f T.d_read_integer.fd P_read_integer (sp_readNX Y.C_NoText) := ok_read_integerX (k := 0) T Y
  have G_is_name : FnOk P w K mg base CX0 1 T.d_is_name.f T.d_is_name.fd P_is_name sp_nameW := ok_is_nameW T
  refine T.d_leaf.F.okN sc_leaf (fun vs H Q E h => ?_) (fun cdv A outer s H vs Q E hr h => ?_)
  · obtain ⟨_, rfl, _⟩ := h
    rfl
  · obtain ⟨wd, rfl, hne, hl, q, e⟩ := h
    have hu64 := hr.units
    have hu65 := hu65_of hr
    refine ⟨_, (pss_cons (ps_if (pt_cmpR (r := rInG K) (op_inG hu65) (pe_ix (r := rIx K) ix_seq (pv 0) pe_int (fun _ _ => rfl)) (pe_glob rfl T.c_DIGITS T.r_DIGITS) rfl) (pss_one (ps_ret (pe_callS G_read_integer (hr.mono (by omega)) rfl T.d_read_integer.g T.d_read_integer.F.kp T.d_read_integer.b (fun σ => L2N.passAt (L2N.takes_of rfl rfl rfl rfl) σ) (pa_cons (pv 0) pa_nil)))) pss_nil) (pss_cons (ps_expr (pe_callS G_need (hr.mono (by omega)) rfl T.d_need.g T.d_need.F.kp T.d_need.b (fun σ => L2N.passAt (L2N.takes_of rfl rfl rfl rfl) σ) (pa_cons (pe_call G_is_name (hr.mono (by omega)) rfl T.d_is_name.g T.d_is_name.F.kp T.d_is_name.b .nil pass0 (pa_cons (pv 0) pa_nil)) pa_nil))) (pss_one (ps_ret (pe_tup (pa_cons (pv 0) pa_nil)))))), ?_⟩
    have hz : (SX.S wd).length ≤ sizeLine := by
      rw [SX.S_len]
      exact Nat.le_trans hl (by decide)
    obtain ⟨c, r, hcr⟩ := List.exists_cons_of_ne_nil hne
    refine ⟨wdV wd, rfl, Or.inr (Or.inr ⟨_, 0, c, rfl, rfl, hz, by rw [hcr]; exact atI_nat (j := 0) (by simp), ?_⟩)⟩
    refine Or.inr ⟨c, _, rfl, rfl, _, rfl, ?_⟩
    rw [digC_mem]
    have hlf : leafI wd = if digC c = true then (intI wd).map Tm.var else if nmd (SX.S wd) = true then some (.op (SX.S wd) []) else none := by rw [hcr]; rfl
    cases hc : digC c with
    | true =>
      rw [hc, if_pos rfl] at hlf
      refine ⟨wdV wd, rfl, wd, rfl, hl, fun i hi H1 m1 => q (.var i) (by rw [hlf, hi]; rfl) _ H1 m1 (.int _), fun hi H1 m1 => e (by rw [hlf, hi]; rfl) H1 m1⟩
    | false =>
      rw [hc, if_neg (by simp)] at hlf
      refine ⟨wdV wd, rfl, wd, rfl, hl, fun H1 m1 => ?_⟩
      refine ⟨_, rfl, fun hn => ?_, fun hn => e (by rw [hlf, hn]; rfl) H1 m1⟩
      rw [hn, if_pos rfl] at hlf
      refine ⟨wdV wd, rfl, (by decide : 1 ≤ sizeLine), fun p np => ?_⟩
      exact q _ hlf _ _ (m1.trans (.new np)) (Im.tup (.inl (.inl upd_same)) (Ims.cons (.str _) Ims.nil))
end
end Fm
namespace Fm
open PySem PySem.Spec PyProof.Rows L2 SlX
local macro_rules | `(tactic| walk_at "nn") => `(tactic| dsimp only [tC, tNil, tCons, tCB, tCall, gName, tSeq, tAsg, tPar, tDrop, tRet])
local macro_rules | `(tactic| walk_at "nc") => `(tactic| dsimp only [tC, tNil, tCons, tCB, tCall])
def sp_parsedX (K : PySem.W.Frag) (D : Addr) : Sp := fun vs H Q E => ∃ (tl : Addr) (ws : List (List Nat)), vs = [.ref tl] ∧ H tl = some (.lst (ws.map wdV)) ∧ ws.length ≤ 500000 ∧ (∀ w ∈ ws, TokOk w ∧ w.length ≤ 200000 ∧ ∀ c ∈ w, c < 128) ∧
  (∀ t, runI ws [] none false = some t → ∀ v H', Mv [] H H' → Im K H' v t.d → Q v H') ∧ (runI ws [] none false = none → ∀ H', Mv [] H H' → E (.ref D) none H')
theorem TokOk.ne {w : List Nat} (h : TokOk w) : w ≠ [] := h.elim (fun ⟨c, e⟩ => by rw [e]; simp) fun h => h.2
theorem opsOf_ne {L : List (Addr × Str × List Tm)} (h : L ≠ []) : ∃ L' a f us, L = L' ++ [(a, f, us)] ∧ opsOf L = (f, us) :: opsOf L' := by
  rcases List.eq_nil_or_concat L with rfl | ⟨L', e, rfl⟩
  · exact absurd rfl h
  · exact ⟨L', e.1, e.2.1, e.2.2, by rw [List.concat_eq_append], by rw [List.concat_eq_append, opsOf_snoc]⟩
section
variable {P : Program} {w : World} {K : PySem.W.Frag} {mg : Str → Option Value} {base : Heap}
theorem ok_parsedX (T : TX K mg) (Y : TY P K mg) {k : Nat} : FnOk P w K mg base (L2N.CX P w) (k + 4) T.d_parsed.f T.d_parsed.fd P_parsed (sp_parsedX K Y.C_NoText) := by
  have G_need : FnOk P w K mg base (L2N.CX P w) 1 T.d_need.f T.d_need.fd P_need (sp_needX Y.C_NoText) := ok_needX (k := 0) T Y
  have G_leaf : FnOk P w K mg base (L2N.CX P w) 3 T.d_leaf.f T.d_leaf.fd P_leaf (sp_leafX K Y.C_NoText) := ok_leafX (k := 0) T Y
  have G_is_name : FnOk P w K mg base CX0 1 T.d_is_name.f T.d_is_name.fd P_is_name sp_nameW := ok_is_nameW T
  refine T.d_parsed.F.okN sc_parsed (fun vs H Q E h => ?_) (fun cdv A outer s H vs Q E hr h => ?_)
  · obtain ⟨_, _, rfl, _⟩ := h
    rfl
  · obtain ⟨tl, ws, rfl, htl, hwl, hws, q, er⟩ := h
    generalize hrun : runI ws [] none false = res at q er
    have hu64 := hr.units
    have hu65 := hu65_of hr
    have hwsl : (ws.map wdV).length = ws.length := List.length_map ..
    refine ⟨_, (pss_cons (ps_par3 (i := 1) (j := 2) (l := 3) rfl sc_parsed.nd rfl rfl rfl (by decide) (by decide) (by decide) rfl rfl rfl (pa_cons (pe_lst pa_nil) (pa_cons pe_non (pa_cons pe_int pa_nil))) rfl) (pss_cons (ps_while (passes_of rfl) (pt_cmpR op_lt (pv 3) (pe_callB (r := rLenG K) call_lenG (by rfl) T.b_len bt_len (pa_cons (pv 0) pa_nil)) (nomark _)) (pss_cons (ps_set (i := 4) sc_parsed.nd rfl (Or.inl rfl) (pe_ix (r := rIx K) ix_seq (pv 0) (pv 3) (fun _ _ => rfl))) (Evl.pss_cut (ps_if (pt_cmpR op_isN (pv 2) pe_non (nomark _)) (pss_cons (ps_expr (pe_callS G_need (hr.mono (by omega)) rfl T.d_need.g T.d_need.F.kp T.d_need.b (fun σ => L2N.passAt (L2N.takes_of rfl rfl rfl rfl) σ) (pa_cons (pe_cmpR op_notin_str (pv 4) (pe_glob rfl T.c_SIGNS T.r_SIGNS) rfl) pa_nil))) (pss_one (ps_if (pt_cmpR (r := rEqG K) (op_eqG hu64) (pe_slice (r := rSlG K) sl_G (pv 0) (po_some (pe_op (r := rAddG K) op_addG (pv 3) pe_int)) (po_some (pe_op (r := rAddG K) op_addG (pv 3) pe_int))) (pe_lst (pa_cons pe_str pa_nil)) (nomark _)) (pss_cons (ps_expr (pe_callS G_need (hr.mono (by omega)) rfl T.d_need.g T.d_need.F.kp T.d_need.b (fun σ => L2N.passAt (L2N.takes_of rfl rfl rfl rfl) σ) (pa_cons (pe_call G_is_name (hr.mono (by omega)) rfl T.d_is_name.g T.d_is_name.F.kp T.d_is_name.b .nil pass0 (pa_cons (pv 4) pa_nil)) pa_nil))) (pss_cons (ps_expr (pe_bm PySem.F.plainAttrs_list PySem.F.slot_list_append PySem.F.type_list_append mt_append (pv 1) (pa_cons (pe_lst (pa_cons (pv 4) pa_nil)) pa_nil))) (pss_one (ps_set (i := 3) sc_parsed.nd rfl (Or.inl rfl) (pe_op (r := rAddG K) op_addG (pv 3) pe_int))))) (pss_one (ps_set (i := 2) sc_parsed.nd rfl (Or.inl rfl) (pe_callS G_leaf (hr.mono (by omega)) rfl T.d_leaf.g T.d_leaf.F.kp T.d_leaf.b (fun σ => L2N.passAt (L2N.takes_of rfl rfl rfl rfl) σ) (pa_cons (pv 4) pa_nil))))))) (pss_one (ps_if (pt_cmpR (r := rEqG K) (op_eqG hu64) (pv 4) pe_str (nomark _)) (pss_cons (ps_expr (pe_callS G_need (hr.mono (by omega)) rfl T.d_need.g T.d_need.F.kp T.d_need.b (fun σ => L2N.passAt (L2N.takes_of rfl rfl rfl rfl) σ) (pa_cons (pe_cmpR (r := rNeNil K) (op_neNil (Nat.lt_of_le_of_lt (Nat.le_add_right _ 65) hu65)) (pv 1) (pe_lst pa_nil) (nomark _)) pa_nil))) (pss_cons (ps_expr (pe_bm PySem.F.plainAttrs_list PySem.F.slot_list_append PySem.F.type_list_append mt_append (pe_ix (r := rIx K) ix_seq (pv 1) (pe_un un_neg pe_int) (fun _ _ => rfl)) (pa_cons (pv 2) pa_nil))) (pss_one (ps_set (i := 2) sc_parsed.nd rfl (Or.inl rfl) pe_non)))) (pss_cons (ps_expr (pe_callS G_need (hr.mono (by omega)) rfl T.d_need.g T.d_need.F.kp T.d_need.b (fun σ => L2N.passAt (L2N.takes_of rfl rfl rfl rfl) σ) (pa_cons (pe_and (pe_cmpR (r := rEqG K) (op_eqG hu64) (pv 4) pe_str (nomark _)) (pe_one (pe_cmpR (r := rNeNil K) (op_neNil (Nat.lt_of_le_of_lt (Nat.le_add_right _ 65) hu65)) (pv 1) (pe_lst pa_nil) (nomark _)))) pa_nil))) (pss_one (ps_set (i := 2) sc_parsed.nd rfl (Or.inl rfl) (pe_callTy (r := rTupOf K) call_tupG (by rfl) T.b_tuple bt_tuple (pa_cons (pe_op (r := rAddG K) op_addG (pe_bm0 PySem.F.plainAttrs_list PySem.F.slot_list_pop PySem.F.type_list_pop mt_pop (pv 1)) (pe_lst (pa_cons (pv 2) pa_nil))) pa_nil)))))))) (pss_one (ps_set (i := 3) sc_parsed.nd rfl (Or.inl rfl) (pe_op (r := rAddG K) op_addG (pv 3) pe_int)))))) (pss_cons (ps_expr (pe_callS G_need (hr.mono (by omega)) rfl T.d_need.g T.d_need.F.kp T.d_need.b (fun σ => L2N.passAt (L2N.takes_of rfl rfl rfl rfl) σ) (pa_cons (pe_and (pe_cmpR op_notN (pv 2) pe_non (nomark _)) (pe_one (pe_cmpR (r := rEqNil K) (op_eqNil (Nat.lt_of_le_of_lt (Nat.le_add_right _ 65) hu65)) (pv 1) (pe_lst pa_nil) (nomark _)))) pa_nil))) (pss_one (ps_ret (pv 2)))))), ?_⟩
    refine ⟨Nat.zero_le _, fun D nD => ?_⟩
    have m0 : Mv [] H (upd H D (.lst [])) := .new nD
    have e0 : upd H D (.lst []) D = some (.lst []) := upd_same
    have hDt : tl ≠ D := ne_of_none htl nD
    generalize upd H D (.lst []) = H0 at m0 e0 ⊢
    refine ⟨_, _, _, rfl, ?_⟩
    refine ⟨fun m σ H2 => ∃ (at_ : Nat) (L : List (Addr × Str × List Tm)) (t : Option Tm) (tv : V) (y4 : Option V), σ = [some (.ref tl), some (.ref D), some tv, some (.int at_), y4] ∧ at_ ≤ ws.length ∧ m = ws.length - at_ ∧ H2 D = some (.lst (L.map opV)) ∧
      OpAt K [D, tl] H2 L ∧ TvAt K H2 tv t ∧ runI (ws.drop at_) (opsOf L) t false = res ∧ L.length ≤ at_ ∧ (∀ e ∈ L, e.2.2.length ≤ at_ ∧ H e.1 = none) ∧ Mv [] H H2,
      ⟨_, 0, [], none, .non, none, rfl, Nat.zero_le _, rfl, e0, ⟨List.nodup_nil, fun _ h => (by cases h), fun _ h => (by cases h)⟩, .no, hrun, Nat.zero_le _, fun _ h => (by cases h), m0⟩, fun m σ H2 hW => ?_⟩
    obtain ⟨at_, L, t, tv, y4, rfl, ha, rfl, e2, o2, t2, r2, hL, hLe, m2⟩ := hW
    have f2 := m2.same _ _ htl
    refine ⟨.int at_, rfl, .ref tl, rfl, ?_⟩
    walk_at "nc"
    refine rd_len (.inl (.inl (.inl f2))) ⟨_, _, rfl, rfl, _, rfl, ?_⟩
    rw [hwsl]
    by_cases hlt : at_ < ws.length
    · rw [decide_eq_true (by omega : (at_ : Int) < (ws.length : Int))]
      refine ⟨fun σ' H' => ∃ m', m' < ws.length - at_ ∧ _, fun _ _ h => h, ?_⟩
      obtain ⟨wd, hwd⟩ : ∃ wd, ws[at_]? = some wd := ⟨_, List.getElem?_eq_getElem hlt⟩
      have hdr : ws.drop at_ = wd :: ws.drop (at_ + 1) := by
        rw [List.drop_eq_getElem_cons hlt]
        congr 1
        exact (List.getElem?_eq_some_iff.mp hwd).2
      obtain ⟨hok, hlen, hasc⟩ := hws wd (List.mem_of_getElem? hwd)
      rw [hdr] at r2
      refine ⟨.ref tl, rfl, .int at_, rfl, rd_ixL (.inl (.inl f2)) (by omega) (v := wdV wd) (by rw [Int.toNat_natCast, List.getElem?_map, hwd]; rfl) ?_⟩
      refine ⟨fun σ' H' => ∃ (at2 : Nat) (L' : List (Addr × Str × List Tm)) (t' : Option Tm) (tv' : V), σ' = [some (.ref tl), some (.ref D), some tv', some (.int at2), some (wdV wd)] ∧ at_ ≤ at2 ∧ at2 + 1 ≤ ws.length ∧ H' D = some (.lst (L'.map opV)) ∧
        OpAt K [D, tl] H' L' ∧ TvAt K H' tv' t' ∧ runI (ws.drop (at2 + 1)) (opsOf L') t' false = res ∧ L'.length ≤ at2 + 1 ∧ (∀ e ∈ L', e.2.2.length ≤ at2 + 1 ∧ H e.1 = none) ∧ Mv [] H H', ?_, ?_⟩
      · refine ⟨tv, rfl, rfl, _, rfl, ?_⟩
        cases t2 with
        | no =>
          rw [decide_eq_true rfl]
          rw [runI] at r2
          refine ⟨wdV wd, rfl, _, _, rfl, rfl, ?_⟩
          rw [in_signs hok]
          refine ⟨_, rfl, fun hns0 => ?_, fun hs0 => er ?_ H2 m2⟩
          rotate_left
          · have hs : wd.length = 1 ∧ wd.all isSg = true := by simpa using hs0
            rw [if_pos hs] at r2
            exact r2.symm
          have hns : ¬ (wd.length = 1 ∧ wd.all isSg = true) := fun z => by rw [decide_eq_true z] at hns0; cases hns0
          rw [if_neg hns] at r2
          refine ⟨.ref tl, rfl, .int at_, rfl, Or.inl ⟨at_, 1, rfl, rfl, _, rfl, .int at_, rfl, Or.inl ⟨at_, 2, rfl, rfl, _, rfl, Or.inl ⟨tl, _, rfl, .inl (.inl f2), fun p np => ?_⟩⟩⟩⟩
          rw [cut_mid]
          have m3 : Mv [] H2 (upd H2 p (.lst (((ws.drop (at_ + 1)).take 1).map wdV))) := .new np
          have e3 : upd H2 p (.lst (((ws.drop (at_ + 1)).take 1).map wdV)) p = some (.lst (((ws.drop (at_ + 1)).take 1).map wdV)) := upd_same
          generalize upd H2 p (.lst (((ws.drop (at_ + 1)).take 1).map wdV)) = H3 at m3 e3 ⊢
          refine ⟨(by decide : 1 ≤ sizeLine), fun p4 np4 => ?_⟩
          have m4 : Mv [] H3 (upd H3 p4 (.lst [.str (Str.ofString "(")])) := .new np4
          have e4 : upd H3 p4 (.lst [.str (Str.ofString "(")]) p4 = some (.lst ([[40]].map wdV)) := by rw [upd_same, open_wd]; rfl
          generalize upd H3 p4 (.lst [.str (Str.ofString "(")]) = H4 at m4 e4 ⊢
          have m24 := m3.trans m4
          have hasc1 : ∀ w ∈ (ws.drop (at_ + 1)).take 1, ∀ c ∈ w, c < 128 := fun w hw => (hws w (List.mem_of_mem_drop (List.mem_of_mem_take hw))).2.2
          refine Or.inr ⟨_, _, .lst (.inl (.inl (m4.same _ _ e3))) (dp_words _), .lst (.inl (.inl e4)) (dp_words _), wd_shaped hasc1, wd_shaped (by simp), _, rfl, ?_⟩
          rw [head_eqv]
          have e24 := m24.same _ _ e2
          have o24 := o2.mv0 m24
          by_cases hh : (ws.drop (at_ + 1)).head? = some [40]
          · rw [decide_eq_true hh]
            rw [if_pos hh] at r2
            refine ⟨wdV wd, rfl, wd, rfl, hlen, fun H5 m5 => ?_⟩
            refine ⟨_, rfl, fun hnm => ?_, fun hnn => er (by rw [hnn, if_neg (by simp)] at r2; exact r2.symm) H5 (m2.trans (m24.trans m5))⟩
            rw [if_pos hnm] at r2
            have e5 := m5.same _ _ e24
            refine ⟨.ref D, rfl, .inl ⟨rfl, _, .inl (.inl e5)⟩, wdV wd, rfl, (by decide : 1 ≤ sizeLine), fun a na => ?_⟩
            have m6 : Mv [] H5 (upd H5 a (.lst [wdV wd])) := .new na
            have e6 : upd H5 a (.lst [wdV wd]) a = some (.lst [wdV wd]) := upd_same
            have haD : a ≠ D := (ne_of_none e5 na).symm
            have hat : a ≠ tl := (ne_of_none (m5.same _ _ (m24.same _ _ f2)) na).symm
            have hna : ∀ e ∈ L, e.1 ≠ a := fun e he z => by
              obtain ⟨vs, h1, _⟩ := (o24.mv0 m5).at_ e he
              rw [z, na] at h1
              cases h1
            generalize upd H5 a (.lst [wdV wd]) = H6 at m6 e6 ⊢
            have m26 := (m24.trans m5).trans m6
            have e56 := m6.same _ _ e5
            refine ⟨D, _, .ref a, rfl, rfl, e56, by rw [List.length_map]; exact Nat.lt_of_le_of_lt (show _ ≤ 500000 by omega) (by decide), ?_⟩
            have m7 : Mv [D] H6 (upd H6 D (.lst (L.map opV ++ [.ref a]))) := .set e56 (by simp)
            refine ⟨.int at_, rfl, Or.inl ⟨at_, 1, rfl, rfl, ?_⟩⟩
            have hlt2 : at_ + 1 < ws.length := by
              have hne : ws.drop (at_ + 1) ≠ [] := by
                intro z
                rw [z] at hh
                cases hh
              have := List.length_pos_iff.mpr hne
              rw [List.length_drop] at this
              omega
            have hdr2 : ws.drop (at_ + 1) = [40] :: ws.drop (at_ + 1 + 1) := by
              rw [List.drop_eq_getElem_cons hlt2] at hh ⊢
              simp only [List.head?_cons, Option.some.injEq] at hh
              rw [hh]
            rw [hdr2, runI] at r2
            refine ⟨at_ + 1, L ++ [(a, SX.S wd, [])], none, .non, rfl, by omega, by omega, by rw [upd_same, List.map_append]; rfl, ?_, .no, by rw [opsOf_snoc]; exact r2, by rw [List.length_append]; simp; omega, fun e he => ?_, (m2.trans m26).wr nD⟩
            · refine ⟨?_, fun e he => ?_, fun e he => ?_⟩
              · rw [List.map_append, List.nodup_append]
                refine ⟨o24.nd, by simp, fun x hx y hy => ?_⟩
                obtain ⟨e, he, rfl⟩ := List.mem_map.mp hx
                simp only [List.map_cons, List.map_nil, List.mem_singleton] at hy
                rw [hy]
                exact hna e he
              · rcases List.mem_append.mp he with he | he
                · exact o24.out e he
                · rw [List.mem_singleton.mp he]
                  simp [haD, hat]
              · rcases List.mem_append.mp he with he | he
                · obtain ⟨vs, h1, h2⟩ := (o24.mv0 (m5.trans m6)).at_ e he
                  exact ⟨vs, m7.keep _ _ (fun z => o24.out e he (by rw [List.mem_singleton.mp z]; simp)) h1, h2.mv m7⟩
                · rw [List.mem_singleton.mp he]
                  exact ⟨[], m7.keep _ _ (by simpa using haD) e6, Ims.nil⟩
            · rcases List.mem_append.mp he with he | he
              · have := hLe e he
                exact ⟨by omega, this.2⟩
              · rw [List.mem_singleton.mp he]
                exact ⟨by simp, (m2.trans (m24.trans m5)).free na⟩
          · rw [decide_eq_false hh]
            rw [if_neg hh] at r2
            refine ⟨wdV wd, rfl, wd, rfl, hok.ne, hlen, fun u hu v H5 m5 im5 => ?_, fun hn H5 m5 => er (by rw [hn] at r2; exact r2.symm) H5 (m2.trans (m24.trans m5))⟩
            rw [hu] at r2
            have m25 := m24.trans m5
            exact ⟨at_, L, some u, v, rfl, Nat.le_refl _, by omega, m25.same _ _ e2, o2.mv0 m25, .is im5, r2, by omega, fun e he => ⟨by have := (hLe e he).1; omega, (hLe e he).2⟩, m2.trans m25⟩
        | @is _ u hu =>
          rw [decide_eq_false (im_notNone hu)]
          rw [runI_some] at r2
          refine ⟨wdV wd, rfl, Or.inl ⟨rfl, _, rfl, ?_⟩⟩
          rw [comma_wd, wd_eq]
          by_cases hw : wd = [44]
          · rw [decide_eq_true hw]
            rw [if_pos hw] at r2
            refine ⟨.ref D, rfl, Nat.zero_le _, fun q1 nq1 => ⟨D, q1, _, rfl, rfl, .inl (.inl ((Mv.new (S := []) nq1).same _ _ e2)), .inl (.inl upd_same), _, rfl, fun hne0 => ?_, fun he0 => er ?_ _ (m2.trans (.new nq1))⟩⟩
            rotate_left
            · have : L = [] := by simpa using he0
              rw [this] at r2
              exact r2.symm
            have hne : L ≠ [] := by simpa using hne0
            obtain ⟨L', a, f, us, rfl, hop⟩ := opsOf_ne hne
            have hop' : opsOf L' = opsOf L' := rfl
            rw [hop] at r2
            obtain ⟨vs, ha1, ha2⟩ := o2.at_ (a, f, us) (by simp)
            have hae := hLe (a, f, us) (by simp)
            have haS := o2.out (a, f, us) (by simp)
            dsimp only at ha1 ha2 hae haS r2
            have haD : a ≠ D := fun z => haS (by rw [z]; simp)
            have hvl : vs.length = us.length := by rw [ha2.length, Tm.ds_map, List.length_map]
            have m3 : Mv [] H2 (upd H2 q1 (.lst [])) := .new nq1
            generalize upd H2 q1 (.lst []) = H3 at m3 ⊢
            have e3 := m3.same _ _ e2
            have ha3 := m3.same _ _ ha1
            rw [List.map_append] at e3
            refine ⟨.ref D, rfl, 1, rfl, Or.inl ⟨D, _, -1, .ref a, rfl, rfl, .inl (.inl e3), atI_last _ _, .inl ⟨rfl, _, .inl (.inl ha3)⟩, tv, rfl, a, _, tv, rfl, rfl, ha3, by rw [List.length_cons, hvl]; exact Nat.lt_of_le_of_lt (show _ ≤ 500001 by omega) (by decide), ?_⟩⟩
            have m4 : Mv [a] H3 (upd H3 a (.lst (.str f :: vs ++ [tv]))) := .set ha3 (by simp)
            have hnd := o2.nd
            rw [List.map_append, List.nodup_append] at hnd
            have hne : ∀ e ∈ L', e.1 ≠ a := fun e he z => hnd.2.2 e.1 (List.mem_map.mpr ⟨e, he, rfl⟩) a (by simp) z
            refine ⟨at_, L' ++ [(a, f, us ++ [u])], none, .non, rfl, Nat.le_refl _, by omega, by rw [upd_ne haD.symm, e3, List.map_append]; rfl, ⟨?_, fun e he => ?_, fun e he => ?_⟩, .no, by rw [opsOf_snoc, hop']; exact r2, by rw [List.length_append] at hL ⊢; simp at hL ⊢; omega, fun e he => ?_, (m2.trans m3).wr hae.2⟩
            · have := o2.nd
              rw [List.map_append] at this ⊢
              exact this
            · rcases List.mem_append.mp he with he | he
              · exact o2.out e (by simp [he])
              · rw [List.mem_singleton.mp he]
                exact haS
            · rcases List.mem_append.mp he with he | he
              · obtain ⟨vs', h1, h2⟩ := o2.at_ e (by simp [he])
                exact ⟨vs', m4.keep _ _ (by simpa using hne e he) (m3.same _ _ h1), (h2.mv m3).mv m4⟩
              · rw [List.mem_singleton.mp he]
                refine ⟨vs ++ [tv], upd_same, ?_⟩
                dsimp only
                rw [Tm.ds_append]
                exact ((ha2.mv m3).append (Ims.cons (hu.mv m3) Ims.nil)).mv m4
            · rcases List.mem_append.mp he with he | he
              · have := hLe e (by simp [he])
                exact ⟨by omega, this.2⟩
              · rw [List.mem_singleton.mp he]
                dsimp only
                exact ⟨by rw [List.length_append]; simp; omega, hae.2⟩
          · rw [decide_eq_false hw]
            rw [if_neg hw] at r2
            refine ⟨wdV wd, rfl, Or.inl ⟨rfl, _, rfl, ?_⟩⟩
            rw [close_wd, wd_eq]
            by_cases hw2 : wd = [41]
            rotate_left
            · rw [decide_eq_false hw2]
              rw [if_neg hw2] at r2
              exact ⟨false, rfl, (fun z => by cases z), fun _ => er r2.symm H2 m2⟩
            rw [decide_eq_true hw2]
            rw [if_pos hw2] at r2
            refine ⟨.ref D, rfl, Nat.zero_le _, fun q1 nq1 => ⟨D, q1, _, rfl, rfl, .inl (.inl ((Mv.new (S := []) nq1).same _ _ e2)), .inl (.inl upd_same), _, rfl, fun hne0 => ?_, fun he0 => er ?_ _ (m2.trans (.new nq1))⟩⟩
            rotate_left
            · have : L = [] := by simpa using he0
              rw [this] at r2
              exact r2.symm
            have hne : L ≠ [] := by simpa using hne0
            obtain ⟨L', a, f, us, rfl, hop⟩ := opsOf_ne hne
            have hop' : opsOf L' = opsOf L' := rfl
            rw [hop] at r2
            obtain ⟨vs, ha1, ha2⟩ := o2.at_ (a, f, us) (by simp)
            have hae := hLe (a, f, us) (by simp)
            dsimp only at ha1 ha2 hae r2
            have hvl : vs.length = us.length := by rw [ha2.length, Tm.ds_map, List.length_map]
            have m3 : Mv [] H2 (upd H2 q1 (.lst [])) := .new nq1
            generalize upd H2 q1 (.lst []) = H3 at m3 ⊢
            have e3 := m3.same _ _ e2
            have ha3 := m3.same _ _ ha1
            rw [List.map_append] at e3
            have haD : a ≠ D := fun z => o2.out (a, f, us) (by simp) (by rw [z]; simp)
            refine ⟨.ref D, rfl, .inl ⟨rfl, _, .inl (.inl e3)⟩, D, _, .ref a, rfl, rfl, e3, by simp, ?_⟩
            have m4 : Mv [D] H3 (upd H3 D (.lst (L'.map opV ++ [(a, f, us)].map opV).dropLast)) := .set e3 (by simp)
            have e4 : upd H3 D (.lst (L'.map opV ++ [(a, f, us)].map opV).dropLast) D = some (.lst (L'.map opV)) := by rw [upd_same]; simp
            have ha4 := m4.keep _ _ (by simpa using haD) ha3
            have m24 : Mv [] H (upd H3 D (.lst (L'.map opV ++ [(a, f, us)].map opV).dropLast)) := (m2.trans m3).wr nD
            have m34 : Mv [D] H2 (upd H3 D (.lst (L'.map opV ++ [(a, f, us)].map opV).dropLast)) := (m3.mono (by simp)).trans m4
            generalize upd H3 D (.lst (L'.map opV ++ [(a, f, us)].map opV).dropLast) = H4 at m4 e4 ha4 m24 m34 ⊢
            refine ⟨tv, rfl, (by decide : 1 ≤ sizeLine), fun q2 nq2 => ?_⟩
            have m5 : Mv [] H4 (upd H4 q2 (.lst [tv])) := .new nq2
            have e5 : upd H4 q2 (.lst [tv]) q2 = some (.lst [tv]) := upd_same
            generalize upd H4 q2 (.lst [tv]) = H5 at m5 e5 ⊢
            refine rd_catL (m5.same _ _ ha4) e5 (by rw [List.length_cons, hvl]; exact Nat.le_trans (show _ ≤ 500002 by simp; omega) (by decide)) fun p6 H6 n6 m6 e6 => ?_
            walk_at "nc"
            refine rd_tupOf (.inl (.inl e6)) fun p7 H7 m7 e7 => ?_
            have m47 := m5.trans (m6.trans m7)
            have m27 := m34.trans (m47.mono (by simp))
            refine ⟨at_, L', some (.op f (us ++ [u])), .ref p7, rfl, Nat.le_refl _, by omega, m47.same _ _ e4, ⟨?_, fun e he => o2.out e (by simp [he]), fun e he => ?_⟩, .is ?_, by rw [hop']; exact r2, by rw [List.length_append] at hL; omega, fun e he => ?_, m24.trans m47⟩
            · have := o2.nd
              rw [List.map_append, List.nodup_append] at this
              exact this.1
            · obtain ⟨vs', h1, h2⟩ := o2.at_ e (by simp [he])
              have hne := o2.out e (by simp [he])
              exact ⟨vs', m27.keep _ _ (fun z => hne (by rw [List.mem_singleton.mp z]; simp)) h1, h2.mv m27⟩
            · refine Im.tup e7 ?_
              rw [Tm.ds_append]
              exact Ims.cons (.str f) ((ha2.mv m27).append (Ims.cons (hu.mv m27) Ims.nil))
            · have := hLe e (by simp [he])
              exact ⟨by omega, this.2⟩
      · rintro σ' H' ⟨at2, L', t', tv', rfl, h1, h2, h3, h4, h5, h6, h7, h9, h8⟩
        refine ⟨.int at2, rfl, Or.inl ⟨at2, 1, rfl, rfl, ?_⟩⟩
        exact ⟨ws.length - (at2 + 1), by omega, at2 + 1, L', t', tv', _, rfl, h2, rfl, h3, h4, h5, h6, h7, h9, h8⟩
    · rw [decide_eq_false (by omega : ¬ (at_ : Int) < (ws.length : Int))]
      rw [List.drop_of_length_le (by omega), runI] at r2
      cases t2 with
      | no =>
        refine ⟨.non, rfl, rfl, _, rfl, ?_⟩
        rw [decide_eq_true rfl]
        refine ⟨false, rfl, (fun z => by cases z), fun _ => er ?_ H2 m2⟩
        rw [← r2]
        split <;> rfl
      | @is _ u hu =>
        refine ⟨tv, rfl, rfl, _, rfl, ?_⟩
        rw [decide_eq_false (im_notNone hu)]
        refine ⟨.ref D, rfl, Nat.zero_le _, fun q1 nq1 => ⟨D, q1, _, rfl, rfl, .inl (.inl ((Mv.new (S := []) nq1).same _ _ e2)), .inl (.inl upd_same), _, rfl, fun h0 => ?_, fun h0 => er ?_ _ (m2.trans (.new nq1))⟩⟩
        · have hL0 : L = [] := by simpa using h0
          rw [hL0, if_pos (show opsOf [] = [] from rfl)] at r2
          exact ⟨tv, rfl, q u r2.symm tv _ (m2.trans (.new nq1)) (hu.mv (Mv.new (S := []) nq1))⟩
        · have hne : L ≠ [] := by simpa using h0
          obtain ⟨L', a, f, us, rfl, hop⟩ := opsOf_ne hne
          rw [hop, if_neg (by simp)] at r2
          exact r2.symm
end
end Fm
namespace Fm
open PySem PySem.Spec PyProof.Rows L2 SlX
local macro_rules | `(tactic| walk_at "nn") => `(tactic| dsimp only [tC, tNil, tCons, tCB, tCall, gName, tSeq, tAsg, tPar, tDrop, tRet])
local macro_rules | `(tactic| walk_at "nc") => `(tactic| dsimp only [tC, tNil, tCons, tCB, tCall])
inductive TxV (K : PySem.W.Frag) (b : Addr) (H : Hp) : V → Option (List Nat) → Prop
  | str (l : List Nat) : TxV K b H (wdV l) (some l)
  | odd {v : V} {t : Th} : Is K b H v t → isStrT t = false → TxV K b H v none
theorem TxV.mv0 {K : PySem.W.Frag} {b : Addr} {H H' : Hp} {v : V} {o : Option (List Nat)} (h : TxV K b H v o) (m : Mv [] H H') : TxV K b H' v o := by
  cases h with
  | str l => exact .str l
  | odd h1 h2 => exact .odd (h1.mv0 m) h2
theorem TxV.dr {K : PySem.W.Frag} {b : Addr} {H H' : Hp} {v : V} {o : Option (List Nat)} (h : TxV K b H v o) (m : Dr b H H') : TxV K b H' v o := by
  cases h with
  | str l => exact .str l
  | odd h1 h2 => exact .odd (h1.dr m) h2
theorem rd_isTx {K : PySem.W.Frag} {b : Addr} {H : Hp} {v : V} {o : Option (List Nat)} {Q : VK} (h : TxV K b H v o) (q : Q (.bl o.isSome) H) : rIsi K [v, .ty "str"] H Q := by
  cases h with
  | str l => exact rd_isStrW q
  | @odd _ t h1 h2 => exact rd_isi h1 (kit_str t) (by rw [h2]; exact q)
def goodT (t : Tm) : Bool := t.ar3 && decide (t.size ≤ 200)
def sp_needTX (K : PySem.W.Frag) (D : Addr) : Sp := fun vs H Q E => ∃ (v : V) (t : Tm), vs = [v] ∧ Im K H v t.d ∧ t.wr ∧ Tm.nod [t] ≤ 40000 ∧ (goodT t = true → ∀ H', Mv [] H H' → Q .non H') ∧ (goodT t = false → ∀ H', Mv [] H H' → E (.ref D) none H')
def sp_readTX (K : PySem.W.Frag) (D : Addr) : Sp := fun vs H Q E => ∃ (b : Addr) (v : V) (o : Option (List Nat)), vs = [v] ∧ TxV K b H v o ∧ (∀ l, o = some l → l.length ≤ 20000 ∧ ∀ c ∈ l, c < 128) ∧ (∀ t, o.bind progT = some t → ∀ v' H', Mv [] H H' → Im K H' v' t.d → Q v' H') ∧ (o.bind progT = none → ∀ H', Mv [] H H' → E (.ref D) none H')
def sp_readLX (K : PySem.W.Frag) (D : Addr) (d : Nat) : Sp := fun vs H Q E => ∃ (l : List Nat), vs = [wdV l] ∧ l.length ≤ 20000 ∧ (∀ c ∈ l, c < 128) ∧ (∀ ts, l = lisC ts → Tm.oks Q40 ts → (∀ t ∈ ts, t.size ≤ 200) → Tm.deps ts < d) ∧ (∀ ts, progL l = some ts → ∀ p xs H', Mv [] H H' → SqT K H' p xs → Ims K H' xs (Tm.ds ts) → Q (.ref p) H') ∧ (progL l = none → ∀ H', Mv [] H H' → E (.ref D) none H')
section
variable {K : PySem.W.Frag} {b : Addr} {H : Hp}
mutual
theorem Is.of_wr : ∀ (t : Tm) (v : V), t.wr → Im K H v t.d → Is K b H v t.th
  | .var i, v, _, h => h.intI
  | .op x ts, v, k, h => by
    obtain ⟨a, xs0, rfl, ha, hxs⟩ := h.tupI
    obtain ⟨x', xs, rfl, hx', hys⟩ := hxs.invD
    exact ⟨a, x' :: xs, rfl, ha, IsAll.cons ⟨hx'.strI, by have := k.1.2.1; omega⟩ (IsAll.of_wrs ts xs k.2 hys)⟩
theorem IsAll.of_wrs : ∀ (ts : List Tm) (xs : List V), Tm.wrs ts → Ims K H xs (Tm.ds ts) → IsAll K b H xs (Tm.ths ts)
  | [], xs, _, h => h.nilD
  | t :: ts, xs, k, h => by
    obtain ⟨v, vs, rfl, h1, h2⟩ := h.invD
    exact IsAll.cons (Is.of_wr t v k.1 h1) (IsAll.of_wrs ts vs k.2 h2)
end
end
mutual
theorem isTerm_wr : ∀ t : Tm, t.wr → isTerm t.th = t.ar3
  | .var i, h => by
    rw [Tm.ar3]
    simpa [Tm.th, isTerm] using h.1
  | .op x ts, h => by
    simp only [Tm.th, isTerm, isNamed, nmd_nm h.1, isTerms_wrs ts h.2, Bool.true_and, ths_len, Tm.ar3]
theorem isTerms_wrs : ∀ ts : List Tm, Tm.wrs ts → isTerms (Tm.ths ts) = Tm.ar3s ts
  | [], _ => by simp [Tm.ths, isTerms, Tm.ar3s]
  | t :: ts, h => by simp [Tm.ths, isTerms, isTerm_wr t h.1, isTerms_wrs ts h.2, Tm.ar3s]
end
mutual
theorem nod_cx : ∀ t : Tm, t.wr → t.size + t.lv ≤ t.cx.length
  | .var i, _ => by
    have := List.length_pos_iff.mpr (TL.numL_ne i.toNat)
    simp only [Tm.size, Tm.lv, Tm.cx]
    omega
  | .op x ts, h => by
    have h1 := List.length_pos_iff.mpr (name_sgs h.1).2
    have h2 := nod_cxP ts h.2
    simp only [Tm.size, Tm.lv, Tm.cx, List.length_append]
    omega
theorem nod_cxP : ∀ ts : List Tm, Tm.wrs ts → Tm.sizes ts + Tm.lvs ts ≤ (Tm.cxP ts).length
  | [], _ => by simp [Tm.sizes, Tm.lvs]
  | t :: ts, h => by
    have h1 := nod_cx t h.1
    have h2 := nod_cxs ts h.2
    simp only [Tm.sizes, Tm.lvs, Tm.cxP, List.length_cons, List.length_append]
    omega
theorem nod_cxs : ∀ ts : List Tm, Tm.wrs ts → Tm.sizes ts + Tm.lvs ts ≤ (Tm.cxs ts).length
  | [], _ => by simp [Tm.sizes, Tm.lvs]
  | t :: ts, h => by
    have h1 := nod_cx t h.1
    have h2 := nod_cxs ts h.2
    simp only [Tm.sizes, Tm.lvs, Tm.cxs, List.length_cons, List.length_append]
    omega
end
theorem nod_one (t : Tm) : Tm.nod [t] = t.size + t.lv := by
  unfold Tm.nod
  simp only [Tm.sizes, Tm.lvs]
  omega
theorem toks_all {l : List Nat} (hl : l.length ≤ 150000) (ha : ∀ c ∈ l, c < 128) : ∀ w ∈ tkL l [], TokOk w ∧ w.length ≤ 200000 ∧ ∀ c ∈ w, c < 128 := fun w hw => by
  refine ⟨tkL_ok _ [] (fun _ h => by cases h) w hw, ?_, fun c hc => ?_⟩
  · have := (tkL_len l []).2 w hw
    simp only [List.length_nil] at this
    omega
  · rcases tkL_mem _ _ w hw c hc with h1 | h1
    · cases h1
    · exact ha c h1
section
variable {P : Program} {w : World} {K : PySem.W.Frag} {mg : Str → Option Value} {base : Heap}
theorem ok_need_termX (T : TX K mg) (Y : TY P K mg) {k : Nat} : FnOk P w K mg base (L2N.CX P w) (k + 3) T.d_need_term.f T.d_need_term.fd P_need_term (sp_needTX K Y.C_NoText) := by
  have G_need : FnOk P w K mg base (L2N.CX P w) 1 T.d_need.f T.d_need.fd P_need (sp_needX Y.C_NoText) := ok_needX (k := 0) T Y
  have G_is_term : FnOk P w K mg base CX0 2 T.d_is_term.f T.d_is_term.fd P_is_term (sp_isTerm K) := ok_is_term T
  have G_size : FnOk P w K mg base CX0 1 T.d_size.f T.d_size.fd P_size (sp_sizeG K) := ok_sizeG T
  refine T.d_need_term.F.okN sc_need_term (fun vs H Q E h => ?_) (fun cdv A outer s H vs Q E hr h => ?_)
  · obtain ⟨_, _, rfl, _⟩ := h
    rfl
  · obtain ⟨v, t, rfl, him, hw, hnd, q, er⟩ := h
    refine ⟨_, (pss_one (ps_expr (pe_callS G_need (hr.mono (by omega)) rfl T.d_need.g T.d_need.F.kp T.d_need.b (fun σ => L2N.passAt (L2N.takes_of rfl rfl rfl rfl) σ) (pa_cons (pe_and (pe_call G_is_term (hr.mono (by omega)) rfl T.d_is_term.g T.d_is_term.F.kp T.d_is_term.b .nil pass0 (pa_cons (pv 0) pa_nil)) (pe_one (pe_cmpR op_le (pe_call G_size (hr.mono (by omega)) rfl T.d_size.g T.d_size.F.kp T.d_size.b .nil pass0 (pa_cons (pe_lst (pa_cons (pv 0) pa_nil)) pa_nil)) (pe_glob rfl T.c_MOST_OPERATIONS T.r_MOST_OPERATIONS) (nomark _)))) pa_nil)))), ?_⟩
    have hI : Is K 0 H v t.th := Is.of_wr t v hw him
    rw [nod_one] at hnd
    have hcnt : t.th.cnt ≤ 90000 := by
      have h1 := th_nodN t
      omega
    refine ⟨v, rfl, v, t.th, 0, rfl, hI, hcnt, fun H1 m1 => ?_⟩
    rw [isTerm_wr t hw]
    cases ha : t.ar3 with
    | false =>
      refine ⟨_, rfl, false, rfl, (fun z => by cases z), fun _ => er ?_ H1 m1⟩
      unfold goodT
      rw [ha]
      rfl
    | true =>
      refine ⟨_, rfl, ?_⟩
      refine ⟨v, rfl, (by decide : 1 ≤ sizeLine), fun p np => ?_⟩
      have m2 : Mv [] H1 (upd H1 p (.lst [v])) := .new np
      have e2 : upd H1 p (.lst [v]) p = some (.lst [v]) := upd_same
      generalize upd H1 p (.lst [v]) = H2 at m2 e2 ⊢
      refine ⟨p, [v], [t], rfl, .inl (.inl (.inl e2)), Ims.cons ((him.mv m1).mv m2) Ims.nil, by rw [nod_one]; omega, fun H3 m3 => ?_⟩
      refine ⟨_, 200, rfl, rfl, ?_⟩
      have hg : goodT t = decide (((Tm.sizes [t] : Nat) : Int) ≤ 200) := by
        unfold goodT
        rw [ha, Bool.true_and]
        have hs : Tm.sizes [t] = t.size := by simp [Tm.sizes]
        rw [hs, decide_eq_decide]
        omega
      show sp_needX Y.C_NoText ([V.bl (decide (((Tm.sizes [t] : Nat) : Int) ≤ 200))] ++ []) H3 _ _
      rw [← hg]
      have m03 := m1.trans (m2.trans m3)
      exact ⟨_, rfl, fun hk => q hk H3 m03, fun hk => er hk H3 m03⟩
theorem ok_read_termX (T : TX K mg) (Y : TY P K mg) {k : Nat} : FnOk P w K mg base (L2N.CX P w) (k + 5) T.d_read_term.f T.d_read_term.fd P_read_term (sp_readTX K Y.C_NoText) := by
  have G_need : FnOk P w K mg base (L2N.CX P w) 1 T.d_need.f T.d_need.fd P_need (sp_needX Y.C_NoText) := ok_needX (k := 0) T Y
  have G_tokens_of : FnOk P w K mg base CX0 1 T.d_tokens_of.f T.d_tokens_of.fd P_tokens_of sp_toks := ok_tokens_of (k := 0) T
  have G_parsed : FnOk P w K mg base (L2N.CX P w) 4 T.d_parsed.f T.d_parsed.fd P_parsed (sp_parsedX K Y.C_NoText) := ok_parsedX (k := 0) T Y
  have G_need_term : FnOk P w K mg base (L2N.CX P w) 3 T.d_need_term.f T.d_need_term.fd P_need_term (sp_needTX K Y.C_NoText) := ok_need_termX (k := 0) T Y
  refine T.d_read_term.F.okN sc_read_term (fun vs H Q E h => ?_) (fun cdv A outer s H vs Q E hr h => ?_)
  · obtain ⟨_, _, _, rfl, _⟩ := h
    rfl
  · obtain ⟨b, v, o, rfl, hv, hb, q, er⟩ := h
    refine ⟨_, (pss_cons (ps_expr (pe_callS G_need (hr.mono (by omega)) rfl T.d_need.g T.d_need.F.kp T.d_need.b (fun σ => L2N.passAt (L2N.takes_of rfl rfl rfl rfl) σ) (pa_cons (pe_callB (r := rIsi K) call_isi (by rfl) T.b_isinstance bt_isinstance (pa_cons (pv 0) (pa_cons (pe_ty T.b_str bt_str) pa_nil))) pa_nil))) (pss_cons (ps_set (i := 1) sc_read_term.nd rfl (Or.inl rfl) (pe_callS G_parsed (hr.mono (by omega)) rfl T.d_parsed.g T.d_parsed.F.kp T.d_parsed.b (fun σ => L2N.passAt (L2N.takes_of rfl rfl rfl rfl) σ) (pa_cons (pe_call G_tokens_of (hr.mono (by omega)) rfl T.d_tokens_of.g T.d_tokens_of.F.kp T.d_tokens_of.b .nil pass0 (pa_cons (pv 0) pa_nil)) pa_nil))) (pss_cons (ps_expr (pe_callS G_need_term (hr.mono (by omega)) rfl T.d_need_term.g T.d_need_term.F.kp T.d_need_term.b (fun σ => L2N.passAt (L2N.takes_of rfl rfl rfl rfl) σ) (pa_cons (pv 1) pa_nil))) (pss_one (ps_ret (pv 1)))))), ?_⟩
    refine ⟨v, rfl, ?_⟩
    walk_at "nc"
    refine rd_isTx hv ⟨_, rfl, fun hs => ?_, fun hs => er ?_ H .refl⟩
    rotate_left
    · cases o with
      | none => rfl
      | some l => cases hs
    cases hv with
    | odd h1 h2 => cases hs
    | str l =>
      obtain ⟨hl, hasc⟩ := hb l rfl
      refine ⟨wdV l, rfl, l, rfl, by omega, fun p H1 np m1 e1 => ⟨p, _, rfl, e1, by have := (tkL_len l []).1; omega, toks_all (by omega) hasc, fun t ht v2 H2 m2 im => ?_, fun hn H2 m2 => er ?_ H2 (m1.trans m2)⟩⟩
      · obtain ⟨hcx, hwr⟩ := read_inv ht
        have hnd := nod_cx t hwr
        rw [← hcx] at hnd
        refine ⟨v2, rfl, v2, t, rfl, im, hwr, by rw [nod_one]; omega, fun hk H3 m3 => ?_, fun hk H3 m3 => er ?_ H3 (m1.trans (m2.trans m3))⟩
        · refine ⟨v2, rfl, q t ?_ v2 H3 (m1.trans (m2.trans m3)) (im.mv m3)⟩
          show progT l = some t
          unfold goodT at hk
          rw [Bool.and_eq_true, decide_eq_true_eq] at hk
          unfold progT
          rw [ht]
          exact if_pos hk
        · show progT l = none
          unfold progT
          rw [ht]
          refine if_neg fun z => ?_
          unfold goodT at hk
          rw [z.1, decide_eq_true z.2] at hk
          cases hk
      · show progT l = none
        unfold progT
        rw [hn]
theorem ok_read_listedX (T : TX K mg) (Y : TY P K mg) {k d : Nat} (hd : 2 * d + 2 ≤ k) (h5 : 5 ≤ k) : FnOk P w K mg base (L2N.CX P w) (k + 1) T.d_read_listed.f T.d_read_listed.fd P_read_listed (sp_readLX K Y.C_NoText d) := by
  have G_need : FnOk P w K mg base (L2N.CX P w) 1 T.d_need.f T.d_need.fd P_need (sp_needX Y.C_NoText) := ok_needX (k := 0) T Y
  have G_tokens_of : FnOk P w K mg base CX0 1 T.d_tokens_of.f T.d_tokens_of.fd P_tokens_of sp_toks := ok_tokens_of (k := 0) T
  have G_parsed : FnOk P w K mg base (L2N.CX P w) 4 T.d_parsed.f T.d_parsed.fd P_parsed (sp_parsedX K Y.C_NoText) := ok_parsedX (k := 0) T Y
  have G_need_term : FnOk P w K mg base (L2N.CX P w) 3 T.d_need_term.f T.d_need_term.fd P_need_term (sp_needTX K Y.C_NoText) := ok_need_termX (k := 0) T Y
  have G_listed : FnOk P w K mg base CX0 k T.d_listed.f T.d_listed.fd P_listed (sp_lis K d) := (ok_listed T d).mono hd
  refine T.d_read_listed.F.okN sc_read_listed (fun vs H Q E h => ?_) (fun cdv A outer s H vs Q E hr h => ?_)
  · obtain ⟨_, rfl, _⟩ := h
    rfl
  · obtain ⟨l, rfl, hl, hasc, hdep, q, er⟩ := h
    have hu64 := hr.units
    refine ⟨_, (pss_cons (ps_if (pt_cmpR (r := rEqG K) (op_eqG hu64) (pv 0) pe_str (nomark _)) (pss_one (ps_ret (pe_tup pa_nil))) pss_nil) (pss_cons (ps_expr (pe_callS G_need (hr.mono (by omega)) rfl T.d_need.g T.d_need.F.kp T.d_need.b (fun σ => L2N.passAt (L2N.takes_of rfl rfl rfl rfl) σ) (pa_cons (pe_cmpR (r := rEqG K) (op_eqG hu64) (pe_slice (r := rSlG K) sl_G (pv 0) po_none (po_some pe_int)) pe_str (nomark _)) pa_nil))) (pss_cons (ps_set (i := 1) sc_read_listed.nd rfl (Or.inl rfl) (pe_slice (r := rSlG K) sl_G (pe_callS G_parsed (hr.mono (by omega)) rfl T.d_parsed.g T.d_parsed.F.kp T.d_parsed.b (fun σ => L2N.passAt (L2N.takes_of rfl rfl rfl rfl) σ) (pa_cons (pe_call G_tokens_of (hr.mono (by omega)) rfl T.d_tokens_of.g T.d_tokens_of.F.kp T.d_tokens_of.b .nil pass0 (pa_cons (pe_op (r := rAddG K) op_addG pe_str (pv 0)) pa_nil)) pa_nil)) (po_some pe_int) po_none)) (pss_cons (ps_for (passes_of rfl) rfl (pi_seq (pv 1)) (pg_name (i := 2) sc_read_listed.nd rfl (Or.inl rfl)) (pss_one (ps_expr (pe_callS G_need_term (hr.mono (by omega)) rfl T.d_need_term.g T.d_need_term.F.kp T.d_need_term.b (fun σ => L2N.passAt (L2N.takes_of rfl rfl rfl rfl) σ) (pa_cons (pv 2) pa_nil))))) (pss_cons (ps_expr (pe_callS G_need (hr.mono (by omega)) rfl T.d_need.g T.d_need.F.kp T.d_need.b (fun σ => L2N.passAt (L2N.takes_of rfl rfl rfl rfl) σ) (pa_cons (pe_cmpR (r := rEqG K) (op_eqG hu64) (pe_call G_listed (hr.mono (by omega)) rfl T.d_listed.g T.d_listed.F.kp T.d_listed.b .nil pass0 (pa_cons (pv 1) pa_nil)) (pv 0) (nomark _)) pa_nil))) (pss_one (ps_ret (pv 1)))))))), ?_⟩
    have hz : (SX.S l).length ≤ sizeLine := by
      rw [SX.S_len]
      exact Nat.le_trans hl (by decide)
    refine ⟨wdV l, rfl, Or.inl ⟨rfl, _, rfl, ?_⟩⟩
    rw [show V.str (Str.ofString "()") = wdV [40, 41] from congrArg V.str (by decide +kernel), wd_eq]
    by_cases h00 : l = [40, 41]
    · rw [decide_eq_true h00]
      refine ⟨(by decide : 0 ≤ sizeLine), fun p np => ?_⟩
      exact q [] (by rw [h00]; rfl) p [] _ (.new np) (.inl (.inl upd_same)) Ims.nil
    rw [decide_eq_false h00]
    refine ⟨wdV l, rfl, 1, rfl, Or.inr (Or.inr ⟨_, rfl, hz, Or.inl ⟨rfl, ?_⟩⟩)⟩
    rw [C8.cutS_slice, SX.slice_to (by decide), open_wd]
    have e1' : (V.str (SX.S (l.take (1 : Int).toNat)) = wdV [40]) ↔ l.take 1 = [40] := ⟨fun z => SX.S_inj (V.str.inj z), fun z => by rw [show l.take (1 : Int).toNat = l.take 1 from rfl, z]⟩
    by_cases h40 : l.take 1 = [40]
    rotate_left
    · rw [decide_eq_false fun z => h40 (e1'.mp z)]
      refine ⟨false, rfl, (fun z => by cases z), fun _ => er ?_ H .refl⟩
      unfold progL
      rw [if_neg h00, if_neg h40]
    rw [decide_eq_true (e1'.mpr h40)]
    refine ⟨true, rfl, fun _ => ?_, (fun z => by cases z)⟩
    have hpl : progL l = match runI (tkL (102 :: l) []) [] none false with
        | some (.op _ ts) => if fewL ts = true ∧ lisC ts = l then some ts else none
        | _ => none := by
      unfold progL
      rw [if_neg h00, if_pos h40]
      all_goals (generalize runI (tkL (102 :: l) []) [] none false = z; rcases z with _ | u <;> first | rfl | (cases u <;> rfl))
    refine ⟨wdV l, rfl, Or.inr (Or.inl ⟨_, _, rfl, rfl, ?_, ?_⟩)⟩
    · rw [SX.S_len]
      exact Nat.le_trans (show (Str.ofString "f").length + l.length ≤ 100000 by rw [show (Str.ofString "f").length = 1 by decide +kernel]; omega) (by decide)
    have ecat : Str.ofString "f" ++ SX.S l = SX.S (102 :: l) := by
      rw [show Str.ofString "f" = SX.S [102] by decide +kernel, SX.S_cat]
      rfl
    rw [ecat]
    have hasc2 : ∀ c ∈ 102 :: l, c < 128 := fun c hc => by
      rcases List.mem_cons.mp hc with rfl | hc
      · decide
      · exact hasc c hc
    refine ⟨_, rfl, by simp; omega, fun p H1 np m1 e1 => ⟨p, _, rfl, e1, by have := (tkL_len (102 :: l) []).1; simp at this; omega, toks_all (by simp; omega) hasc2, fun t ht v H2 m2 im => ?_, fun hn H2 m2 => er (by rw [hpl, hn]) H2 (m1.trans m2)⟩⟩
    obtain ⟨hcx, hwr⟩ := read_inv ht
    cases t with
    | var i =>
      exfalso
      rw [Tm.cx] at hcx
      have := TL.numL_digits i.toNat 102 (by rw [← hcx]; exact List.mem_cons_self)
      omega
    | op x ts =>
      rw [ht] at hpl
      dsimp only at hpl
      obtain ⟨a, z1, rfl, ha, hz1⟩ := im.tupI
      obtain ⟨n1, xs, rfl, hn1, hxs⟩ := hz1.invD
      refine ⟨1, rfl, rd_sl1 ha fun p3 H3 m3 e3 => ?_⟩
      have i3 := hxs.mv m3
      have hxl : xs.length = ts.length := by rw [hxs.length, Tm.ds_map, List.length_map]
      have m03 := m1.trans (m2.trans m3)
      have hnd := nod_cx (.op x ts) hwr
      rw [← hcx] at hnd
      simp only [Tm.size, Tm.lv, List.length_cons] at hnd
      have hndS : Tm.nod ts ≤ 30000 := by
        unfold Tm.nod
        omega
      have hwt : ∀ u ∈ ts, u.wr := by
        have : ∀ ts : List Tm, Tm.wrs ts → ∀ u ∈ ts, u.wr := by
          intro ts
          induction ts with
          | nil => exact fun _ _ h => by cases h
          | cons t ts ih =>
            intro h u hu
            rcases List.mem_cons.mp hu with rfl | hu
            · exact h.1
            · exact ih h.2 u hu
        exact this ts hwr.2
      have hfew : fewL ts = ts.all goodT := rfl
      refine ⟨.ref p3, rfl, p3, rfl, Or.inr ⟨⟨_, e3⟩, ?_⟩⟩
      refine for_tup (K := K) (a := p3) (xs := xs) (fun i σ H4 => ∃ (y2 : Option V), σ = [some (wdV l), some (.ref p3), y2] ∧ (ts.take i).all goodT = true ∧ Mv [] H3 H4)
        ⟨none, rfl, rfl, .refl⟩ (fun i σ H4 _ h4 => ?_) (fun i x' σ H4 hx h4 => ?_) (fun σ H4 h4 => ?_)
      · obtain ⟨_, _, _, m4⟩ := h4
        exact m4.sqT e3
      · obtain ⟨y2, rfl, hal, m4⟩ := h4
        obtain ⟨xd, hxd, him⟩ := i3.get hx
        rw [Tm.ds_map, List.getElem?_map] at hxd
        obtain ⟨u, hu, rfl⟩ := Option.map_eq_some_iff.mp hxd
        have hum := List.mem_of_getElem? hu
        refine ⟨x', rfl, x', u, rfl, him.mv m4, hwt u hum, by have := Tm.nod_mem hum; omega, fun hk H5 m5 => ⟨_, rfl, ?_, m4.trans m5⟩, fun hk H5 m5 => er ?_ H5 (m03.trans (m4.trans m5))⟩
        · rw [List.take_add_one, hu, List.all_append, hal, Bool.true_and]
          simpa using hk
        · rw [hpl, if_neg fun z => ?_]
          have := List.all_eq_true.mp (by rw [← hfew]; exact z.1 : ts.all goodT = true) u hum
          rw [hk] at this
          cases this
      · obtain ⟨y2, rfl, hal, m4⟩ := h4
        rw [hxl, List.take_length] at hal
        obtain ⟨hok, hsz⟩ := (fewL_iff hwr.2).mp (by rw [hfew]; exact hal)
        have hcl : (lisC ts).length ≤ 100000 := by
          cases ts with
          | nil => decide
          | cons t ts =>
            rw [lisC_cons]
            have h1 := congrArg List.length hcx
            simp only [Tm.cx, List.length_append, List.length_cons] at h1
            omega
        have hx1 : ∀ c ∈ x.cps.toList, isSg c = false := (name_sgs hwr.1).1
        obtain ⟨c0, r0, hxe⟩ := List.exists_cons_of_ne_nil (name_sgs hwr.1).2
        have hx40 : ∀ c r, r0 = c :: r → c ≠ 40 := fun c r e z => by
          have := hx1 c (by rw [hxe, e]; simp)
          rw [z] at this
          cases this
        have hl' : lisC ts = l := by
          rw [Tm.cx, hxe] at hcx
          obtain ⟨_, e8⟩ := List.cons.inj hcx
          cases r0 with
          | cons c1 r1 =>
            exfalso
            rw [e8] at h40
            exact hx40 c1 r1 rfl (by simpa using h40)
          | nil =>
            cases ts with
            | nil =>
              exfalso
              rw [e8] at h40
              cases h40
            | cons t ts =>
              rw [lisC_cons]
              exact e8.symm
        have hdp : Tm.deps ts < d := hdep ts hl'.symm hok hsz
        refine ⟨.ref p3, rfl, p3, xs, ts, rfl, m4.sqT e3, i3.mv m4, Tm.oks_mono (fun i h => h) _ hok, hdp, hcl, fun H5 m5 => ?_⟩
        refine ⟨wdV l, rfl, Or.inl ⟨rfl, ?_⟩⟩
        rw [wd_eq]
        refine ⟨_, rfl, fun hk => ?_, fun hk => er ?_ H5 (m03.trans (m4.trans m5))⟩
        · have hk' : lisC ts = l := by simpa using hk
          refine ⟨.ref p3, rfl, ?_⟩
          exact q ts (by rw [hpl, if_pos ⟨by rw [hfew]; exact hal, hk'⟩]) p3 xs H5 (m03.trans (m4.trans m5)) ((m4.trans m5).sqT e3) (i3.mv (m4.trans m5))
        · have hk' : ¬ lisC ts = l := by simpa using hk
          rw [hpl, if_neg fun z => hk' z.2]
end
end Fm
namespace Fm
open PySem PySem.Spec PyProof.Rows L2 SlX
local macro_rules | `(tactic| walk_at "nn") => `(tactic| dsimp only [tC, tNil, tCons, tCB, tCall, gName, tSeq, tAsg, tPar, tDrop, tRet])
local macro_rules | `(tactic| walk_at "nc") => `(tactic| dsimp only [tC, tNil, tCons, tCB, tCall])
def intsT : List Th → List Int
  | [] => []
  | .int i :: ts => i :: intsT ts
  | _ :: ts => intsT ts
def difT (many : Int) : Th → Bool
  | .tup ts => ts.all (inPl many) && decide ((intsT ts).Nodup)
  | _ => false
def overT (many : Int) (t : Th) : Bool := isTerm t && under many t
def termsT (many : Int) : Th → Bool
  | .tup ts => ts.all (overT many)
  | _ => false
def pairT : Th → Bool
  | .tup [_, _] => true
  | _ => false
def lenT : Th → Nat
  | .tup ts => ts.length
  | _ => 0
theorem Th.cnt_of {ts : List Th} {t : Th} (h : t ∈ ts) : t.cnt ≤ Th.cnts ts := by
  induction ts with
  | nil => exact absurd h List.not_mem_nil
  | cons u ts ih =>
    simp only [Th.cnts]
    rcases List.mem_cons.mp h with rfl | h
    · omega
    · have := ih h
      omega
def sp_thing1 (K : PySem.W.Frag) (f : Int → Th → Bool) : Sp := fun vs H Q _ => ∃ (many : Int) (v : V) (t : Th) (b : Addr), vs = [.int many, v] ∧ Is K b H v t ∧ t.cnt ≤ 1000 ∧ ∀ H', Mv [] H H' → Q (.bl (f many t)) H'
section
variable {P : Program} {w : World} {K : PySem.W.Frag} {mg : Str → Option Value} {base : Heap}
end
end Fm
namespace Fm
open PySem PySem.Spec PyProof.Rows L2 SlX
local macro_rules | `(tactic| walk_at "nn") => `(tactic| dsimp only [tC, tNil, tCons, tCB, tCall, gName, tSeq, tAsg, tPar, tDrop, tRet])
local macro_rules | `(tactic| walk_at "nc") => `(tactic| dsimp only [tC, tNil, tCons, tCB, tCall])
def fstT : Th → Th
  | .tup (t :: _) => t
  | _ => .non
def sndT : Th → Th
  | .tup (_ :: t :: _) => t
  | _ => .non
def setT (many places : Int) : List Th → Bool
  | [_, .tup cs, g] => cs.all pairT && (difT many (.tup (cs.map fstT)) && (termsT many (.tup (cs.map sndT)) && inPl places g))
  | _ => false
def endT (many : Int) : List Th → Bool
  | [_, w, ts] => isNamed w && (termsT many ts && decide (lenT ts ≤ 2))
  | _ => false
def sp_stT (K : PySem.W.Frag) (f : Int → Int → List Th → Bool) : Sp := fun vs H Q _ => ∃ (many places : Int) (v : V) (ts : List Th) (b : Addr), vs = [.int many, .int places, v] ∧ Is K b H v (.tup ts) ∧ Th.cnts ts ≤ 900 ∧ 0 < ts.length ∧ ∀ H', Mv [] H H' → Q (.bl (f many places ts)) H'
def sp_enT (K : PySem.W.Frag) (f : Int → List Th → Bool) : Sp := fun vs H Q _ => ∃ (many : Int) (v : V) (ts : List Th) (b : Addr), vs = [.int many, v] ∧ Is K b H v (.tup ts) ∧ Th.cnts ts ≤ 900 ∧ 0 < ts.length ∧ ∀ H', Mv [] H H' → Q (.bl (f many ts)) H'
section
variable {P : Program} {w : World} {K : PySem.W.Frag} {mg : Str → Option Value} {base : Heap}
end
end Fm
namespace Fm
open PySem PySem.Spec PyProof.Rows L2 SlX
local macro_rules | `(tactic| walk_at "nn") => `(tactic| dsimp only [tC, tNil, tCons, tCB, tCall, gName, tSeq, tAsg, tPar, tDrop, tRet])
local macro_rules | `(tactic| walk_at "nc") => `(tactic| dsimp only [tC, tNil, tCons, tCB, tCall])
def strT : Th → Str
  | .str x => x
  | _ => ""
def bringsT (r : ActR) (o : Str) : Option Int := (r.outs.find? fun e => decide (e.1 = o)).map (·.2)
def wayT (r : ActR) (many places : Int) : Th → Bool
  | .tup [.str o, vs, g] => decide (o ∈ r.outs.map (·.1)) && (difT many vs && (decide (some (lenT vs : Int) = bringsT r o) && inPl places g))
  | _ => false
def sp_wayTh (K : PySem.W.Frag) (C : Addr) : Sp := fun vs H Q _ => ∃ (x : Addr) (many places : Int) (v : V) (rs : List ActR) (r : ActR) (t : Th) (b : Addr), vs = [.ref x, .int many, .int places, .str r.nm, v] ∧ WldAt K H C x rs ∧ r ∈ rs ∧ Is K b H v t ∧ t.cnt ≤ 900 ∧ ∀ H', Mv [] H H' → Q (.bl (wayT r many places t)) H'
section
variable {P : Program} {w : World} {K : PySem.W.Frag} {mg : Str → Option Value} {base : Heap}
end
end Fm
namespace Fm
open PySem PySem.Spec PyProof.Rows L2 SlX
local macro_rules | `(tactic| walk_at "nn") => `(tactic| dsimp only [tC, tNil, tCons, tCB, tCall, gName, tSeq, tAsg, tPar, tDrop, tRet])
local macro_rules | `(tactic| walk_at "nc") => `(tactic| dsimp only [tC, tNil, tCons, tCB, tCall])
def waysT (r : ActR) (many places : Int) : Th → Bool
  | .tup ws => ws.all (wayT r many places) && decide (srt leS id (ws.map fun t => strT (fstT t)) = r.outs.map (·.1))
  | _ => false
def askT (rs : List ActR) (many places : Int) : List Th → Bool
  | [_, .str act, terms, ways] => match rs.find? fun r => decide (r.nm = act) with
    | some r => termsT many terms && (decide ((lenT terms : Int) = r.ar) && waysT r many places ways)
    | none => false
  | _ => false
def sp_askTh (K : PySem.W.Frag) (C : Addr) : Sp := fun vs H Q _ => ∃ (x : Addr) (many places : Int) (v : V) (rs : List ActR) (ts : List Th) (b : Addr), vs = [.ref x, .int many, .int places, v] ∧ WldAt K H C x rs ∧ WOk rs ∧ Is K b H v (.tup ts) ∧ Th.cnts ts ≤ 240 ∧ 0 < ts.length ∧ ∀ H', Mv [] H H' → Q (.bl (askT rs many places ts)) H'
section
variable {P : Program} {w : World} {K : PySem.W.Frag} {mg : Str → Option Value} {base : Heap}
end
def stmtT (rs : List ActR) (many places : Int) : Th → Bool
  | .tup (.str k :: ts) => if k = Str.ofString "set" then setT many places (.str k :: ts) else if k = Str.ofString "ask" then askT rs many places (.str k :: ts) else decide (k = Str.ofString "end") && endT many (.str k :: ts)
  | _ => false
def sp_stmtTh (K : PySem.W.Frag) (C : Addr) : Sp := fun vs H Q _ => ∃ (x : Addr) (many places : Int) (v : V) (rs : List ActR) (t : Th) (b : Addr), vs = [.ref x, .int many, .int places, v] ∧ WldAt K H C x rs ∧ WOk rs ∧ Is K b H v t ∧ t.cnt ≤ 240 ∧ ∀ H', Mv [] H H' → Q (.bl (stmtT rs many places t)) H'
section
variable {P : Program} {w : World} {K : PySem.W.Frag} {mg : Str → Option Value} {base : Heap}
end
end Fm
namespace Fm
open PySem PySem.Spec PyProof.Rows L2 SlX
local macro_rules | `(tactic| walk_at "nn") => `(tactic| dsimp only [tC, tNil, tCons, tCB, tCall, gName, tSeq, tAsg, tPar, tDrop, tRet])
local macro_rules | `(tactic| walk_at "nc") => `(tactic| dsimp only [tC, tNil, tCons, tCB, tCall])
def wholeT (lo hi : Int) : Th → Bool
  | .int i => decide (lo ≤ i) && decide (i ≤ hi)
  | _ => false
theorem whole_in {many : Int} (t : Th) : wholeT 0 (many - 1) t = inPl many t := by
  cases t with
  | int i =>
    simp only [wholeT, inPl]
    congr 1
    rw [Bool.eq_iff_iff, decide_eq_true_iff, decide_eq_true_iff]
    omega
  | _ => rfl
theorem all_filter {α β : Type} (p : α → Bool) (f : α → β) : ∀ l : List α, l.all p = ((l.filter fun c => !p c).map f).isEmpty
  | [] => rfl
  | a :: l => by
    have ih := all_filter p f l
    rw [List.all_cons, List.filter_cons]
    cases h : p a with
    | true => simpa using ih
    | false => simp
def sp_lwhole (K : PySem.W.Frag) : Sp := fun vs H Q _ => ∃ (v : V) (t : Th) (b : Addr) (lo hi : Int), vs = [v, .int lo, .int hi] ∧ Is K b H v t ∧ ∀ H', Mv [] H H' → Q (.bl (wholeT lo hi t)) H'
section
variable {P : Program} {w : World} {K : PySem.W.Frag} {mg : Str → Option Value} {base : Heap}
theorem ok__law_is_whole (T : TX K mg) {k : Nat} : FnOk P w K mg base CX0 (k + 1) T.d__law_is_whole.f T.d__law_is_whole.fd P__law_is_whole (sp_lwhole K) := by
  refine T.d__law_is_whole.F.ok sc__law_is_whole (fun vs H Q E h => ?_) (fun cdv A outer s H vs Q E hr h => ?_)
  · obtain ⟨_, _, _, _, _, rfl, _⟩ := h
    rfl
  · obtain ⟨v, t, b, lo, hi, rfl, hv, q⟩ := h
    refine ⟨_, (pss_one (ps_ret (pe_and (pe_callB (r := rIsi K) call_isi (by rfl) T.b_isinstance bt_isinstance (pa_cons (pv 0) (pa_cons (pe_ty T.b_int bt_int) pa_nil))) (pe_and (pe_not (pe_callB (r := rIsi K) call_isi (by rfl) T.b_isinstance bt_isinstance (pa_cons (pv 0) (pa_cons (pe_ty T.b_bool bt_bool) pa_nil)))) (pe_one (pe_chain op_le op_le (pv 1) (pv 0) (pv 2))))))), ?_⟩
    refine ⟨v, rfl, ?_⟩
    walk_at "nn"
    refine rd_isi hv (kit_int t) ?_
    refine ⟨_, rfl, ?_⟩
    cases t with
    | int j =>
      cases (show v = V.int j from hv)
      refine ⟨.int j, rfl, ?_⟩
      walk_at "nc"
      refine rd_isi hv (kit_bool (.int j)) ⟨_, rfl, ?_⟩
      refine ⟨_, rfl, ?_⟩
      refine ⟨.int lo, rfl, .int j, rfl, lo, j, rfl, rfl, _, rfl, ite2 (fun e => ?_) (fun e => ?_)⟩
      · refine ⟨.int hi, rfl, j, hi, rfl, rfl, ?_⟩
        have := q H .refl
        simp only [wholeT] at this
        rw [show decide (lo ≤ j) = true from e, Bool.true_and] at this
        exact this
      · have := q H .refl
        simp only [wholeT] at this
        rw [show decide (lo ≤ j) = false by simpa using e, Bool.false_and] at this
        exact this
    | bl c =>
      refine ⟨v, rfl, ?_⟩
      walk_at "nc"
      exact rd_isi hv (kit_bool (.bl c)) ⟨_, rfl, _, rfl, q H .refl⟩
    | _ => exact q H .refl
theorem ok__law_is_word (T : TX K mg) {k : Nat} : FnOk P w K mg base CX0 (k + 1) T.d__law_is_word.f T.d__law_is_word.fd P__law_is_word (sp_kind K isNamed) := by
  refine T.d__law_is_word.F.ok sc__law_is_word (fun vs H Q E h => ?_) (fun cdv A outer s H vs Q E hr h => ?_)
  · obtain ⟨_, _, _, rfl, _⟩ := h
    rfl
  · obtain ⟨v, t, b, rfl, hv, q⟩ := h
    have hu65 := hu65_of hr
    refine ⟨_, (pss_cons (ps_if (PW.pt (pw_or (pt_not (pt_val (pe_callB (r := rIsi K) call_isi (by rfl) T.b_isinstance bt_isinstance (pa_cons (pv 0) (pa_cons (pe_ty T.b_str bt_str) pa_nil))))) (pw_or1 (pt_not (pt_chain op_lt op_lt pe_int (pe_callB (r := rLenG K) call_lenG (by rfl) T.b_len bt_len (pa_cons (pv 0) pa_nil)) pe_int))))) (pss_one (ps_ret pe_bl)) pss_nil) (pss_one (ps_ret (pe_cmpR (r := rEqNil K) (op_eqNil (Nat.lt_of_le_of_lt (Nat.le_add_right _ 65) hu65)) (pe_lc (own := [("_law_sign", 1)]) (g := gName 1) (by rfl) sc__law_is_word.nd (pi_str (pv 0)) (blkOk_by (own := [("_law_sign", 1)]) (N := N__law_is_word) (sc := defScope s__law_is_word) (by decide +kernel)) (fun _ _ _ _ _ => pg_name (i := 1) sc__law_is_word.nd rfl (Or.inl rfl)) (fun _ _ _ _ _ => (pts_one (pt_cmpR (r := rNotInG K) (op_notInG hu65) (pv 1) pe_str rfl))) (fun _ _ _ _ _ => (pv 1))) (pe_lst pa_nil) (nomark _))))), ?_⟩
    refine ⟨v, rfl, ?_⟩
    walk_at "nn"
    refine rd_isi hv (kit_str t) ⟨_, rfl, ?_⟩
    cases t with
    | str x =>
      obtain ⟨rfl, hlen⟩ := hv
      refine ⟨.str x, rfl, ?_⟩
      walk_at "nc"
      refine Or.inr (Or.inl ⟨x, rfl, Nat.le_of_lt (small1000 (by omega)), 0, _, rfl, rfl, _, rfl, ite2 (fun e1 => ?_) (fun e1 => ?_)⟩)
      · refine ⟨_, 9, rfl, rfl, _, rfl, ?_⟩
        by_cases h2 : x.length ≤ 8
        · have h1 : 1 ≤ x.length := by
            have := of_decide_eq_true e1
            omega
          rw [show decide (((x.length : Nat) : Int) < 9) = true from decide_eq_true (by omega)]
          have hsz : x.cps.toList.length = x.cps.size := by simp
          have hsl : x.cps.size = x.length := rfl
          refine ⟨.str x, rfl, x, rfl, fun D nD => ?_⟩
          refine lc_it walk_str (fun i H1 => H1 D = some (.lst (((x.cps.toList.take i).filter fun c => !decide (c ∈ lettersS.cps.toList)).map fun c => V.str ⟨#[c]⟩)) ∧ Mv [] H H1) ⟨upd_same, .new nD⟩ (fun _ _ _ _ => trivial) (fun i y H1 H2 hi hh hy => ?_) (fun H1 hh => ?_)
          · obtain ⟨e1, m1⟩ := hh
            obtain ⟨rfl, c, hc, rfl⟩ := hy
            have hc' : x.cps.toList[i]? = some c := by simpa using hc
            refine ⟨rfl, .str ⟨#[c]⟩, rfl, Or.inr ⟨c, _, rfl, rfl, _, rfl, ?_⟩⟩
            have htk : x.cps.toList.take (i + 1) = x.cps.toList.take i ++ [c] := by rw [List.take_add_one, hc']; rfl
            show if (!decide (c ∈ lettersS.cps.toList)) = true then _ else _
            cases hin : (!decide (c ∈ lettersS.cps.toList)) with
            | false =>
              refine ⟨?_, m1⟩
              rw [htk, List.filter_append]
              simp only [List.filter_cons, hin, Bool.false_eq_true, if_false, List.filter_nil, List.append_nil]
              exact e1
            | true =>
              refine ⟨.str ⟨#[c]⟩, rfl, _, e1, ?_, ?_, m1.wr nD⟩
              · rw [List.length_map]
                have h3 : ((x.cps.toList.take i).filter fun c => !decide (c ∈ lettersS.cps.toList)).length ≤ (x.cps.toList.take i).length := List.length_filter_le _ _
                rw [List.length_take] at h3
                exact small1000 (by omega)
              · rw [upd_same, htk, List.filter_append]
                simp only [List.filter_cons, hin, if_true, List.filter_nil, List.map_append, List.map_cons, List.map_nil]
          · obtain ⟨e1, m1⟩ := hh
            rw [← hsz, List.take_length] at e1
            refine ⟨Nat.zero_le _, fun p np => ?_⟩
            refine ⟨D, p, _, rfl, rfl, .inl (.inl (same_new np _ _ e1)), .inl (.inl upd_same), ?_⟩
            have e : isNamed (.str x) = ((x.cps.toList.filter fun c => !decide (c ∈ lettersS.cps.toList)).map fun c => V.str ⟨#[c]⟩).isEmpty := by
              simp only [isNamed, nmd]
              rw [decide_eq_true h1, decide_eq_true h2, Bool.true_and, Bool.true_and]
              exact all_filter _ _ _
            rw [← e]
            exact q _ (m1.trans (.new np))
        · rw [show decide (((x.length : Nat) : Int) < 9) = false from decide_eq_false (by omega)]
          have e : isNamed (.str x) = false := by
            simp only [isNamed, nmd]
            rw [decide_eq_false h2]
            simp
          rw [e] at q
          exact q H .refl
      · have e : isNamed (.str x) = false := by
          simp only [isNamed, nmd]
          have : ¬ 1 ≤ x.length := by simp at e1; omega
          rw [decide_eq_false this]
          simp
        rw [e] at q
        exact ⟨_, rfl, q H .refl⟩
    | _ => exact q H .refl
end
theorem over_tup {many : Int} {t0 : Th} {ts : List Th} : overT many (.tup (t0 :: ts)) = (isNamed t0 && (decide (ts.length ≤ 3) && ts.all (overT many))) := by
  have h : ∀ us : List Th, us.all (overT many) = (isTerms us && unders many us) := fun us => by
    induction us with
    | nil => rfl
    | cons u us ih =>
      rw [List.all_cons, ih]
      unfold overT
      simp only [isTerms, unders]
      cases isTerm u <;> cases under many u <;> cases isTerms us <;> cases unders many us <;> rfl
  rw [h]
  unfold overT
  simp only [isTerm, under]
  cases isNamed t0 <;> simp [Bool.and_assoc]
def sp_lterm (K : PySem.W.Frag) : Sp := fun vs H Q _ => ∃ (v : V) (t : Th) (b : Addr) (many : Int), vs = [v, .int many] ∧ Is K b H v t ∧ t.cnt ≤ 90000 ∧ ∀ H', Mv [] H H' → Q (.bl (overT many t)) H'
section
variable {P : Program} {w : World} {K : PySem.W.Frag} {mg : Str → Option Value} {base : Heap}
theorem ok__law_is_term (T : TX K mg) {k : Nat} : FnOk P w K mg base CX0 (k + 2) T.d__law_is_term.f T.d__law_is_term.fd P__law_is_term (sp_lterm K) := by
  have G__law_is_word : FnOk P w K mg base CX0 1 T.d__law_is_word.f T.d__law_is_word.fd P__law_is_word (sp_kind K isNamed) := ok__law_is_word T
  have G__law_is_whole : FnOk P w K mg base CX0 1 T.d__law_is_whole.f T.d__law_is_whole.fd P__law_is_whole (sp_lwhole K) := ok__law_is_whole T
  refine T.d__law_is_term.F.ok sc__law_is_term (fun vs H Q E h => ?_) (fun cdv A outer s H vs Q E hr h => ?_)
  · obtain ⟨_, _, _, _, rfl, _⟩ := h
    rfl
  · obtain ⟨v, t, b, many, rfl, hv, hcn, q⟩ := h
    have hu65 := hu65_of hr
    refine ⟨_, (pss_cons (ps_set (i := 2) sc__law_is_term.nd rfl (Or.inl rfl) (pe_lst (pa_cons (pv 0) pa_nil))) (pss_cons (ps_while PassesOwn.never (pt_cmpR (r := rNeNil K) (op_neNil (Nat.lt_of_le_of_lt (Nat.le_add_right _ 65) hu65)) (pv 2) (pe_lst pa_nil) (nomark _)) (pss_cons (ps_set (i := 3) sc__law_is_term.nd rfl (Or.inl rfl) (pe_bm0 PySem.F.plainAttrs_list PySem.F.slot_list_pop PySem.F.type_list_pop mt_pop (pv 2))) (pss_one (ps_if (PW.pt (pw_and (pt_val (pe_callB (r := rIsi K) call_isi (by rfl) T.b_isinstance bt_isinstance (pa_cons (pv 3) (pa_cons (pe_ty T.b_tuple bt_tuple) pa_nil)))) (pw_and (pt_chain op_lt op_lt pe_int (pe_callB (r := rLenG K) call_lenG (by rfl) T.b_len bt_len (pa_cons (pv 3) pa_nil)) pe_int) (pw_and1 (pt_val (pe_call G__law_is_word (hr.mono (by omega)) rfl T.d__law_is_word.g T.d__law_is_word.F.kp T.d__law_is_word.b .nil pass0 (pa_cons (pe_ix (r := rIx K) ix_seq (pv 3) pe_int (fun _ _ => rfl)) pa_nil))))))) (pss_one (ps_expr (pe_bm PySem.F.plainAttrs_list PySem.F.slot_list_extend PySem.F.type_list_extend (r := rExtG K) mt_extendG (pv 2) (pa_cons (pe_slice (r := rSlG K) sl_G (pv 3) (po_some pe_int) po_none) pa_nil)))) (pss_one (ps_if (pt_not (pt_val (pe_call G__law_is_whole (hr.mono (by omega)) rfl T.d__law_is_whole.g T.d__law_is_whole.F.kp T.d__law_is_whole.b .nil pass0 (pa_cons (pv 3) (pa_cons pe_int (pa_cons (pe_op op_sub (pv 1) pe_int) pa_nil)))))) (pss_one (ps_ret pe_bl)) pss_nil)))))) (pss_one (ps_ret pe_bl)))), ?_⟩
    refine ⟨v, rfl, (by decide : 1 ≤ sizeLine), fun l nl => ?_⟩
    refine ⟨fun m σ H2 => ∃ (ys : List V) (us : List Th) (y : Option V), σ = [some v, some (.int many), some (.ref l), y] ∧ H2 l = some (.lst ys) ∧ IsAll K b H ys us ∧ us.all (overT many) = overT many t ∧ Th.cnts us ≤ 90000 ∧ m = Th.cnts us ∧ Mv [] H H2,
      ⟨_, [v], [t], none, rfl, upd_same, IsAll.cons hv IsAll.nil, by simp, by simp only [Th.cnts]; omega, rfl, .new nl⟩, fun m σ H2 hW => ?_⟩
    obtain ⟨ys, us, y, rfl, e2, i2, s2, b2, rfl, m2⟩ := hW
    refine ⟨.ref l, rfl, Nat.zero_le _, fun q1 n1 => ⟨l, q1, ys, rfl, rfl, .inl (.inl (same_new n1 _ _ e2)), .inl (.inl upd_same), ?_⟩⟩
    have m23 : Mv [] H (upd H2 q1 (.lst [])) := m2.trans (.new n1)
    have e3 : upd H2 q1 (.lst []) l = some (.lst ys) := same_new n1 _ _ e2
    generalize upd H2 q1 (.lst []) = H3 at m23 e3 ⊢
    refine ⟨_, rfl, ?_⟩
    rcases List.eq_nil_or_concat us with rfl | ⟨us', u, rfl⟩
    · have hy : ys = [] := i2
      subst hy
      rw [show ([] : List Th).all (overT many) = true from rfl] at s2
      rw [← s2] at q
      exact q H3 m23
    · rw [List.concat_eq_append] at *
      obtain ⟨ys', z, rfl, i4, hz⟩ := IsAll.last rfl i2
      rw [show (!(ys' ++ [z]).isEmpty) = true by simp]
      refine ⟨fun σ' H' => ∃ m', m' < Th.cnts (us' ++ [u]) ∧ _, fun _ _ h => h, ?_⟩
      refine ⟨.ref l, rfl, .inl ⟨rfl, _, .inl (.inl e3)⟩, l, _, z, rfl, rfl, e3, by simp, ?_⟩
      have m25 : Mv [] H (upd H3 l (.lst (ys' ++ [z]).dropLast)) := m23.wr nl
      have e5 : upd H3 l (.lst (ys' ++ [z]).dropLast) l = some (.lst ys') := by rw [upd_same, List.dropLast_concat]
      generalize upd H3 l (.lst (ys' ++ [z]).dropLast) = H5 at m25 e5 ⊢
      rw [Th.cnts_append] at b2 ⊢
      rw [List.all_append] at s2
      have e1u : [u].all (overT many) = overT many u := by simp
      have c1u : Th.cnts [u] = u.cnt := by simp [Th.cnts]
      rw [e1u] at s2
      rw [c1u] at b2 ⊢
      have hpos := u.cnt_pos
      have hbad : overT many u = false → overT many t = false := fun e => by rw [← s2, e, Bool.and_false]
      refine ⟨z, rfl, ?_⟩
      walk_at "nn"
      refine rd_isi (hz.mv0 m25) (kit_tup u) ⟨_, rfl, ?_⟩
      cases u with
      | int i =>
        cases (show z = V.int i from hz)
        refine ⟨.int i, rfl, .int many, rfl, many, 1, rfl, rfl, .int i, .int i, b, 0, many - 1, rfl, rfl, fun H6 m6 => ⟨_, rfl, ?_⟩⟩
        rw [whole_in]
        have m26 := m25.trans m6
        have eo : overT many (.int i) = inPl many (.int i) := rfl
        cases hin : inPl many (.int i) with
        | false =>
          have e9 := hbad (by rw [eo, hin])
          rw [e9] at q
          exact q H6 m26
        | true =>
          refine ⟨Th.cnts us', by omega, ys', us', _, rfl, m6.same _ _ e5, i4, ?_, by omega, rfl, m26⟩
          rw [← s2, eo, hin, Bool.and_true]
      | tup ts =>
        have hz5 := hz.mv0 m25
        obtain ⟨a1, zs0, rfl, ha0, hzs0⟩ := id hz
        have ha1 := m25.sqT ha0
        have hl0 := hzs0.length
        have none_ : ∀ H6, Mv [] H5 H6 → overT many (.tup ts) = false → Is K b H6 (.ref a1) (.tup ts) ∧ ∀ H7, Mv [] H6 H7 → Q (.bl false) H7 := fun H6 m6 e => ⟨hz5.mv0 m6, fun H7 m7 => by
          have e9 := hbad e
          rw [e9] at q
          exact q H7 (m25.trans (m6.trans m7))⟩
        refine ⟨.ref a1, rfl, ?_⟩
        walk_at "nc"
        refine rd_len (.inr ha1) ⟨0, _, rfl, rfl, _, rfl, ite2 (fun e => ?_) (fun e => ?_)⟩
        · have h1 : 1 ≤ zs0.length := by have := of_decide_eq_true e; omega
          refine ⟨_, 5, rfl, rfl, _, rfl, ?_⟩
          by_cases h4 : zs0.length ≤ 4
          · rw [show decide (((zs0.length : Nat) : Int) < 5) = true from decide_eq_true (by omega)]
            cases ts with
            | nil => simp only [List.length_nil] at hl0; omega
            | cons t0 tr =>
              obtain ⟨z0, zs, rfl, hz0, hzs⟩ := hzs0
              simp only [List.length_cons] at hl0 h4
              refine ⟨.ref a1, rfl, rd_ixT ha1 (by decide) (v := z0) rfl ?_⟩
              refine ⟨z0, t0, b, rfl, hz0.mv0 m25, fun H7 m7 => ⟨_, rfl, ?_⟩⟩
              cases hn : isNamed t0 with
              | false =>
                obtain ⟨hi, hq⟩ := none_ H7 m7 (by rw [over_tup, hn, Bool.false_and])
                refine ⟨.ref a1, rfl, .int many, rfl, many, 1, rfl, rfl, .ref a1, _, b, 0, many - 1, rfl, hi, fun H8 m8 => ⟨_, rfl, hq H8 m8⟩⟩
              | true =>
                have m27 := m25.trans m7
                have e7 := m7.same _ _ e5
                refine ⟨.ref l, rfl, .inl ⟨rfl, _, .inl (.inl e7)⟩, .ref a1, rfl, 1, rfl, rd_sl1 (m7.sqT ha1) fun p8 H8 m8 e8 => ?_⟩
                have hl4 := i4.length
                have hc4 := Th.cnts_len us'
                simp only [Th.cnt, Th.cnts] at b2 ⊢
                have hpos0 := t0.cnt_pos
                have hczs := Th.cnts_len tr
                refine Or.inr ⟨l, p8, ys', zs, rfl, rfl, m8.same _ _ e7, e8, Nat.le_trans (show ys'.length + zs.length ≤ 100000 by omega) (by decide), ?_⟩
                refine ⟨Th.cnts (us' ++ tr), by rw [Th.cnts_append]; omega, ys' ++ zs, us' ++ tr, _, rfl, upd_same, i4.append hzs, ?_, by rw [Th.cnts_append]; omega, rfl, (m27.trans m8).wr nl⟩
                · rw [← s2, List.all_append, over_tup, hn, decide_eq_true (show tr.length ≤ 3 by omega)]
                  rfl
          · rw [show decide (((zs0.length : Nat) : Int) < 5) = false from decide_eq_false (by omega)]
            obtain ⟨hi, hq⟩ := none_ H5 .refl (by
              cases ts with
              | nil => rfl
              | cons t0 tr =>
                simp only [List.length_cons] at hl0
                rw [over_tup, decide_eq_false (show ¬ tr.length ≤ 3 by omega)]
                simp)
            exact ⟨.ref a1, rfl, .int many, rfl, many, 1, rfl, rfl, .ref a1, _, b, 0, many - 1, rfl, hi, fun H8 m8 => ⟨_, rfl, hq H8 m8⟩⟩
        · have h1 : zs0.length = 0 := by
            rcases Nat.eq_zero_or_pos zs0.length with h | h
            · exact h
            · exact absurd (decide_eq_true (show (0 : Int) < ((zs0.length : Nat) : Int) by omega)) e
          obtain ⟨hi, hq⟩ := none_ H5 .refl (by
            cases ts with
            | nil => rfl
            | cons t0 tr => simp only [List.length_cons] at hl0; omega)
          exact ⟨_, rfl, .ref a1, rfl, .int many, rfl, many, 1, rfl, rfl, .ref a1, _, b, 0, many - 1, rfl, hi, fun H8 m8 => ⟨_, rfl, hq H8 m8⟩⟩
      | _ =>
        refine ⟨z, rfl, .int many, rfl, many, 1, rfl, rfl, z, _, b, 0, many - 1, rfl, hz.mv0 m25, fun H6 m6 => ⟨_, rfl, ?_⟩⟩
        have e9 := hbad rfl
        rw [e9] at q
        exact q H6 (m25.trans m6)
end
end Fm
namespace Fm
open PySem PySem.Spec PyProof.Rows L2 SlX
local macro_rules | `(tactic| walk_at "nn") => `(tactic| dsimp only [tC, tNil, tCons, tCB, tCall, gName, tSeq, tAsg, tPar, tDrop, tRet])
local macro_rules | `(tactic| walk_at "nc") => `(tactic| dsimp only [tC, tNil, tCons, tCB, tCall])
def sp_lthing (K : PySem.W.Frag) (f : Int → Th → Bool) : Sp := fun vs H Q _ => ∃ (v : V) (t : Th) (b : Addr) (many : Int), vs = [v, .int many] ∧ Is K b H v t ∧ t.cnt ≤ 900 ∧ ∀ H', Mv [] H H' → Q (.bl (f many t)) H'
theorem paired_empty {Rel : V → Th → Prop} {p : Th → Bool} : ∀ {ys : List V} {ts : List Th}, Paired Rel ys (ts.filter fun t => !p t) → ys.isEmpty = ts.all p := by
  intro ys ts h
  have hl := paired_len h
  rw [all_filter p (id : Th → Th) ts, List.map_id]
  cases hf : ts.filter fun t => !p t with
  | nil =>
    rw [hf] at hl
    cases ys with
    | nil => rfl
    | cons _ _ => simp at hl
  | cons _ _ =>
    rw [hf] at hl
    cases ys with
    | nil => simp at hl
    | cons _ _ => rfl
section
variable {P : Program} {w : World} {K : PySem.W.Frag} {mg : Str → Option Value} {base : Heap}
theorem ok__law_are_terms (T : TX K mg) {k : Nat} : FnOk P w K mg base CX0 (k + 3) T.d__law_are_terms.f T.d__law_are_terms.fd P__law_are_terms (sp_lthing K termsT) := by
  have G__law_is_term : FnOk P w K mg base CX0 2 T.d__law_is_term.f T.d__law_is_term.fd P__law_is_term (sp_lterm K) := ok__law_is_term T
  refine T.d__law_are_terms.F.ok sc__law_are_terms (fun vs H Q E h => ?_) (fun cdv A outer s H vs Q E hr h => ?_)
  · obtain ⟨_, _, _, _, rfl, _⟩ := h
    rfl
  · obtain ⟨v, t, b, many, rfl, hv, hcn, q⟩ := h
    have hu65 := hu65_of hr
    refine ⟨_, (pss_one (ps_ret (pe_and (pe_callB (r := rIsi K) call_isi (by rfl) T.b_isinstance bt_isinstance (pa_cons (pv 0) (pa_cons (pe_ty T.b_tuple bt_tuple) pa_nil))) (pe_one (pe_cmpR (r := rEqNil K) (op_eqNil (Nat.lt_of_le_of_lt (Nat.le_add_right _ 65) hu65)) (pe_lc (own := [("_law_one", 2)]) (g := gName 2) (by rfl) sc__law_are_terms.nd (pi_seq (pv 0)) (blkOk_by (own := [("_law_one", 2)]) (N := N__law_are_terms) (sc := defScope s__law_are_terms) (by decide +kernel)) (fun _ _ _ _ _ => pg_name (i := 2) sc__law_are_terms.nd rfl (Or.inl rfl)) (fun _ _ _ _ _ => (pts_one (pt_not (pt_val (pe_call G__law_is_term (hr.mono (by omega)) rfl T.d__law_is_term.g T.d__law_is_term.F.kp T.d__law_is_term.b .nil pass0 (pa_cons (pv 2) (pa_cons (pv 1) pa_nil))))))) (fun _ _ _ _ _ => (pv 2))) (pe_lst pa_nil) (nomark _)))))), ?_⟩
    refine ⟨v, rfl, ?_⟩
    walk_at "nn"
    refine rd_isi hv (kit_tup t) ⟨_, rfl, ?_⟩
    cases t with
    | tup ts =>
      obtain ⟨a, xs, rfl, ha, hxs⟩ := hv
      simp only [Th.cnt] at hcn
      have hcl := Th.cnts_len ts
      refine ⟨.ref a, rfl, a, rfl, ?_⟩
      refine lc_th (K := K) (b := b) (fun t => !overT many t) (fun _ _ => True) (.inr ha) hxs (by omega) (fun x t H1 Q' R hm hx m1 k1 k2 => ?_) (fun D ys H1 nD e1 hp m1 => ?_)
      · refine ⟨rfl, x, rfl, .int many, rfl, x, t, b, many, rfl, hx.mv0 m1, ?_, fun H2 m2 => ⟨_, rfl, ?_⟩⟩
        · have := Th.cnt_of hm
          omega
        cases ho : overT many t with
        | true => exact k2 (by rw [ho]; rfl) H2 m2
        | false => exact ⟨x, rfl, k1 (by rw [ho]; rfl) x H2 trivial m2⟩
      · refine ⟨Nat.zero_le _, fun p np => ?_⟩
        refine ⟨D, p, ys, rfl, rfl, .inl (.inl (same_new np _ _ e1)), .inl (.inl upd_same), ?_⟩
        rw [paired_empty hp]
        exact q _ (m1.trans (.new np))
    | _ => exact q H .refl
end
end Fm
namespace Fm
open PySem PySem.Spec PyProof.Rows L2 SlX
local macro_rules | `(tactic| walk_at "nn") => `(tactic| dsimp only [tC, tNil, tCons, tCB, tCall, gName, tSeq, tAsg, tPar, tDrop, tRet])
local macro_rules | `(tactic| walk_at "nc") => `(tactic| dsimp only [tC, tNil, tCons, tCB, tCall])
theorem cutN_to (a : List Nat) (j : Nat) : cutS (SX.S a) none (some (j : Int)) = SX.S (a.take j) := by
  rw [C8.cutS_slice, SX.slice_to (by omega), Int.toNat_natCast]
theorem cutN_from (a : List Nat) (i : Nat) : cutS (SX.S a) (some (i : Int)) none = SX.S (a.drop i) := by
  rw [C8.cutS_slice, SX.slice_from (by omega), Int.toNat_natCast]
theorem cutN_nn (a : List Nat) (i j : Nat) : cutS (SX.S a) (some (i : Int)) (some (j : Int)) = SX.S ((a.drop i).take (j - i)) := by
  unfold cutS
  rw [HT.sIx_nat, HT.sIx_nat]
  refine TL.ext_tl ?_
  show _ = (a.drop i).take (j - i)
  have hl : (SX.S a).length = a.length := SX.S_len a
  rw [hl]
  have ha : (SX.S a).cps.toList = a := by simp
  simp only [ha, List.toList_toArray]
  by_cases h : i ≤ a.length
  · rw [Nat.min_eq_left h]
    by_cases h2 : j ≤ a.length
    · rw [Nat.min_eq_left h2]
    · rw [Nat.min_eq_right (by omega), List.take_of_length_le (by rw [List.length_drop]; omega), List.take_of_length_le (by rw [List.length_drop]; omega)]
  · rw [List.drop_of_length_le (by omega), List.drop_of_length_le (by omega)]
    simp
theorem word_get {l : List Nat} {i : Nat} (h : i < (wordL l).length) : ∃ c, l[i]? = some c ∧ isSg c = false := by
  have h1 := word_split l
  refine ⟨(wordL l)[i], ?_, ?_⟩
  · conv => lhs; rw [h1]
    rw [List.getElem?_append_left h, List.getElem?_eq_getElem h]
  · have : ∀ c ∈ wordL l, isSg c = false := by
      unfold wordL
      intro c hc
      have := List.all_takeWhile (p := fun c => !isSg c) (l := l)
      rw [List.all_eq_true] at this
      have := this c hc
      simpa using this
    exact this _ (List.getElem_mem h)
theorem word_end (l : List Nat) : ∀ c, l[(wordL l).length]? = some c → isSg c = true := by
  unfold wordL
  induction l with
  | nil => intro c h; cases h
  | cons d l ih =>
    intro c h
    rw [List.takeWhile_cons] at h
    split at h
    · exact ih c (by simpa using h)
    · rename_i hd
      have : d = c := by simpa using h
      rw [← this]
      simpa using hd
theorem word_le (l : List Nat) : (wordL l).length ≤ l.length := by
  have := congrArg List.length (word_split l)
  rw [List.length_append, List.length_drop] at this
  omega
theorem word_take (l : List Nat) : l.take (wordL l).length = wordL l := by
  have h := word_split l
  have : ∀ r : List Nat, (wordL l ++ r).take (wordL l).length = wordL l := fun r => List.take_left' rfl
  have h2 := this (l.drop (wordL l).length)
  rwa [← h] at h2
def sp_cutW : Sp := fun vs H Q _ => ∃ (l : List Nat) (at_ : Nat), vs = [wdV l, .int at_] ∧ l.length ≤ 20000 ∧ at_ ≤ l.length + 1 ∧ Q (wdV (wordL (l.drop at_))) H
def sp_lnum (K : PySem.W.Frag) : Sp := fun vs H Q _ => ∃ (w : List Nat), vs = [wdV w] ∧ w.length ≤ 20000 ∧ ∀ p H', H p = none → Mv [] H H' → H' p = some (.lst (match intI w with | some i => [.int i] | none => [])) → Q (.ref p) H'
section
variable {P : Program} {w : World} {K : PySem.W.Frag} {mg : Str → Option Value} {base : Heap}
theorem ok__law_cut_word (T : TX K mg) {k : Nat} : FnOk P w K mg base CX0 (k + 1) T.d__law_cut_word.f T.d__law_cut_word.fd P__law_cut_word sp_cutW := by
  refine T.d__law_cut_word.F.ok sc__law_cut_word (fun vs H Q E h => ?_) (fun cdv A outer s H vs Q E hr h => ?_)
  · obtain ⟨_, _, rfl, _⟩ := h
    rfl
  · obtain ⟨l, at_, rfl, hl, hat, q⟩ := h
    have hu65 := hu65_of hr
    refine ⟨_, (pss_cons (ps_set (i := 2) sc__law_cut_word.nd rfl (Or.inl rfl) (pv 1)) (pss_cons (ps_while PassesOwn.never (PW.pt (pw_and (pt_cmpR op_lt (pv 2) (pe_callB (r := rLenG K) call_lenG (by rfl) T.b_len bt_len (pa_cons (pv 0) pa_nil)) (nomark _)) (pw_and1 (pt_cmpR (r := rNotInG K) (op_notInG hu65) (pe_ix (r := rIx K) ix_seq (pv 0) (pv 2) (fun _ _ => rfl)) pe_str rfl)))) (pss_one (ps_aug (i := 2) sc__law_cut_word.nd rfl (Or.inl rfl) pe_int ip_add))) (pss_one (ps_ret (pe_slice (r := rSlG K) sl_G (pv 0) (po_some (pv 1)) (po_some (pv 2))))))), ?_⟩
    have hz : (SX.S l).length ≤ sizeLine := by
      rw [SX.S_len]
      exact Nat.le_trans hl (by decide)
    refine ⟨.int at_, rfl, ?_⟩
    have hle := word_le (l.drop at_)
    rw [List.length_drop] at hle
    refine ⟨fun m σ H2 => ∃ (j : Nat), σ = [some (wdV l), some (.int at_), some (.int ((at_ + j : Nat) : Int))] ∧ j ≤ (wordL (l.drop at_)).length ∧ m = l.length + 1 - (at_ + j) ∧ H2 = H, ⟨_, 0, by simp; rfl, Nat.zero_le _, rfl, rfl⟩, fun m σ H2 hW => ?_⟩
    obtain ⟨j, rfl, hj, rfl, rfl⟩ := hW
    have done : j = (wordL (l.drop at_)).length → rSlG K (wdV l) (some (at_ : Int)) (some ((at_ + j : Nat) : Int)) H2 (fun v H' => Q v H') := fun e => by
      refine Or.inr (Or.inr ⟨_, rfl, hz, ?_⟩)
      rw [cutN_nn, show at_ + j - at_ = j by omega, e, word_take]
      exact q
    refine ⟨.int ((at_ + j : Nat) : Int), rfl, wdV l, rfl, ?_⟩
    walk_at "nc"
    refine Or.inr (Or.inl ⟨_, rfl, hz, _, _, rfl, rfl, _, rfl, ?_⟩)
    rw [SX.S_len]
    by_cases hlt : at_ + j < l.length
    · rw [decide_eq_true (by omega : ((at_ + j : Nat) : Int) < (l.length : Int))]
      obtain ⟨c, hc⟩ : ∃ c, l[at_ + j]? = some c := ⟨_, List.getElem?_eq_getElem hlt⟩
      refine ⟨wdV l, rfl, .int ((at_ + j : Nat) : Int), rfl, Or.inr (Or.inr ⟨_, ((at_ + j : Nat) : Int), c, rfl, rfl, hz, atI_nat (j := at_ + j) (by simpa using hc), ?_⟩)⟩
      refine Or.inr ⟨c, _, rfl, rfl, _, rfl, ?_⟩
      rw [isSg_mem]
      have hcd : (l.drop at_)[j]? = some c := by rw [List.getElem?_drop]; exact hc
      by_cases hjl : j < (wordL (l.drop at_)).length
      · obtain ⟨c', hc', hs⟩ := word_get hjl
        rw [hcd] at hc'
        cases hc'
        rw [hs]
        refine ⟨fun σ' H' => ∃ m', m' < l.length + 1 - (at_ + j) ∧ _, fun _ _ h => h, ?_⟩
        refine ⟨.int ((at_ + j : Nat) : Int), rfl, _, 1, rfl, rfl, ?_⟩
        exact ⟨l.length + 1 - (at_ + (j + 1)), by omega, j + 1, by rw [show ((at_ + (j + 1) : Nat) : Int) = ((at_ + j : Nat) : Int) + 1 by omega]; rfl, hjl, rfl, rfl⟩
      · have e : j = (wordL (l.drop at_)).length := by omega
        have hs := word_end (l.drop at_) c (by rw [← e]; exact hcd)
        rw [hs]
        exact ⟨wdV l, rfl, .int at_, rfl, _, rfl, .int ((at_ + j : Nat) : Int), rfl, _, rfl, done e⟩
    · rw [decide_eq_false (by omega : ¬ ((at_ + j : Nat) : Int) < (l.length : Int))]
      have e : j = (wordL (l.drop at_)).length := by omega
      exact ⟨wdV l, rfl, .int at_, rfl, _, rfl, .int ((at_ + j : Nat) : Int), rfl, _, rfl, done e⟩
theorem all_nodig {l : List Nat} : ((l.filter fun c => !digC c).map fun c => V.str ⟨#[c]⟩).isEmpty = l.all digC := by
  induction l with
  | nil => rfl
  | cons c l ih =>
    rw [List.filter_cons, List.all_cons]
    cases h : digC c with
    | true => simpa [h] using ih
    | false => simp [h]
theorem ok__law_read_number (T : TX K mg) {k : Nat} : FnOk P w K mg base CX0 (k + 1) T.d__law_read_number.f T.d__law_read_number.fd P__law_read_number (sp_lnum K) := by
  refine T.d__law_read_number.F.ok sc__law_read_number (fun vs H Q E h => ?_) (fun cdv A outer s H vs Q E hr h => ?_)
  · obtain ⟨_, rfl, _⟩ := h
    rfl
  · obtain ⟨wd, rfl, hl, q⟩ := h
    have hu64 := hr.units
    have hu65 := hu65_of hr
    refine ⟨_, (pss_cons (ps_set (i := 1) sc__law_read_number.nd rfl (Or.inl rfl) (pe_slice (r := rSlG K) sl_G (pv 0) (po_some (pe_callTy call_int1 (by rfl) T.b_int bt_int (pa_cons (pe_cmpR (r := rEqG K) (op_eqG hu64) (pe_slice (r := rSlG K) sl_G (pv 0) po_none (po_some pe_int)) pe_str (nomark _)) pa_nil))) po_none)) (pss_cons (ps_if (PW.pt (pw_or (pt_not (pt_chain op_lt op_lt pe_int (pe_callB (r := rLenG K) call_lenG (by rfl) T.b_len bt_len (pa_cons (pv 1) pa_nil)) pe_int)) (pw_or1 (pt_cmpR (r := rNeNil K) (op_neNil (Nat.lt_of_le_of_lt (Nat.le_add_right _ 65) hu65)) (pe_lc (own := [("_law_sign", 2)]) (g := gName 2) (by rfl) sc__law_read_number.nd (pi_str (pv 1)) (blkOk_by (own := [("_law_sign", 2)]) (N := N__law_read_number) (sc := defScope s__law_read_number) (by decide +kernel)) (fun _ _ _ _ _ => pg_name (i := 2) sc__law_read_number.nd rfl (Or.inl rfl)) (fun _ _ _ _ _ => (pts_one (pt_cmpR (r := rNotInG K) (op_notInG hu65) (pv 2) pe_str rfl))) (fun _ _ _ _ _ => (pv 2))) (pe_lst pa_nil) (nomark _))))) (pss_one (ps_ret (pe_lst pa_nil))) pss_nil) (pss_one (ps_ret (pe_ifExp (pt_cmpR (r := rEqG K) (op_eqG hu64) (pe_callTy call_str_int (by rfl) T.b_str bt_str (pa_cons (pe_callTy call_int_str (by rfl) T.b_int bt_int (pa_cons (pv 0) pa_nil)) pa_nil)) (pv 0) (nomark _)) (pe_lst (pa_cons (pe_callTy call_int_str (by rfl) T.b_int bt_int (pa_cons (pv 0) pa_nil)) pa_nil)) (pe_lst pa_nil)))))), ?_⟩
    have hz : (SX.S wd).length ≤ sizeLine := by
      rw [SX.S_len]
      exact Nat.le_trans hl (by decide)
    have hdl : (digsI wd).length ≤ wd.length := by
      unfold digsI
      split
      · rw [List.length_drop]
        omega
      · exact Nat.le_refl _
    have hzd : (SX.S (digsI wd)).length ≤ sizeLine := by
      rw [SX.S_len]
      exact Nat.le_trans (Nat.le_trans hdl hl) (by decide)
    refine asg_mid (fun v H' => v = wdV (digsI wd) ∧ H' = H) (fun Q' qq => ?_) (fun v H1 h1 => ?_)
    · refine ⟨wdV wd, rfl, ?_⟩
      refine ⟨wdV wd, rfl, 1, rfl, Or.inr (Or.inr ⟨_, rfl, hz, Or.inl ⟨rfl, ?_⟩⟩)⟩
      rw [C8.cutS_slice, SX.slice_to (by decide), show decide (V.str (SX.S (wd.take (1 : Int).toNat)) = V.str (Str.ofString "-")) = decide (wd.take 1 = [45]) by rw [minus_S]; exact wd_eq]
      by_cases hm : wd.take 1 = [45]
      · rw [decide_eq_true hm]
        refine Or.inr ⟨_, rfl, 1, rfl, Or.inr (Or.inr ⟨_, rfl, hz, qq _ _ ⟨?_, rfl⟩⟩)⟩
        rw [C8.cutS_slice, SX.slice_from (by decide)]
        show wdV (wd.drop 1) = _
        unfold digsI
        rw [if_pos hm]
      · rw [decide_eq_false hm]
        refine Or.inr ⟨_, rfl, 0, rfl, Or.inr (Or.inr ⟨_, rfl, hz, qq _ _ ⟨?_, rfl⟩⟩)⟩
        rw [C8.cutS_slice, SX.slice_from (by decide)]
        show wdV (wd.drop 0) = _
        unfold digsI
        rw [if_neg hm]
        rfl
    obtain ⟨rfl, rfl⟩ := h1
    have hsz : (SX.S (digsI wd)).cps.size = (digsI wd).length := by simp
    have bad : digsOk wd = false → ∀ H', Mv [] H1 H' → ∀ p, H' p = none → Q (.ref p) (upd H' p (.lst [])) := fun hk H' m p np => by
      refine q p _ (m.free np) (m.trans (.new np)) ?_
      rw [upd_same, intI_digs hk]
    refine ⟨wdV (digsI wd), rfl, ?_⟩
    walk_at "nc"
    refine Or.inr (Or.inl ⟨_, rfl, hzd, 0, _, rfl, rfl, _, rfl, ?_⟩)
    rw [SX.S_len]
    by_cases h0 : 0 < (digsI wd).length
    rotate_left
    · rw [decide_eq_false (by omega : ¬ (0 : Int) < ((digsI wd).length : Int))]
      refine ⟨false, rfl, ⟨Nat.zero_le _, fun p np => bad (by unfold digsOk; rw [decide_eq_false h0]; simp) _ .refl p np⟩⟩
    rw [decide_eq_true (by omega : (0 : Int) < ((digsI wd).length : Int))]
    refine ⟨_, 41, rfl, rfl, _, rfl, ?_⟩
    by_cases h40 : (digsI wd).length ≤ 40
    rotate_left
    · rw [decide_eq_false (by omega : ¬ ((digsI wd).length : Int) < 41)]
      exact ⟨Nat.zero_le _, fun p np => bad (by unfold digsOk; rw [decide_eq_false h40]; simp) _ .refl p np⟩
    rw [decide_eq_true (by omega : ((digsI wd).length : Int) < 41)]
    refine ⟨wdV (digsI wd), rfl, _, rfl, fun D nD => ?_⟩
    refine lc_it walk_str (fun i H2 => H2 D = some (.lst ((((digsI wd).take i).filter fun c => !digC c).map fun c => V.str ⟨#[c]⟩)) ∧ Mv [] H1 H2) ⟨upd_same, .new nD⟩ (fun _ _ _ _ => trivial) (fun i y H2 H3 hi h2 hy => ?_) (fun H2 h2 => ?_)
    · obtain ⟨e2, m2⟩ := h2
      obtain ⟨rfl, c, hc, rfl⟩ := hy
      have hc' : (digsI wd)[i]? = some c := by simpa using hc
      refine ⟨rfl, .str ⟨#[c]⟩, rfl, Or.inr ⟨c, _, rfl, rfl, _, rfl, ?_⟩⟩
      rw [digC_mem]
      have htk : (digsI wd).take (i + 1) = (digsI wd).take i ++ [c] := by rw [List.take_add_one, hc']; rfl
      cases hin : (!digC c) with
      | false =>
        refine ⟨?_, m2⟩
        rw [htk, List.filter_append]
        simp only [List.filter_cons, hin, Bool.false_eq_true, if_false, List.filter_nil, List.append_nil]
        exact e2
      | true =>
        refine ⟨.str ⟨#[c]⟩, rfl, _, e2, ?_, ?_, m2.wr nD⟩
        · rw [List.length_map]
          have h3 : (((digsI wd).take i).filter fun c => !digC c).length ≤ ((digsI wd).take i).length := List.length_filter_le _ _
          rw [List.length_take] at h3
          exact small1000 (by omega)
        · rw [upd_same, htk, List.filter_append]
          simp only [List.filter_cons, hin, if_true, List.filter_nil, List.map_append, List.map_cons, List.map_nil]
    · obtain ⟨e2, m2⟩ := h2
      rw [hsz, List.take_length] at e2
      refine ⟨Nat.zero_le _, fun p np => ?_⟩
      refine ⟨D, p, _, rfl, rfl, .inl (.inl (same_new np _ _ e2)), .inl (.inl upd_same), ?_⟩
      have m3 : Mv [] H1 (upd H2 p (.lst [])) := m2.trans (.new np)
      generalize upd H2 p (.lst []) = H3 at m3 ⊢
      rw [all_nodig]
      have hok : digsOk wd = (digsI wd).all digC := by
        unfold digsOk
        rw [decide_eq_true h0, decide_eq_true h40]
        rfl
      refine ⟨_, rfl, ?_⟩
      rw [← hok]
      cases hk : digsOk wd with
      | false => exact ⟨Nat.zero_le _, fun p np => bad hk _ m3 p np⟩
      | true =>
        obtain ⟨hit, h640⟩ := digs_text hk
        have hlt := digs_lt hk
        have hnd : (intV wd).natAbs < 10 ^ 40 := by
          unfold intV
          split
          · rw [Int.natAbs_neg, Int.natAbs_natCast]
            exact hlt
          · rw [Int.natAbs_natCast]
            exact hlt
        refine ⟨wdV wd, rfl, _, _, rfl, hit, h640, intV wd, rfl, num_log hnd, wdV wd, rfl, Or.inl ⟨rfl, _, rfl, ?_⟩⟩
        have hsh := digs_show hk
        by_cases hc : ((toString (intV wd) : String) : Str) = SX.S wd
        · rw [decide_eq_true (congrArg V.str hc)]
          refine ⟨wdV wd, rfl, _, _, rfl, hit, h640, (by decide : 1 ≤ sizeLine), fun p np => ?_⟩
          refine q p _ (m3.free np) (m3.trans (.new np)) ?_
          rw [upd_same, hsh.mp hc]
        · rw [decide_eq_false fun z => hc (V.str.inj z)]
          refine ⟨Nat.zero_le _, fun p np => ?_⟩
          refine q p _ (m3.free np) (m3.trans (.new np)) ?_
          rw [upd_same]
          cases hI : intI wd with
          | none => rfl
          | some i =>
            obtain ⟨_, rfl⟩ := intI_some hI
            exact absurd (hsh.mpr hI) hc
end
end Fm
namespace Fm
open PySem PySem.Spec PyProof.Rows L2 SlX
local macro_rules | `(tactic| walk_at "nn") => `(tactic| dsimp only [tC, tNil, tCons, tCB, tCall, gName, tSeq, tAsg, tPar, tDrop, tRet])
local macro_rules | `(tactic| walk_at "nc") => `(tactic| dsimp only [tC, tNil, tCons, tCB, tCall])
theorem cnt_drop_le {l : List Nat} {a b c : Nat} (h : a ≤ b) : (l.drop b).count c ≤ (l.drop a).count c := by
  obtain ⟨k, rfl⟩ := Nat.exists_eq_add_of_le h
  rw [← List.drop_drop]
  exact (List.drop_sublist k (l.drop a)).count_le c
def sp_rdA (K : PySem.W.Frag) (m : Nat) : Sp := fun vs H Q _ => ∃ (l : List Nat) (at_ : Nat), vs = [wdV l, .int at_] ∧ l.length ≤ 900 ∧ at_ ≤ l.length + 1 ∧ (l.drop at_).count 40 ≤ m ∧ (rA (l.drop at_) = none → ∀ H', Mv [] H H' → Q .non H') ∧
  (∀ t r, rA (l.drop at_) = some (t, r) → ∀ p v H', Mv [] H H' → SqT K H' p [v, .int ((l.length - r.length : Nat) : Int)] → Im K H' v t.d → Q (.ref p) H')
def sp_rdP (K : PySem.W.Frag) (m : Nat) : Sp := fun vs H Q _ => ∃ (l : List Nat) (at_ : Nat), vs = [wdV l, .int at_] ∧ l.length ≤ 900 ∧ at_ ≤ l.length + 1 ∧ (l.drop at_).count 40 ≤ m ∧ (rP (l.drop at_) = none → ∀ H', Mv [] H H' → Q .non H') ∧
  (∀ ts r, rP (l.drop at_) = some (ts, r) → ∀ p g xs H', Mv [] H H' → SqT K H' p [.ref g, .int ((l.length - r.length : Nat) : Int)] → SqT K H' g xs → Ims K H' xs (Tm.ds ts) → Q (.ref p) H')
def sp_no : Sp := fun _ _ _ _ => False
theorem no_call {P : Program} {w : World} {K : PySem.W.Frag} {mg : Str → Option Value} {base : Heap} {k : Nat} {f : Addr} {fd : FuncData} {ps : List Str} : FnOk P w K mg base CX0 k f fd ps sp_no := ⟨fun _ _ _ _ h => h.elim, fun _ _ _ _ _ _ _ _ _ _ _ _ _ h => h.elim⟩
section
variable {P : Program} {w : World} {K : PySem.W.Frag} {mg : Str → Option Value} {base : Heap}
theorem ok_read_at_of (T : TX K mg) {k m : Nat} {spP : Sp} (h3 : 3 ≤ k) (G__law_read_parts : FnOk P w K mg base CX0 k T.d__law_read_parts.f T.d__law_read_parts.fd P__law_read_parts spP)
    (hP : ∀ (l : List Nat) (at_ : Nat) (H : Hp) (Q : VK) (E : XK), l.length ≤ 900 → at_ ≤ l.length → (l.drop at_).count 40 + 1 ≤ m → (rP (l.drop at_) = none → ∀ H', Mv [] H H' → Q .non H') →
      (∀ ts r, rP (l.drop at_) = some (ts, r) → ∀ p g xs H', Mv [] H H' → SqT K H' p [.ref g, .int ((l.length - r.length : Nat) : Int)] → SqT K H' g xs → Ims K H' xs (Tm.ds ts) → Q (.ref p) H') → spP [wdV l, .int at_] H Q E) :
    FnOk P w K mg base CX0 (k + 1) T.d__law_read_at.f T.d__law_read_at.fd P__law_read_at (sp_rdA K m) := by
  have G__law_cut_word : FnOk P w K mg base CX0 1 T.d__law_cut_word.f T.d__law_cut_word.fd P__law_cut_word sp_cutW := ok__law_cut_word (k := 0) T
  have G__law_read_number : FnOk P w K mg base CX0 1 T.d__law_read_number.f T.d__law_read_number.fd P__law_read_number (sp_lnum K) := ok__law_read_number (k := 0) T
  have G__law_is_word : FnOk P w K mg base CX0 1 T.d__law_is_word.f T.d__law_is_word.fd P__law_is_word (sp_kind K isNamed) := ok__law_is_word T
  refine T.d__law_read_at.F.ok sc__law_read_at (fun vs H Q E h => ?_) (fun cdv A outer s H vs Q E hr h => ?_)
  · obtain ⟨_, _, rfl, _⟩ := h
    rfl
  · obtain ⟨l, at_, rfl, hl, hat, hm, q0, q1⟩ := h
    have hu64 := hr.units
    have hu65 := hu65_of hr
    refine ⟨_, (pss_cons (ps_set (i := 2) sc__law_read_at.nd rfl (Or.inl rfl) (pe_call G__law_cut_word (hr.mono (by omega)) rfl T.d__law_cut_word.g T.d__law_cut_word.F.kp T.d__law_cut_word.b .nil pass0 (pa_cons (pv 0) (pa_cons (pv 1) pa_nil)))) (pss_cons (ps_set (i := 3) sc__law_read_at.nd rfl (Or.inl rfl) (pe_op (r := rAddG K) op_addG (pv 1) (pe_callB (r := rLenG K) call_lenG (by rfl) T.b_len bt_len (pa_cons (pv 2) pa_nil)))) (pss_cons (ps_if (PW.pt (pw_and (pt_cmpR (r := rNeG K) (op_neG hu64) (pe_slice (r := rSlG K) sl_G (pv 2) po_none (po_some pe_int)) pe_str (nomark _)) (pw_and1 (pt_cmpR (r := rInG K) (op_inG hu65) (pe_slice (r := rSlG K) sl_G (pv 2) po_none (po_some pe_int)) pe_str rfl)))) (pss_cons (ps_set (i := 4) sc__law_read_at.nd rfl (Or.inl rfl) (pe_call G__law_read_number (hr.mono (by omega)) rfl T.d__law_read_number.g T.d__law_read_number.F.kp T.d__law_read_number.b .nil pass0 (pa_cons (pv 2) pa_nil))) (pss_one (ps_ret (pe_ifExp (pt_cmpR (r := rNeNil K) (op_neNil (Nat.lt_of_le_of_lt (Nat.le_add_right _ 65) hu65)) (pv 4) (pe_lst pa_nil) (nomark _)) (pe_tup (pa_cons (pe_ix (r := rIx K) ix_seq (pv 4) pe_int (fun _ _ => rfl)) (pa_cons (pv 3) pa_nil))) pe_non)))) pss_nil) (pss_cons (ps_if (pt_not (pt_val (pe_call G__law_is_word (hr.mono (by omega)) rfl T.d__law_is_word.g T.d__law_is_word.F.kp T.d__law_is_word.b .nil pass0 (pa_cons (pv 2) pa_nil)))) (pss_one (ps_ret pe_non)) pss_nil) (pss_cons (ps_if (pt_cmpR (r := rNeG K) (op_neG hu64) (pe_slice (r := rSlG K) sl_G (pv 0) (po_some (pv 3)) (po_some (pe_op (r := rAddG K) op_addG (pv 3) pe_int))) pe_str (nomark _)) (pss_one (ps_ret (pe_tup (pa_cons (pe_tup (pa_cons (pv 2) pa_nil)) (pa_cons (pv 3) pa_nil))))) pss_nil) (pss_cons (ps_set (i := 5) sc__law_read_at.nd rfl (Or.inl rfl) (pe_call G__law_read_parts (hr.mono (by omega)) rfl T.d__law_read_parts.g T.d__law_read_parts.F.kp T.d__law_read_parts.b .nil pass0 (pa_cons (pv 0) (pa_cons (pe_op (r := rAddG K) op_addG (pv 3) pe_int) pa_nil)))) (pss_cons (ps_if (PW.pt (pw_or (pt_cmpR op_isN (pv 5) pe_non (nomark _)) (pw_or1 (pt_cmpR op_gt (pe_callB (r := rLenG K) call_lenG (by rfl) T.b_len bt_len (pa_cons (pe_ix (r := rIx K) ix_seq (pv 5) pe_int (fun _ _ => rfl)) pa_nil)) pe_int (nomark _))))) (pss_one (ps_ret pe_non)) pss_nil) (pss_one (ps_ret (pe_tup (pa_cons (pe_op (r := rAddG K) op_addG (pe_tup (pa_cons (pv 2) pa_nil)) (pe_ix (r := rIx K) ix_seq (pv 5) pe_int (fun _ _ => rfl))) (pa_cons (pe_ix (r := rIx K) ix_seq (pv 5) pe_int (fun _ _ => rfl)) pa_nil)))))))))))), ?_⟩
    have hz : (SX.S l).length ≤ sizeLine := by
      rw [SX.S_len]
      exact Nat.le_trans hl (by decide)
    refine ⟨wdV l, rfl, .int at_, rfl, l, at_, rfl, by omega, hat, ?_⟩
    rw [rA_eq] at q0 q1
    have hle := word_le (l.drop at_)
    rw [List.length_drop] at hle
    unfold bodyA at q0 q1
    generalize hW : wordL (l.drop at_) = W at q0 q1 hle ⊢
    have hzW : (SX.S W).length ≤ sizeLine := by
      rw [SX.S_len]
      exact Nat.le_trans (show W.length ≤ 20001 by omega) (by decide)
    refine ⟨.int at_, rfl, wdV W, rfl, ?_⟩
    walk_at "nc"
    refine Or.inr (Or.inl ⟨_, rfl, hzW, Or.inl ⟨_, _, rfl, rfl, ?_⟩⟩)
    rw [SX.S_len, show (fun i j : Int => V.int (i + j)) (at_ : Int) ((W.length : Nat) : Int) = V.int ((at_ + W.length : Nat) : Int) from congrArg V.int (Int.natCast_add _ _).symm]
    refine ⟨wdV W, rfl, 1, rfl, Or.inr (Or.inr ⟨_, rfl, hzW, Or.inl ⟨rfl, _, rfl, ?_⟩⟩)⟩
    rw [C8.cutS_slice, SX.slice_to (by decide), empty_wd, show decide (V.str (SX.S (W.take (1 : Int).toNat)) = wdV []) = decide (W.take 1 = []) from wd_eq]
    have no : isNamed (.str (SX.S W)) = false → (bodyA rP (l.drop at_) = none → ∀ H', Mv [] H H' → Q .non H') → True := fun _ _ => trivial
    have hwl : W.length ≤ 1000 := by omega
    have hIs : ∀ H, Is K 0 H (wdV W) (.str (SX.S W)) := fun H => ⟨rfl, by rw [SX.S_len]; exact hwl⟩
    cases W with
    | nil =>
      rw [show decide (([] : List Nat).take 1 = []) = true from rfl]
      refine ⟨wdV [], rfl, wdV [], .str (SX.S []), 0, rfl, hIs H, fun H1 m1 => ?_⟩
      rw [show isNamed (.str (SX.S [])) = false by decide +kernel]
      exact ⟨_, rfl, q0 rfl H1 m1⟩
    | cons c w' =>
      rw [show decide ((c :: w').take 1 = []) = false from rfl]
      refine ⟨wdV (c :: w'), rfl, 1, rfl, Or.inr (Or.inr ⟨_, rfl, hzW, ?_⟩)⟩
      rw [C8.cutS_slice, SX.slice_to (by decide), show SX.S ((c :: w').take (1 : Int).toNat) = (⟨#[c]⟩ : Str) from rfl]
      refine Or.inr ⟨c, _, rfl, rfl, _, rfl, ?_⟩
      rw [digC_mem]
      dsimp only at q0 q1
      rw [List.length_cons] at hle ⊢
      cases hc : digC c with
      | true =>
        rw [hc, if_pos rfl] at q0 q1
        have hI : intI (c :: w') = (natI (c :: w')).map Int.ofNat := by
          unfold intI
          split
          · rename_i ds heq
            cases heq
            exact absurd hc (by decide)
          · rfl
        refine ⟨wdV (c :: w'), rfl, c :: w', rfl, by omega, fun p H1 np m1 e1 => ?_⟩
        rw [hI] at e1
        refine ⟨.ref p, rfl, Nat.zero_le _, fun p2 np2 => ?_⟩
        have m2 : Mv [] H1 (upd H1 p2 (.lst [])) := .new np2
        have e2 := m2.same _ _ e1
        refine ⟨p, p2, _, rfl, rfl, .inl (.inl e2), .inl (.inl upd_same), ?_⟩
        generalize upd H1 p2 (.lst []) = H2 at m2 e2 ⊢
        cases hn : natI (c :: w') with
        | none =>
          exact ⟨_, rfl, q0 (by rw [hn]; rfl) H2 (m1.trans m2)⟩
        | some n =>
          rw [hn] at e2
          refine ⟨_, rfl, .ref p, rfl, rd_ixL (.inl (.inl e2)) (by decide) (v := .int (Int.ofNat n)) rfl ?_⟩
          refine ⟨_, rfl, (by decide : 2 ≤ sizeLine), fun p3 np3 => ?_⟩
          refine q1 _ _ (by rw [hn]; rfl) p3 (.int (Int.ofNat n)) _ ((m1.trans m2).trans (.new np3)) ?_ (.int _)
          rw [show ((l.length - ((l.drop at_).drop (w'.length + 1)).length : Nat) : Int) = ((at_ + (w'.length + 1) : Nat) : Int) by rw [List.length_drop, List.length_drop]; omega]
          exact .inl (.inl upd_same)
      | false =>
        rw [hc, if_neg (by simp)] at q0 q1
        refine ⟨wdV (c :: w'), rfl, wdV (c :: w'), .str (SX.S (c :: w')), 0, rfl, hIs H, fun H1 m1 => ?_⟩
        cases hn : nmd (SX.S (c :: w')) with
        | false =>
          rw [show isNamed (.str (SX.S (c :: w'))) = false from hn]
          exact ⟨_, rfl, q0 (by rw [hn]; rfl) H1 m1⟩
        | true =>
          rw [show isNamed (.str (SX.S (c :: w'))) = true from hn]
          rw [hn, if_pos rfl] at q0 q1
          refine ⟨_, rfl, ?_⟩
          have hdd : (l.drop at_).drop (w'.length + 1) = l.drop (at_ + (w'.length + 1)) := by rw [List.drop_drop]
          rw [hdd] at q0 q1
          generalize he : at_ + (w'.length + 1) = e at q0 q1 ⊢
          have hel : e ≤ l.length := by omega
          refine ⟨wdV l, rfl, .int ((e : Nat) : Int), rfl, _, rfl, .int ((e : Nat) : Int), rfl, Or.inl ⟨_, 1, rfl, rfl, _, rfl, Or.inr (Or.inr ⟨_, rfl, hz, ?_⟩)⟩⟩
          rw [show (e : Int) + 1 = ((e + 1 : Nat) : Int) by omega, cutN_nn, show e + 1 - e = 1 by omega]
          refine Or.inl ⟨rfl, _, rfl, ?_⟩
          rw [open_wd, show decide (V.str (SX.S ((l.drop e).take 1)) = wdV [40]) = decide ((l.drop e).take 1 = [40]) from wd_eq]
          by_cases h40 : (l.drop e).take 1 = [40]
          rotate_left
          · rw [decide_eq_false h40]
            have hr : (match l.drop e with
                | 40 :: r => match rP r with
                  | some (ts, r') => if ts.length ≤ 3 then some (Tm.op (SX.S (c :: w')) ts, r') else none
                  | none => none
                | r => some (Tm.op (SX.S (c :: w')) [], r)) = some (Tm.op (SX.S (c :: w')) [], l.drop e) := by
              split
              · rename_i r hr
                rw [hr] at h40
                exact absurd rfl h40
              · rfl
            refine ⟨wdV (c :: w'), rfl, (by decide : 1 ≤ sizeLine), fun p5 n5 => ?_⟩
            have k5 := Mv.new (S := []) (o := (.tup [wdV (c :: w')])) n5
            have e5 : SqT K (upd H1 p5 (.tup [wdV (c :: w')])) p5 [wdV (c :: w')] := .inl (.inl upd_same)
            generalize upd H1 p5 (.tup [wdV (c :: w')]) = H5 at k5 e5 ⊢
            have m5 := m1.trans k5
            refine ⟨_, rfl, (by decide : 2 ≤ sizeLine), fun p6 n6 => ?_⟩
            refine q1 _ _ hr p6 (.ref p5) _ (m5.trans (.new n6)) ?_ (Im.tup ((Mv.new (S := []) n6).sqT e5) (Ims.cons (.str _) Ims.nil))
            rw [show ((l.length - (l.drop e).length : Nat) : Int) = ((e : Nat) : Int) by rw [List.length_drop]; omega]
            exact .inl (.inl upd_same)
          · rw [decide_eq_true h40]
            obtain ⟨r, hr⟩ : ∃ r, l.drop e = 40 :: r := by
              cases h : l.drop e with
              | nil => rw [h] at h40; cases h40
              | cons d r =>
                rw [h] at h40
                have : d = 40 := by simpa using h40
                exact ⟨r, by rw [this]⟩
            have hr1 : l.drop (e + 1) = r := by
              rw [← List.drop_drop, hr]
              rfl
            have helt : e < l.length := by
              by_cases h : e < l.length
              · exact h
              · rw [List.drop_of_length_le (by omega)] at hr
                cases hr
            have hq0 : (match rP r with
                  | some (ts, r') => if ts.length ≤ 3 then some (Tm.op (SX.S (c :: w')) ts, r') else none
                  | none => none) = none → ∀ H', Mv [] H H' → Q .non H' := fun z => q0 (by rw [hr]; exact z)
            have hq1 : ∀ t r', (match rP r with
                  | some (ts, r') => if ts.length ≤ 3 then some (Tm.op (SX.S (c :: w')) ts, r') else none
                  | none => none) = some (t, r') → ∀ p v H', Mv [] H H' → SqT K H' p [v, .int ((l.length - r'.length : Nat) : Int)] → Im K H' v t.d → Q (.ref p) H' := fun t r' z => q1 t r' (by rw [hr]; exact z)
            clear q0 q1
            refine ⟨wdV l, rfl, .int ((e : Nat) : Int), rfl, Or.inl ⟨_, 1, rfl, rfl, ?_⟩⟩
            rw [show (fun i j : Int => V.int (i + j)) ((e : Nat) : Int) 1 = V.int ((e + 1 : Nat) : Int) from congrArg V.int (by omega)]
            have hcnt : (l.drop (e + 1)).count 40 + 1 ≤ m := by
              have h1 : (l.drop e).count 40 ≤ (l.drop at_).count 40 := cnt_drop_le (by omega)
              rw [hr, List.count_cons] at h1
              rw [hr1]
              simp at h1
              omega
            refine hP l (e + 1) H1 _ _ hl (by omega) hcnt (fun hn0 H2 m2 => ?_) (fun ts r' hs p g xs H2 m2 hp hg hxs => ?_)
            · rw [hr1] at hn0
              refine ⟨.non, rfl, rfl, _, rfl, ?_⟩
              rw [decide_eq_true rfl]
              exact hq0 (by rw [hn0]) H2 (m1.trans m2)
            · rw [hr1] at hs
              rw [hs] at hq0 hq1
              refine ⟨.ref p, rfl, rfl, _, rfl, ?_⟩
              rw [decide_eq_false (by simp)]
              refine ⟨.ref p, rfl, rd_ixT hp (by decide) (v := .ref g) rfl ?_⟩
              walk_at "nc"
              have hxl : xs.length = ts.length := by rw [hxs.length, Tm.ds_map, List.length_map]
              refine rd_len (.inr hg) ⟨_, 3, rfl, rfl, _, rfl, ?_⟩
              rw [hxl]
              by_cases h3 : ts.length ≤ 3
              rotate_left
              · rw [decide_eq_true (by omega : (3 : Int) < (ts.length : Int))]
                exact hq0 (if_neg h3) H2 (m1.trans m2)
              · rw [decide_eq_false (by omega : ¬ (3 : Int) < (ts.length : Int))]
                refine ⟨wdV (c :: w'), rfl, (by decide : 1 ≤ sizeLine), fun p7 n7 => ?_⟩
                have k7 := Mv.new (S := []) (o := (.tup [wdV (c :: w')])) n7
                have e7 : SqT K (upd H2 p7 (.tup [wdV (c :: w')])) p7 [wdV (c :: w')] := .inl (.inl upd_same)
                generalize upd H2 p7 (.tup [wdV (c :: w')]) = H7 at k7 e7 ⊢
                have m7 := m2.trans k7
                have hp7 := k7.sqT hp
                refine ⟨.ref p, rfl, rd_ixT hp7 (by decide) (v := .ref g) rfl ?_⟩
                refine rd_cat e7 (k7.sqT hg) (by rw [hxl, List.length_cons, List.length_nil]; exact Nat.le_trans (show 0 + 1 + ts.length ≤ 4 by omega) (by decide)) fun p8 H8 m8 e8 => ?_
                have hp8 := m8.sqT hp7
                refine ⟨.ref p, rfl, rd_ixT hp8 (by decide) (v := .int ((l.length - r'.length : Nat) : Int)) rfl ?_⟩
                refine ⟨(by decide : 2 ≤ sizeLine), fun p9 n9 => ?_⟩
                have m9 : Mv [] H8 (upd H8 p9 (.tup [.ref p8, .int ((l.length - r'.length : Nat) : Int)])) := .new n9
                exact hq1 _ _ (if_pos h3) p9 (.ref p8) _ (m1.trans (m7.trans (m8.trans m9))) (.inl (.inl upd_same)) (Im.tup (m9.sqT e8) (Ims.cons (.str _) (((hxs.mv k7).mv m8).mv m9)))
end
end Fm
namespace Fm
open PySem PySem.Spec PyProof.Rows L2 SlX
local macro_rules | `(tactic| walk_at "nn") => `(tactic| dsimp only [tC, tNil, tCons, tCB, tCall, gName, tSeq, tAsg, tPar, tDrop, tRet])
local macro_rules | `(tactic| walk_at "nc") => `(tactic| dsimp only [tC, tNil, tCons, tCB, tCall])
def conP (us : List Tm) (o : Option (List Tm × List Nat)) : Option (List Tm × List Nat) := o.map fun q => (us ++ q.1, q.2)
theorem rA_drop {l : List Nat} {a : Nat} {t : Tm} {r : List Nat} (h : rA (l.drop a) = some (t, r)) : a < l.length ∧ r = l.drop (l.length - r.length) ∧ a < l.length - r.length ∧ r.length ≤ l.length := by
  obtain ⟨h1, h2⟩ := rdA_rest h
  rw [List.length_drop] at h1 h2
  rw [List.drop_drop] at h2
  refine ⟨by omega, ?_, by omega, by omega⟩
  rw [show l.length - r.length = a + (l.length - a - r.length) by omega]
  exact h2
section
variable {P : Program} {w : World} {K : PySem.W.Frag} {mg : Str → Option Value} {base : Heap}
theorem ok_read_parts_of (T : TX K mg) {k m : Nat} (G__law_read_at : FnOk P w K mg base CX0 k T.d__law_read_at.f T.d__law_read_at.fd P__law_read_at (sp_rdA K m)) :
    FnOk P w K mg base CX0 (k + 1) T.d__law_read_parts.f T.d__law_read_parts.fd P__law_read_parts (sp_rdP K m) := by
  refine T.d__law_read_parts.F.ok sc__law_read_parts (fun vs H Q E h => ?_) (fun cdv A outer s H vs Q E hr h => ?_)
  · obtain ⟨_, _, rfl, _⟩ := h
    rfl
  · obtain ⟨l, at_, rfl, hl, hat, hm, q0, q1⟩ := h
    have hu64 := hr.units
    have hu65 := hu65_of hr
    refine ⟨_, (pss_cons (ps_asg (pe_tup (pa_cons (pe_tup pa_nil) (pa_cons pe_str pa_nil))) (pg_tup rfl (pgs_cons (pg_name (i := 2) sc__law_read_parts.nd rfl (Or.inl rfl)) (pgs_cons (pg_name (i := 3) sc__law_read_parts.nd rfl (Or.inl rfl)) pgs_nil)))) (pss_cons (ps_while PassesOwn.never (pt_cmpR (r := rEqG K) (op_eqG hu64) (pv 3) pe_str (nomark _)) (pss_cons (ps_set (i := 4) sc__law_read_parts.nd rfl (Or.inl rfl) (pe_call G__law_read_at (hr.mono (by omega)) rfl T.d__law_read_at.g T.d__law_read_at.F.kp T.d__law_read_at.b .nil pass0 (pa_cons (pv 0) (pa_cons (pv 1) pa_nil)))) (pss_cons (ps_if (pt_cmpR op_isN (pv 4) pe_non (nomark _)) (pss_one (ps_ret pe_non)) pss_nil) (pss_cons (ps_par (i := 2) (j := 1) rfl sc__law_read_parts.nd rfl rfl (by decide) rfl rfl (pa_cons (pe_op (r := rAddG K) op_addG (pv 2) (pe_tup (pa_cons (pe_ix (r := rIx K) ix_seq (pv 4) pe_int (fun _ _ => rfl)) pa_nil))) (pa_cons (pe_op (r := rAddG K) op_addG (pe_ix (r := rIx K) ix_seq (pv 4) pe_int (fun _ _ => rfl)) pe_int) pa_nil)) rfl) (pss_one (ps_set (i := 3) sc__law_read_parts.nd rfl (Or.inl rfl) (pe_slice (r := rSlG K) sl_G (pv 0) (po_some (pe_op op_sub (pv 1) pe_int)) (po_some (pv 1))))))))) (pss_one (ps_ret (pe_ifExp (pt_cmpR (r := rEqG K) (op_eqG hu64) (pv 3) pe_str (nomark _)) (pe_tup (pa_cons (pv 2) (pa_cons (pv 1) pa_nil))) pe_non))))), ?_⟩
    have hz : (SX.S l).length ≤ sizeLine := by
      rw [SX.S_len]
      exact Nat.le_trans hl (by decide)
    refine ⟨Nat.zero_le _, fun p0 n0 => ?_⟩
    have k0 := Mv.new (S := []) (o := (.tup [])) n0
    have e0 : SqT K (upd H p0 (.tup [])) p0 [] := .inl (.inl upd_same)
    generalize upd H p0 (.tup []) = H0 at k0 e0 ⊢
    have m0 := k0
    refine ⟨(by decide : 2 ≤ sizeLine), fun p1 n1 => ?_⟩
    have k1 := Mv.new (S := []) (o := (.tup [.ref p0, .str (Str.ofString ",")])) n1
    have e1 : SqT K (upd H0 p1 (.tup [.ref p0, .str (Str.ofString ",")])) p1 [.ref p0, .str (Str.ofString ",")] := .inl (.inl upd_same)
    generalize upd H0 p1 (.tup [.ref p0, .str (Str.ofString ",")]) = H1 at k1 e1 ⊢
    have m1 := k0.trans k1
    refine ⟨p1, _, rfl, e1, rfl, _, _, rfl, _, _, rfl, rfl, ?_⟩
    refine ⟨fun m' σ H2 => ∃ (a2 : Nat) (g : Addr) (xs : List V) (us : List Tm) (sg : List Nat) (y4 : Option V), σ = [some (wdV l), some (.int a2), some (.ref g), some (wdV sg), y4] ∧ SqT K H2 g xs ∧ Ims K H2 xs (Tm.ds us) ∧ Mv [] H H2 ∧ at_ ≤ a2 ∧ a2 ≤ l.length + 1 ∧ us.length ≤ a2 ∧ m' = l.length + 3 - a2 ∧
      ((sg = [44] ∧ rP (l.drop at_) = conP us (rP (l.drop a2))) ∨ (sg = [41] ∧ rP (l.drop at_) = some (us, l.drop a2) ∧ a2 ≤ l.length) ∨ (sg ≠ [44] ∧ sg ≠ [41] ∧ rP (l.drop at_) = none)), ⟨_, at_, p0, [], [], [44], none, ?_, k1.sqT e0, Ims.nil, m1, Nat.le_refl _, hat, Nat.zero_le _, rfl, .inl ⟨rfl, ?_⟩⟩, fun m' σ H2 hW => ?_⟩
    · show _ = [some (wdV l), some (.int at_), some (.ref p0), some (wdV [44]), none]
      rw [← comma_wd]
      rfl
    · cases rP (l.drop at_) <;> rfl
    obtain ⟨a2, g, xs, us, sg, y4, rfl, hg, hxs, m2, h1, h2, h3, rfl, hcase⟩ := hW
    refine ⟨wdV sg, rfl, Or.inl ⟨rfl, _, rfl, ?_⟩⟩
    rw [comma_wd, wd_eq]
    by_cases hs : sg = [44]
    · rw [decide_eq_true hs]
      have hrp : rP (l.drop at_) = conP us (rP (l.drop a2)) := by
        rcases hcase with ⟨_, h⟩ | ⟨h, _⟩ | ⟨h, _⟩
        · exact h
        · rw [hs] at h
          cases h
        · exact absurd hs h
      rw [rP_eq (l.drop a2)] at hrp
      refine ⟨fun σ' H' => ∃ m', m' < l.length + 3 - a2 ∧ _, fun _ _ h => h, ?_⟩
      refine ⟨wdV l, rfl, .int a2, rfl, l, a2, rfl, hl, h2, Nat.le_trans (cnt_drop_le h1) hm, fun hn H3 m3 => ?_, fun t r ht p v H3 m3 hp hv => ?_⟩
      · refine ⟨.non, rfl, rfl, _, rfl, ?_⟩
        rw [decide_eq_true rfl]
        refine q0 ?_ H3 (m2.trans m3)
        rw [hrp, hn]
        rfl
      · obtain ⟨d1, d2, d3, d4⟩ := rA_drop ht
        rw [ht] at hrp
        refine ⟨.ref p, rfl, rfl, _, rfl, ?_⟩
        rw [decide_eq_false (by simp)]
        refine ⟨.ref g, rfl, .ref p, rfl, rd_ixT hp (by decide) (v := v) rfl ⟨(by decide : 1 ≤ sizeLine), fun p4 n4 => ?_⟩⟩
        have k4 := Mv.new (S := []) (o := (.tup [v])) n4
        have e4 : SqT K (upd H3 p4 (.tup [v])) p4 [v] := .inl (.inl upd_same)
        generalize upd H3 p4 (.tup [v]) = H4 at k4 e4 ⊢
        have m4 := m3.trans k4
        have hxl : xs.length = us.length := by rw [hxs.length, Tm.ds_map, List.length_map]
        refine rd_cat (m4.sqT hg) e4 (by rw [hxl, List.length_cons, List.length_nil]; exact Nat.le_trans (show us.length + (0 + 1) ≤ 1000 by omega) (by decide)) fun p5 H5 m5 e5 => ?_
        have hp5 := (k4.trans m5).sqT hp
        generalize he : l.length - r.length = e at hp5 d2 d3
        refine ⟨.ref p, rfl, rd_ixT hp5 (by decide) (v := .int ((e : Nat) : Int)) rfl (Or.inl ⟨_, 1, rfl, rfl, ?_⟩)⟩
        rw [show (fun i j : Int => V.int (i + j)) ((e : Nat) : Int) 1 = V.int ((e + 1 : Nat) : Int) from congrArg V.int (by omega)]
        refine ⟨_, _, rfl, ?_⟩
        refine ⟨wdV l, rfl, .int ((e + 1 : Nat) : Int), rfl, _, 1, rfl, rfl, _, rfl, .int ((e + 1 : Nat) : Int), rfl, _, rfl, Or.inr (Or.inr ⟨_, rfl, hz, ?_⟩)⟩
        rw [show ((e + 1 : Nat) : Int) - 1 = ((e : Nat) : Int) by omega, cutN_nn, show e + 1 - e = 1 by omega, ← d2]
        have mm := m2.trans (m4.trans m5)
        refine ⟨l.length + 3 - (e + 1), by omega, e + 1, p5, _, us ++ [t], r.take 1, _, rfl, e5, ?_, mm, by omega, by omega, by rw [List.length_append, List.length_cons, List.length_nil]; omega, rfl, ?_⟩
        · rw [Tm.ds_append]
          exact (hxs.mv (m4.trans m5)).append (Ims.cons (hv.mv (k4.trans m5)) Ims.nil)
        · have hr1 : l.drop (e + 1) = r.drop 1 := by rw [d2, List.drop_drop]
          rw [hr1, hrp]
          cases r with
          | nil => exact .inr (.inr ⟨by simp, by simp, rfl⟩)
          | cons c r' =>
            have hel : e + 1 ≤ l.length := by
              rw [List.length_cons] at he d4
              omega
            by_cases h44 : c = 44
            · subst h44
              refine .inl ⟨rfl, ?_⟩
              show conP us (match rP r' with
                | some (ts, r'') => some (t :: ts, r'')
                | none => none) = conP (us ++ [t]) (rP r')
              cases rP r' with
              | none => rfl
              | some q =>
                obtain ⟨ts, r''⟩ := q
                simp [conP]
            · by_cases h41 : c = 41
              · subst h41
                exact .inr (.inl ⟨rfl, rfl, hel⟩)
              · refine .inr (.inr ⟨by simpa using h44, by simpa using h41, ?_⟩)
                show conP us (bodyP (some (t, c :: r')) rP) = none
                have : bodyP (some (t, c :: r')) rP = none := by
                  unfold bodyP
                  dsimp only
                  split
                  · rename_i r0 heq
                    cases heq
                    exact absurd rfl h44
                  · rename_i r0 heq
                    cases heq
                    exact absurd rfl h41
                  · rfl
                rw [this]
                rfl
    · rw [decide_eq_false hs]
      refine ⟨wdV sg, rfl, Or.inl ⟨rfl, _, rfl, ?_⟩⟩
      rw [close_wd, wd_eq]
      rcases hcase with ⟨h, _⟩ | ⟨h, hrp, ha⟩ | ⟨_, h, hrp⟩
      · exact absurd h hs
      · rw [decide_eq_true h]
        refine ⟨.ref g, rfl, .int a2, rfl, (by decide : 2 ≤ sizeLine), fun p5 n5 => ?_⟩
        have k5 := Mv.new (S := []) (o := (.tup [.ref g, .int a2])) n5
        have e5 : SqT K (upd H2 p5 (.tup [.ref g, .int a2])) p5 [.ref g, .int a2] := .inl (.inl upd_same)
        generalize upd H2 p5 (.tup [.ref g, .int a2]) = H5 at k5 e5 ⊢
        have m5 := m2.trans k5
        refine q1 us _ hrp p5 g xs H5 m5 ?_ (k5.sqT hg) (hxs.mv k5)
        rw [show ((l.length - (l.drop a2).length : Nat) : Int) = (a2 : Int) by rw [List.length_drop]; omega]
        exact e5
      · rw [decide_eq_false h]
        exact q0 hrp H2 m2
theorem ok_rd (T : TX K mg) : ∀ m : Nat, FnOk P w K mg base CX0 (2 * m + 4) T.d__law_read_at.f T.d__law_read_at.fd P__law_read_at (sp_rdA K m) ∧ FnOk P w K mg base CX0 (2 * m + 5) T.d__law_read_parts.f T.d__law_read_parts.fd P__law_read_parts (sp_rdP K m)
  | 0 => by
    have h : FnOk P w K mg base CX0 4 T.d__law_read_at.f T.d__law_read_at.fd P__law_read_at (sp_rdA K 0) := ok_read_at_of T (k := 3) (spP := sp_no) (by decide) no_call fun l a H Q E h1 h2 h3 => by omega
    exact ⟨h, ok_read_parts_of T h⟩
  | m + 1 => by
    have hp := (ok_rd T m).2
    have h : FnOk P w K mg base CX0 (2 * (m + 1) + 4) T.d__law_read_at.f T.d__law_read_at.fd P__law_read_at (sp_rdA K (m + 1)) := ok_read_at_of T (k := 2 * m + 5) (by omega) hp fun l a H Q E h1 h2 h3 g0 g1 => ⟨l, a, rfl, h1, by omega, by omega, g0, g1⟩
    exact ⟨h, ok_read_parts_of T h⟩
end
end Fm
namespace Fm
open PySem PySem.Spec PyProof.Rows L2
theorem lc_fm {α : Type} {K : PySem.W.Frag} {a : Addr} {xs : List V} {as : List α} {enc : α → PyData} {g : TG} {tt : TT} {te : TE} {vs : List Nat} {σ : L2.St} {H : Hp} {Qd : Addr → Hp → Prop} (f : α → Option PyData) (hS : SqL K H a xs ∨ SqT K H a xs) (hds : Ims K H xs (as.map enc)) (hlen : as.length ≤ 10000)
    (hs : ∀ x e H' (Q : VK) (R : Hp → Prop), e ∈ as → Im K H' x (enc e) → Mv [] H H' → (∀ d, f e = some d → ∀ y H4, Mv [] H' H4 → Im K H4 y d → Q y H4) → (f e = none → ∀ H3, Mv [] H' H3 → R H3) →
      g x (wipe σ vs) H' fun σ2 H2 => wipe σ2 vs = wipe σ vs ∧ tt σ2 H2 fun b H3 => if b = true then te σ2 H3 Q else R H3)
    (hd : ∀ D ys H', H D = none → H' D = some (.lst ys) → Ims K H' ys (as.filterMap f) → Mv [] H H' → Qd D H') :
    ((∃ xs, SqL K H a xs) ∧ ∀ D, H D = none → ∃ W : Nat → Nat → Hp → Prop, (∃ m, W 0 m (upd H D (.lst []))) ∧ ∀ i m H, W i m H →
      ((Itl K a).stop i H ∧ Qd D H) ∨ ((Itl K a).go i H ∧ ∃ Nx : Hp → Prop, (∀ H', Nx H' → ∃ m', m' < m ∧ W (i + 1) m' H') ∧ ∀ x H', (Itl K a).yld i H x H' → g x (wipe σ vs) H' fun σ2 H2 => wipe σ2 vs = wipe σ vs ∧ tt σ2 H2 fun b H3 =>
        if b = true then te σ2 H3 fun y H4 => ∃ acc, H4 D = some (.lst acc) ∧ acc.length < sizeLine ∧ Nx (upd H4 D (.lst (acc ++ [y]))) else Nx H3)) ∨
    ((∃ xs, SqT K H a xs) ∧ ∀ D, H D = none → ∃ W : Nat → Nat → Hp → Prop, (∃ m, W 0 m (upd H D (.lst []))) ∧ ∀ i m H, W i m H →
      ((Itt K a).stop i H ∧ Qd D H) ∨ ((Itt K a).go i H ∧ ∃ Nx : Hp → Prop, (∀ H', Nx H' → ∃ m', m' < m ∧ W (i + 1) m' H') ∧ ∀ x H', (Itt K a).yld i H x H' → g x (wipe σ vs) H' fun σ2 H2 => wipe σ2 vs = wipe σ vs ∧ tt σ2 H2 fun b H3 =>
        if b = true then te σ2 H3 fun y H4 => ∃ acc, H4 D = some (.lst acc) ∧ acc.length < sizeLine ∧ Nx (upd H4 D (.lst (acc ++ [y]))) else Nx H3)) := by
  have hxl := hds.length
  rw [List.length_map] at hxl
  refine lc_seq hS (fun i D H1 => ∃ ys, H1 D = some (.lst ys) ∧ Ims K H1 ys ((as.take i).filterMap f) ∧ Mv [] H H1)
    (fun D nD => ⟨[], upd_same, .nil, .new nD⟩) (fun i D H1 nD h1 => h1.choose_spec.2.2) (fun D nD i x H1 hx h1 => ?_) (fun D H1 nD h1 => ?_)
  · obtain ⟨ys, e1, i1, m1⟩ := h1
    obtain ⟨dd, hdd, him⟩ := hds.get hx
    rw [List.getElem?_map] at hdd
    obtain ⟨e, he, rfl⟩ := Option.map_eq_some_iff.mp hdd
    have hil := (List.getElem?_eq_some_iff.mp he).1
    have htk : as.take (i + 1) = as.take i ++ [e] := by rw [List.take_add_one, he]; rfl
    refine hs x e H1 _ _ (List.mem_of_getElem? he) (him.mv m1) m1 (fun d hfd y H4 m4 hy => ?_) (fun hfn H3 m3 => ?_)
    · have e4 := m4.same _ _ e1
      refine ⟨ys, e4, ?_, ys ++ [y], upd_same, ?_, (m1.trans m4).wr nD⟩
      · rw [i1.length]
        have h3 : ((as.take i).filterMap f).length ≤ (as.take i).length := List.length_filterMap_le _ _
        rw [List.length_take] at h3
        exact Nat.lt_of_le_of_lt (show _ ≤ 10000 by omega) (by decide)
      · have : (as.take (i + 1)).filterMap f = (as.take i).filterMap f ++ [d] := by
          rw [htk, List.filterMap_append]
          simp [hfd]
        rw [this]
        exact ((i1.mv m4).append (.cons hy .nil)).mv (Mv.set (S := [D]) e4 (by simp))
    · have : (as.take (i + 1)).filterMap f = (as.take i).filterMap f := by
        rw [htk, List.filterMap_append]
        simp [hfn]
      refine ⟨ys, m3.same _ _ e1, ?_, m1.trans m3⟩
      rw [this]
      exact i1.mv m3
  · obtain ⟨ys, e1, i1, m1⟩ := h1
    rw [hxl, List.take_length] at i1
    exact hd D ys H1 nD e1 i1 m1
end Fm
namespace Fm
open PySem PySem.Spec PyProof.Rows L2 SlX
local macro_rules | `(tactic| walk_at "nn") => `(tactic| dsimp only [tC, tNil, tCons, tCB, tCall, gName, tSeq, tAsg, tPar, tDrop, tRet])
local macro_rules | `(tactic| walk_at "nc") => `(tactic| dsimp only [tC, tNil, tCons, tCB, tCall])
mutual
theorem dep_cx {R : Int → Prop} : ∀ t : Tm, t.ok R → 2 * t.dep ≤ t.cx.length + 1
  | .var i, _ => by simp [Tm.dep]
  | .op x [], h => by
    have := List.length_pos_iff.mpr (name_sgs h.1).2
    simp only [Tm.dep, Tm.deps, Tm.cx, List.length_append]
    omega
  | .op x (t :: ts), h => by
    have h1 := List.length_pos_iff.mpr (name_sgs h.1).2
    have h2 := dep_cxP (t :: ts) h.2.2
    simp only [Tm.dep, Tm.cx, List.length_append]
    simp only [Tm.cxP, List.length_cons, List.length_append] at h2 ⊢
    omega
theorem dep_cxP {R : Int → Prop} : ∀ ts : List Tm, Tm.oks R ts → 2 * Tm.deps ts ≤ (Tm.cxP ts).length
  | [], _ => by simp [Tm.deps]
  | t :: ts, h => by
    have h1 := dep_cx t h.1
    have h2 := dep_cxs ts h.2
    simp only [Tm.deps, Tm.cxP, List.length_cons, List.length_append]
    omega
theorem dep_cxs {R : Int → Prop} : ∀ ts : List Tm, Tm.oks R ts → 2 * Tm.deps ts ≤ (Tm.cxs ts).length
  | [], _ => by simp [Tm.deps]
  | t :: ts, h => by
    have h1 := dep_cx t h.1
    have h2 := dep_cxs ts h.2
    simp only [Tm.deps, Tm.cxs, List.length_cons, List.length_append]
    omega
end
mutual
theorem dep_cnt : ∀ t : Tm, t.dep ≤ t.cx.count 40 + 1
  | .var i => by simp [Tm.dep]
  | .op x ts => by
    have := dep_cntP ts
    rw [Tm.cx, List.count_append]
    simp only [Tm.dep]
    omega
theorem dep_cntP : ∀ ts : List Tm, Tm.deps ts ≤ (Tm.cxP ts).count 40
  | [] => by simp [Tm.deps]
  | t :: ts => by
    have h1 := dep_cnt t
    have h2 := dep_cntS ts
    simp only [Tm.cxP, Tm.deps, List.count_cons, List.count_append]
    simp
    omega
theorem dep_cntS : ∀ ts : List Tm, Tm.deps ts ≤ (Tm.cxs ts).count 40 + 1
  | [] => by simp [Tm.deps]
  | t :: ts => by
    have h1 := dep_cnt t
    have h2 := dep_cntS ts
    simp only [Tm.cxs, Tm.deps, List.count_cons, List.count_append]
    simp
    omega
end
theorem rA_ok {l : List Nat} {t : Tm} {r : List Nat} (h : rA l = some (t, r)) : t.ok Q40 ∧ t.cx.length ≤ l.length ∧ t.cx.count 40 ≤ l.count 40 := by
  obtain ⟨h1, h2⟩ := rdA_inv _ l t r h
  refine ⟨h2, ?_, ?_⟩
  · rw [h1, List.length_append]
    omega
  · rw [h1, List.count_append]
    omega
theorem rP_ok {l : List Nat} {ts : List Tm} {r : List Nat} (h : rP l = some (ts, r)) : Tm.oks Q40 ts ∧ (Tm.cxP ts).length ≤ l.length + 1 ∧ (Tm.cxP ts).count 40 ≤ l.count 40 + 1 := by
  obtain ⟨⟨h1, _⟩, h2⟩ := rdP_inv _ l ts r h
  refine ⟨h2, ?_, ?_⟩
  · have := congrArg List.length h1
    rw [List.length_append, List.length_cons] at this
    omega
  · have := congrArg (List.count 40) h1
    rw [List.count_append, List.count_cons] at this
    simp at this
    omega
theorem oks_true {R : Int → Prop} {ts : List Tm} (h : Tm.oks R ts) : Tm.oks (fun _ => True) ts := Tm.oks_mono (fun _ _ => trivial) ts h
def sp_lrT (K : PySem.W.Frag) (m : Nat) : Sp := fun vs H Q _ => ∃ (l : List Nat), vs = [wdV l] ∧ l.length ≤ 900 ∧ l.count 40 ≤ m ∧ ∀ p xs H', H p = none → Mv [] H H' → H' p = some (.lst xs) → Ims K H' xs ((lawT (l.length + 1) l).toList.map Tm.d) → Q (.ref p) H'
def sp_lrL (K : PySem.W.Frag) (m : Nat) : Sp := fun vs H Q _ => ∃ (l : List Nat), vs = [wdV l] ∧ l.length ≤ 900 ∧ l.count 40 ≤ m ∧ ∀ p xs H', H p = none → Mv [] H H' → H' p = some (.lst xs) → Ims K H' xs ((lawL (l.length + 2) l).toList.map tsD) → Q (.ref p) H'
section
variable {P : Program} {w : World} {K : PySem.W.Frag} {mg : Str → Option Value} {base : Heap}
theorem ok__law_read_term (T : TX K mg) {m : Nat} : FnOk P w K mg base CX0 (2 * m + 6) T.d__law_read_term.f T.d__law_read_term.fd P__law_read_term (sp_lrT K m) := by
  have G__law_read_at := (ok_rd (P := P) (w := w) (base := base) T m).1
  have G__law_size : FnOk P w K mg base CX0 (m + 3) T.d__law_size.f T.d__law_size.fd P__law_size (sp_sizeR K (m + 2)) := ok__law_size T (m + 2)
  refine T.d__law_read_term.F.ok sc__law_read_term (fun vs H Q E h => ?_) (fun cdv A outer s H vs Q E hr h => ?_)
  · obtain ⟨_, rfl, _⟩ := h
    rfl
  · obtain ⟨l, rfl, hl, hm, q⟩ := h
    have hu64 := hr.units
    refine ⟨_, (pss_cons (ps_set (i := 1) sc__law_read_term.nd rfl (Or.inl rfl) (pe_call G__law_read_at (hr.mono (by omega)) rfl T.d__law_read_at.g T.d__law_read_at.F.kp T.d__law_read_at.b .nil pass0 (pa_cons (pv 0) (pa_cons pe_int pa_nil)))) (pss_cons (ps_if (PW.pt (pw_or (pt_cmpR op_isN (pv 1) pe_non (nomark _)) (pw_or (pt_cmpR (r := rNeG K) (op_neG hu64) (pe_ix (r := rIx K) ix_seq (pv 1) pe_int (fun _ _ => rfl)) (pe_callB (r := rLenG K) call_lenG (by rfl) T.b_len bt_len (pa_cons (pv 0) pa_nil)) (nomark _)) (pw_or1 (pt_cmpR op_gt (pe_call G__law_size (hr.mono (by omega)) rfl T.d__law_size.g T.d__law_size.F.kp T.d__law_size.b .nil pass0 (pa_cons (pe_lst (pa_cons (pe_ix (r := rIx K) ix_seq (pv 1) pe_int (fun _ _ => rfl)) pa_nil)) pa_nil)) pe_int (nomark _)))))) (pss_one (ps_ret (pe_lst pa_nil))) pss_nil) (pss_one (ps_ret (pe_lst (pa_cons (pe_ix (r := rIx K) ix_seq (pv 1) pe_int (fun _ _ => rfl)) pa_nil)))))), ?_⟩
    have hz : (SX.S l).length ≤ sizeLine := by
      rw [SX.S_len]
      exact Nat.le_trans hl (by decide)
    rw [lawT_rA (Nat.le_refl _)] at q
    have fin : ∀ o : Option Tm, o = none → ((∀ p xs H', H p = none → Mv [] H H' → H' p = some (.lst xs) → Ims K H' xs (o.toList.map Tm.d) → Q (.ref p) H')) → ∀ H' p, Mv [] H H' → H' p = none → Q (.ref p) (upd H' p (.lst [])) := fun o e q H' p m1 np => by
      subst e
      exact q p [] _ (m1.free np) (m1.trans (.new np)) upd_same Ims.nil
    refine ⟨wdV l, rfl, l, 0, rfl, hl, by omega, hm, fun hn H1 m1 => ?_, fun t r ht p v H1 m1 hp hv => ?_⟩
    · refine ⟨.non, rfl, rfl, _, rfl, ?_⟩
      rw [decide_eq_true rfl]
      rw [List.drop_zero] at hn
      exact ⟨Nat.zero_le _, fun p np => fin _ (by rw [hn]; rfl) q H1 p m1 np⟩
    · rw [List.drop_zero] at ht
      obtain ⟨d1, _⟩ := rdA_rest ht
      obtain ⟨hok, hcl, hcn⟩ := rA_ok ht
      have hdp := dep_cnt t
      rw [ht] at q
      simp only [finT] at q
      refine ⟨.ref p, rfl, rfl, _, rfl, ?_⟩
      rw [decide_eq_false (by simp)]
      refine ⟨.ref p, rfl, rd_ixT hp (by decide) (v := .int ((l.length - r.length : Nat) : Int)) rfl ?_⟩
      refine ⟨wdV l, rfl, ?_⟩
      walk_at "nc"
      refine Or.inr (Or.inl ⟨_, rfl, hz, Or.inl ⟨rfl, _, rfl, ?_⟩⟩)
      rw [SX.S_len]
      have hdec : decide (V.int ((l.length - r.length : Nat) : Int) = V.int (l.length : Int)) = decide (r = []) := by
        rw [decide_eq_decide]
        refine ⟨fun e => ?_, fun e => ?_⟩
        · have := V.int.inj e
          exact List.length_eq_zero_iff.mp (by omega)
        · rw [e]
          rfl
      rw [hdec]
      by_cases hr0 : r = []
      rotate_left
      · rw [decide_eq_false hr0]
        exact ⟨Nat.zero_le _, fun p np => fin _ (if_neg fun z => hr0 z.1) q H1 p m1 np⟩
      rw [decide_eq_true hr0]
      refine ⟨.ref p, rfl, rd_ixT hp (by decide) (v := v) rfl ⟨(by decide : 1 ≤ sizeLine), fun p2 n2 => ?_⟩⟩
      have k2 := Mv.new (S := []) (o := (.lst [v])) n2
      have e2 : upd H1 p2 (.lst [v]) p2 = some (.lst [v]) := upd_same
      generalize upd H1 p2 (.lst [v]) = H2 at k2 e2 ⊢
      have m2 := m1.trans k2
      have hv2 := hv.mv k2
      refine ⟨p2, [v], [t], rfl, .inl (.inl (.inl e2)), Ims.cons hv2 Ims.nil, by simp only [Tm.deps]; omega, by simp, ⟨(oks_true ⟨hok, trivial⟩ : Tm.oks (fun _ => True) [t]).1, trivial⟩, fun H3 m3 => ?_⟩
      refine ⟨_, 200, rfl, rfl, _, rfl, ?_⟩
      have hs1 : Tm.sizes [t] = t.size := by simp [Tm.sizes]
      rw [hs1]
      by_cases h200 : t.size ≤ 200
      rotate_left
      · rw [decide_eq_true (by omega : (200 : Int) < (t.size : Int))]
        exact ⟨Nat.zero_le _, fun p np => fin _ (if_neg fun z => h200 z.2) q H3 p (m2.trans m3) np⟩
      rw [decide_eq_false (by omega : ¬ (200 : Int) < (t.size : Int))]
      refine ⟨.ref p, rfl, rd_ixT ((k2.trans m3).sqT hp) (by decide) (v := v) rfl ⟨(by decide : 1 ≤ sizeLine), fun p4 n4 => ?_⟩⟩
      have m4 : Mv [] H3 (upd H3 p4 (.lst [v])) := .new n4
      refine q p4 [v] _ ((m2.trans m3).free n4) ((m2.trans m3).trans m4) upd_same ?_
      rw [if_pos ⟨hr0, h200⟩]
      exact Ims.cons ((hv2.mv m3).mv m4) Ims.nil
theorem ok__law_read_listed (T : TX K mg) {m : Nat} : FnOk P w K mg base CX0 (2 * m + 6) T.d__law_read_listed.f T.d__law_read_listed.fd P__law_read_listed (sp_lrL K m) := by
  have G__law_read_parts := (ok_rd (P := P) (w := w) (base := base) T m).2
  have G__law_size : FnOk P w K mg base CX0 (m + 3) T.d__law_size.f T.d__law_size.fd P__law_size (sp_sizeR K (m + 2)) := ok__law_size T (m + 2)
  refine T.d__law_read_listed.F.ok sc__law_read_listed (fun vs H Q E h => ?_) (fun cdv A outer s H vs Q E hr h => ?_)
  · obtain ⟨_, rfl, _⟩ := h
    rfl
  · obtain ⟨l, rfl, hl, hm, q⟩ := h
    have hu64 := hr.units
    have hu65 := hu65_of hr
    refine ⟨_, (pss_cons (ps_if (pt_cmpR (r := rEqG K) (op_eqG hu64) (pv 0) pe_str (nomark _)) (pss_one (ps_ret (pe_lst (pa_cons (pe_tup pa_nil) pa_nil)))) pss_nil) (pss_cons (ps_set (i := 1) sc__law_read_listed.nd rfl (Or.inl rfl) (pe_ifExp (pt_cmpR (r := rEqG K) (op_eqG hu64) (pe_slice (r := rSlG K) sl_G (pv 0) po_none (po_some pe_int)) pe_str (nomark _)) (pe_call G__law_read_parts (hr.mono (by omega)) rfl T.d__law_read_parts.g T.d__law_read_parts.F.kp T.d__law_read_parts.b .nil pass0 (pa_cons (pv 0) (pa_cons pe_int pa_nil))) pe_non)) (pss_cons (ps_if (PW.pt (pw_or (pt_cmpR op_isN (pv 1) pe_non (nomark _)) (pw_or (pt_cmpR (r := rNeG K) (op_neG hu64) (pe_ix (r := rIx K) ix_seq (pv 1) pe_int (fun _ _ => rfl)) (pe_callB (r := rLenG K) call_lenG (by rfl) T.b_len bt_len (pa_cons (pv 0) pa_nil)) (nomark _)) (pw_or1 (pt_cmpR (r := rNeNil K) (op_neNil (Nat.lt_of_le_of_lt (Nat.le_add_right _ 65) hu65)) (pe_lc (own := [("_law_term_here", 2)]) (g := gName 2) (by rfl) sc__law_read_listed.nd (pi_seq (pe_ix (r := rIx K) ix_seq (pv 1) pe_int (fun _ _ => rfl))) (blkOk_by (own := [("_law_term_here", 2)]) (N := N__law_read_listed) (sc := defScope s__law_read_listed) (by decide +kernel)) (fun _ _ _ _ _ => pg_name (i := 2) sc__law_read_listed.nd rfl (Or.inl rfl)) (fun _ _ _ _ _ => (pts_one (pt_cmpR op_gt (pe_call G__law_size (hr.mono (by omega)) rfl T.d__law_size.g T.d__law_size.F.kp T.d__law_size.b .nil pass0 (pa_cons (pe_lst (pa_cons (pv 2) pa_nil)) pa_nil)) pe_int (nomark _)))) (fun _ _ _ _ _ => (pv 2))) (pe_lst pa_nil) (nomark _)))))) (pss_one (ps_ret (pe_lst pa_nil))) pss_nil) (pss_one (ps_ret (pe_lst (pa_cons (pe_ix (r := rIx K) ix_seq (pv 1) pe_int (fun _ _ => rfl)) pa_nil))))))), ?_⟩
    have hz : (SX.S l).length ≤ sizeLine := by
      rw [SX.S_len]
      exact Nat.le_trans hl (by decide)
    rw [lawL_rP (Nat.le_refl _)] at q
    refine ⟨wdV l, rfl, Or.inl ⟨rfl, _, rfl, ?_⟩⟩
    rw [show V.str (Str.ofString "()") = wdV [40, 41] from congrArg V.str (by decide +kernel), wd_eq]
    by_cases h00 : l = [40, 41]
    · rw [decide_eq_true h00]
      refine ⟨Nat.zero_le _, fun p1 n1 => ?_⟩
      have k1 := Mv.new (S := []) (o := (.tup [])) n1
      have e1 : SqT K (upd H p1 (.tup [])) p1 [] := .inl (.inl upd_same)
      generalize upd H p1 (.tup []) = H1 at k1 e1 ⊢
      have m1 := k1
      refine ⟨(by decide : 1 ≤ sizeLine), fun p2 n2 => ?_⟩
      have m2 : Mv [] H1 (upd H1 p2 (.lst [.ref p1])) := .new n2
      refine q p2 [.ref p1] _ (k1.free n2) (k1.trans m2) upd_same ?_
      rw [if_pos h00]
      exact Ims.cons (Im.tup (m2.sqT e1) Ims.nil) Ims.nil
    rw [decide_eq_false h00]
    show (if false = true then (_ : Prop) else _)
    rw [if_neg Bool.false_ne_true]
    dsimp only [tNext, tSeq]
    rw [if_neg h00] at q
    refine asg_mid (fun v H1 => Mv [] H H1 ∧ ((v = .non ∧ (if l.take 1 = [40] then rP (l.drop 1) else none) = none) ∨ ∃ ts r p g xs, v = .ref p ∧ (if l.take 1 = [40] then rP (l.drop 1) else none) = some (ts, r) ∧ SqT K H1 p [.ref g, .int ((l.length - r.length : Nat) : Int)] ∧ SqT K H1 g xs ∧ Ims K H1 xs (Tm.ds ts))) (fun Q' qq => ?_) (fun v H1 h1 => ?_)
    · refine ⟨wdV l, rfl, 1, rfl, Or.inr (Or.inr ⟨_, rfl, hz, Or.inl ⟨rfl, _, rfl, ?_⟩⟩)⟩
      rw [C8.cutS_slice, SX.slice_to (by decide), open_wd, show decide (V.str (SX.S (l.take (1 : Int).toNat)) = wdV [40]) = decide (l.take 1 = [40]) from wd_eq]
      by_cases h40 : l.take 1 = [40]
      · rw [decide_eq_true h40]
        have hl1 : 1 ≤ l.length := by
          cases l with
          | nil => cases h40
          | cons c l => simp
        refine ⟨wdV l, rfl, l, 1, rfl, hl, by omega, Nat.le_trans (cnt_drop_le (Nat.zero_le 1)) hm, fun hn H1 m1 => qq _ _ ⟨m1, .inl ⟨rfl, by rw [if_pos h40]; exact hn⟩⟩, fun ts r hs p g xs H1 m1 hp hg hxs => qq _ _ ⟨m1, .inr ⟨ts, r, p, g, xs, rfl, by rw [if_pos h40]; exact hs, hp, hg, hxs⟩⟩⟩
      · rw [decide_eq_false h40]
        exact qq _ _ ⟨.refl, .inl ⟨rfl, by rw [if_neg h40]⟩⟩
    obtain ⟨m1, hcase⟩ := h1
    have fin : ∀ o : Option (List Tm), o = none → ((∀ p xs H', H p = none → Mv [] H H' → H' p = some (.lst xs) → Ims K H' xs (o.toList.map tsD) → Q (.ref p) H')) → ∀ H' p, Mv [] H H' → H' p = none → Q (.ref p) (upd H' p (.lst [])) := fun o e q H' p m1 np => by
      subst e
      exact q p [] _ (m1.free np) (m1.trans (.new np)) upd_same Ims.nil
    rcases hcase with ⟨rfl, hn⟩ | ⟨ts, r, p, g, xs, rfl, hs, hp, hg, hxs⟩
    · refine ⟨.non, rfl, rfl, _, rfl, ?_⟩
      rw [decide_eq_true rfl]
      exact ⟨Nat.zero_le _, fun p np => fin _ (by rw [hn]; rfl) q H1 p m1 np⟩
    · rw [hs] at q
      simp only [finL] at q
      have hs' : rP (l.drop 1) = some (ts, r) := by
        split at hs
        · exact hs
        · cases hs
      obtain ⟨d1, _⟩ := rdP_rest hs'
      rw [List.length_drop] at d1
      obtain ⟨hok, hcl, hcn⟩ := rP_ok hs'
      have hc1 : (l.drop 1).count 40 ≤ l.count 40 := cnt_drop_le (a := 0) (Nat.zero_le 1)
      rw [List.length_drop] at hcl
      have hdp := dep_cntP ts
      have hxl : xs.length = ts.length := by rw [hxs.length, Tm.ds_map, List.length_map]
      have hnd := nod_cxP ts ((oks_wr ts).mp hok).1
      have hnl := Tm.nod_len ts
      unfold Tm.nod at hnl
      refine ⟨.ref p, rfl, rfl, _, rfl, ?_⟩
      rw [decide_eq_false (by simp)]
      refine ⟨.ref p, rfl, rd_ixT hp (by decide) (v := .int ((l.length - r.length : Nat) : Int)) rfl ?_⟩
      refine ⟨wdV l, rfl, ?_⟩
      walk_at "nc"
      refine Or.inr (Or.inl ⟨_, rfl, hz, Or.inl ⟨rfl, _, rfl, ?_⟩⟩)
      rw [SX.S_len]
      have hdec : decide (V.int ((l.length - r.length : Nat) : Int) = V.int (l.length : Int)) = decide (r = []) := by
        rw [decide_eq_decide]
        refine ⟨fun e => ?_, fun e => ?_⟩
        · have := V.int.inj e
          exact List.length_eq_zero_iff.mp (by omega)
        · rw [e]
          rfl
      rw [hdec]
      by_cases hr0 : r = []
      rotate_left
      · rw [decide_eq_false hr0]
        exact ⟨Nat.zero_le _, fun p np => fin _ (if_neg fun z => hr0 z.1) q H1 p m1 np⟩
      rw [decide_eq_true hr0]
      refine ⟨.ref p, rfl, rd_ixT hp (by decide) (v := .ref g) rfl ⟨g, rfl, ?_⟩⟩
      refine lc_fm (K := K) (as := ts) (enc := Tm.d) (fun t => if t.size ≤ 200 then none else some t.d) (.inr hg) (by rw [← Tm.ds_map]; exact hxs) (by omega) (fun y t H2 Q' R' hm2 him m2 k1 k2 => ?_) (fun D ys H2 nD eD iD m2 => ?_)
      · refine ⟨rfl, y, rfl, (by decide : 1 ≤ sizeLine), fun p3 n3 => ?_⟩
        have k3 := Mv.new (S := []) (o := (.lst [y])) n3
        have e3 : upd H2 p3 (.lst [y]) p3 = some (.lst [y]) := upd_same
        generalize upd H2 p3 (.lst [y]) = H3 at k3 e3 ⊢
        have m3 := k3
        have hi3 := him.mv k3
        have hok1 := Tm.oks_iff.mp hok t hm2
        have hd1 := Tm.deps_le.mp (Nat.le_refl (Tm.deps ts)) t hm2
        refine ⟨p3, [y], [t], rfl, .inl (.inl (.inl e3)), Ims.cons hi3 Ims.nil, by simp only [Tm.deps]; omega, by simp, ⟨(oks_true ⟨hok1, trivial⟩ : Tm.oks (fun _ => True) [t]).1, trivial⟩, fun H4 m4 => ?_⟩
        refine ⟨_, 200, rfl, rfl, _, rfl, ?_⟩
        rw [show Tm.sizes [t] = t.size by simp [Tm.sizes]]
        by_cases h200 : t.size ≤ 200
        · rw [decide_eq_false (by omega : ¬ (200 : Int) < (t.size : Int))]
          exact k2 (if_pos h200) H4 (k3.trans m4)
        · rw [decide_eq_true (by omega : (200 : Int) < (t.size : Int))]
          exact ⟨y, rfl, k1 t.d (if_neg h200) y H4 (k3.trans m4) (hi3.mv m4)⟩
      · refine ⟨Nat.zero_le _, fun p3 n3 => ⟨D, p3, ys, rfl, rfl, .inl (.inl ((Mv.new (S := []) n3).same _ _ eD)), .inl (.inl upd_same), ?_⟩⟩
        have m3 : Mv [] H1 (upd H2 p3 (.lst [])) := m2.trans (.new n3)
        generalize upd H2 p3 (.lst []) = H3 at m3 ⊢
        have hem : ys.isEmpty = ts.all fun t => decide (t.size ≤ 200) := by
          have h1 := iD.length
          have h2 : ∀ us : List Tm, ((us.filterMap fun t => if t.size ≤ 200 then none else some t.d).length = 0) ↔ (us.all fun t => decide (t.size ≤ 200)) = true := by
            intro us
            induction us with
            | nil => simp
            | cons u us ih =>
              rw [List.filterMap_cons, List.all_cons, Bool.and_eq_true, decide_eq_true_eq]
              by_cases hu : u.size ≤ 200
              · rw [if_pos hu]
                exact ⟨fun h => ⟨hu, ih.mp h⟩, fun h => ih.mpr h.2⟩
              · rw [if_neg hu]
                exact ⟨fun h => by simp at h, fun h => absurd h.1 hu⟩
          rw [Bool.eq_iff_iff, ← h2 ts, ← h1, List.isEmpty_iff]
          exact ⟨fun h => by rw [h]; rfl, fun h => List.length_eq_zero_iff.mp h⟩
        rw [hem]
        cases hall : ts.all fun t => decide (t.size ≤ 200) with
        | false =>
          refine ⟨_, rfl, ?_⟩
          refine ⟨Nat.zero_le _, fun p np => fin _ (if_neg fun z => ?_) q H3 p (m1.trans m3) np⟩
          rw [hall] at z
          cases z.2
        | true =>
          refine ⟨_, rfl, ?_⟩
          refine ⟨.ref p, rfl, rd_ixT (m3.sqT hp) (by decide) (v := .ref g) rfl ⟨(by decide : 1 ≤ sizeLine), fun p4 n4 => ?_⟩⟩
          have m4 : Mv [] H3 (upd H3 p4 (.lst [.ref g])) := .new n4
          refine q p4 [.ref g] _ ((m1.trans m3).free n4) ((m1.trans m3).trans m4) upd_same ?_
          rw [if_pos ⟨hr0, hall⟩]
          exact Ims.cons (Im.tup ((m3.trans m4).sqT hg) (hxs.mv (m3.trans m4))) Ims.nil
end
end Fm
namespace Fm
open PySem PySem.Spec PyProof.Rows L2 SlX
local macro_rules | `(tactic| walk_at "nn") => `(tactic| dsimp only [tC, tNil, tCons, tCB, tCall, gName, tSeq, tAsg, tPar, tDrop, tRet])
local macro_rules | `(tactic| walk_at "nc") => `(tactic| dsimp only [tC, tNil, tCons, tCB, tCall])
def recC (many : Int) (ts : List Tm) : List Nat := TL.numL many.toNat ++ (32 :: lisC ts)
def movP (ns : List Int) (kd : Str) (many : Int) (ts : List Tm) : List (List Nat) := ns.map (fun i => TL.numL i.toNat) ++ [kd.cps.toList, TL.numL many.toNat, lisC ts]
def movC (ns : List Int) (kd : Str) (many : Int) (ts : List Tm) : List Nat := TL.joinL [32] (movP ns kd many ts)
structure MovF (ns : List Int) (kd : Str) (many : Int) (ts : List Tm) : Prop where
  len : ns.length = 4
  num : ∀ i ∈ ns, P40 i
  kind : kd = Str.ofString "may" ∨ kd = Str.ofString "must"
  mny : P40 many
  tx : TxF ts
  few : ts.length ≤ 100
  over : Tm.oks (fun i => 0 ≤ i ∧ i < many) ts
def MovAt (K : PySem.W.Frag) (H : Hp) (C : Addr) (a : Addr) (ns : List Int) (kd : Str) (many : Int) (ts : List Tm) : Prop := ∃ rc, SqT K H a (ns.map V.int ++ [.ref rc, .str kd]) ∧ RecAt K H C rc many ts
def sp_isMov (K : PySem.W.Frag) (C : Addr) : Sp := fun vs H Q _ => ∃ (a : Addr) (ns : List Int) (kd : Str) (many : Int) (ts : List Tm), vs = [.ref a] ∧ MovAt K H C a ns kd many ts ∧ MovF ns kd many ts ∧ ∀ H', Mv [] H H' → Q (.bl true) H'
def sp_shRec (K : PySem.W.Frag) (C : Addr) : Sp := fun vs H Q _ => ∃ (x : Addr) (many : Int) (ts : List Tm), vs = [.ref x] ∧ RecAt K H C x many ts ∧ P40 many ∧ TxF ts ∧ ∀ H', Mv [] H H' → Q (wdV (recC many ts)) H'
def sp_shMov (K : PySem.W.Frag) (C : Addr) : Sp := fun vs H Q _ => ∃ (a : Addr) (ns : List Int) (kd : Str) (many : Int) (ts : List Tm), vs = [.ref a] ∧ MovAt K H C a ns kd many ts ∧ MovF ns kd many ts ∧ ∀ H', Mv [] H H' → Q (wdV (movC ns kd many ts)) H'
def sp_lmov (K : PySem.W.Frag) : Sp := fun vs H Q _ => ∃ (a t : Addr) (xs : List V) (ns : List Int) (kd : Str) (many : Int) (ts : List Tm), vs = [.ref a, .str kd, .int many, .ref t] ∧ SqT K H a (ns.map V.int) ∧ SqT K H t xs ∧ Ims K H xs (Tm.ds ts) ∧ MovF ns kd many ts ∧ ∀ H', Mv [] H H' → Q (wdV (movC ns kd many ts)) H'
def sp_rdMov (K : PySem.W.Frag) (C : Addr) : Sp := fun vs H Q _ => ∃ (ns : List Int) (kd : Str) (many : Int) (ts : List Tm), vs = [wdV (movC ns kd many ts)] ∧ MovF ns kd many ts ∧ ∀ a H', Mv [] H H' → MovAt K H' C a ns kd many ts → Q (.ref a) H'
theorem rd_isTupW {K : PySem.W.Frag} {H : Hp} {a : Addr} {xs : List V} {Q : VK} (h : SqT K H a xs) (q : Q (.bl true) H) : rIsi K [.ref a, .ty "tuple"] H Q := ⟨.ref a, .ty "tuple", _, _, true, rfl, .ty "tuple", tyx_sqT h, kit_ty (a := "tuple") (by decide +kernel), q⟩
mutual
theorem cst_nodN : ∀ t : Tm, t.cst + 2 ≤ 96 * Tm.nod [t]
  | .var i => by rw [Tm.nod_var]; simp [Tm.cst]
  | .op x ts => by
    have := csts_nodN ts
    rw [Tm.nod_op]
    simp only [Tm.cst]
    omega
theorem csts_nodN : ∀ ts : List Tm, Tm.csts ts ≤ 96 * Tm.nod ts
  | [] => by simp [Tm.csts]
  | t :: ts => by
    have h1 := cst_nodN t
    have h2 := csts_nodN ts
    have e : Tm.nod (t :: ts) = Tm.nod [t] + Tm.nod ts := by rw [show t :: ts = [t] ++ ts from rfl, Tm.nod_append]
    rw [e]
    simp only [Tm.csts]
    omega
end
theorem movP_len {ns : List Int} {kd : Str} {many : Int} {ts : List Tm} (h : MovF ns kd many ts) : ((movP ns kd many ts).map List.length).sum ≤ 80300 ∧ (movP ns kd many ts).length = 7 := by
  obtain ⟨n0, n1, n2, n3, rfl⟩ : ∃ n0 n1 n2 n3, ns = [n0, n1, n2, n3] := by
    have := h.len
    match ns, this with
    | [n0, n1, n2, n3], _ => exact ⟨n0, n1, n2, n3, rfl⟩
  have a0 := num_len (h.num n0 (by simp))
  have a1 := num_len (h.num n1 (by simp))
  have a2 := num_len (h.num n2 (by simp))
  have a3 := num_len (h.num n3 (by simp))
  have a4 := num_len h.mny
  have a5 := txF_lis h.tx
  have a6 : kd.cps.toList.length ≤ 4 := by
    rcases h.kind with e | e <;> (rw [e]; decide +kernel)
  refine ⟨?_, rfl⟩
  show (TL.numL n0.toNat).length + ((TL.numL n1.toNat).length + ((TL.numL n2.toNat).length + ((TL.numL n3.toNat).length + (kd.cps.toList.length + ((TL.numL many.toNat).length + ((lisC ts).length + 0)))))) ≤ 80300
  omega
theorem join_mov {ns : List Int} {kd : Str} {many : Int} {ts : List Tm} : Txt.join (Str.ofString " ") ((movP ns kd many ts).map SX.S) = SX.S (movC ns kd many ts) := by
  rw [show Str.ofString " " = SX.S [32] by decide +kernel, SX.join_S]
  rfl
mutual
theorem cx_sp : ∀ t : Tm, t.ok P40 → ∀ c ∈ t.cx, c ≠ 32
  | .var i, _, c, hc => by
    have := TL.numL_digits i.toNat c hc
    omega
  | .op x ts, h, c, hc => by
    rw [Tm.cx, List.mem_append] at hc
    rcases hc with hc | hc
    · have := h.1.2.2 c hc
      omega
    · exact cxP_sp ts h.2.2 c hc
theorem cxP_sp : ∀ ts : List Tm, Tm.oks P40 ts → ∀ c ∈ Tm.cxP ts, c ≠ 32
  | [], _, c, hc => by cases hc
  | t :: ts, h, c, hc => by
    rw [Tm.cxP, List.mem_cons, List.mem_append] at hc
    rcases hc with rfl | hc | hc
    · decide
    · exact cx_sp t h.1 c hc
    · exact cxs_sp ts h.2 c hc
theorem cxs_sp : ∀ ts : List Tm, Tm.oks P40 ts → ∀ c ∈ Tm.cxs ts, c ≠ 32
  | [], _, c, hc => by
    rw [Tm.cxs, List.mem_singleton] at hc
    omega
  | t :: ts, h, c, hc => by
    rw [Tm.cxs, List.mem_cons, List.mem_append] at hc
    rcases hc with rfl | hc | hc
    · decide
    · exact cx_sp t h.1 c hc
    · exact cxs_sp ts h.2 c hc
end
theorem nilT95 {K : PySem.W.Frag} {σ : L2.St} {x : V} {H : Hp} {Q : VK} (h : rTupOf K [x] H Q) : tNil σ H (fun xs H2 => rTupOf K (x :: xs) H2 Q) := h
section
variable {P : Program} {w : World} {K : PySem.W.Frag} {mg : Str → Option Value} {base : Heap}
end
end Fm
namespace Fm
open PySem PySem.Spec PyProof.Rows L2 SlX
local macro_rules | `(tactic| walk_at "nn") => `(tactic| dsimp only [tC, tNil, tCons, tCB, tCall, gName, tSeq, tAsg, tPar, tDrop, tRet])
local macro_rules | `(tactic| walk_at "nc") => `(tactic| dsimp only [tC, tNil, tCons, tCB, tCall])
abbrev splB (l : List Nat) : List (List Nat) := TL.spl [32] 0 [] l
theorem spl_sub (d : Nat) : ∀ (l acc : List Nat), ∀ p ∈ TL.spl [d] 0 acc l, p.length ≤ acc.length + l.length ∧ ∀ c ∈ p, c ∈ acc ∨ c ∈ l
  | [], acc, p, hp => by
    rw [TL.spl_nil, List.mem_singleton] at hp
    rw [hp]
    exact ⟨by simp, fun c hc => .inl hc⟩
  | c :: r, acc, p, hp => by
    cases h : TL.pre [d] (c :: r) with
    | true =>
      rw [TL.spl_hit h, List.mem_cons] at hp
      rcases hp with rfl | hp
      · exact ⟨by simp, fun c hc => .inl hc⟩
      · obtain ⟨h1, h2⟩ := spl_sub d r [] p hp
        refine ⟨by simp at h1 ⊢; omega, fun e he => ?_⟩
        rcases h2 e he with z | z
        · cases z
        · exact .inr (List.mem_cons_of_mem _ z)
    | false =>
      rw [TL.spl_miss h] at hp
      obtain ⟨h1, h2⟩ := spl_sub d r (acc ++ [c]) p hp
      refine ⟨by simp at h1 ⊢; omega, fun e he => ?_⟩
      rcases h2 e he with z | z
      · rcases List.mem_append.mp z with z | z
        · exact .inl z
        · rw [List.mem_singleton.mp z]
          exact .inr List.mem_cons_self
      · exact .inr (List.mem_cons_of_mem _ z)
def allI : List (List Nat) → Option (List Int)
  | [] => some []
  | w :: ws => match intI w, allI ws with
    | some i, some is => some (i :: is)
    | _, _ => none
theorem allI_some {ws : List (List Nat)} {is : List Int} (h : allI ws = some is) : is.length = ws.length ∧ ∀ (i : Nat) (w : List Nat), ws[i]? = some w → ∃ n, intI w = some n ∧ is[i]? = some n := by
  induction ws generalizing is with
  | nil =>
    cases h
    exact ⟨rfl, fun i w e => by simp at e⟩
  | cons w ws ih =>
    unfold allI at h
    cases h1 : intI w with
    | none => rw [h1] at h; cases h
    | some n =>
      cases h2 : allI ws with
      | none => rw [h1, h2] at h; cases h
      | some js =>
        rw [h1, h2] at h
        cases h
        obtain ⟨k1, k2⟩ := ih h2
        refine ⟨by simp [k1], fun i w' e => ?_⟩
        cases i with
        | zero =>
          cases e
          exact ⟨n, h1, rfl⟩
        | succ i => exact k2 i w' e
theorem allI_none {ws : List (List Nat)} {w : List Nat} (hm : w ∈ ws) (h : intI w = none) : allI ws = none := by
  cases e : allI ws with
  | none => rfl
  | some is =>
    obtain ⟨i, hi⟩ := List.getElem?_of_mem hm
    obtain ⟨n, hn, _⟩ := (allI_some e).2 i w hi
    rw [h] at hn
    cases hn
theorem allI_all {ws : List (List Nat)} {is : List Int} (hl : is.length = ws.length) (h : ∀ (i : Nat) (w : List Nat), ws[i]? = some w → ∃ n, intI w = some n ∧ is[i]? = some n) : allI ws = some is := by
  induction ws generalizing is with
  | nil =>
    cases is with
    | nil => rfl
    | cons i is => cases hl
  | cons w ws ih =>
    cases is with
    | nil => cases hl
    | cons i is =>
      obtain ⟨n, h1, h2⟩ := h 0 w rfl
      cases h2
      have h3 := ih (is := is) (by simpa using hl) fun j w' e => h (j + 1) w' e
      unfold allI
      rw [h1, h3]
theorem allI_snoc : ∀ {a : List (List Nat)} {is : List Int} {w : List Nat} {n : Int}, allI a = some is → intI w = some n → allI (a ++ [w]) = some (is ++ [n])
  | [], is, w, n, h, hn => by
    cases h
    simp only [List.nil_append, allI, hn]
  | v :: a, is, w, n, h, hn => by
    unfold allI at h
    cases h1 : intI v with
    | none => rw [h1] at h; cases h
    | some k =>
      cases h2 : allI a with
      | none => rw [h1, h2] at h; cases h
      | some js =>
        rw [h1, h2] at h
        cases h
        rw [List.cons_append]
        unfold allI
        rw [h1, allI_snoc h2 hn]
        rfl
theorem under_wr {m : Int} {ts : List Tm} {xs : List V} (hm : 0 ≤ m) (hw : Tm.oks Q40 ts) : recWrong (.int m) (some (xs, Tm.ths ts)) = if (Tm.ths ts).all (under m) = true then none else some 1 := by
  show (if m < 0 then some 0 else if _ then none else some 1) = _
  rw [if_neg (by omega)]
  have : ((Tm.ths ts).all fun t => isTerm t && under m t) = (Tm.ths ts).all (under m) := by
    rw [Bool.eq_iff_iff, List.all_eq_true, List.all_eq_true]
    refine ⟨fun h t ht => ?_, fun h t ht => ?_⟩
    · have := h t ht
      rw [Bool.and_eq_true] at this
      exact this.2
    · have h1 := h t ht
      rw [ths_map] at ht
      obtain ⟨u, hu, rfl⟩ := List.mem_map.mp ht
      rw [h1, isTerm_th (fun i h => h.1) u (Tm.oks_iff.mp hw u hu)]
      rfl
  rw [this]
def kindL (k : List Nat) : Bool := decide (k = [109, 97, 121]) || decide (k = [109, 117, 115, 116])
def bodyM (a : Option (List Int)) (b : Option Int) (c : Option (List Tm)) (k : List Nat) : Option (List Int × List Nat × Int × List Tm) := match a, b, c with
  | some ns, some m, some ts => if (ns.all (fun i => decide (0 ≤ i)) && decide (0 ≤ m) && kindL k && (Tm.ths ts).all (under m)) = true then some (ns, k, m, ts) else none
  | _, _, _ => none
def movL (f : List Nat → Option (List Tm)) (l : List Nat) : Option (List Int × List Nat × Int × List Tm) :=
  if (splB l).length = 7 then bodyM (allI ((splB l).take 4)) (intI ((splB l).getD 5 [])) (f ((splB l).getD 6 [])) ((splB l).getD 4 []) else none
abbrev progM (l : List Nat) : Option (List Int × List Nat × Int × List Tm) := movL progL l
theorem part_len {l : List Nat} (k : Nat) : ((splB l).getD k []).length ≤ l.length ∧ ∀ c ∈ (splB l).getD k [], c ∈ l := by
  by_cases h : k < (splB l).length
  · have e : (splB l).getD k [] = (splB l)[k] := by rw [List.getD_eq_getElem?_getD, List.getElem?_eq_getElem h]; rfl
    have := spl_sub 32 l [] _ (List.getElem_mem h)
    rw [e]
    refine ⟨by simpa using this.1, fun c hc => ?_⟩
    rcases this.2 c hc with z | z
    · cases z
    · exact z
  · have e : (splB l).getD k [] = [] := by rw [List.getD_eq_getElem?_getD, List.getElem?_eq_none (by omega)]; rfl
    rw [e]
    exact ⟨Nat.zero_le _, fun c hc => by cases hc⟩
def sp_isMovX (K : PySem.W.Frag) (C : Addr) : Sp := fun vs H Q _ => ∃ (a rc : Addr) (ns : List Int) (kd : List Nat) (many : Int) (ts : List Tm), vs = [.ref a] ∧ SqT K H a (ns.map V.int ++ [.ref rc, wdV kd]) ∧ RecAt K H C rc many ts ∧ ns.length = 4 ∧ ∀ H', Mv [] H H' → Q (.bl (ns.all (fun i => decide (0 ≤ i)) && kindL kd)) H'
def sp_rdMovX (K : PySem.W.Frag) (C D : Addr) (d : Nat) : Sp := fun vs H Q E => ∃ (b : Addr) (v : V) (o : Option (List Nat)), vs = [v] ∧ TxV K b H v o ∧ (∀ l, o = some l → l.length ≤ 20000 ∧ (∀ c ∈ l, c < 128) ∧ ∀ ts, (splB l).getD 6 [] = lisC ts → Tm.oks Q40 ts → (∀ t ∈ ts, t.size ≤ 200) → Tm.deps ts < d) ∧
  (∀ ns kd m ts, o.bind progM = some (ns, kd, m, ts) → ∀ a rc H', Mv [] H H' → SqT K H' a (ns.map V.int ++ [.ref rc, wdV kd]) → RecAt K H' C rc m ts → Q (.ref a) H') ∧ (o.bind progM = none → ∀ H', Mv [] H H' → E (.ref D) none H')
theorem kind_in (kd : List Nat) : inV (wdV kd) [.str "may", .str "must"] = kindL kd := by
  have h1 : V.str "may" = wdV [109, 97, 121] := congrArg V.str (by decide +kernel)
  have h2 : V.str "must" = wdV [109, 117, 115, 116] := congrArg V.str (by decide +kernel)
  rw [h1, h2]
  unfold inV kindL
  simp only [List.any_cons, List.any_nil, Bool.or_false]
  have key : ∀ z : List Nat, eqV (wdV z) (wdV kd) = decide (kd = z) := fun z => by
    show (SX.S z == SX.S kd) = _
    rw [SX.S_beq_eq, decide_eq_decide]
    exact ⟨fun h => h.symm, fun h => h.symm⟩
  rw [key, key]
section
variable {P : Program} {w : World} {K : PySem.W.Frag} {mg : Str → Option Value} {base : Heap}
theorem ok_is_moveX (T : TX K mg) {k : Nat} : FnOk P w K mg base CX0 (k + 3) T.d_is_move.f T.d_is_move.fd P_is_move (sp_isMovX K T.C_Recipe) := by
  have G_is_integer : FnOk P w K mg base CX0 1 T.d_is_integer.f T.d_is_integer.fd P_is_integer (sp_kind K isWhole) := ok_is_integer T
  refine T.d_is_move.F.ok sc_is_move (fun vs H Q E h => ?_) (fun cdv A outer s H vs Q E hr h => ?_)
  · obtain ⟨_, _, _, _, _, _, rfl, _⟩ := h
    rfl
  · obtain ⟨a, rc, ns, kd, many, ts, rfl, ha, hR, hl4, q⟩ := h
    have hu64 := hr.units
    have hu65 := hu65_of hr
    refine ⟨_, (pss_cons (ps_if (PW.pt (pw_or (pt_not (pt_val (pe_callB (r := rIsi K) call_isi (by rfl) T.b_isinstance bt_isinstance (pa_cons (pv 0) (pa_cons (pe_ty T.b_tuple bt_tuple) pa_nil))))) (pw_or1 (pt_cmpR (r := rNeG K) (op_neG hu64) (pe_callB (r := rLenG K) call_lenG (by rfl) T.b_len bt_len (pa_cons (pv 0) pa_nil)) pe_int (nomark _))))) (pss_one (ps_ret pe_bl)) pss_nil) (pss_cons (ps_if (pt_not (pt_val (pe_callB (r := rAll K) (cr_all rfl) (by rfl) T.b_all bt_all (pa_cons (pe_lc (own := [("number", 1)]) (g := gName 1) (by rfl) sc_is_move.nd (pi_seq (pe_slice (r := rSlG K) sl_G (pv 0) po_none (po_some pe_int))) (blkOk_by (own := [("number", 1)]) (N := N_is_move) (sc := defScope s_is_move) (by decide +kernel)) (fun _ _ _ _ _ => pg_name (i := 1) sc_is_move.nd rfl (Or.inl rfl)) (fun _ _ _ _ _ => pts_nil) (fun _ _ _ _ _ => (pe_and (pe_call G_is_integer (hr.mono (by omega)) rfl T.d_is_integer.g T.d_is_integer.F.kp T.d_is_integer.b .nil pass0 (pa_cons (pv 1) pa_nil)) (pe_one (pe_cmpR op_ge (pv 1) pe_int (nomark _)))))) pa_nil)))) (pss_one (ps_ret pe_bl)) pss_nil) (pss_one (ps_ret (pe_and (pe_callB (r := rIsiSl K (.ref T.C_Recipe)) (call_isiSl (.ref T.C_Recipe)) (by rfl) T.b_isinstance bt_isinstance (pa_cons (pe_ix (r := rIx K) ix_seq (pv 0) pe_int (fun _ _ => rfl)) (pa_cons (pe_glob rfl T.g_Recipe (show L2.RelV (.ref T.C_Recipe) _ from rfl)) pa_nil))) (pe_and (pe_callB (r := rIsi K) call_isi (by rfl) T.b_isinstance bt_isinstance (pa_cons (pe_ix (r := rIx K) ix_seq (pv 0) pe_int (fun _ _ => rfl)) (pa_cons (pe_ty T.b_str bt_str) pa_nil))) (pe_one (pe_cmpR (r := rIn K false) op_in_seq (pe_ix (r := rIx K) ix_seq (pv 0) pe_int (fun _ _ => rfl)) (pe_glob rfl T.c_KINDS (show L2.RelV (.ref T.a_KINDS) _ from rfl)) rfl)))))))), ?_⟩
    obtain ⟨n0, n1, n2, n3, rfl⟩ : ∃ n0 n1 n2 n3, ns = [n0, n1, n2, n3] := by
      match ns, hl4 with
      | [n0, n1, n2, n3], _ => exact ⟨n0, n1, n2, n3, rfl⟩
    obtain ⟨dx, p, xs, hs, hp, hx⟩ := id hR
    refine ⟨.ref a, rfl, ?_⟩
    walk_at "nc"
    refine rd_isTupW ha ⟨_, rfl, ?_⟩
    refine ⟨.ref a, rfl, ?_⟩
    walk_at "nc"
    refine rd_len (.inr ha) (Or.inl ⟨rfl, _, rfl, ?_⟩)
    rw [show (!decide (V.int ((([n0, n1, n2, n3].map V.int ++ [.ref rc, wdV kd] : List V).length : Nat) : Int) = V.int 6)) = false from rfl]
    refine ⟨.ref a, rfl, 4, rfl, ?_⟩
    refine rd_slT ha fun p1 H1 m1 e1 => ?_
    have e1 : SqT K H1 p1 ([n0, n1, n2, n3].map V.int) := by
      rw [show (4 : Int) = ((4 : Nat) : Int) from rfl, cut_hi] at e1
      exact e1
    refine ⟨p1, rfl, ?_⟩
    refine lc_seq (xs := [n0, n1, n2, n3].map V.int) (.inr e1) (fun i D H2 => H2 D = some (.lst ((([n0, n1, n2, n3].take i).map fun i => decide (0 ≤ i)).map V.bl)) ∧ Mv [] H1 H2)
      (fun D nD => ⟨upd_same, .new nD⟩) (fun i D H2 nD h2 => h2.2) (fun D nD i x H2 hx h2 => ?_) (fun D H2 nD h2 => ?_)
    · obtain ⟨e2, m2⟩ := h2
      rw [List.getElem?_map] at hx
      obtain ⟨u, hu, rfl⟩ := Option.map_eq_some_iff.mp hx
      have hi := (List.getElem?_eq_some_iff.mp hu).1
      refine ⟨rfl, .int u, rfl, .int u, .int u, 0, rfl, rfl, fun H3 m3 => ?_⟩
      refine ⟨_, rfl, ?_⟩
      refine ⟨.int u, rfl, u, 0, rfl, rfl, _, m3.same _ _ e2, ?_, ?_, (m2.trans m3).wr nD⟩
      · rw [List.length_map, List.length_map, List.length_take]
        exact line5lt (by simp at hi; omega)
      · rw [upd_same, List.take_add_one, hu]
        simp
    · obtain ⟨e2, m2⟩ := h2
      refine ⟨D, ([n0, n1, n2, n3].map fun i => decide (0 ≤ i)), rfl, .inl (.inl e2), ?_⟩
      rw [show (([n0, n1, n2, n3].map fun i => decide (0 ≤ i)).all id) = [n0, n1, n2, n3].all (fun i => decide (0 ≤ i)) by rw [List.all_map]; rfl]
      generalize [n0, n1, n2, n3].all (fun i => decide (0 ≤ i)) = c at q ⊢
      have m12 := m1.trans m2
      cases c with
      | false => exact ⟨_, rfl, q H2 m12⟩
      | true =>
        refine ⟨_, rfl, ?_⟩
        have ha2 := m12.sqT ha
        refine ⟨.ref a, rfl, rd_ixT ha2 (by decide) (v := .ref rc) rfl ?_⟩
        refine ⟨rc, T.C_Recipe, dx, _, .ref T.C_Recipe, true, rfl, rfl, fun _ h => h, Slt.mv hs m12, T.c_Recipe, T.is_Recipe, kitOne_self _, ?_⟩
        refine ⟨_, rfl, ?_⟩
        refine ⟨.ref a, rfl, rd_ixT ha2 (by decide) (v := wdV kd) rfl ?_⟩
        walk_at "nc"
        refine rd_isStrW ?_
        refine ⟨_, rfl, ?_⟩
        refine ⟨.ref a, rfl, rd_ixT ha2 (by decide) (v := wdV kd) rfl ?_⟩
        refine ⟨_, _, rfl, .inr (T.q_KINDS H2), rfl, rfl, ?_⟩
        show Q (.bl (if false = true then _ else inV (wdV kd) [.str "may", .str "must"])) H2
        rw [if_neg (by simp), kind_in]
        exact q H2 m12
theorem ok_read_moveX (T : TX K mg) (Y : TY P K mg) {k d : Nat} (hd : 2 * d + 2 ≤ k) (h5 : 5 ≤ k) : FnOk P w K mg base (CX P w) (k + 2) T.d_read_move.f T.d_read_move.fd P_read_move (sp_rdMovX K T.C_Recipe Y.C_NoText d) := by
  have G_needN : FnOk P w K mg base (L2N.CX P w) 1 T.d_need.f T.d_need.fd P_need (sp_needX Y.C_NoText) := ok_needX (k := 0) T Y
  have G_need := Fm.FnOk.ofN G_needN
  have G_read_integer := Fm.FnOk.ofN (ok_read_integerX (P := P) (w := w) (base := base) (k := 0) T Y)
  have G_read_listed := Fm.FnOk.ofN (ok_read_listedX (P := P) (w := w) (base := base) (k := k) (d := d) T Y hd h5)
  have G_Recipe___init__ : FnOk P w K mg base (L2N.CX P w) 5 T.d_Recipe___init__.f T.d_Recipe___init__.fd P_Recipe___init__ (sp_RecT K T.C_Recipe Y.C_Wrong) := ok_Recipe___init__N T Y
  have G_is_move : FnOk P w K mg base CX0 3 T.d_is_move.f T.d_is_move.fd P_is_move (sp_isMovX K T.C_Recipe) := ok_is_moveX (k := 0) T
  refine T.d_read_move.F.okX sc_read_move (fun vs H Q E h => ?_) (fun cdv A outer s H vs Q E hr h => ?_)
  · obtain ⟨_, _, _, rfl, _⟩ := h
    rfl
  · obtain ⟨b, v, o, rfl, hv, hb, q, er⟩ := h
    have hu64 := hr.units
    refine ⟨_, (pss_cons (ps_expr (pe_callS G_need (hr.mono (by omega)) rfl T.d_need.g T.d_need.F.kp T.d_need.b (fun σ => passAt (takes_of rfl rfl rfl rfl) σ) (pa_cons (pe_callB (r := rIsi K) call_isi (by rfl) T.b_isinstance bt_isinstance (pa_cons (pv 0) (pa_cons (pe_ty T.b_str bt_str) pa_nil))) pa_nil))) (pss_cons (ps_set (i := 1) sc_read_move.nd rfl (Or.inl rfl) (pe_bm PySem.F.plainAttrs_str PySem.F.slot_str_split PySem.F.type_str_split mt_split (pv 0) (pa_cons pe_str pa_nil))) (pss_cons (ps_expr (pe_callS G_need (hr.mono (by omega)) rfl T.d_need.g T.d_need.F.kp T.d_need.b (fun σ => passAt (takes_of rfl rfl rfl rfl) σ) (pa_cons (pe_cmpR (r := rEqG K) (op_eqG hu64) (pe_callB (r := rLenG K) call_lenG (by rfl) T.b_len bt_len (pa_cons (pv 1) pa_nil)) pe_int (nomark _)) pa_nil))) (pss_cons (ps_setLcX (i := 2) (own := [("word", 7)]) (g := gName 7) rfl rfl (takes_of rfl rfl rfl rfl) (by rfl) sc_read_move.nd rfl rfl (sw_true rfl rfl rfl (by decide +kernel)) (pi_seq (pe_slice (r := rSlG K) sl_G (pv 1) po_none (po_some pe_int))) (blkOk_by (own := [("word", 7)]) (N := N_read_move) (sc := defScope s_read_move) (by decide +kernel)) (fun _ _ _ _ _ _ => pg_name (i := 7) sc_read_move.nd rfl (Or.inl rfl)) (fun _ _ _ _ _ _ => pts_nil) (fun _ _ _ _ _ _ Wx tkB => (pe_callS G_read_integer (hr.mono (by omega)) rfl T.d_read_integer.g T.d_read_integer.F.kp T.d_read_integer.b (fun σ => passAt tkB σ) (pa_cons (pv 7) pa_nil)))) (pss_cons (ps_par (i := 3) (j := 4) rfl sc_read_move.nd rfl rfl (by decide) rfl rfl (pa_cons (pe_callS G_read_integer (hr.mono (by omega)) rfl T.d_read_integer.g T.d_read_integer.F.kp T.d_read_integer.b (fun σ => passAt (takes_of rfl rfl rfl rfl) σ) (pa_cons (pe_ix (r := rIx K) ix_seq (pv 1) pe_int (fun _ _ => rfl)) pa_nil)) (pa_cons (pe_callS G_read_listed (hr.mono (by omega)) rfl T.d_read_listed.g T.d_read_listed.F.kp T.d_read_listed.b (fun σ => passAt (takes_of rfl rfl rfl rfl) σ) (pa_cons (pe_ix (r := rIx K) ix_seq (pv 1) pe_int (fun _ _ => rfl)) pa_nil)) pa_nil)) rfl) (pss_cons (L2H.ps_try_onlyX rfl rfl ⟨rfl, by decide, Or.inl Y.x_MoveError.gC⟩ (L2H.passesAt_of rfl) (takes_of rfl rfl rfl rfl) (fun W pn xe tk tkp po => (pss_one (ps_set (i := 5) sc_read_move.nd rfl (Or.inl rfl) (pe_makeS ⟨T.mk_Recipe, T.d_Recipe___init__.M.at_, T.d_Recipe___init__.M.fn, T.k_Recipe⟩ G_Recipe___init__ (hr.mono (by omega)) rfl T.g_Recipe T.d_Recipe___init__.b (fun σ => L2N.passAt tk σ) (pa_cons (pv 3) (pa_cons (pv 4) pa_nil)))))) (fun a oe cls d pn hz hv tk hot => (pss_one (L2H.ps_raiseHN hot tk (pmk_z5 Y.x_NoText))))) (pss_cons (ps_set (i := 6) sc_read_move.nd rfl (Or.inl rfl) (pe_op (r := rAddG K) op_addG (pe_callTy (r := rTupOf K) call_tupG (by rfl) T.b_tuple bt_tuple (pa_cons (pv 2) pa_nil)) (pe_tup (pa_cons (pv 5) (pa_cons (pe_ix (r := rIx K) ix_seq (pv 1) pe_int (fun _ _ => rfl)) pa_nil))))) (pss_cons (ps_expr (pe_callS G_need (hr.mono (by omega)) rfl T.d_need.g T.d_need.F.kp T.d_need.b (fun σ => passAt (takes_of rfl rfl rfl rfl) σ) (pa_cons (pe_call G_is_move (hr.mono (by omega)) rfl T.d_is_move.g T.d_is_move.F.kp T.d_is_move.b .nil pass0 (pa_cons (pv 6) pa_nil)) pa_nil))) (pss_one (ps_ret (pv 6))))))))))), ?_⟩
    refine ⟨v, rfl, ?_⟩
    walk_at "nc"
    refine rd_isTx hv ⟨_, rfl, fun hs => ?_, fun hs => er ?_ H .refl⟩
    rotate_left
    · cases o with
      | none => rfl
      | some l => cases hs
    cases hv with
    | odd h1 h2 => cases hs
    | str l =>
      obtain ⟨hl, hasc, hdep⟩ := hb l rfl
      simp only [Option.bind_some] at q er
      refine ⟨wdV l, rfl, rfl, _, _, rfl, rfl, rfl, ?_, fun p np => ?_⟩
      · rw [SX.S_len]
        exact Nat.le_trans (show _ ≤ 80320 by omega) (by decide)
      have hspl : Txt.split (SX.S l) (Str.ofString " ") = (splB l).map SX.S := by
        rw [show Str.ofString " " = SX.S [32] by decide +kernel, SX.split_S (by simp) (by decide)]
      rw [hspl]
      have m1 : Mv [] H (upd H p (.lst (((splB l).map SX.S).map V.str))) := .new np
      have e1 : upd H p (.lst (((splB l).map SX.S).map V.str)) p = some (.lst ((splB l).map wdV)) := by rw [upd_same, List.map_map]; rfl
      generalize upd H p (.lst (((splB l).map SX.S).map V.str)) = H1 at m1 e1 ⊢
      refine ⟨.ref p, rfl, ?_⟩
      walk_at "nc"
      refine rd_len (.inl (.inl (.inl e1))) (Or.inl ⟨rfl, ?_⟩)
      rw [List.length_map]
      by_cases h7 : (splB l).length = 7
      rotate_left
      · refine ⟨false, congrArg (fun x => [V.bl x]) (decide_eq_false fun z => h7 (by have := V.int.inj z; omega)), (fun z => by cases z), fun _ => er ?_ H1 m1⟩
        show movL progL l = none
        unfold movL
        rw [if_neg h7]
      refine ⟨true, congrArg (fun x => [V.bl x]) (decide_eq_true (by rw [h7]; rfl)), fun _ => ?_, (fun z => by cases z)⟩
      have hpm : progM l = bodyM (allI ((splB l).take 4)) (intI ((splB l).getD 5 [])) (progL ((splB l).getD 6 [])) ((splB l).getD 4 []) := by
        show movL progL l = _
        unfold movL
        rw [if_pos h7]
      refine ⟨.ref p, rfl, 4, rfl, Or.inl ⟨p, _, rfl, .inl (.inl e1), fun p2 np2 => ?_⟩⟩
      rw [show (4 : Int) = ((4 : Nat) : Int) from rfl, cut_hi, ← List.map_take]
      have m2 : Mv [] H1 (upd H1 p2 (.lst (((splB l).take 4).map wdV))) := .new np2
      have e2 : upd H1 p2 (.lst (((splB l).take 4).map wdV)) p2 = some (.lst (((splB l).take 4).map wdV)) := upd_same
      generalize upd H1 p2 (.lst (((splB l).take 4).map wdV)) = H2 at m2 e2 ⊢
      refine ⟨p2, rfl, ?_⟩
      have hpl : ∀ w ∈ splB l, w.length ≤ 20000 := fun w hw => by
        have := (spl_sub 32 l [] w hw).1
        simp at this
        omega
      refine lc_seq (xs := ((splB l).take 4).map wdV) (.inl (.inl (.inl e2))) (fun i D H3 => ∃ is : List Int, H3 D = some (.lst (is.map V.int)) ∧ allI (((splB l).take 4).take i) = some is ∧ Mv [] H2 H3)
        (fun D nD => ⟨[], upd_same, rfl, .new nD⟩) (fun i D H3 nD h3 => h3.choose_spec.2.2) (fun D nD i x H3 hx h3 => ?_) (fun D H3 nD h3 => ?_)
      · obtain ⟨is, e3, hal, m3⟩ := h3
        rw [List.getElem?_map] at hx
        obtain ⟨w', hw', rfl⟩ := Option.map_eq_some_iff.mp hx
        have hm4 := List.mem_of_getElem? hw'
        have hi := (List.getElem?_eq_some_iff.mp hw').1
        rw [List.length_take] at hi
        obtain ⟨hil, his⟩ := allI_some hal
        rw [List.length_take, List.length_take] at hil
        refine ⟨rfl, wdV w', rfl, w', rfl, Nat.le_trans (hpl w' (List.mem_of_mem_take hm4)) (by decide), fun n hn H4 m4 => ?_, fun hn H4 m4 => er ?_ H4 (m1.trans (m2.trans (m3.trans m4)))⟩
        · have e4 := m4.same _ _ e3
          refine ⟨_, e4, ?_, is ++ [n], ?_, ?_, (m3.trans m4).wr nD⟩
          · rw [List.length_map]
            exact line5lt (by omega)
          · rw [upd_same]
            simp
          · rw [List.take_add_one, hw']
            exact allI_snoc hal hn
        · rw [hpm, allI_none hm4 hn]
          rfl
      · obtain ⟨is, e3, hal, m3⟩ := h3
        rw [List.length_map, List.take_length] at hal
        have m03 := m1.trans (m2.trans m3)
        have f3 := (m2.trans m3).same _ _ e1
        have hg5 : ((splB l).map wdV)[5]? = some (wdV ((splB l).getD 5 [])) := by
          rw [List.getElem?_map, List.getD_eq_getElem?_getD, List.getElem?_eq_getElem (by omega)]
          rfl
        have hg6 : ((splB l).map wdV)[6]? = some (wdV ((splB l).getD 6 [])) := by
          rw [List.getElem?_map, List.getD_eq_getElem?_getD, List.getElem?_eq_getElem (by omega)]
          rfl
        have hg4 : ((splB l).map wdV)[4]? = some (wdV ((splB l).getD 4 [])) := by
          rw [List.getElem?_map, List.getD_eq_getElem?_getD, List.getElem?_eq_getElem (by omega)]
          rfl
        rw [hal] at hpm
        have hp5 := part_len (l := l) 5
        have hp6 := part_len (l := l) 6
        generalize (splB l).getD 5 [] = w5 at hpm hg5 hp5
        generalize hw6 : (splB l).getD 6 [] = w6 at hpm hg6 hp6 hdep
        generalize (splB l).getD 4 [] = w4 at hpm hg4
        refine ⟨.ref p, rfl, rd_ixL (.inl (.inl f3)) (by decide) (v := wdV w5) hg5 ?_⟩
        refine ⟨w5, rfl, by omega, fun m hm H4 m4 => ?_, fun hm H4 m4 => er (by rw [hpm, hm]; rfl) H4 (m03.trans m4)⟩
        rw [hm] at hpm
        have m04 := m03.trans m4
        have f4 := m4.same _ _ f3
        refine ⟨.ref p, rfl, rd_ixL (.inl (.inl f4)) (by decide) (v := wdV w6) hg6 ?_⟩
        refine ⟨w6, rfl, by omega, fun c hc => hasc c (hp6.2 c hc), hdep, fun ts hts g gs H5 m5 hg hgs => ?_, fun hts H5 m5 => er (by rw [hpm, hts]; rfl) H5 (m04.trans m5)⟩
        rw [hts] at hpm
        simp only [bodyM] at hpm
        obtain ⟨hcx, hok, hsz⟩ := progL_iff.mp hts
        have m05 := m04.trans m5
        refine ⟨_, _, rfl, ?_⟩
        refine ⟨.int m, rfl, .ref g, rfl, ?_⟩
        intro z dz nz ndz hne
        have hbd : (Tm.ths ts).length ≤ 90000 ∧ ∀ t ∈ Tm.ths ts, t.cnt ≤ 90000 := by
          have hcl : Tm.sizes ts + Tm.lvs ts ≤ 20000 := by
            have h1 := nod_cxP ts ((oks_wr ts).mp hok).1
            cases ts with
            | nil => simp [Tm.sizes, Tm.lvs]
            | cons t ts =>
              rw [lisC_cons] at hcx
              rw [← hcx] at h1
              omega
          have hnl := Tm.nod_len ts
          unfold Tm.nod at hnl
          refine ⟨by rw [ths_len]; omega, fun t ht => ?_⟩
          rw [ths_map] at ht
          obtain ⟨u, hu, rfl⟩ := List.mem_map.mp ht
          have h1 := th_nodN u
          have h2 := Tm.nod_mem hu
          rw [nod_one] at h2
          unfold Tm.nod at h2
          omega
        have hall : IsAll K z H5 gs (Tm.ths ts) := IsAll.of_ims ts gs hok hgs
        refine ⟨z, dz, .int m, .ref g, z, .int m, _, H5, rfl, rfl, nz, ndz, hne, rfl, .tup hg hall, fun r hr' => ?_, fun k hk dd H6 m6 nd => ?_, fun many' r h1 h2 h3 p4 H6 m6 s6 e6 => ?_⟩
        · cases hr'
          exact hbd
        · -- the recipe is refused
          refine ⟨true, Y.em_Wrong_MoveError, fun _ a na => ?_, fun z => by cases z⟩
          refine er ?_ _ (m05.trans (m6.trans (.new nd)))
          rw [hpm]
          refine if_neg fun hc => ?_
          simp only [Bool.and_eq_true, decide_eq_true_eq] at hc
          rw [under_wr hc.1.1.2 hok, if_pos hc.2] at hk
          cases hk
        · cases h1
          cases h2
          refine ⟨rfl, ?_⟩
          have hm0 : 0 ≤ m := by
            by_cases h : m < 0
            · exfalso
              have : recWrong (.int m) (some (gs, Tm.ths ts)) = some 0 := if_pos h
              rw [this] at h3
              cases h3
            · omega
          rw [under_wr hm0 hok] at h3
          have hun : (Tm.ths ts).all (under m) = true := by
            by_cases h : (Tm.ths ts).all (under m) = true
            · exact h
            · rw [if_neg h] at h3
              cases h3
          have hR : RecAt K H6 T.C_Recipe z m ts := ⟨dz, p4, gs, s6, e6, hgs.mv m6⟩
          have m36 := m4.trans (m5.trans m6)
          have e36 := m36.same _ _ e3
          have e16 := m36.same _ _ f3
          have hil : is.length = 4 := by
            have := (allI_some hal).1
            rw [List.length_take] at this
            omega
          refine ⟨.ref D, rfl, nilT95 (rd_tupOf (.inl (.inl e36)) fun p7 H7 m7 e7 => ⟨.ref z, rfl, .ref p, rfl, rd_ixL (.inl (.inl (m7.same _ _ e16))) (by decide) (v := wdV w4) hg4 ⟨(by decide : 2 ≤ sizeLine), fun p8 np8 => ?_⟩⟩)⟩
          have m8 : Mv [] H7 (upd H7 p8 (.tup [.ref z, wdV w4])) := .new np8
          have e8 : SqT K (upd H7 p8 (.tup [.ref z, wdV w4])) p8 [.ref z, wdV w4] := .inl (.inl upd_same)
          generalize upd H7 p8 (.tup [.ref z, wdV w4]) = H8 at m8 e8 ⊢
          refine rd_cat (m8.sqT e7) e8 (by rw [List.length_map, hil]; exact (by decide : 4 + 2 ≤ sizeLine)) fun p9 H9 m9 e9 => ?_
          have m69 := m7.trans (m8.trans m9)
          have m09 := m05.trans (m6.trans m69)
          refine ⟨.ref p9, rfl, p9, z, is, w4, m, ts, rfl, e9, hR.mv m69, hil, fun H10 m10 => ⟨_, rfl, fun hk => ?_, fun hk => er ?_ H10 (m09.trans m10)⟩⟩
          · refine ⟨.ref p9, rfl, ?_⟩
            refine q is w4 m ts ?_ p9 z H10 (m09.trans m10) (m10.sqT e9) ((hR.mv m69).mv m10)
            rw [hpm]
            rw [Bool.and_eq_true] at hk
            rw [if_pos (by rw [hk.1, hk.2, hun, decide_eq_true hm0]; rfl)]
          · rw [hpm]
            refine if_neg fun hc => ?_
            simp only [Bool.and_eq_true] at hc
            rw [hc.1.1.1, hc.1.2] at hk
            cases hk
end
end Fm
namespace Fm
open PySem PySem.Spec PyProof.Rows L2 SlX
local macro_rules | `(tactic| walk_at "nn") => `(tactic| dsimp only [tC, tNil, tCons, tCB, tCall, gName, tSeq, tAsg, tPar, tDrop, tRet])
local macro_rules | `(tactic| walk_at "nc") => `(tactic| dsimp only [tC, tNil, tCons, tCB, tCall])
def dM (q : List Int × List Nat × Int × List Tm) : PyData := .tuple [.tuple (q.1.map PyData.int), .str (SX.S q.2.1), .int q.2.2.1, tsD q.2.2.2]
theorem spl_cnt97 (d k : Nat) : ∀ (l acc : List Nat), ∀ p ∈ TL.spl [d] 0 acc l, p.count k ≤ acc.count k + l.count k
  | [], acc, p, hp => by
    rw [TL.spl_nil, List.mem_singleton] at hp
    rw [hp]
    simp
  | c :: r, acc, p, hp => by
    cases h : TL.pre [d] (c :: r) with
    | true =>
      rw [TL.spl_hit h, List.mem_cons] at hp
      rcases hp with rfl | hp
      · omega
      · have h1 := spl_cnt97 d k r [] p hp
        have h2 := (List.sublist_cons_self c r).count_le k
        simp only [List.count_nil] at h1
        omega
    | false =>
      rw [TL.spl_miss h] at hp
      have h1 := spl_cnt97 d k r (acc ++ [c]) p hp
      rw [List.count_append] at h1
      simp only [List.count_cons, List.count_nil] at h1 ⊢
      omega
theorem part_cnt {l : List Nat} (k : Nat) : ((splB l).getD k []).count 40 ≤ l.count 40 := by
  by_cases h : k < (splB l).length
  · have e : (splB l).getD k [] = (splB l)[k] := by rw [List.getD_eq_getElem?_getD, List.getElem?_eq_getElem h]; rfl
    have := spl_cnt97 32 40 l [] _ (List.getElem_mem h)
    rw [e]
    simpa using this
  · have e : (splB l).getD k [] = [] := by rw [List.getD_eq_getElem?_getD, List.getElem?_eq_none (by omega)]; rfl
    rw [e]
    simp
def sp_lrM (K : PySem.W.Frag) (m : Nat) : Sp := fun vs H Q _ => ∃ (l : List Nat), vs = [wdV l] ∧ l.length ≤ 400 ∧ l.count 40 ≤ m ∧ ∀ p xs H', H p = none → Mv [] H H' → H' p = some (.lst xs) → Ims K H' xs ((progM l).toList.map dM) → Q (.ref p) H'
def numI (w : List Nat) : List Int := match intI w with
  | some i => [i]
  | none => []
theorem numI_p40 {w : List Nat} {i : Int} (h : intI w = some i) : i.natAbs < 10 ^ 40 := by
  obtain ⟨hk, rfl⟩ := intI_some h
  have hlt := digs_lt hk
  unfold intV
  split
  · rw [Int.natAbs_neg, Int.natAbs_natCast]
    exact hlt
  · rw [Int.natAbs_natCast]
    exact hlt
def NumAt (H : Hp) (ps : List Addr) (ws : List (List Nat)) : Prop := ps.length = ws.length ∧ ∀ (i : Nat) (p : Addr) (w : List Nat), ps[i]? = some p → ws[i]? = some w → H p = some (.lst ((numI w).map V.int))
theorem NumAt.mv {H H' : Hp} {ps : List Addr} {ws : List (List Nat)} (h : NumAt H ps ws) (m : Mv [] H H') : NumAt H' ps ws := ⟨h.1, fun i p w e1 e2 => m.same _ _ (h.2 i p w e1 e2)⟩
theorem NumAt.snoc {H : Hp} {ps : List Addr} {ws : List (List Nat)} {p : Addr} {w : List Nat} (h : NumAt H ps ws) (e : H p = some (.lst ((numI w).map V.int))) : NumAt H (ps ++ [p]) (ws ++ [w]) := by
  refine ⟨by simp [h.1], fun i q v e1 e2 => ?_⟩
  by_cases hi : i < ps.length
  · rw [List.getElem?_append_left hi] at e1
    rw [List.getElem?_append_left (by rw [← h.1]; exact hi)] at e2
    exact h.2 i q v e1 e2
  · rw [List.getElem?_append_right (by omega)] at e1
    rw [List.getElem?_append_right (by rw [← h.1]; omega)] at e2
    have h0 : i - ps.length = 0 := by
      cases hk : i - ps.length with
      | zero => rfl
      | succ k => rw [hk] at e1; cases e1
    rw [h0] at e1
    rw [← h.1, h0] at e2
    cases e1
    cases e2
    exact e
theorem NumAt.tail {H : Hp} {p : Addr} {ps : List Addr} {w : List Nat} {ws : List (List Nat)} (h : NumAt H (p :: ps) (w :: ws)) : NumAt H ps ws := ⟨by simpa using h.1, fun i q v e1 e2 => h.2 (i + 1) q v e1 e2⟩
def numD (w : List Nat) : PyData := .list ((numI w).map PyData.int)
theorem dp_intsN {K : PySem.W.Frag} {H : Hp} : ∀ is : List Int, DpAll K H (is.map V.int) (is.map PyData.int)
  | [] => .nil
  | i :: is => .cons (.int i) (dp_intsN is)
theorem NumAt.dp {K : PySem.W.Frag} {H : Hp} : ∀ {ps : List Addr} {ws : List (List Nat)}, NumAt H ps ws → DpAll K H (ps.map V.ref) (ws.map numD)
  | [], [], _ => .nil
  | [], _ :: _, h => by cases h.1
  | _ :: _, [], h => by cases h.1
  | p :: ps, w :: ws, h => .cons (.lst (.inl (.inl (h.2 0 p w rfl rfl))) (dp_intsN _)) h.tail.dp
theorem num_shaped {ws : List (List Nat)} : SeqAt.shaped (.list (ws.map numD)) = true := by
  have hf : fineAll (ws.map numD) ∧ PyData.depthAll (ws.map numD) ≤ 1 := by
    induction ws with
    | nil => exact ⟨trivial, by simp [PyData.depthAll]⟩
    | cons w ws ih =>
      have h1 : fine (numD w) ∧ PyData.depth (numD w) ≤ 1 := by
        unfold numD numI
        cases h : intI w with
        | none => exact ⟨trivial, by simp [PyData.depth, PyData.depthAll]⟩
        | some i => exact ⟨⟨numI_p40 h, trivial⟩, by simp [PyData.depth, PyData.depthAll]⟩
      refine ⟨⟨h1.1, ih.1⟩, ?_⟩
      simp only [List.map_cons, PyData.depthAll]
      omega
  refine shaped_fi15 hf.1 ?_
  simp only [PyData.depth]
  omega
theorem num_any (ws : List (List Nat)) : ((ws.map numD).any fun z => PyData.eqv z (.list [])) = decide (allI ws = none) := by
  induction ws with
  | nil => rfl
  | cons w ws ih =>
    rw [List.map_cons, List.any_cons, ih]
    have h1 : PyData.eqv (numD w) (.list []) = decide (intI w = none) := by
      unfold numD numI
      cases intI w <;> rfl
    rw [h1]
    show _ = decide ((match intI w, allI ws with
      | some i, some is => some (i :: is)
      | _, _ => none) = none)
    cases intI w <;> cases allI ws <;> simp
theorem allI_app {a b : List (List Nat)} {is : List Int} (h : allI (a ++ b) = some is) : ∃ js ks, allI a = some js ∧ allI b = some ks ∧ is = js ++ ks := by
  induction a generalizing is with
  | nil => exact ⟨[], is, rfl, h, rfl⟩
  | cons w a ih =>
    rw [List.cons_append] at h
    unfold allI at h
    cases h1 : intI w with
    | none => rw [h1] at h; cases h
    | some i =>
      cases h2 : allI (a ++ b) with
      | none => rw [h1, h2] at h; cases h
      | some ls =>
        rw [h1, h2] at h
        cases h
        obtain ⟨js, ks, k1, k2, k3⟩ := ih h2
        refine ⟨i :: js, ks, ?_, k2, by rw [k3]; rfl⟩
        unfold allI
        rw [h1, k1]
theorem allI_join {a b : List (List Nat)} {js ks : List Int} (h1 : allI a = some js) (h2 : allI b = some ks) : allI (a ++ b) = some (js ++ ks) := by
  obtain ⟨l1, g1⟩ := allI_some h1
  obtain ⟨l2, g2⟩ := allI_some h2
  refine allI_all (by simp [l1, l2]) fun i w hw => ?_
  by_cases hi : i < a.length
  · rw [List.getElem?_append_left hi] at hw
    rw [List.getElem?_append_left (by omega)]
    exact g1 i w hw
  · rw [List.getElem?_append_right (by omega)] at hw
    rw [List.getElem?_append_right (by omega), l1]
    exact g2 _ w hw
theorem ths_all_len {ts : List Tm} : Th.cnts (Tm.ths ts) ≤ 2 * Tm.sizes ts + Tm.lvs ts := ths_nodN ts
theorem termsT_under {m : Int} {ts : List Tm} (h : Tm.oks Q40 ts) : termsT m (.tup (Tm.ths ts)) = (Tm.ths ts).all (under m) := by
  show (Tm.ths ts).all (overT m) = _
  rw [Bool.eq_iff_iff, List.all_eq_true, List.all_eq_true]
  refine ⟨fun k t ht => ?_, fun k t ht => ?_⟩
  · have := k t ht
    unfold overT at this
    rw [Bool.and_eq_true] at this
    exact this.2
  · have h1 := k t ht
    rw [ths_map] at ht
    obtain ⟨u, hu, rfl⟩ := List.mem_map.mp ht
    unfold overT
    rw [h1, isTerm_th (fun i h => h.1) u (Tm.oks_iff.mp h u hu)]
    rfl
theorem ims_intN {K : PySem.W.Frag} {H : Hp} : ∀ ms : List Int, Ims K H (ms.map V.int) (ms.map PyData.int)
  | [] => Ims.nil
  | m :: ms => Ims.cons (.int m) (ims_intN ms)
section
variable {P : Program} {w : World} {K : PySem.W.Frag} {mg : Str → Option Value} {base : Heap}
theorem ok__law_read_move (T : TX K mg) {m : Nat} : FnOk P w K mg base CX0 (2 * m + 7) T.d__law_read_move.f T.d__law_read_move.fd P__law_read_move (sp_lrM K m) := by
  have G__law_read_number : FnOk P w K mg base CX0 1 T.d__law_read_number.f T.d__law_read_number.fd P__law_read_number (sp_lnum K) := ok__law_read_number (k := 0) T
  have G__law_read_listed : FnOk P w K mg base CX0 (2 * m + 6) T.d__law_read_listed.f T.d__law_read_listed.fd P__law_read_listed (sp_lrL K m) := ok__law_read_listed T
  have G__law_are_terms : FnOk P w K mg base CX0 3 T.d__law_are_terms.f T.d__law_are_terms.fd P__law_are_terms (sp_lthing K termsT) := ok__law_are_terms (k := 0) T
  refine T.d__law_read_move.F.ok sc__law_read_move (fun vs H Q E h => ?_) (fun cdv A outer s H vs Q E hr h => ?_)
  · obtain ⟨_, rfl, _⟩ := h
    rfl
  · obtain ⟨l, rfl, hl, hm, q⟩ := h
    have hu64 := hr.units
    have hu65 := hu65_of hr
    refine ⟨_, (pss_cons (ps_set (i := 1) sc__law_read_move.nd rfl (Or.inl rfl) (pe_bm PySem.F.plainAttrs_str PySem.F.slot_str_split PySem.F.type_str_split mt_split (pv 0) (pa_cons pe_str pa_nil))) (pss_cons (ps_if (PW.pt (pw_or (pt_cmpR (r := rNeG K) (op_neG hu64) (pe_callB (r := rLenG K) call_lenG (by rfl) T.b_len bt_len (pa_cons (pv 1) pa_nil)) pe_int (nomark _)) (pw_or1 (pt_cmpR (r := rIn K true) op_notIn_seq (pe_ix (r := rIx K) ix_seq (pv 1) pe_int (fun _ _ => rfl)) (pe_tup (pa_cons pe_str (pa_cons pe_str pa_nil))) rfl)))) (pss_one (ps_ret (pe_lst pa_nil))) pss_nil) (pss_cons (ps_par (i := 2) (j := 3) rfl sc__law_read_move.nd rfl rfl (by decide) rfl rfl (pa_cons (pe_lc (own := [("_law_word", 4)]) (g := gName 4) (by rfl) sc__law_read_move.nd (pi_seq (pe_op (r := rAddG K) op_addG (pe_slice (r := rSlG K) sl_G (pv 1) po_none (po_some pe_int)) (pe_slice (r := rSlG K) sl_G (pv 1) (po_some pe_int) (po_some pe_int)))) (blkOk_by (own := [("_law_word", 4)]) (N := N__law_read_move) (sc := defScope s__law_read_move) (by decide +kernel)) (fun _ _ _ _ _ => pg_name (i := 4) sc__law_read_move.nd rfl (Or.inl rfl)) (fun _ _ _ _ _ => pts_nil) (fun _ _ _ _ _ => (pe_call G__law_read_number (hr.mono (by omega)) rfl T.d__law_read_number.g T.d__law_read_number.F.kp T.d__law_read_number.b .nil pass0 (pa_cons (pv 4) pa_nil)))) (pa_cons (pe_call G__law_read_listed (hr.mono (by omega)) rfl T.d__law_read_listed.g T.d__law_read_listed.F.kp T.d__law_read_listed.b .nil pass0 (pa_cons (pe_ix (r := rIx K) ix_seq (pv 1) pe_int (fun _ _ => rfl)) pa_nil)) pa_nil)) rfl) (pss_cons (ps_if (PW.pt (pw_or (pt_cmpR (r := rInG K) (op_inG hu65) (pe_lst pa_nil) (pv 2) rfl) (pw_or (pt_cmpR (r := rEqNil K) (op_eqNil (Nat.lt_of_le_of_lt (Nat.le_add_right _ 65) hu65)) (pv 3) (pe_lst pa_nil) (nomark _)) (pw_or1 (pt_cmpR (r := rNeNil K) (op_neNil (Nat.lt_of_le_of_lt (Nat.le_add_right _ 65) hu65)) (pe_lc (own := [("_law_one", 5)]) (g := gName 5) (by rfl) sc__law_read_move.nd (pi_seq (pv 2)) (blkOk_by (own := [("_law_one", 5)]) (N := N__law_read_move) (sc := defScope s__law_read_move) (by decide +kernel)) (fun _ _ _ _ _ => pg_name (i := 5) sc__law_read_move.nd rfl (Or.inl rfl)) (fun _ _ _ _ _ => (pts_one (pt_cmpR op_lt (pe_ix (r := rIx K) ix_seq (pv 5) pe_int (fun _ _ => rfl)) pe_int (nomark _)))) (fun _ _ _ _ _ => (pv 5))) (pe_lst pa_nil) (nomark _)))))) (pss_one (ps_ret (pe_lst pa_nil))) pss_nil) (pss_cons (ps_if (pt_not (pt_val (pe_call G__law_are_terms (hr.mono (by omega)) rfl T.d__law_are_terms.g T.d__law_are_terms.F.kp T.d__law_are_terms.b .nil pass0 (pa_cons (pe_ix (r := rIx K) ix_seq (pv 3) pe_int (fun _ _ => rfl)) (pa_cons (pe_ix (r := rIx K) ix_seq (pe_ix (r := rIx K) ix_seq (pv 2) pe_int (fun _ _ => rfl)) pe_int (fun _ _ => rfl)) pa_nil))))) (pss_one (ps_ret (pe_lst pa_nil))) pss_nil) (pss_one (ps_ret (pe_lst (pa_cons (pe_tup (pa_cons (pe_callTy (r := rTupOf K) call_tupG (by rfl) T.b_tuple bt_tuple (pa_cons (pe_lc (own := [("_law_one", 5)]) (g := gName 5) (by rfl) sc__law_read_move.nd (pi_seq (pe_slice (r := rSlG K) sl_G (pv 2) po_none (po_some pe_int))) (blkOk_by (own := [("_law_one", 5)]) (N := N__law_read_move) (sc := defScope s__law_read_move) (by decide +kernel)) (fun _ _ _ _ _ => pg_name (i := 5) sc__law_read_move.nd rfl (Or.inl rfl)) (fun _ _ _ _ _ => pts_nil) (fun _ _ _ _ _ => (pe_ix (r := rIx K) ix_seq (pv 5) pe_int (fun _ _ => rfl)))) pa_nil)) (pa_cons (pe_ix (r := rIx K) ix_seq (pv 1) pe_int (fun _ _ => rfl)) (pa_cons (pe_ix (r := rIx K) ix_seq (pe_ix (r := rIx K) ix_seq (pv 2) pe_int (fun _ _ => rfl)) pe_int (fun _ _ => rfl)) (pa_cons (pe_ix (r := rIx K) ix_seq (pv 3) pe_int (fun _ _ => rfl)) pa_nil))))) pa_nil))))))))), ?_⟩
    have fin : ∀ o : Option (List Int × List Nat × Int × List Tm), o = none → ((∀ p xs H', H p = none → Mv [] H H' → H' p = some (.lst xs) → Ims K H' xs (o.toList.map dM) → Q (.ref p) H')) → ∀ H' p, Mv [] H H' → H' p = none → Q (.ref p) (upd H' p (.lst [])) := fun o e q H' p m1 np => by
      subst e
      exact q p [] _ (m1.free np) (m1.trans (.new np)) upd_same Ims.nil
    refine ⟨wdV l, rfl, rfl, _, _, rfl, rfl, rfl, ?_, fun p np => ?_⟩
    · rw [SX.S_len]
      exact Nat.le_trans (show _ ≤ 80320 by omega) (by decide)
    have hspl : Txt.split (SX.S l) (Str.ofString " ") = (splB l).map SX.S := by
      rw [show Str.ofString " " = SX.S [32] by decide +kernel, SX.split_S (by simp) (by decide)]
    rw [hspl]
    have m1 : Mv [] H (upd H p (.lst (((splB l).map SX.S).map V.str))) := .new np
    have e1 : upd H p (.lst (((splB l).map SX.S).map V.str)) p = some (.lst ((splB l).map wdV)) := by rw [upd_same, List.map_map]; rfl
    generalize upd H p (.lst (((splB l).map SX.S).map V.str)) = H1 at m1 e1 ⊢
    refine ⟨.ref p, rfl, ?_⟩
    walk_at "nc"
    refine rd_len (.inl (.inl (.inl e1))) (Or.inl ⟨rfl, _, rfl, ?_⟩)
    rw [List.length_map]
    by_cases h7 : (splB l).length = 7
    rotate_left
    · rw [decide_eq_false fun z => h7 (by have := V.int.inj z; omega)]
      refine ⟨Nat.zero_le _, fun p np => fin _ ?_ q H1 p m1 np⟩
      show movL progL l = none
      unfold movL
      rw [if_neg h7]
    rw [decide_eq_true (by rw [h7]; rfl)]
    have hpm : progM l = bodyM (allI ((splB l).take 4)) (intI ((splB l).getD 5 [])) (progL ((splB l).getD 6 [])) ((splB l).getD 4 []) := by
      show movL progL l = _
      unfold movL
      rw [if_pos h7]
    have hg : ∀ k, k < 7 → ((splB l).map wdV)[k]? = some (wdV ((splB l).getD k [])) := fun k hk => by
      rw [List.getElem?_map, List.getD_eq_getElem?_getD, List.getElem?_eq_getElem (by omega)]
      rfl
    refine ⟨.ref p, rfl, rd_ixL (.inl (.inl e1)) (by decide) (v := wdV ((splB l).getD 4 [])) (hg 4 (by decide)) ⟨(by decide : 2 ≤ sizeLine), fun p2 n2 => ?_⟩⟩
    have k2 := Mv.new (S := []) (o := (.tup [.str (Str.ofString "may"), .str (Str.ofString "must")])) n2
    have e2 : SqT K (upd H1 p2 (.tup [.str (Str.ofString "may"), .str (Str.ofString "must")])) p2 [.str (Str.ofString "may"), .str (Str.ofString "must")] := .inl (.inl upd_same)
    generalize upd H1 p2 (.tup [.str (Str.ofString "may"), .str (Str.ofString "must")]) = H2 at k2 e2 ⊢
    have m2 := m1.trans k2
    refine ⟨_, _, rfl, .inr e2, rfl, rfl, _, rfl, ?_⟩
    rw [if_pos rfl, kind_in]
    have hp6 := part_len (l := l) 6
    cases hkd : kindL ((splB l).getD 4 []) with
    | false =>
      refine ⟨Nat.zero_le _, fun p np => fin _ ?_ q H2 p m2 np⟩
      rw [hpm]
      unfold bodyM
      split
      · rw [hkd, if_neg (by simp)]
      · rfl
    | true =>
      have hE := k2.same _ _ e1
      refine ⟨.ref p, rfl, 4, rfl, Or.inl ⟨p, _, rfl, .inl (.inl hE), fun p3 n3 => ?_⟩⟩
      rw [show (4 : Int) = ((4 : Nat) : Int) from rfl, cut_hi, ← List.map_take]
      have k3 := Mv.new (S := []) (o := (.lst (((splB l).take 4).map wdV))) n3
      have e3 : upd H2 p3 (.lst (((splB l).take 4).map wdV)) p3 = some (.lst (((splB l).take 4).map wdV)) := upd_same
      generalize upd H2 p3 (.lst (((splB l).take 4).map wdV)) = H3 at k3 e3 ⊢
      have m3 := m2.trans k3
      refine ⟨.ref p, rfl, 5, rfl, 6, rfl, Or.inl ⟨p, _, rfl, .inl (.inl (k3.same _ _ hE)), fun p4 n4 => ?_⟩⟩
      have h56 : cutV ((splB l).map wdV) (some 5) (some 6) = [(splB l).getD 5 []].map wdV := by
        have h5 := hg 5 (by decide)
        unfold cutV
        rw [show (5 : Int) = ((5 : Nat) : Int) from rfl, show (6 : Int) = ((6 : Nat) : Int) from rfl, HT.sIx_nat, HT.sIx_nat, List.length_map, h7]
        show (((splB l).map wdV).drop 5).take 1 = _
        rw [List.drop_eq_getElem_cons (by rw [List.length_map]; omega)]
        have := List.getElem?_eq_getElem (l := (splB l).map wdV) (i := 5) (by rw [List.length_map]; omega)
        rw [h5] at this
        rw [← Option.some.inj this]
        rfl
      rw [h56]
      have k4 := Mv.new (S := []) (o := (.lst ([(splB l).getD 5 []].map wdV))) n4
      have e4 : upd H3 p4 (.lst ([(splB l).getD 5 []].map wdV)) p4 = some (.lst ([(splB l).getD 5 []].map wdV)) := upd_same
      generalize upd H3 p4 (.lst ([(splB l).getD 5 []].map wdV)) = H4 at k4 e4 ⊢
      have m4 := m3.trans k4
      refine rd_catL (k4.same _ _ e3) e4 (by rw [List.length_map, List.length_take]; exact Nat.le_trans (show _ ≤ 10 by simp; omega) (by decide)) fun p5 H5 n5 k5 e5 => ?_
      rw [← List.map_append] at e5
      have m5 := m4.trans k5
      refine ⟨p5, rfl, ?_⟩
      have hpl : ∀ w ∈ (splB l).take 4 ++ [(splB l).getD 5 []], w.length ≤ 400 := fun w hw => by
        rcases List.mem_append.mp hw with hw | hw
        · have := (spl_sub 32 l [] w (List.mem_of_mem_take hw)).1
          simp at this
          omega
        · rw [List.mem_singleton.mp hw]
          have := (part_len (l := l) 5).1
          omega
      generalize hWs : (splB l).take 4 ++ [(splB l).getD 5 []] = Ws at e5 hpl
      have hWl : Ws.length = 5 := by rw [← hWs, List.length_append, List.length_take]; simp; omega
      refine lc_seq (xs := Ws.map wdV) (.inl (.inl (.inl e5))) (fun i D H6 => ∃ ps : List Addr, H6 D = some (.lst (ps.map V.ref)) ∧ NumAt H6 ps (Ws.take i) ∧ (∀ q ∈ ps, q ≠ D) ∧ Mv [] H5 H6)
        (fun D nD => ⟨[], upd_same, ⟨rfl, fun i p w e => by cases e⟩, (fun q hq => by cases hq), .new nD⟩) (fun i D H6 nD h6 => h6.choose_spec.2.2.2) (fun D nD i x H6 hx h6 => ?_) (fun D H6 nD h6 => ?_)
      · obtain ⟨ps, e6, hN, hne, m6⟩ := h6
        rw [List.getElem?_map] at hx
        obtain ⟨w', hw', rfl⟩ := Option.map_eq_some_iff.mp hx
        refine ⟨rfl, wdV w', rfl, w', rfl, Nat.le_trans (hpl w' (List.mem_of_getElem? hw')) (by decide), fun p7 H7 n7 m7 e7 => ?_⟩
        have e7 : H7 p7 = some (.lst ((numI w').map V.int)) := by
          rw [e7]
          unfold numI
          cases intI w' <;> rfl
        have e67 := m7.same _ _ e6
        have hp7 : p7 ≠ D := (ne_of_none e6 n7).symm
        have hNl := hN.1
        refine ⟨_, e67, ?_, ps ++ [p7], by rw [upd_same, List.map_append]; rfl, ?_, ?_, (m6.trans m7).wr nD⟩
        · rw [List.length_map, hNl, List.length_take]
          exact line5lt (by omega)
        · rw [List.take_add_one, hw']
          have hN7 := (hN.mv m7).snoc e7
          refine ⟨hN7.1, fun j q w'' h1 h2 => ?_⟩
          have hqD : q ≠ D := by
            have hq := List.mem_of_getElem? h1
            rcases List.mem_append.mp hq with hq | hq
            · exact hne q hq
            · rw [List.mem_singleton.mp hq]
              exact hp7
          rw [upd_ne hqD]
          exact hN7.2 j q w'' h1 h2
        · intro q hq
          rcases List.mem_append.mp hq with hq | hq
          · exact hne q hq
          · rw [List.mem_singleton.mp hq]
            exact hp7
      · obtain ⟨ps, e6, hN, _, m6⟩ := h6
        rw [List.length_map, List.take_length] at hN
        have m06 := m5.trans m6
        have hE6 := ((k3.trans (k4.trans k5)).trans m6).same _ _ hE
        refine ⟨.ref p, rfl, rd_ixL (.inl (.inl hE6)) (by decide) (v := wdV ((splB l).getD 6 [])) (hg 6 (by decide)) ?_⟩
        refine ⟨_, rfl, by have := hp6.1; omega, Nat.le_trans (part_cnt 6) hm, fun p7 xs7 H7 n7 m7 e7 i7 => ?_⟩
        rw [← prog_lawL (l := (splB l).getD 6 []) (f := ((splB l).getD 6 []).length + 2) (by omega)] at i7
        have m07 := m06.trans m7
        have hE7 := m7.same _ _ hE6
        have e67 := m7.same _ _ e6
        have hN7 := hN.mv m7
        refine ⟨_, _, rfl, ?_⟩
        have hw5 : allI [(splB l).getD 5 []] = (intI ((splB l).getD 5 [])).map fun i => [i] := by
          unfold allI
          cases intI ((splB l).getD 5 []) <;> rfl
        generalize (splB l).getD 6 [] = w6 at hpm i7 hp6
        refine ⟨Nat.zero_le _, fun p8 n8 => ⟨.ref D, rfl, Or.inl ⟨.list [], Ws.map numD, .lst (.inl (.inl upd_same)) .nil, .lst (.inl (.inl ((Mv.new (S := []) n8).same _ _ e67))) (hN7.mv (.new n8)).dp, by decide, num_shaped, _, rfl, ?_⟩⟩⟩
        rw [num_any]
        have m8 : Mv [] H7 (upd H7 p8 (.lst [])) := .new n8
        generalize upd H7 p8 (.lst []) = H8 at m8 ⊢
        cases hA : allI Ws with
        | none =>
          rw [decide_eq_true rfl]
          refine ⟨Nat.zero_le _, fun p9 n9 => fin _ ?_ q H8 p9 (m07.trans m8) n9⟩
          rw [hpm]
          cases a1 : allI ((splB l).take 4) with
          | none => rfl
          | some ns =>
            cases a2 : intI ((splB l).getD 5 []) with
            | none => rfl
            | some mm =>
              have := allI_join a1 (hw5.trans (by rw [a2]; rfl))
              rw [hWs, hA] at this
              cases this
        | some is =>
          rw [decide_eq_false (by simp)]
          obtain ⟨ns, ks, a1, a2, rfl⟩ := allI_app (by rw [hWs]; exact hA)
          rw [hw5] at a2
          obtain ⟨mm, a3, rfl⟩ := Option.map_eq_some_iff.mp a2
          rw [a1, a3] at hpm
          have hnl : ns.length = 4 := by
            have := (allI_some a1).1
            rw [List.length_take] at this
            omega
          have hget := (allI_some hA).2
          refine ⟨.ref p7, rfl, Nat.zero_le _, fun p9 n9 => ⟨p7, p9, xs7, rfl, rfl, .inl (.inl ((m8.trans (.new n9)).same _ _ e7)), .inl (.inl upd_same), _, rfl, ?_⟩⟩
          have m9 : Mv [] H8 (upd H8 p9 (.lst [])) := .new n9
          generalize upd H8 p9 (.lst []) = H9 at m9 ⊢
          have m79 := m8.trans m9
          have m09 := m07.trans m79
          cases hT : progL w6 with
          | none =>
            rw [hT] at i7 hpm
            obtain rfl : xs7 = [] := i7.nilD
            exact ⟨Nat.zero_le _, fun p9 n9 => fin _ (by rw [hpm]; rfl) q H9 p9 m09 n9⟩
          | some ts =>
            rw [hT] at i7 hpm
            simp only [bodyM] at hpm
            obtain ⟨vg, xs8, rfl, ig, i8⟩ := i7.invD
            obtain rfl : xs8 = [] := i8.nilD
            obtain ⟨g, gs, rfl, hgq, hgs⟩ := ig.tupI
            obtain ⟨hcx, hok, _⟩ := progL_iff.mp hT
            have hN9 := hN7.mv m79
            have e69 := m79.same _ _ e67
            have hpsl : ps.length = 5 := hN9.1.trans hWl
            refine ⟨.ref D, rfl, ?_⟩
            refine ⟨D, rfl, ?_⟩
            have hone : ∀ (i : Nat) (H' : Hp), i < 5 → Mv [] H9 H' → ∃ q n, ps[i]? = some q ∧ (ns ++ [mm])[i]? = some n ∧ H' q = some (.lst [.int n]) := fun i H' hi m' => by
              obtain ⟨w, hw⟩ : ∃ w, Ws[i]? = some w := ⟨_, List.getElem?_eq_getElem (by omega)⟩
              obtain ⟨n, hn, hin⟩ := hget i w hw
              obtain ⟨q, hq⟩ : ∃ q, ps[i]? = some q := ⟨_, List.getElem?_eq_getElem (by omega)⟩
              have := m'.same _ _ (hN9.2 i q w hq hw)
              refine ⟨q, n, hq, hin, ?_⟩
              rw [this]
              unfold numI
              rw [hn]
              rfl
            refine lc_seq (xs := ps.map V.ref) (.inl (.inl (.inl e69))) (fun i D2 H10 => ∃ acc : List V, H10 D2 = some (.lst acc) ∧ acc.length ≤ i ∧ acc.isEmpty = ((ns ++ [mm]).take i).all (fun i => decide (0 ≤ i)) ∧ Mv [] H9 H10)
              (fun D nD => ⟨[], upd_same, Nat.zero_le _, rfl, .new nD⟩) (fun i D H10 nD h10 => h10.choose_spec.2.2.2) (fun D2 nD i x H10 hx h10 => ?_) (fun D2 H10 nD h10 => ?_)
            · obtain ⟨acc, e10, hal, hae, m10⟩ := h10
              rw [List.getElem?_map] at hx
              obtain ⟨q', hq', rfl⟩ := Option.map_eq_some_iff.mp hx
              have hi5 := (List.getElem?_eq_some_iff.mp hq').1
              obtain ⟨q'', n, hq'', hn, hlq⟩ := hone i H10 (by omega) m10
              rw [hq'] at hq''
              cases hq''
              refine ⟨rfl, .ref q', rfl, rd_ixL (.inl (.inl hlq)) (by decide) (v := .int n) rfl ⟨n, 0, rfl, rfl, _, rfl, ?_⟩⟩
              have htk : (ns ++ [mm]).take (i + 1) = (ns ++ [mm]).take i ++ [n] := by rw [List.take_add_one, hn]; rfl
              by_cases hn0 : n < 0
              · rw [decide_eq_true hn0]
                refine ⟨.ref q', rfl, acc, e10, line5lt (by omega), acc ++ [.ref q'], upd_same, by rw [List.length_append, List.length_cons, List.length_nil]; omega, ?_, m10.wr nD⟩
                rw [htk, List.all_append]
                simp [show ¬ 0 ≤ n by omega]
              · rw [decide_eq_false hn0]
                refine ⟨acc, e10, by omega, ?_, m10⟩
                rw [htk, List.all_append, hae]
                simp [show 0 ≤ n by omega]
            · obtain ⟨acc, e10, _, hae, m10⟩ := h10
              rw [List.length_map, hpsl, List.take_of_length_le (by rw [List.length_append, hnl]; simp)] at hae
              refine ⟨Nat.zero_le _, fun p11 n11 => ⟨D2, p11, acc, rfl, rfl, .inl (.inl ((Mv.new (S := []) n11).same _ _ e10)), .inl (.inl upd_same), _, rfl, ?_⟩⟩
              have m11 : Mv [] H9 (upd H10 p11 (.lst [])) := m10.trans (.new n11)
              generalize upd H10 p11 (.lst []) = H11 at m11 ⊢
              rw [hae]
              have m0b := m09.trans m11
              cases hpos : (ns ++ [mm]).all (fun i => decide (0 ≤ i)) with
              | false =>
                refine ⟨Nat.zero_le _, fun p9 n9 => fin _ ?_ q H11 p9 m0b n9⟩
                rw [hpm]
                refine if_neg fun z => ?_
                simp only [Bool.and_eq_true] at z
                rw [List.all_append, z.1.1.1] at hpos
                simp at hpos
                have := of_decide_eq_true z.1.1.2
                omega
              | true =>
                rw [List.all_append, Bool.and_eq_true] at hpos
                have hm0 : 0 ≤ mm := by simpa using hpos.2
                obtain ⟨q4, n4, hq4, hn4, hl4⟩ := hone 4 H11 (by decide) m11
                have hn4' : n4 = mm := by
                  rw [List.getElem?_append_right (by omega), hnl] at hn4
                  simpa using hn4.symm
                subst hn4'
                have e6b := m11.same _ _ e69
                have e7b := (m79.trans m11).same _ _ e7
                have hgq' := (m79.trans m11).sqT hgq
                have hgs' := hgs.mv (m79.trans m11)
                have hps4 : (ps.map V.ref)[4]? = some (.ref q4) := by rw [List.getElem?_map, hq4]; rfl
                refine ⟨.ref p7, rfl, rd_ixL (.inl (.inl e7b)) (by decide) (v := .ref g) rfl ⟨.ref D, rfl, rd_ixL (.inl (.inl e6b)) (by decide) (v := .ref q4) hps4 (rd_ixL (.inl (.inl hl4)) (by decide) (v := .int n4) rfl ?_)⟩⟩
                have hcnt : (Th.tup (Tm.ths ts)).cnt ≤ 900 := by
                  have h1 := ths_all_len (ts := ts)
                  have h2 := nod_cxP ts ((oks_wr ts).mp hok).1
                  have h3 : (Tm.cxP ts).length ≤ 402 := by
                    cases ts with
                    | nil => simp [Tm.cxP]
                    | cons t ts =>
                      rw [← lisC_cons, ← hcx]
                      have := hp6.1
                      omega
                  simp only [Th.cnt]
                  omega
                refine ⟨.ref g, .tup (Tm.ths ts), 0, n4, rfl, ⟨g, gs, rfl, hgq', IsAll.of_ims ts gs hok hgs'⟩, hcnt, fun H12 m12 => ?_⟩
                rw [termsT_under hok]
                have m0c := m0b.trans m12
                cases hun : (Tm.ths ts).all (under n4) with
                | false =>
                  refine ⟨_, rfl, ?_⟩
                  refine ⟨Nat.zero_le _, fun p9 n9 => fin _ ?_ q H12 p9 m0c n9⟩
                  rw [hpm]
                  refine if_neg fun z => ?_
                  simp only [Bool.and_eq_true] at z
                  rw [z.2] at hun
                  cases hun
                | true =>
                  refine ⟨_, rfl, ?_⟩
                  have hpm' : progM l = some (ns, (splB l).getD 4 [], n4, ts) := by
                    rw [hpm, if_pos]
                    rw [hpos.1, hkd, hun, decide_eq_true hm0]
                    rfl
                  rw [hpm'] at q
                  have e6c := m12.same _ _ e6b
                  have hEc := ((m7.trans m79).trans (m11.trans m12)).same _ _ hE6
                  refine ⟨.ref D, rfl, 4, rfl, Or.inl ⟨D, _, rfl, .inl (.inl e6c), fun p13 n13 => ?_⟩⟩
                  rw [show (4 : Int) = ((4 : Nat) : Int) from rfl, cut_hi, ← List.map_take]
                  have k13 := Mv.new (S := []) (o := (.lst ((ps.take 4).map V.ref))) n13
                  have e13 : upd H12 p13 (.lst ((ps.take 4).map V.ref)) p13 = some (.lst ((ps.take 4).map V.ref)) := upd_same
                  generalize upd H12 p13 (.lst ((ps.take 4).map V.ref)) = H13 at k13 e13 ⊢
                  have m13 := m12.trans k13
                  have m9d := m11.trans m13
                  refine ⟨p13, rfl, ?_⟩
                  refine lc_seq (xs := (ps.take 4).map V.ref) (.inl (.inl (.inl e13))) (fun i D3 H14 => H14 D3 = some (.lst ((ns.take i).map V.int)) ∧ Mv [] H13 H14)
                    (fun D nD => ⟨upd_same, .new nD⟩) (fun i D H14 nD h14 => h14.2) (fun D3 nD i x H14 hx h14 => ?_) (fun D3 H14 nD h14 => ?_)
                  · obtain ⟨e14, m14⟩ := h14
                    rw [List.getElem?_map] at hx
                    obtain ⟨q', hq', rfl⟩ := Option.map_eq_some_iff.mp hx
                    have hi4 := (List.getElem?_eq_some_iff.mp hq').1
                    rw [List.length_take] at hi4
                    rw [List.getElem?_take] at hq'
                    rw [if_pos (by omega)] at hq'
                    obtain ⟨q'', n, hq'', hn, hlq⟩ := hone i H14 (by omega) (m9d.trans m14)
                    rw [hq'] at hq''
                    cases hq''
                    rw [List.getElem?_append_left (by omega)] at hn
                    refine ⟨rfl, .ref q', rfl, rd_ixL (.inl (.inl hlq)) (by decide) (v := .int n) rfl ⟨_, e14, ?_, ?_, m14.wr nD⟩⟩
                    · rw [List.length_map, List.length_take]
                      exact line5lt (by omega)
                    · rw [upd_same, List.take_add_one, hn]
                      simp
                  · obtain ⟨e14, m14⟩ := h14
                    rw [List.length_map, List.length_take, List.take_of_length_le (by omega)] at e14
                    refine nilT95 (rd_tupOf (.inl (.inl e14)) fun p15 H15 k15 e15 => ?_)
                    have mA := k13.trans (m14.trans k15)
                    have mB := (m12.trans k13).trans (m14.trans k15)
                    refine ⟨.ref p, rfl, rd_ixL (.inl (.inl (mA.same _ _ hEc))) (by decide) (v := wdV ((splB l).getD 4 [])) (hg 4 (by decide)) ?_⟩
                    refine ⟨.ref D, rfl, rd_ixL (.inl (.inl (mA.same _ _ e6c))) (by decide) (v := .ref q4) hps4 (rd_ixL (.inl (.inl (mB.same _ _ hl4))) (by decide) (v := .int n4) rfl ?_)⟩
                    refine ⟨.ref p7, rfl, rd_ixL (.inl (.inl (mB.same _ _ e7b))) (by decide) (v := .ref g) rfl ?_⟩
                    refine ⟨(by decide : 4 ≤ sizeLine), fun p16 n16 => ?_⟩
                    have k16 := Mv.new (S := []) (o := (.tup [.ref p15, wdV ((splB l).getD 4 []), .int n4, .ref g])) n16
                    have e16 : SqT K (upd H15 p16 (.tup [.ref p15, wdV ((splB l).getD 4 []), .int n4, .ref g])) p16 [.ref p15, wdV ((splB l).getD 4 []), .int n4, .ref g] := .inl (.inl upd_same)
                    generalize upd H15 p16 (.tup [.ref p15, wdV ((splB l).getD 4 []), .int n4, .ref g]) = H16 at k16 e16 ⊢
                    have m16 := mB.trans k16
                    refine ⟨(by decide : 1 ≤ sizeLine), fun p17 n17 => ?_⟩
                    have m17 : Mv [] H16 (upd H16 p17 (.lst [.ref p16])) := .new n17
                    refine q p17 [.ref p16] _ ((m0b.trans m16).free n17) ((m0b.trans m16).trans m17) upd_same ?_
                    refine Ims.cons (Im.tup (m17.sqT e16) (Ims.cons (Im.tup ((k16.trans m17).sqT e15) ?_) (Ims.cons (.str _) (Ims.cons (.int _) (Ims.cons (Im.tup ((m16.trans m17).sqT hgq') (hgs'.mv (m16.trans m17))) Ims.nil))))) Ims.nil
                    exact ims_intN ns
end
end Fm
namespace Fm
open PySem PySem.Spec PyProof.Rows L2 SlX
local macro_rules | `(tactic| walk_at "nn") => `(tactic| dsimp only [tC, tNil, tCons, tCB, tCall, gName, tSeq, tAsg, tPar, tDrop, tRet])
local macro_rules | `(tactic| walk_at "nc") => `(tactic| dsimp only [tC, tNil, tCons, tCB, tCall])
def toldD (way : Int) (o : Option (List Nat)) : List PyData := if way = 0 then (o.bind progT).toList.map Tm.d else (o.bind progM).toList.map dM
def FewN (o : Option (List Nat)) : Prop := ∀ l, o = some l → l.length ≤ 20000 ∧ (∀ c ∈ l, c < 128) ∧ ∀ ts, (splB l).getD 6 [] = lisC ts → Tm.oks Q40 ts → (∀ t ∈ ts, t.size ≤ 200) → Tm.deps ts < 61
def sp_ltold (K : PySem.W.Frag) : Sp := fun vs H Q _ => ∃ (b : Addr) (way : Int) (v : V) (o : Option (List Nat)), vs = [.int way, v] ∧ (way = 0 ∨ way = 1) ∧ TxV K b H v o ∧ FewN o ∧ ∀ p xs H', H p = none → Mv [] H H' → H' p = some (.lst xs) → Ims K H' xs (toldD way o) → Q (.ref p) H'
section
variable {P : Program} {w : World} {K : PySem.W.Frag} {mg : Str → Option Value} {base : Heap}
theorem ok__law_told (T : TX K mg) (Y : TY P K mg) {k : Nat} : FnOk P w K mg base CX0 (k + 127) T.d__law_told.f T.d__law_told.fd P__law_told (sp_ltold K) := by
  have G_read_term := Fm.FnOk.ofN (ok_read_termX (P := P) (w := w) (base := base) (k := 0) T Y)
  have G_read_move : FnOk P w K mg base (CX P w) 126 T.d_read_move.f T.d_read_move.fd P_read_move (sp_rdMovX K T.C_Recipe Y.C_NoText 61) := ok_read_moveX (k := 124) T Y (by decide) (by decide)
  have G_Recipe_variables : FnOk P w K mg base CX0 1 T.d_Recipe_variables.f T.d_Recipe_variables.fd P_Recipe_variables (sp_Recvars K T.C_Recipe) := ok_Recipe_variables T
  have G_Recipe_terms : FnOk P w K mg base CX0 1 T.d_Recipe_terms.f T.d_Recipe_terms.fd P_Recipe_terms (sp_Recterms K T.C_Recipe) := ok_Recipe_terms T
  refine T.d__law_told.F.ok sc__law_told (fun vs H Q E h => ?_) (fun cdv A outer s H vs Q E hr h => ?_)
  · obtain ⟨_, _, _, _, rfl, _⟩ := h
    rfl
  · obtain ⟨b, way, v, o, rfl, hway, hv, hb, q⟩ := h
    have hu64 := hr.units
    refine ⟨_, (pss_one (ps_try_as (i := 3) rfl rfl sc__law_told.nd rfl rfl ⟨rfl, by decide, Or.inl Y.x_MoveError.gC⟩ takes0 (fun W pn xe tk po => (pss_cons (ps_if (pt_cmpR (r := rEqG K) (op_eqG hu64) (pv 0) pe_int (nomark _)) (pss_one (ps_ret (pe_lst (pa_cons (pe_callS G_read_term (hr.mono (by omega)) rfl T.d_read_term.g T.d_read_term.F.kp T.d_read_term.b (fun σ => passAt tk σ) (pa_cons (pv 1) pa_nil)) pa_nil)))) pss_nil) (pss_cons (ps_set (i := 2) sc__law_told.nd rfl (Or.inl rfl) (pe_callS G_read_move (hr.mono (by omega)) rfl T.d_read_move.g T.d_read_move.F.kp T.d_read_move.b (fun σ => passAt tk σ) (pa_cons (pv 1) pa_nil))) (pss_one (ps_ret (pe_lst (pa_cons (pe_tup (pa_cons (pe_slice (r := rSlG K) sl_G (pv 2) po_none (po_some pe_int)) (pa_cons (pe_ix (r := rIx K) ix_seq (pv 2) pe_int (fun _ _ => rfl)) (pa_cons (pe_propSl (pe_ix (r := rIx K) ix_seq (pv 2) pe_int (fun _ _ => rfl)) T.c_Recipe T.d_Recipe_variables.at_ T.d_Recipe_variables.get T.d_Recipe_variables.tk T.d_Recipe_variables.rc (fnR_of G_Recipe_variables T.d_Recipe_variables.b) (hr.mono (by omega)) no0) (pa_cons (pe_propSl (pe_ix (r := rIx K) ix_seq (pv 2) pe_int (fun _ _ => rfl)) T.c_Recipe T.d_Recipe_terms.at_ T.d_Recipe_terms.get T.d_Recipe_terms.tk T.d_Recipe_terms.rc (fnR_of G_Recipe_terms T.d_Recipe_terms.b) (hr.mono (by omega)) no0) pa_nil))))) pa_nil))))))) (fun a oe cls d pn hz hf => (pss_one (ps_ret (pe_ifExp (PW.pt (pw_and (pt_val (pe_callB (call_isX hz hf) (by rfl) T.b_isinstance bt_isinstance (pa_cons (pv 3) (pa_cons (pe_glob rfl Y.x_NoText.gC (show L2.RelV (.ref Y.C_NoText) _ from rfl)) pa_nil)))) (pw_and1 (pt_val (pe_callB (call_isX hz hf) (by rfl) T.b_isinstance bt_isinstance (pa_cons (pv 3) (pa_cons (pe_ty T.b_ValueError bt_ValueError) pa_nil))))))) (pe_lst pa_nil) pe_str)))))), ?_⟩
    have caught : ∀ H1, Mv [] H H1 → toldD way o = [] → ∀ a, H1 a = none → ∀ p, H1 p = none → Q (.ref p) (upd H1 p (.lst [])) := fun H1 m1 e a na p np => by
      refine q p [] _ (m1.free np) (m1.trans (.new np)) upd_same ?_
      rw [e]
      exact Ims.nil
    refine ⟨.int way, rfl, Or.inl ⟨rfl, _, rfl, ?_⟩⟩
    have hw0 : decide (V.int way = V.int 0) = decide (way = 0) := by
      rw [decide_eq_decide]
      exact ⟨fun h => V.int.inj h, fun h => by rw [h]⟩
    rw [hw0]
    by_cases h0 : way = 0
    · rw [decide_eq_true h0]
      have htd : toldD way o = (o.bind progT).toList.map Tm.d := if_pos h0
      refine ⟨v, rfl, b, v, o, rfl, hv, fun l hl => ⟨(hb l hl).1, (hb l hl).2.1⟩, fun t ht v' H1 m1 him => ?_, fun hn H1 m1 => ?_⟩
      · refine ⟨(by decide : 1 ≤ sizeLine), fun p np => ?_⟩
        refine q p [v'] _ (m1.free np) (m1.trans (.new np)) upd_same ?_
        rw [htd, ht]
        exact Ims.cons (him.mv (Mv.new (S := []) np)) Ims.nil
      · refine ⟨true, Y.em_NoText_MoveError, fun _ a na => ?_, fun z => by cases z⟩
        refine ⟨.ref a, rfl, ?_⟩
        walk_at "nc"
        refine ⟨Y.C_NoText, .ref Y.C_NoText, .ref Y.C_NoText, true, rfl, Y.xc_NoText, .inl rfl, rfl, fun _ h => h, kitOne_self _, ?_⟩
        refine ⟨_, rfl, ?_⟩
        refine ⟨.ref a, rfl, Y.C_NoText, .ty "ValueError", .type "ValueError", true, rfl, Y.xc_NoText, .inl rfl, rfl, fun _ h => h, Y.ev_NoText, _, rfl, ?_⟩
        exact ⟨Nat.zero_le _, fun p np => caught H1 m1 (by rw [htd, hn]; rfl) a na p np⟩
    · rw [decide_eq_false h0]
      have htd : toldD way o = (o.bind progM).toList.map dM := if_neg h0
      refine ⟨v, rfl, b, v, o, rfl, hv, hb, fun ns kd m ts ht a rc H1 m1 ha hR => ?_, fun hn H1 m1 => ?_⟩
      · have hns : ns.length = 4 := by
          cases o with
          | none => cases ht
          | some l =>
            have ht : movL progL l = some (ns, kd, m, ts) := ht
            unfold movL at ht
            split at ht
            · rename_i h7
              unfold bodyM at ht
              split at ht
              · rename_i h1 h2 h3
                split at ht
                · cases ht
                  have := (allI_some h1).1
                  rw [List.length_take] at this
                  omega
                · cases ht
              · cases ht
            · cases ht
        obtain ⟨dx, p, xs, hs, hp, hx⟩ := id hR
        have hk4 : (ns.map V.int ++ [.ref rc, wdV kd] : List V)[(4 : Int).toNat]? = some (.ref rc) := by
          rw [show (4 : Int).toNat = 4 from rfl, List.getElem?_append_right (by rw [List.length_map]; omega), List.length_map, hns]
          rfl
        have hk5 : (ns.map V.int ++ [.ref rc, wdV kd] : List V)[(5 : Int).toNat]? = some (wdV kd) := by
          rw [show (5 : Int).toNat = 5 from rfl, List.getElem?_append_right (by rw [List.length_map]; omega), List.length_map, hns]
          rfl
        refine ⟨.ref a, rfl, 4, rfl, rd_slT ha fun p2 H2 m2 e2 => ?_⟩
        have e2 : SqT K H2 p2 (ns.map V.int) := by
          rw [show (4 : Int) = ((4 : Nat) : Int) from rfl, cut_hi, List.take_append_of_le_length (by rw [List.length_map]; omega), List.take_of_length_le (by rw [List.length_map]; omega)] at e2
          exact e2
        have ha2 := m2.sqT ha
        refine ⟨.ref a, rfl, rd_ixT ha2 (by decide) (v := wdV kd) hk5 ?_⟩
        refine ⟨.ref a, rfl, rd_ixT ha2 (by decide) (v := .ref rc) hk4 ?_⟩
        refine ⟨rc, dx, _, rfl, Slt.mv hs m2, rc, m, ts, rfl, hR.mv m2, ?_⟩
        refine ⟨.ref a, rfl, rd_ixT ha2 (by decide) (v := .ref rc) hk4 ?_⟩
        refine ⟨rc, dx, _, rfl, Slt.mv hs m2, rc, m, ts, rfl, hR.mv m2, fun vt im => ?_⟩
        refine ⟨(by decide : 4 ≤ sizeLine), fun p4 n4 => ?_⟩
        have k4 := Mv.new (S := []) (o := (.tup [.ref p2, wdV kd, .int m, vt])) n4
        have e4 : SqT K (upd H2 p4 (.tup [.ref p2, wdV kd, .int m, vt])) p4 [.ref p2, wdV kd, .int m, vt] := .inl (.inl upd_same)
        generalize upd H2 p4 (.tup [.ref p2, wdV kd, .int m, vt]) = H4 at k4 e4 ⊢
        have m4 := m2.trans k4
        refine ⟨(by decide : 1 ≤ sizeLine), fun p5 n5 => ?_⟩
        have k5 : Mv [] H4 (upd H4 p5 (.lst [.ref p4])) := .new n5
        refine q p5 [.ref p4] _ ((m1.trans m4).free n5) ((m1.trans m4).trans k5) upd_same ?_
        rw [htd, ht]
        exact Ims.cons (Im.tup (k5.sqT e4) (Ims.cons (Im.tup ((k4.trans k5).sqT e2) (ims_intN ns)) (Ims.cons (.str _) (Ims.cons (.int _) (Ims.cons (im.mv (k4.trans k5)) Ims.nil))))) Ims.nil
      · refine ⟨true, Y.em_NoText_MoveError, fun _ a na => ?_, fun z => by cases z⟩
        refine ⟨.ref a, rfl, ?_⟩
        walk_at "nc"
        refine ⟨Y.C_NoText, .ref Y.C_NoText, .ref Y.C_NoText, true, rfl, Y.xc_NoText, .inl rfl, rfl, fun _ h => h, kitOne_self _, ?_⟩
        refine ⟨_, rfl, ?_⟩
        refine ⟨.ref a, rfl, Y.C_NoText, .ty "ValueError", .type "ValueError", true, rfl, Y.xc_NoText, .inl rfl, rfl, fun _ h => h, Y.ev_NoText, _, rfl, ?_⟩
        exact ⟨Nat.zero_le _, fun p np => caught H1 m1 (by rw [htd, hn]; rfl) a na p np⟩
end
end Fm
namespace Fm
open PySem PySem.Spec PyProof.Rows L2 SlX
local macro_rules | `(tactic| walk_at "nn") => `(tactic| dsimp only [tC, tNil, tCons, tCB, tCall, gName, tSeq, tAsg, tPar, tDrop, tRet])
local macro_rules | `(tactic| walk_at "nc") => `(tactic| dsimp only [tC, tNil, tCons, tCB, tCall])
def AscL (l : List Nat) : Prop := ∀ c ∈ l, c < 128
theorem AscL.app {a b : List Nat} (h : AscL a) (k : AscL b) : AscL (a ++ b) := fun c hc => (List.mem_append.mp hc).elim (h c) (k c)
theorem AscL.take {a : List Nat} (h : AscL a) (i : Nat) : AscL (a.take i) := fun c hc => h c (List.mem_of_mem_take hc)
theorem AscL.drop {a : List Nat} (h : AscL a) (i : Nat) : AscL (a.drop i) := fun c hc => h c (List.mem_of_mem_drop hc)
theorem cnt_bent0 (l : List Nat) (i k c : Nat) : (l.take i ++ l.drop (i + k)).count c ≤ l.count c + 3 := by
  have h1 : (l.take i).count c + (l.drop i).count c = l.count c := by rw [← List.count_append, List.take_append_drop]
  have h2 : (l.drop (i + k)).count c ≤ (l.drop i).count c := by
    rw [← List.drop_drop]
    exact (List.drop_sublist k (l.drop i)).count_le c
  rw [List.count_append]
  omega
theorem cnt_bent {l z : List Nat} (i k c : Nat) (h : z.length ≤ 3) : (l.take i ++ z ++ l.drop (i + k)).count c ≤ l.count c + 3 := by
  have h1 : (l.take i).count c + (l.drop i).count c = l.count c := by rw [← List.count_append, List.take_append_drop]
  have h2 : (l.drop (i + k)).count c ≤ (l.drop i).count c := by
    rw [← List.drop_drop]
    exact (List.drop_sublist k (l.drop i)).count_le c
  have h3 := List.count_le_length (a := c) (l := z)
  rw [List.count_append, List.count_append]
  omega
def sp_bent (K : PySem.W.Frag) : Sp := fun vs H Q _ => ∃ (b : Addr) (l : List Nat), vs = [.ref b, wdV l] ∧ Bag H b ∧ l.length ≤ 1000 ∧ AscL l ∧ ∀ l' H', l'.length ≤ l.length + 3 → AscL l' → l'.count 40 ≤ l.count 40 + 3 → Dr b H H' → Q (wdV l') H'
theorem bend_asc : ∀ c ∈ (Str.ofString "(),0 -\nA1a+_").cps.toList, c < 128 := by decide +kernel
theorem bend_len : (Str.ofString "(),0 -\nA1a+_").cps.toList.length = 12 := by decide +kernel
theorem rd_sFrom {K : PySem.W.Frag} {l : List Nat} {i : Nat} {H : Hp} {Q : VK} (hl : l.length ≤ 20000) (q : Q (wdV (l.drop i)) H) : rSlG K (wdV l) (some (i : Int)) none H Q :=
  Or.inr (Or.inr ⟨_, rfl, by rw [SX.S_len]; exact Nat.le_trans hl (by decide), by rw [cutN_from]; exact q⟩)
theorem rd_sTo {K : PySem.W.Frag} {l : List Nat} {i : Nat} {H : Hp} {Q : VK} (hl : l.length ≤ 20000) (q : Q (wdV (l.take i)) H) : rSlG K (wdV l) none (some (i : Int)) H Q :=
  Or.inr (Or.inr ⟨_, rfl, by rw [SX.S_len]; exact Nat.le_trans hl (by decide), by rw [cutN_to]; exact q⟩)
theorem rd_sMid {K : PySem.W.Frag} {l : List Nat} {i j : Nat} {H : Hp} {Q : VK} (hl : l.length ≤ 20000) (q : Q (wdV ((l.drop i).take (j - i))) H) : rSlG K (wdV l) (some (i : Int)) (some (j : Int)) H Q :=
  Or.inr (Or.inr ⟨_, rfl, by rw [SX.S_len]; exact Nat.le_trans hl (by decide), by rw [cutN_nn]; exact q⟩)
theorem rd_sCat {K : PySem.W.Frag} {a b : List Nat} {H : Hp} {Q : VK} (hl : a.length + b.length ≤ 20000) (q : Q (wdV (a ++ b)) H) : rAddG K (wdV a) (wdV b) H Q :=
  Or.inr (Or.inl ⟨_, _, rfl, rfl, by rw [SX.S_len, SX.S_len]; exact Nat.le_trans hl (by decide), by rw [SX.S_cat]; exact q⟩)
section
variable {P : Program} {w : World} {K : PySem.W.Frag} {mg : Str → Option Value} {base : Heap}
theorem ok__law_bent (T : TX K mg) {k : Nat} : FnOk P w K mg base CX0 (k + 2) T.d__law_bent.f T.d__law_bent.fd P__law_bent (sp_bent K) := by
  have G__law_take : FnOk P w K mg base CX0 1 T.d__law_take.f T.d__law_take.fd P__law_take sp_take := ok__law_take T
  refine T.d__law_bent.F.ok sc__law_bent (fun vs H Q E h => ?_) (fun cdv A outer s H vs Q E hr h => ?_)
  · obtain ⟨_, _, rfl, _⟩ := h
    rfl
  · obtain ⟨b, l, rfl, hB, hl, hasc, q⟩ := h
    have hu64 := hr.units
    refine ⟨_, (pss_cons (ps_par (i := 2) (j := 3) rfl sc__law_bent.nd rfl rfl (by decide) rfl rfl (pa_cons (pe_call G__law_take (hr.mono (by omega)) rfl T.d__law_take.g T.d__law_take.F.kp T.d__law_take.b .nil pass0 (pa_cons (pv 0) (pa_cons (pe_op (r := rAddG K) op_addG (pe_callB (r := rLenG K) call_lenG (by rfl) T.b_len bt_len (pa_cons (pv 1) pa_nil)) pe_int) pa_nil))) (pa_cons (pe_call G__law_take (hr.mono (by omega)) rfl T.d__law_take.g T.d__law_take.F.kp T.d__law_take.b .nil pass0 (pa_cons (pv 0) (pa_cons pe_int pa_nil))) pa_nil)) rfl) (pss_cons (ps_set (i := 4) sc__law_bent.nd rfl (Or.inl rfl) (pe_ix (r := rIx K) ix_seq pe_str (pe_call G__law_take (hr.mono (by omega)) rfl T.d__law_take.g T.d__law_take.F.kp T.d__law_take.b .nil pass0 (pa_cons (pv 0) (pa_cons pe_int pa_nil))) (fun _ _ => rfl))) (pss_cons (ps_if (pt_cmpR (r := rEqG K) (op_eqG hu64) (pv 3) pe_int (nomark _)) (pss_one (ps_ret (pe_op (r := rAddG K) op_addG (pe_slice (r := rSlG K) sl_G (pv 1) po_none (po_some (pv 2))) (pe_slice (r := rSlG K) sl_G (pv 1) (po_some (pe_op (r := rAddG K) op_addG (pv 2) pe_int)) po_none)))) pss_nil) (pss_cons (ps_if (pt_cmpR op_lt (pv 3) pe_int (nomark _)) (pss_one (ps_ret (pe_op (r := rAddG K) op_addG (pe_op (r := rAddG K) op_addG (pe_slice (r := rSlG K) sl_G (pv 1) po_none (po_some (pv 2))) (pv 4)) (pe_slice (r := rSlG K) sl_G (pv 1) (po_some (pv 2)) po_none)))) pss_nil) (pss_cons (ps_if (pt_cmpR (r := rEqG K) (op_eqG hu64) (pv 3) pe_int (nomark _)) (pss_one (ps_ret (pe_op (r := rAddG K) op_addG (pe_op (r := rAddG K) op_addG (pe_slice (r := rSlG K) sl_G (pv 1) po_none (po_some (pv 2))) (pv 4)) (pe_slice (r := rSlG K) sl_G (pv 1) (po_some (pe_op (r := rAddG K) op_addG (pv 2) pe_int)) po_none)))) pss_nil) (pss_one (ps_ret (pe_ifExp (pt_cmpR (r := rEqG K) (op_eqG hu64) (pv 3) pe_int (nomark _)) (pe_op (r := rAddG K) op_addG (pe_op (r := rAddG K) op_addG (pe_slice (r := rSlG K) sl_G (pv 1) po_none (po_some (pv 2))) (pe_revS (pe_slice (r := rSlG K) sl_G (pv 1) (po_some (pv 2)) (po_some (pe_op (r := rAddG K) op_addG (pv 2) pe_int))))) (pe_slice (r := rSlG K) sl_G (pv 1) (po_some (pe_op (r := rAddG K) op_addG (pv 2) pe_int)) po_none)) (pe_op (r := rAddG K) op_addG (pe_op (r := rAddG K) op_addG (pe_slice (r := rSlG K) sl_G (pv 1) po_none (po_some (pv 2))) (pe_slice (r := rSlG K) sl_G (pv 1) (po_some (pv 2)) (po_some (pe_op (r := rAddG K) op_addG (pv 2) pe_int)))) (pe_slice (r := rSlG K) sl_G (pv 1) (po_some (pv 2)) po_none)))))))))), ?_⟩
    have hz : (SX.S l).length ≤ sizeLine := by
      rw [SX.S_len]
      exact Nat.le_trans hl (by decide)
    refine ⟨.ref b, rfl, wdV l, rfl, ?_⟩
    walk_at "nc"
    refine Or.inr (Or.inl ⟨_, rfl, hz, Or.inl ⟨_, 1, rfl, rfl, ?_⟩⟩)
    rw [SX.S_len]
    refine ⟨b, (l.length : Int) + 1, rfl, hB, by omega, by omega, fun ai H1 a0 a1 d1 => ?_⟩
    obtain ⟨at_, rfl⟩ := Int.eq_ofNat_of_zero_le a0
    have hB1 := d1.bag hB
    refine ⟨.ref b, rfl, b, 6, rfl, hB1, by decide, by decide, fun way H2 w0 w1 d2 => ?_⟩
    have hB2 := d2.bag hB1
    refine ⟨_, _, rfl, ?_⟩
    refine ⟨.ref b, rfl, b, 12, rfl, hB2, by decide, by decide, fun si H3 s0 s1 d3 => ?_⟩
    have d03 : Dr b H H3 := d1.trans (d2.trans d3)
    obtain ⟨sn, rfl⟩ := Int.eq_ofNat_of_zero_le s0
    obtain ⟨c, hc⟩ : ∃ c, (Str.ofString "(),0 -\nA1a+_").cps.toList[sn]? = some c := ⟨_, List.getElem?_eq_getElem (by rw [bend_len]; omega)⟩
    have hca : AscL [c] := fun d hd => by
      rw [List.mem_singleton.mp hd]
      exact bend_asc c (List.mem_of_getElem? hc)
    refine Or.inr (Or.inr ⟨_, (sn : Int), c, rfl, rfl, (by decide +kernel), atI_nat (j := sn) hc, ?_⟩)
    rw [show (⟨#[c]⟩ : Str) = SX.S [c] from rfl]
    have hat : at_ ≤ l.length := by omega
    have ht := List.length_take (i := at_) (l := l)
    have h20 : l.length ≤ 20000 := by omega
    have hdl : ∀ i, (l.drop i).length ≤ l.length := fun i => by rw [List.length_drop]; omega
    have hveq : ∀ k : Int, decide (V.int way = V.int k) = decide (way = k) := fun k => by
      rw [decide_eq_decide]
      exact ⟨fun h => V.int.inj h, fun h => by rw [h]⟩
    refine ⟨.int way, rfl, Or.inl ⟨rfl, _, rfl, ?_⟩⟩
    rw [hveq]
    by_cases h0 : way = 0
    · rw [decide_eq_true h0]
      refine ⟨wdV l, rfl, .int at_, rfl, _, rfl, rd_sTo h20 ⟨wdV l, rfl, .int at_, rfl, Or.inl ⟨_, 1, rfl, rfl, _, rfl, ?_⟩⟩⟩
      rw [show (at_ : Int) + 1 = ((at_ + 1 : Nat) : Int) by omega]
      refine rd_sFrom h20 (rd_sCat (by rw [ht, List.length_drop]; omega) (q _ H3 ?_ ((hasc.take _).app (hasc.drop _)) (cnt_bent0 l at_ 1 40) d03))
      rw [List.length_append, ht, List.length_drop]
      omega
    rw [decide_eq_false h0]
    refine ⟨.int way, rfl, way, 3, rfl, rfl, _, rfl, ?_⟩
    by_cases h3 : way < 3
    · rw [decide_eq_true h3]
      refine ⟨wdV l, rfl, .int at_, rfl, _, rfl, rd_sTo h20 ⟨wdV [c], rfl, rd_sCat (by rw [ht]; simp; omega) ⟨wdV l, rfl, .int at_, rfl, _, rfl, rd_sFrom h20 (rd_sCat ?_ (q _ H3 ?_ (((hasc.take _).app hca).app (hasc.drop _)) (cnt_bent at_ 0 40 (by simp)) d03))⟩⟩⟩
      · rw [List.length_append, ht, List.length_drop]
        simp
        omega
      · rw [List.length_append, List.length_append, ht, List.length_drop]
        simp
        omega
    rw [decide_eq_false h3]
    refine ⟨.int way, rfl, Or.inl ⟨rfl, _, rfl, ?_⟩⟩
    rw [hveq]
    by_cases h3 : way = 3
    · rw [decide_eq_true h3]
      refine ⟨wdV l, rfl, .int at_, rfl, _, rfl, rd_sTo h20 ⟨wdV [c], rfl, rd_sCat (by rw [ht]; simp; omega) ⟨wdV l, rfl, .int at_, rfl, Or.inl ⟨_, 1, rfl, rfl, _, rfl, ?_⟩⟩⟩⟩
      rw [show (at_ : Int) + 1 = ((at_ + 1 : Nat) : Int) by omega]
      refine rd_sFrom h20 (rd_sCat ?_ (q _ H3 ?_ (((hasc.take _).app hca).app (hasc.drop _)) (cnt_bent at_ 1 40 (by simp)) d03))
      · rw [List.length_append, ht, List.length_drop]
        simp
        omega
      · rw [List.length_append, List.length_append, ht, List.length_drop]
        simp
        omega
    rw [decide_eq_false h3]
    refine ⟨.int way, rfl, Or.inl ⟨rfl, _, rfl, ?_⟩⟩
    rw [hveq]
    have hmid : ∀ j, ((l.drop at_).take j).length ≤ j := fun j => by rw [List.length_take]; omega
    by_cases h4 : way = 4
    · rw [decide_eq_true h4]
      refine ⟨wdV l, rfl, .int at_, rfl, _, rfl, rd_sTo h20 ⟨wdV l, rfl, .int at_, rfl, _, rfl, .int at_, rfl, Or.inl ⟨_, 2, rfl, rfl, _, rfl, ?_⟩⟩⟩
      rw [show (at_ : Int) + 2 = ((at_ + 2 : Nat) : Int) by omega]
      refine rd_sMid h20 ?_
      rw [show at_ + 2 - at_ = 2 by omega]
      have h2 := hmid 2
      refine ⟨_, rfl, by rw [SX.S_len]; exact Nat.le_trans h2 (by decide), ?_⟩
      rw [S_rev]
      refine rd_sCat (by rw [ht, List.length_reverse]; omega) ⟨wdV l, rfl, .int at_, rfl, Or.inl ⟨_, 2, rfl, rfl, _, rfl, ?_⟩⟩
      rw [show (at_ : Int) + 2 = ((at_ + 2 : Nat) : Int) by omega]
      have hra : AscL ((l.drop at_).take 2).reverse := fun d hd => ((hasc.drop at_).take 2) d (List.mem_reverse.mp hd)
      refine rd_sFrom h20 (rd_sCat ?_ (q _ H3 ?_ (((hasc.take _).app hra).app (hasc.drop _)) (cnt_bent at_ 2 40 (by rw [List.length_reverse]; omega)) d03))
      · rw [List.length_append, ht, List.length_drop, List.length_reverse]
        omega
      · rw [List.length_append, List.length_append, ht, List.length_drop, List.length_reverse]
        omega
    · rw [decide_eq_false h4]
      refine ⟨wdV l, rfl, .int at_, rfl, _, rfl, rd_sTo h20 ⟨wdV l, rfl, .int at_, rfl, _, rfl, .int at_, rfl, Or.inl ⟨_, 3, rfl, rfl, _, rfl, ?_⟩⟩⟩
      rw [show (at_ : Int) + 3 = ((at_ + 3 : Nat) : Int) by omega]
      refine rd_sMid h20 ?_
      rw [show at_ + 3 - at_ = 3 by omega]
      have h2 := hmid 3
      refine rd_sCat (by rw [ht]; omega) ⟨wdV l, rfl, .int at_, rfl, _, rfl, rd_sFrom h20 (rd_sCat ?_ (q _ H3 ?_ (((hasc.take _).app ((hasc.drop _).take _)).app (hasc.drop _)) (cnt_bent at_ 0 40 (by omega)) d03))⟩
      · rw [List.length_append, ht, List.length_drop]
        omega
      · rw [List.length_append, List.length_append, ht, List.length_drop]
        omega
end
end Fm
namespace Fm
open PySem PySem.Spec PyProof.Rows L2
abbrev nC (i : Int) : List Nat := TL.numL i.toNat
def wayP (w : Str × List Int × Int) : List (List Nat) := w.1.cps.toList :: nC w.2.2 :: w.2.1.map nC
def wayC (w : Str × List Int × Int) : List Nat := TL.joinL [58] (wayP w)
def chC (c : Int × Tm) : List Nat := nC c.1 ++ (61 :: c.2.cx)
def setW : List Nat := [115, 101, 116]
def askW : List Nat := [97, 115, 107]
def endW : List Nat := [101, 110, 100]
def actW : List Nat := [97, 99, 116]
def codeW : List Nat := [99, 111, 100, 101]
def staP : Sta → List (List Nat)
  | .set chs goal => setW :: nC goal :: chs.map chC
  | .ask act ts ways => askW :: act.cps.toList :: lisC ts :: ways.map wayC
  | .fin word ts => [endW, word.cps.toList, lisC ts]
def staC (st : Sta) : List Nat := TL.joinL [32] (staP st)
def outC (o : Str × Int) : List Nat := o.1.cps.toList ++ (58 :: nC o.2)
def actP (r : ActR) : List (List Nat) := actW :: r.nm.cps.toList :: nC r.ar :: r.outs.map outC
def actC (r : ActR) : List Nat := TL.joinL [32] (actP r)
def hdP (many given : Int) (n : Nat) : List (List Nat) := [codeW, nC many, nC given, nC n]
def hdC (many given : Int) (n : Nat) : List Nat := TL.joinL [32] (hdP many given n)
def codP (rs : List ActR) (many given : Int) (sts : List Sta) : List (List Nat) := rs.map actC ++ (hdC many given sts.length :: sts.map staC)
def codC (rs : List ActR) (many given : Int) (sts : List Sta) : List Nat := ((codP rs many given sts).map fun l => l ++ [10]).flatten
def okc (c : Nat) : Prop := c = 40 ∨ c = 41 ∨ c = 44 ∨ c = 45 ∨ (48 ≤ c ∧ c ≤ 57) ∨ (97 ≤ c ∧ c ≤ 122)
def okw (c : Nat) : Prop := okc c ∨ c = 58 ∨ c = 61
theorem okc_num (n : Nat) : ∀ c ∈ TL.numL n, okc c := fun c hc => by
  have := TL.numL_digits n c hc
  unfold okc
  omega
theorem okc_name {x : Str} (h : Nm x) : ∀ c ∈ x.cps.toList, okc c := fun c hc => by
  have := h.2.2 c hc
  unfold okc
  omega
mutual
theorem okc_cx {P : Int → Prop} : ∀ t : Tm, t.ok P → ∀ c ∈ t.cx, okc c
  | .var i, _, c, hc => okc_num _ c hc
  | .op x ts, h, c, hc => by
    rw [Tm.cx, List.mem_append] at hc
    exact hc.elim (okc_name h.1 c) (okc_cxP ts h.2.2 c)
theorem okc_cxP {P : Int → Prop} : ∀ ts : List Tm, Tm.oks P ts → ∀ c ∈ Tm.cxP ts, okc c
  | [], _, c, hc => by cases hc
  | t :: ts, h, c, hc => by
    rw [Tm.cxP, List.mem_cons, List.mem_append] at hc
    rcases hc with rfl | hc | hc
    · exact .inl rfl
    · exact okc_cx t h.1 c hc
    · exact okc_cxs ts h.2 c hc
theorem okc_cxs {P : Int → Prop} : ∀ ts : List Tm, Tm.oks P ts → ∀ c ∈ Tm.cxs ts, okc c
  | [], _, c, hc => by
    rw [Tm.cxs, List.mem_singleton] at hc
    exact .inr (.inl hc)
  | t :: ts, h, c, hc => by
    rw [Tm.cxs, List.mem_cons, List.mem_append] at hc
    rcases hc with rfl | hc | hc
    · exact .inr (.inr (.inl rfl))
    · exact okc_cx t h.1 c hc
    · exact okc_cxs ts h.2 c hc
end
structure TmS (t : Tm) : Prop where
  ok : t.ok P40
  dep : t.dep ≤ 4
  nod : Tm.nod [t] ≤ 45
def Sta.tx : Sta → Prop
  | .set chs goal => chs.length ≤ 24 ∧ P40 goal ∧ ∀ c ∈ chs, P40 c.1 ∧ TmS c.2
  | .ask act ts ways => Nm act ∧ ts.length ≤ 2 ∧ (∀ t ∈ ts, TmS t) ∧ ways.length ≤ 6 ∧ ∀ w ∈ ways, On w.1 ∧ P40 w.2.2 ∧ w.2.1.length ≤ 2 ∧ ∀ i ∈ w.2.1, P40 i
  | .fin word ts => Nm word ∧ ts.length ≤ 2 ∧ ∀ t ∈ ts, TmS t
structure ActX (r : ActR) : Prop where
  nm : Nm r.nm
  ar : P40 r.ar
  few : r.outs.length ≤ 6
  out : ∀ e ∈ r.outs, On e.1 ∧ P40 e.2
theorem TmS.tx {t : Tm} (h : TmS t) : TxF [t] := by
  have h1 := h.nod
  have h2 := h.dep
  refine ⟨⟨h.ok, trivial⟩, by simp only [Tm.deps]; omega, by omega, fun u hu => ?_⟩
  rw [List.mem_singleton.mp hu]
  unfold Tm.nod at h1
  simp only [Tm.sizes, Tm.lvs] at h1
  omega
theorem TmS.len {t : Tm} (h : TmS t) : t.cx.length ≤ 2500 := by
  have h1 := cx_len t h.ok fun i hi => num_len (Tm.ok_leaves t h.ok i hi)
  have h2 := h.nod
  unfold Tm.nod at h2
  simp only [Tm.sizes, Tm.lvs] at h2
  omega
theorem sum_le {l : List (List Nat)} {B : Nat} (h : ∀ p ∈ l, p.length ≤ B) : (l.map List.length).sum ≤ l.length * B := by
  induction l with
  | nil => simp
  | cons p l ih =>
    have h1 := h p List.mem_cons_self
    have h2 := ih fun q hq => h q (List.mem_cons_of_mem _ hq)
    simp only [List.map_cons, List.sum_cons, List.length_cons, Nat.add_mul]
    omega
theorem On.len {x : Str} (h : On x) : x.cps.toList.length ≤ 9 := by
  have := h.2
  have e : x.cps.toList.length = x.length := by simp [Str.length]
  omega
theorem Nm.len {x : Str} (h : Nm x) : x.cps.toList.length ≤ 8 := by
  have := h.2.1
  have e : x.cps.toList.length = x.length := by simp [Str.length]
  omega
end Fm
namespace Fm
open PySem PySem.Spec PyProof.Rows L2
section
variable {prog : Program} {w : World} {A : Around} {E : Value → Shared → Prop} {s : Shared} {R : Result → Shared → Prop} {I : Addr} {fp wr : List Addr} {G : Array GenState → Array GenState → Prop} {n : Nat} {P : Nat → Value → Prop} {St : Nat → Shared → Prop}
end
def tListZip (K : PySem.W.Frag) (ta : TA) : TE := fun σ H Q => ta σ H fun vs H1 => ∃ a b xs ys, vs = [.ref a, .ref b] ∧ SqL K H1 a xs ∧ SqT K H1 b ys ∧ min xs.length ys.length = 0 ∧ ∀ p, H1 p = none → Q (.ref p) (upd H1 p (.lst []))
section
variable {X : Cx} {e e2 : Expr} {ta : TA} {p p2 pos pos2 : Pos}
end
end Fm
namespace Fm
open PySem PySem.Spec PyProof.Rows L2
def rJoinK (K : PySem.W.Frag) : V → List V → Hp → VK → Prop := fun x xs H Q => ∃ a p, ∃ ys : List Str, x = .str a ∧ xs = [.ref p] ∧ (SqL K H p (ys.map V.str) ∨ SqT K H p (ys.map V.str)) ∧
    (ys.map (·.length)).sum + ys.length * a.length ≤ 16777216 ∧ Q (.str (Txt.join a ys)) H
def rSplitK : V → List V → Hp → VK → Prop := fun x xs H Q => ∃ a b, x = .str a ∧ xs = [.str b] ∧ (b.length == 0) = false ∧ a.length + 2 ≤ sizeLine ∧ rNewStrs (Txt.split a b) H Q
end Fm
namespace Fm
open PySem PySem.Spec PyProof.Rows L2 SlX
local macro_rules | `(tactic| walk_at "nn") => `(tactic| dsimp only [tC, tNil, tCons, tCB, tCall, gName, tSeq, tAsg, tPar, tDrop, tRet])
local macro_rules | `(tactic| walk_at "nc") => `(tactic| dsimp only [tC, tNil, tCons, tCB, tCall])
def sp_showS (K : PySem.W.Frag) : Sp := fun vs H Q _ => ∃ (v : V) (st : Sta), vs = [v] ∧ Im K H v st.d ∧ st.tx ∧ ∀ H', Mv [] H H' → Q (wdV (staC st)) H'
theorem sLen {n : Nat} (h : n ≤ 1000000) : n ≤ sizeLine := Nat.le_trans h (by decide)
theorem rd_joinS {K : PySem.W.Frag} {H : Hp} {Q : VK} {s : Nat} {p : Addr} {ws : List (List Nat)} {B M : Nat} (hp : H p = some (.lst (ws.map wdV))) (hl : ws.length ≤ M) (hB : ∀ z ∈ ws, z.length ≤ B) (hb : M * B + M ≤ 16000000) (q : Q (wdV (TL.joinL [s] ws)) H) :
    ∃ a p', ∃ ys : List Str, V.str (SX.S [s]) = .str a ∧ [V.ref p] = [.ref p'] ∧ (SqL K H p' (ys.map V.str) ∨ SqT K H p' (ys.map V.str)) ∧ (ys.map (·.length)).sum + ys.length * a.length ≤ 16777216 ∧ Q (.str (Txt.join a ys)) H := by
  refine ⟨_, p, ws.map SX.S, rfl, rfl, .inl (.inl (.inl (by rw [List.map_map]; exact hp))), ?_, ?_⟩
  · rw [SX.lens, List.length_map]
    have h1 := sum_le hB
    have h2 : (ws.map fun x => x.length).sum = (ws.map List.length).sum := rfl
    have h3 : ws.length * B ≤ M * B := Nat.mul_le_mul_right _ hl
    have h4 : (SX.S [s]).length = 1 := rfl
    rw [h2, h4]
    omega
  · rw [SX.join_S]
    exact q
theorem ims_wd {K : PySem.W.Frag} {H : Hp} : ∀ {ws : List (List Nat)} {ys : List V}, Ims K H ys (ws.map fun l => PyData.str (SX.S l)) → ys = ws.map wdV
  | [], ys, h => h.nilD
  | l :: ws, ys, h => by
    obtain ⟨y, zs, rfl, hy, hz⟩ := h.invD
    cases hy.strI
    rw [ims_wd hz]
    rfl
theorem rd_catW {K : PySem.W.Frag} {H : Hp} {Q : VK} {p q : Addr} {ws us : List (List Nat)} (hp : H p = some (.lst (ws.map wdV))) (hq : H q = some (.lst (us.map wdV))) (hl : ws.length + us.length ≤ 1000000) (k : ∀ r, H r = none → Q (.ref r) (upd H r (.lst ((ws ++ us).map wdV)))) :
    rAddG K (.ref p) (.ref q) H Q := by
  refine .inr (.inr (.inr ⟨p, q, _, _, rfl, rfl, hp, hq, ?_, fun r nr => ?_⟩))
  · rw [List.length_map, List.length_map]
    exact sLen hl
  · rw [← List.map_append]
    exact k r nr
theorem name_wd (x : Str) : V.str x = wdV x.cps.toList := congrArg V.str (S_tl' x).symm
section
variable {P : Program} {w : World} {K : PySem.W.Frag} {mg : Str → Option Value} {base : Heap}
end
end Fm
namespace Fm
open PySem PySem.Spec PyProof.Rows L2 SlX
local macro_rules | `(tactic| walk_at "nn") => `(tactic| dsimp only [tC, tNil, tCons, tCB, tCall, gName, tSeq, tAsg, tPar, tDrop, tRet])
local macro_rules | `(tactic| walk_at "nc") => `(tactic| dsimp only [tC, tNil, tCons, tCB, tCall])
def chnP (many : Nat) : List Nat := [(many - 1) / 3, (many - 1) / 3, many - 1 - 2 * ((many - 1) / 3)].filter fun n => decide (0 < n)
def fS : Str := Str.ofString "f"
def chnT : Nat → Nat → Tm
  | 0, _ => .op fS []
  | d + 1, many => if many < 2 then .op fS [] else .op fS ((chnP many).map (chnT d))
theorem chnP_mem {many n : Nat} (h : n ∈ chnP many) : 0 < n ∧ n + 1 ≤ many := by
  unfold chnP at h
  rw [List.mem_filter] at h
  obtain ⟨h1, h2⟩ := h
  have h2 := of_decide_eq_true h2
  simp only [List.mem_cons, List.not_mem_nil, or_false] at h1
  omega
theorem chnP_ne {many : Nat} (h : 2 ≤ many) : chnP many ≠ [] := fun e => by
  have h1 : many - 1 - 2 * ((many - 1) / 3) ∈ chnP many := by
    unfold chnP
    rw [List.mem_filter]
    exact ⟨by simp, decide_eq_true (by omega)⟩
  rw [e] at h1
  cases h1
theorem chnP_sum {many : Nat} (h : 1 ≤ many) : (chnP many).sum = many - 1 := by
  unfold chnP
  generalize hk : (many - 1) / 3 = k
  have h3 : 2 * k ≤ many - 1 := by omega
  by_cases h0 : k = 0
  · subst h0
    by_cases h1 : many = 1
    · subst h1
      rfl
    · have h2 : decide (0 < many - 1 - 2 * 0) = true := decide_eq_true (by omega)
      simp only [List.filter_cons, List.filter_nil, Nat.lt_irrefl, decide_false, Bool.false_eq_true, if_false, h2, if_true]
      simp
  · have hk0 : decide (0 < k) = true := decide_eq_true (by omega)
    by_cases h1 : 0 < many - 1 - 2 * k
    · simp only [List.filter_cons, List.filter_nil, hk0, decide_eq_true h1, if_true]
      simp
      omega
    · simp only [List.filter_cons, List.filter_nil, hk0, decide_eq_false h1, if_true, Bool.false_eq_true, if_false]
      simp
      omega
theorem chnP_len (many : Nat) : (chnP many).length ≤ 3 := List.length_filter_le _ _
theorem nm_fS : Nm fS := nm_f
theorem cps_fS : fS.cps.toList = [102] := cps_f
theorem sizes_map {f : Nat → Tm} : ∀ {ns : List Nat}, (∀ n ∈ ns, (f n).size = n) → Tm.sizes (ns.map f) = ns.sum
  | [], _ => rfl
  | n :: ns, h => by
    simp only [List.map_cons, Tm.sizes, List.sum_cons]
    rw [h n List.mem_cons_self, sizes_map fun k hk => h k (List.mem_cons_of_mem _ hk)]
theorem cxs_map {f : Nat → Tm} : ∀ {ns : List Nat}, (∀ n ∈ ns, (f n).cx.length ≤ 5 * n) → (Tm.cxs (ns.map f)).length ≤ 5 * ns.sum + ns.length + 1
  | [], _ => by simp [Tm.cxs]
  | n :: ns, h => by
    have h1 := h n List.mem_cons_self
    have h2 := cxs_map (ns := ns) fun k hk => h k (List.mem_cons_of_mem _ hk)
    simp only [List.map_cons, Tm.cxs, List.sum_cons, List.length_cons, List.length_append]
    omega
theorem chn_ok : ∀ (d many : Nat), 1 ≤ many → many ≤ d → (chnT d many).ok Q40 ∧ (chnT d many).size = many ∧ (chnT d many).cx.length ≤ 5 * many
  | 0, many, h1, h2 => by omega
  | d + 1, many, h1, h2 => by
    unfold chnT
    by_cases hb : many < 2
    · rw [if_pos hb]
      refine ⟨⟨nm_fS, by simp, trivial⟩, ?_, ?_⟩
      · simp only [Tm.size, Tm.sizes]
        omega
      · rw [Tm.cx, cps_fS]
        simp [Tm.cxP]
        omega
    · rw [if_neg hb]
      have ih : ∀ n ∈ chnP many, (chnT d n).ok Q40 ∧ (chnT d n).size = n ∧ (chnT d n).cx.length ≤ 5 * n := fun n hn => by
        obtain ⟨k1, k2⟩ := chnP_mem hn
        exact chn_ok d n k1 (by omega)
      refine ⟨⟨nm_fS, by rw [List.length_map]; exact chnP_len many, Tm.oks_iff.mpr fun t ht => ?_⟩, ?_, ?_⟩
      · obtain ⟨n, hn, rfl⟩ := List.mem_map.mp ht
        exact (ih n hn).1
      · simp only [Tm.size]
        rw [sizes_map fun n hn => (ih n hn).2.1, chnP_sum (by omega)]
        omega
      · have h3 := chnP_sum (many := many) (by omega)
        have h4 := chnP_len many
        have h5 := chnP_ne (many := many) (by omega)
        rw [Tm.cx, cps_fS]
        revert h3 h4 ih
        generalize chnP many = ns at h5
        intro ih h3 h4
        cases ns with
        | nil => exact absurd rfl h5
        | cons n ns =>
          have k1 := (ih n List.mem_cons_self).2.2
          have k2 := cxs_map (f := chnT d) (ns := ns) fun k hk => (ih k (List.mem_cons_of_mem _ hk)).2.2
          simp only [List.map_cons, Tm.cxP, List.length_append, List.length_cons, List.length_nil, List.sum_cons] at *
          omega
theorem chn_text {d many : Nat} (h : 2 ≤ many) : (chnT (d + 1) many).cx = [102] ++ [40] ++ TL.joinL [44] ((chnP many).map fun n => (chnT d n).cx) ++ [41] := by
  have e0 : chnT (d + 1) many = if many < 2 then .op fS [] else .op fS ((chnP many).map (chnT d)) := rfl
  rw [e0, if_neg (by omega), Tm.cx, cps_fS]
  have hne := chnP_ne h
  have : Tm.cxP ((chnP many).map (chnT d)) = lisC ((chnP many).map (chnT d)) := by
    cases hc : (chnP many) with
    | nil => exact absurd hc hne
    | cons n ns => rw [List.map_cons, ← lisC_cons]
  rw [this, lisC, List.map_map]
  simp [Function.comp_def]
def sp_chain (d : Nat) : Sp := fun vs H Q _ => ∃ (many : Nat), vs = [wdV [102], .int many] ∧ 1 ≤ many ∧ many ≤ d ∧ ∀ H', Mv [] H H' → Q (wdV (chnT d many).cx) H'
def movPre : List Nat := [48, 32, 48, 32, 48, 32, 48, 32, 109, 97, 121, 32, 49, 32, 40]
def movOf (ts : List (List Nat)) : List Nat := movPre ++ TL.joinL [44] ts ++ [41]
def sp_movOf (K : PySem.W.Frag) : Sp := fun vs H Q _ => ∃ (p : Addr) (ts : List (List Nat)), vs = [.ref p] ∧ H p = some (.lst (ts.map wdV)) ∧ ts.length ≤ 10 ∧ (∀ z ∈ ts, z.length ≤ 6000) ∧ Q (wdV (movOf ts)) H
theorem joinL_len : ∀ (ws : List (List Nat)), (TL.joinL [44] ws).length ≤ (ws.map List.length).sum + ws.length
  | [] => by simp [TL.joinL]
  | [q] => by simp [TL.joinL]
  | q :: q' :: l => by
    have := joinL_len (q' :: l)
    simp only [TL.joinL, List.length_append, List.map_cons, List.sum_cons, List.length_cons, List.length_nil] at this ⊢
    omega
section
variable {P : Program} {w : World} {K : PySem.W.Frag} {mg : Str → Option Value} {base : Heap}
theorem ok__law_chain (T : TX K mg) : ∀ d : Nat, d ≤ 1000 → FnOk P w K mg base CX0 (d + 1) T.d__law_chain.f T.d__law_chain.fd P__law_chain (sp_chain d)
  | 0, _ => ⟨fun vs H Q E h => by obtain ⟨_, _, h1, h2, _⟩ := h; omega, fun _ _ _ _ _ _ _ _ _ _ _ _ _ h => by obtain ⟨_, _, h1, h2, _⟩ := h; omega⟩
  | d + 1, hd => by
    have G__law_chain := ok__law_chain T d (by omega)
    refine T.d__law_chain.F.ok sc__law_chain (fun vs H Q E h => ?_) (fun cdv A outer s H vs Q E hr h => ?_)
    · obtain ⟨_, rfl, _⟩ := h
      rfl
    · obtain ⟨many, rfl, h1, h2, q⟩ := h
      have hu64 := hr.units
      have hu65 := hu65_of hr
      refine ⟨_, (pss_cons (ps_if (pt_cmpR op_lt (pv 1) pe_int (nomark _)) (pss_one (ps_ret (pv 0))) pss_nil) (pss_cons (ps_set (i := 2) sc__law_chain.nd rfl (Or.inl rfl) (pe_op op_fdivW (pe_op op_sub (pv 1) pe_int) pe_int)) (pss_cons (ps_setLc (i := 3) (own := [("_law_one", 4)]) (g := gName 4) (by rfl) sc__law_chain.nd rfl rfl (sw_true rfl rfl rfl (by decide +kernel)) (pi_seq (pe_tup (pa_cons (pv 2) (pa_cons (pv 2) (pa_cons (pe_op op_sub (pe_op op_sub (pv 1) pe_int) (pe_op op_mulG pe_int (pv 2))) pa_nil))))) (blkOk_by (own := [("_law_one", 4)]) (N := N__law_chain) (sc := defScope s__law_chain) (by decide +kernel)) (fun _ _ _ _ _ => pg_name (i := 4) sc__law_chain.nd rfl (Or.inl rfl)) (fun _ _ _ _ _ => (pts_one (pt_cmpR op_gt (pv 4) pe_int (nomark _)))) (fun _ _ _ _ _ => (pe_call G__law_chain (hr.mono (by omega)) rfl T.d__law_chain.g T.d__law_chain.F.kp T.d__law_chain.b .nil pass0 (pa_cons (pv 0) (pa_cons (pv 4) pa_nil))))) (pss_one (ps_ret (pe_op (r := rAddG K) op_addG (pe_op (r := rAddG K) op_addG (pe_op (r := rAddG K) op_addG (pv 0) pe_str) (pe_bm PySem.F.plainAttrs_str PySem.F.slot_str_join PySem.F.type_str_join mt_join pe_str (pa_cons (pv 3) pa_nil))) pe_str)))))), ?_⟩
      refine ⟨.int many, rfl, many, 2, rfl, rfl, _, rfl, ?_⟩
      by_cases hb : many < 2
      · rw [decide_eq_true (by omega : (many : Int) < 2)]
        refine ⟨wdV [102], rfl, ?_⟩
        have := q H .refl
        rw [show (chnT (d + 1) many).cx = [102] by unfold chnT; rw [if_pos hb, Tm.cx, cps_fS]; rfl] at this
        exact this
      rw [decide_eq_false (by omega : ¬ (many : Int) < 2)]
      refine ⟨.int many, rfl, many, 1, rfl, rfl, _, 3, rfl, rfl, wide_div (b := 10) (by omega) (by decide) (by omega) (by decide), ?_⟩
      obtain ⟨k, hk⟩ : ∃ k : Nat, (many - 1) / 3 = k := ⟨_, rfl⟩
      have hki : ((many : Int) - 1) / 3 = (k : Int) := by omega
      rw [show (fun i j : Int => V.int (i / j)) ((many : Int) - 1) 3 = V.int (k : Int) from congrArg V.int hki]
      refine ⟨.int k, rfl, .int k, rfl, .int many, rfl, many, 1, rfl, rfl, .int k, rfl, Or.inl ⟨2, k, rfl, rfl, .inl ⟨by decide, by decide⟩, (many : Int) - 1, 2 * (k : Int), rfl, rfl, (by decide : 3 ≤ sizeLine), fun p1 n1 => ?_⟩⟩
      rw [show (fun i j : Int => V.int (i - j)) ((many : Int) - 1) (2 * (k : Int)) = V.int ((many - 1 - 2 * k : Nat) : Int) from congrArg V.int (by omega)]
      have k1 := Mv.new (S := []) (o := (.tup [.int k, .int k, .int ((many - 1 - 2 * k : Nat) : Int)])) n1
      have e1 : SqT K (upd H p1 (.tup [.int k, .int k, .int ((many - 1 - 2 * k : Nat) : Int)])) p1 [.int k, .int k, .int ((many - 1 - 2 * k : Nat) : Int)] := .inl (.inl upd_same)
      generalize upd H p1 (.tup [.int k, .int k, .int ((many - 1 - 2 * k : Nat) : Int)]) = H1 at k1 e1 ⊢
      have m1 := k1
      refine ⟨p1, rfl, ?_⟩
      refine lc_fm (K := K) (as := [k, k, many - 1 - 2 * k]) (enc := fun n : Nat => PyData.int ((n : Nat) : Int)) (fun n => if 0 < n then some (.str (SX.S (chnT d n).cx)) else none) (.inr e1) (Ims.cons (.int _) (Ims.cons (.int _) (Ims.cons (.int _) Ims.nil))) (by simp) (fun y n H2 Q' R' hn him m2 k1' k2' => ?_) (fun D ys H2 nD eD iD m2 => ?_)
      · cases him.intI
        refine ⟨rfl, .int ((n : Nat) : Int), rfl, _, 0, rfl, rfl, _, rfl, ?_⟩
        by_cases h0 : 0 < n
        · rw [decide_eq_true (by omega : (0 : Int) < ((n : Nat) : Int))]
          have hlt : n + 1 ≤ many := by
            simp only [List.mem_cons, List.not_mem_nil, or_false] at hn
            omega
          refine ⟨wdV [102], rfl, .int ((n : Nat) : Int), rfl, n, rfl, h0, by omega, fun H3 m3 => ?_⟩
          exact k1' _ (if_pos h0) _ H3 m3 (.str _)
        · rw [decide_eq_false (by omega : ¬ (0 : Int) < ((n : Nat) : Int))]
          exact k2' (if_neg h0) H2 .refl
      · have e2 : ([k, k, many - 1 - 2 * k].filterMap fun n => if 0 < n then some (PyData.str (SX.S (chnT d n).cx)) else none) = ((chnP many).map fun n => (chnT d n).cx).map fun l => PyData.str (SX.S l) := by
          unfold chnP
          rw [hk, List.map_map]
          have : ∀ ns : List Nat, (ns.filterMap fun n => if 0 < n then some (PyData.str (SX.S (chnT d n).cx)) else none) = (ns.filter fun n => decide (0 < n)).map ((fun l => PyData.str (SX.S l)) ∘ fun n => (chnT d n).cx) := by
            intro ns
            induction ns with
            | nil => rfl
            | cons n ns ih =>
              rw [List.filterMap_cons, List.filter_cons]
              by_cases h : 0 < n
              · rw [if_pos h, if_pos (decide_eq_true h), List.map_cons, ih]
                rfl
              · rw [if_neg h, if_neg (by simpa using h), ih]
          exact this _
        rw [e2] at iD
        rw [ims_wd iD] at eD
        have hall : ∀ z ∈ (chnP many).map fun n => (chnT d n).cx, z.length ≤ 5000 := fun z hz => by
          obtain ⟨n, hn, rfl⟩ := List.mem_map.mp hz
          obtain ⟨h3, h4⟩ := chnP_mem hn
          have := (chn_ok d n h3 (by omega)).2.2
          omega
        have hlen : ((chnP many).map fun n => (chnT d n).cx).length ≤ 3 := by rw [List.length_map]; exact chnP_len many
        have hcx := chn_text (d := d) (many := many) (by omega)
        have hcl := (chn_ok (d + 1) many h1 h2).2.2
        rw [hcx] at hcl
        simp only [List.length_append, List.length_cons, List.length_nil] at hcl
        refine ⟨wdV [102], rfl, ?_⟩
        rw [open_wd]
        refine rd_sCat (by simp) ?_
        rw [comma_wd, close_wd]
        refine ⟨rfl, .ref D, rfl, ?_⟩
        walk_at "nc"
        refine rd_joinS (K := K) (s := 44) (Q := fun y H' => rAddG K (wdV ([102] ++ [40])) y H' fun x H1 => rAddG K x (wdV [41]) H1 Q) eD hlen hall (by decide) ?_
        refine rd_sCat (by simp; omega) (rd_sCat (by simp; omega) ?_)
        have := q H2 (k1.trans m2)
        rw [hcx] at this
        exact this
theorem ok__law_move_of (T : TX K mg) {k : Nat} : FnOk P w K mg base CX0 (k + 1) T.d__law_move_of.f T.d__law_move_of.fd P__law_move_of (sp_movOf K) := by
  refine T.d__law_move_of.F.ok sc__law_move_of (fun vs H Q E h => ?_) (fun cdv A outer s H vs Q E hr h => ?_)
  · obtain ⟨_, _, rfl, _⟩ := h
    rfl
  · obtain ⟨p, ts, rfl, hp, hl, hall, q⟩ := h
    refine ⟨_, (pss_one (ps_ret (pe_op (r := rAddG K) op_addG (pe_op (r := rAddG K) op_addG pe_str (pe_bm PySem.F.plainAttrs_str PySem.F.slot_str_join PySem.F.type_str_join mt_join pe_str (pa_cons (pv 0) pa_nil))) pe_str))), ?_⟩
    have hj := joinL_len ts
    have hs : (ts.map List.length).sum ≤ 60000 := by
      have : ∀ ts : List (List Nat), (∀ z ∈ ts, z.length ≤ 6000) → (ts.map List.length).sum ≤ ts.length * 6000 := by
        intro ts
        induction ts with
        | nil => intro _; simp
        | cons z ts ih =>
          intro h
          have h1 := h z List.mem_cons_self
          have h2 := ih fun y hy => h y (List.mem_cons_of_mem _ hy)
          simp only [List.map_cons, List.sum_cons, List.length_cons]
          omega
      have := this ts hall
      omega
    have hz : ∀ a b : List Nat, a.length + b.length ≤ 70000 → (SX.S a).length + (SX.S b).length ≤ sizeLine := fun a b h => by
      rw [SX.S_len, SX.S_len]
      exact Nat.le_trans h (by decide)
    have hpre : movPre.length = 15 := rfl
    rw [show V.str (Str.ofString "0 0 0 0 may 1 (") = wdV movPre from congrArg V.str (by decide +kernel), comma_wd, close_wd]
    refine ⟨rfl, .ref p, rfl, ?_⟩
    walk_at "nc"
    refine rd_joinS (K := K) (s := 44) (Q := fun y H' => rAddG K (wdV movPre) y H' fun x H1 => rAddG K x (wdV [41]) H1 Q) hp hl hall (by decide) ?_
    refine Or.inr (Or.inl ⟨_, _, rfl, rfl, hz _ _ (by omega), ?_⟩)
    rw [SX.S_cat]
    refine Or.inr (Or.inl ⟨_, _, rfl, rfl, hz _ _ (by rw [List.length_append]; simp; omega), ?_⟩)
    rw [SX.S_cat]
    exact q
end
end Fm
namespace Fm
open PySem PySem.Spec PyProof.Rows L2
theorem progT_cx {t : Tm} (h : t.ok Q40) : progT t.cx = if t.size ≤ 200 then some t else none := by
  unfold progT
  rw [read_cx h]
  dsimp only
  have := ((ok_wr t).mp h).2
  by_cases hs : t.size ≤ 200
  · rw [if_pos ⟨this, hs⟩, if_pos hs]
  · rw [if_neg fun z => hs z.2, if_neg hs]
theorem progL_lis {t : Tm} {ts : List Tm} (h : Tm.oks Q40 (t :: ts)) : progL (lisC (t :: ts)) = if ((t :: ts).all fun u => decide (u.size ≤ 200)) = true then some (t :: ts) else none := by
  unfold progL
  rw [lisC_cons, if_neg (cxP_ne t ts h), if_pos (by rw [Tm.cxP]; rfl)]
  have := runI_many nm_f h
  rw [cps_f] at this
  rw [show 102 :: Tm.cxP (t :: ts) = [102] ++ Tm.cxP (t :: ts) from rfl, this]
  dsimp only
  have hf : fewL (t :: ts) = ((t :: ts).all fun u => decide (u.size ≤ 200)) := by
    unfold fewL
    rw [Bool.eq_iff_iff, List.all_eq_true, List.all_eq_true]
    refine ⟨fun k u hu => ?_, fun k u hu => ?_⟩
    · have := k u hu
      rw [Bool.and_eq_true] at this
      exact this.2
    · rw [k u hu, ((ok_wr u).mp (Tm.oks_iff.mp h u hu)).2]
      rfl
  by_cases hs : ((t :: ts).all fun u => decide (u.size ≤ 200)) = true
  · rw [if_pos ⟨by rw [hf]; exact hs, lisC_cons t ts⟩, if_pos hs]
  · rw [if_neg fun z => hs (by rw [← hf]; exact z.1), if_neg hs]
def lisW (ws : List (List Nat)) : List Nat := 40 :: (TL.joinL [44] ws ++ [41])
theorem lisC_W (ts : List Tm) : lisC ts = lisW (ts.map Tm.cx) := rfl
def partsW (ws : List (List Nat)) : List (List Nat) := [[48], [48], [48], [48], [109, 97, 121], [49], lisW ws]
theorem movOf_join (ws : List (List Nat)) : movOf ws = TL.joinL [32] (partsW ws) := by
  unfold movOf movPre partsW lisW
  simp [TL.joinL]
theorem no32_join {ws : List (List Nat)} (h : ∀ z ∈ ws, (32 : Nat) ∉ z) : (32 : Nat) ∉ TL.joinL [44] ws := by
  induction ws with
  | nil => simp [TL.joinL]
  | cons z ws ih =>
    cases ws with
    | nil => simpa [TL.joinL] using h z List.mem_cons_self
    | cons z' ws =>
      intro hm
      simp only [TL.joinL, List.mem_append, List.mem_singleton] at hm
      rcases hm with hm | hm | hm
      · exact h z List.mem_cons_self hm
      · cases hm
      · exact ih (fun y hy => h y (List.mem_cons_of_mem _ hy)) hm
theorem spl_movOf {ws : List (List Nat)} (h : ∀ z ∈ ws, (32 : Nat) ∉ z) : splB (movOf ws) = partsW ws := by
  rw [movOf_join]
  unfold splB
  refine TL.spl_join (by unfold partsW; simp) fun p hp => ?_
  unfold partsW at hp
  simp only [List.mem_cons, List.not_mem_nil, or_false] at hp
  rcases hp with rfl | rfl | rfl | rfl | rfl | rfl | rfl
  any_goals decide
  unfold lisW
  intro hm
  simp only [List.mem_cons, List.mem_append, List.not_mem_nil, or_false] at hm
  rcases hm with hm | hm | hm
  · cases hm
  · exact no32_join h hm
  · cases hm
theorem intI_0 : intI [48] = some 0 := by decide +kernel
theorem intI_1 : intI [49] = some 1 := by decide +kernel
theorem allI_0 : allI [[48], [48], [48], [48]] = some [0, 0, 0, 0] := by
  simp only [allI, intI_0]
theorem progM_movOf {ws : List (List Nat)} (h : ∀ z ∈ ws, (32 : Nat) ∉ z) : progM (movOf ws) = bodyM (some [0, 0, 0, 0]) (some 1) (progL (lisW ws)) [109, 97, 121] := by
  show movL progL (movOf ws) = _
  unfold movL
  rw [spl_movOf h]
  unfold partsW
  refine (if_pos rfl).trans ?_
  show bodyM (allI [[48], [48], [48], [48]]) (intI [49]) (progL (lisW ws)) [109, 97, 121] = _
  rw [allI_0, intI_1]
def BadTx (l : List Nat) : Prop := ∀ (r : List Nat) (op : List (Str × List Tm)), Stop r → r.head? ≠ some 40 → runI (tkL (l ++ r) []) op none false = none
theorem head_tk {r : List Nat} (hs : Stop r) (h : r.head? ≠ some 40) : (tkL r []).head? ≠ some [40] := by
  cases r with
  | nil => simp [tkL]
  | cons c r =>
    have hc : isSg c = true := hs
    rw [tkL, if_pos hc, if_pos rfl]
    intro z
    have : c = 40 := by simpa using z
    exact h (by rw [this]; rfl)
theorem bad_leaf {w : List Nat} (hw : ∀ c ∈ w, isSg c = false) (hne : w ≠ []) (hl : leafI w = none) : BadTx w := fun r op hs h40 => by
  rw [tkL_word w r [] hw, List.nil_append, tkL_stop hs hne, runI, if_neg (word_no hw hne), if_neg (head_tk hs h40), hl]
theorem f_open (l : List Nat) (op : List (Str × List Tm)) : runI (tkL (102 :: 40 :: l) []) op none false = runI (tkL l []) ((fS, []) :: op) none false := by
  have e : tkL (102 :: 40 :: l) [] = [102] :: [40] :: tkL l [] := by
    rw [tkL, if_neg (by decide), List.nil_append, tkL, if_pos (by decide), if_neg (by simp)]
    rfl
  rw [e, ← cps_fS, runI_open nm_fS]
theorem bad_f {l : List Nat} (h : BadTx l) : BadTx (102 :: 40 :: (l ++ [41])) := fun r op hs h40 => by
  rw [List.cons_append, List.cons_append, f_open, List.append_assoc]
  exact h _ _ (by decide : isSg 41 = true) (by simp)
theorem bad_f0 {l : List Nat} (h : BadTx l) : BadTx (102 :: 40 :: 48 :: 44 :: (l ++ [41])) := fun r op hs h40 => by
  rw [List.cons_append, List.cons_append, f_open]
  have e : tkL (48 :: 44 :: (l ++ [41]) ++ r) [] = [48] :: [44] :: tkL (l ++ (41 :: r)) [] := by
    rw [List.cons_append, List.cons_append, tkL, if_neg (by decide), List.nil_append, tkL, if_pos (by decide), if_neg (by simp), List.append_assoc]
    rfl
  rw [e]
  have h1 : leafI [48] = some (.var 0) := by
    unfold leafI
    dsimp only
    rw [if_pos (by decide), intI_0]
    rfl
  rw [runI_leaf (by simp; decide) (by simp) (by unfold NoOp; simp) h1, runI_some, if_pos rfl]
  exact h _ _ (by decide : isSg 41 = true) (by simp)
theorem bad_T {l : List Nat} (h : BadTx l) : progT l = none := by
  have := h [] [] trivial (by simp)
  rw [List.append_nil] at this
  unfold progT
  rw [this]
theorem bad_L {l : List Nat} (h : BadTx l) (hne : l ≠ []) : progL (lisW [l]) = none := by
  have := bad_f h [] [] trivial (by simp)
  rw [List.append_nil] at this
  unfold progL
  split
  · rename_i e
    exfalso
    have e2 : l ++ [41] = [41] := (List.cons.inj e).2
    cases l with
    | nil => exact hne rfl
    | cons c l => cases l <;> simp at e2
  · split
    · have e : 102 :: lisW [l] = 102 :: 40 :: (l ++ [41]) := rfl
      rw [e, this]
    · rfl
theorem dig_long {w : List Nat} (hd : ∀ c ∈ w, digC c = true) (hl : 40 < w.length) : (∀ c ∈ w, isSg c = false) ∧ w ≠ [] ∧ leafI w = none ∧ intI w = none := by
  have hne : w ≠ [] := fun e => by rw [e] at hl; simp at hl
  have hI : intI w = none := by
    obtain ⟨c, r, rfl⟩ := List.exists_cons_of_ne_nil hne
    have hc := hd c List.mem_cons_self
    have hn : natI (c :: r) = none := by
      unfold natI
      rw [if_neg fun z => by omega]
    unfold intI
    split
    · rename_i ds heq
      cases heq
      exact absurd hc (by decide)
    · rw [hn]
      rfl
  refine ⟨fun c hc => ?_, hne, ?_, hI⟩
  · have := hd c hc
    unfold digC at this
    rw [Bool.and_eq_true, decide_eq_true_eq, decide_eq_true_eq] at this
    unfold isSg
    refine decide_eq_false fun z => ?_
    simp only [List.mem_cons, List.not_mem_nil, or_false] at z
    omega
  · obtain ⟨c, r, rfl⟩ := List.exists_cons_of_ne_nil hne
    have hc := hd c List.mem_cons_self
    unfold leafI
    dsimp only
    rw [if_pos hc, hI]
    rfl
theorem rep_dig {c : Nat} (hc : digC c = true) (n : Nat) : (∀ d ∈ repL n [c], digC d = true) ∧ (repL n [c]).length = n := by
  refine ⟨fun d hd => ?_, by rw [repL_len]; simp⟩
  unfold repL at hd
  rw [List.mem_flatten] at hd
  obtain ⟨l, hl, hdl⟩ := hd
  rw [List.eq_of_mem_replicate hl] at hdl
  rw [List.mem_singleton.mp hdl]
  exact hc
def nestT : Nat → Tm
  | 0 => .var 0
  | n + 1 => .op fS [nestT n]
theorem nest_ok : ∀ n, (nestT n).ok Q40 ∧ (nestT n).size = n ∧ (nestT n).dep = n
  | 0 => ⟨⟨by decide, by decide +kernel⟩, rfl, rfl⟩
  | n + 1 => by
    obtain ⟨h1, h2, h3⟩ := nest_ok n
    refine ⟨⟨nm_fS, by simp, h1, trivial⟩, ?_, ?_⟩
    · simp only [nestT, Tm.size, Tm.sizes, h2]
      try omega
    · simp only [nestT, Tm.dep, Tm.deps, h3]
      try omega
theorem numL_0 : TL.numL 0 = [48] := by decide +kernel
theorem rep_end (l : List Nat) : ∀ n, repL n l ++ l = l ++ repL n l
  | 0 => by simp [repL]
  | n + 1 => by rw [repL_succ, List.append_assoc, rep_end l n]
theorem nest_cx : ∀ n, (nestT n).cx = repL n [102, 40] ++ [48] ++ repL n [41]
  | 0 => by simp [nestT, Tm.cx, repL, numL_0]
  | n + 1 => by
    rw [nestT, Tm.cx, Tm.cxP, Tm.cxs, nest_cx n, cps_fS, repL_succ, repL_succ]
    have := rep_end [41] n
    simp only [List.append_assoc, List.cons_append, List.nil_append] at this ⊢
    rw [this]
mutual
theorem cnt_cx : ∀ t : Tm, t.wr → t.cx.count 40 = t.cx.count 41
  | .var i, _ => by
    rw [Tm.cx, List.count_eq_zero_of_not_mem, List.count_eq_zero_of_not_mem]
    · exact fun h => by have := TL.numL_digits _ _ h; omega
    · exact fun h => by have := TL.numL_digits _ _ h; omega
  | .op x ts, h => by
    have h1 : ∀ c, c = 40 ∨ c = 41 → x.cps.toList.count c = 0 := fun c hc => by
      rw [List.count_eq_zero]
      intro hm
      have := h.1.2.2 c hm
      omega
    rw [Tm.cx, List.count_append, List.count_append, h1 40 (.inl rfl), h1 41 (.inr rfl), cnt_cxP ts h.2]
theorem cnt_cxP : ∀ ts : List Tm, Tm.wrs ts → (Tm.cxP ts).count 40 = (Tm.cxP ts).count 41
  | [], _ => by simp [Tm.cxP]
  | t :: ts, h => by
    have h1 := cnt_cx t h.1
    have h2 := cnt_cxs ts h.2
    simp only [Tm.cxP, List.count_cons, List.count_append] at *
    simp
    omega
theorem cnt_cxs : ∀ ts : List Tm, Tm.wrs ts → (Tm.cxs ts).count 40 + 1 = (Tm.cxs ts).count 41
  | [], _ => by simp [Tm.cxs]
  | t :: ts, h => by
    have h1 := cnt_cx t h.1
    have h2 := cnt_cxs ts h.2
    simp only [Tm.cxs, List.count_cons, List.count_append] at *
    simp
    omega
end
theorem cnt_rep (n : Nat) (l : List Nat) (c : Nat) : (repL n l).count c = n * l.count c := by
  induction n with
  | zero => simp [repL]
  | succ n ih =>
    rw [repL_succ, List.count_append, ih, Nat.succ_mul]
    omega
theorem open_T (n : Nat) (h : 0 < n) : progT (repL n [102, 40]) = none := by
  cases e : progT (repL n [102, 40]) with
  | none => rfl
  | some t =>
    obtain ⟨h1, h2, _⟩ := progT_iff.mp e
    have h3 := cnt_cx t ((ok_wr t).mp h2).1
    rw [← h1, cnt_rep, cnt_rep] at h3
    simp at h3
    omega
theorem open_L (n : Nat) (h : 0 < n) : progL (lisW [repL n [102, 40]]) = none := by
  cases e : progL (lisW [repL n [102, 40]]) with
  | none => rfl
  | some ts =>
    obtain ⟨h1, h2, _⟩ := progL_iff.mp e
    have h4 : lisW [repL n [102, 40]] = 40 :: (repL n [102, 40] ++ [41]) := rfl
    rw [h4] at h1
    cases ts with
    | nil =>
      have := congrArg List.length h1
      rw [List.length_cons, List.length_append, repL_len] at this
      have h5 : (lisC []).length = 2 := rfl
      rw [h5] at this
      simp at this
      omega
    | cons t ts =>
      rw [lisC_cons] at h1
      have h3 := cnt_cxP (t :: ts) ((oks_wr _).mp h2).1
      rw [← h1] at h3
      simp only [List.count_cons, List.count_append, cnt_rep, List.count_nil] at h3
      simp at h3
      omega
end Fm
namespace Fm
open PySem PySem.Spec PyProof.Rows L2
section
variable {X : Cx} {CX : CXT} {k : Nat} {f : Addr} {fd : FuncData} {ps : List Str} {sp : Sp} {dvs : List V} {ds : List Value} {E : XK} {x : Str} {p pos : Pos}
theorem pe_call0G (F : FnOkG X.prog X.w X.K X.mg X.base CX k f fd ps sp) (hgd : X.A.guards = some []) (hr : Room k X.A) (hg : Gl X x) (hm : X.mg x = some (.ref f))
    (hk : PySem.W.keepIn X.K (.ref f) = true) (hb : Binds X.K fd ps ds) (hd : Vals dvs ds) (hx : Passes CX X E) (hdb : (x == ("__debug__" : Str)) = false := by decide) :
    PE X (.Call (.Name x p) [] [] pos) (tCall sp dvs E tNil) := by
  refine ⟨fun pins s σ H Q I h => wpAny_Call_Name_kw (ld_glob I hg hm ?_ hdb)⟩
  refine PySem.W.callWith_K0 I.kIn hk ?_
  have r2 : Vals ([] ++ dvs) ([] ++ ds) := by simpa using hd
  have h : sp ([] ++ dvs) H Q E := h
  have hl : (([] : List Value) ++ ds).length = ps.length := by
    rw [← r2.length]
    exact F.len _ _ _ _ h
  refine wpAny_call (codeAny_mono (F.run X.A X.stack s H ⟨[], []⟩ _ _ Q E hgd hr I.env0 (hb s [] I.kIn hl) r2 h) fun r s' hq => ?_)
  match r, hq with
  | .error e, hq => exact hx pins σ H s e s' I hq
  | .ok (.ret u), hq => exact I.after hq
end
end Fm
namespace Fm
open PySem PySem.Spec PyProof.Rows L2 SlX
local macro_rules | `(tactic| walk_at "nn") => `(tactic| dsimp only [tC, tNil, tCons, tCB, tCall, gName, tSeq, tAsg, tPar, tDrop, tRet])
local macro_rules | `(tactic| walk_at "nc") => `(tactic| dsimp only [tC, tNil, tCons, tCB, tCall])
def sp_true : Sp := fun vs H Q _ => vs = [] ∧ ∀ H', Mv [] H H' → Q (.bl true) H'
structure Refd (l : List Nat) : Prop where
  t : progT l = none
  m : progL (lisW [l]) = none
  len : l.length ≤ 6000
  asc : AscL l
  nob : (32 : Nat) ∉ l
  dep : ∀ ts, lisW [l] = lisC ts → Tm.oks Q40 ts → (∀ t ∈ ts, t.size ≤ 200) → Tm.deps ts < 61
theorem refd_dep {l : List Nat} (h : progL (lisW [l]) = none) : ∀ ts, lisW [l] = lisC ts → Tm.oks Q40 ts → (∀ t ∈ ts, t.size ≤ 200) → Tm.deps ts < 61 := fun ts e o s => by
  rw [progL_iff.mpr ⟨e, o, s⟩] at h
  cases h
theorem asc_one {c : Nat} (h : c < 128) : AscL [c] := by
  intro d hd
  rw [List.mem_singleton.mp hd]
  exact h
theorem asc_nil : AscL [] := by
  intro d hd
  cases hd
theorem asc_rep {l : List Nat} (h : AscL l) (n : Nat) : AscL (repL n l) := by
  induction n with
  | zero => intro c hc; simp [repL] at hc
  | succ n ih =>
    rw [repL_succ]
    exact h.app ih
theorem nob_rep {l : List Nat} (h : (32 : Nat) ∉ l) (n : Nat) : (32 : Nat) ∉ repL n l := by
  induction n with
  | zero => simp [repL]
  | succ n ih =>
    rw [repL_succ, List.mem_append]
    exact fun z => z.elim h ih
theorem nest_text (n : Nat) : (nestT n).cx.length = 3 * n + 1 ∧ AscL (nestT n).cx ∧ (32 : Nat) ∉ (nestT n).cx := by
  rw [nest_cx]
  refine ⟨?_, ?_, ?_⟩
  · rw [List.length_append, List.length_append, repL_len, repL_len]
    simp
    omega
  · exact AscL.app (AscL.app (asc_rep (by intro c hc; simp at hc; omega) n) (asc_one (by decide))) (asc_rep (asc_one (by decide)) n)
  · simp only [List.mem_append]
    rintro ((h | h) | h)
    · exact nob_rep (by decide) n h
    · exact absurd h (by decide)
    · exact nob_rep (by decide) n h
theorem refd_nest {n : Nat} (h : 200 < n) (h2 : n ≤ 1900) : Refd (nestT n).cx := by
  obtain ⟨h3, h4, _⟩ := nest_ok n
  obtain ⟨h5, h6, h7⟩ := nest_text n
  have hm : progL (lisW [(nestT n).cx]) = none := by
    show progL (lisW ([nestT n].map Tm.cx)) = none
    rw [← lisC_W, progL_lis (t := nestT n) (ts := []) ⟨h3, trivial⟩, if_neg]
    simp
    omega
  exact ⟨by rw [progT_cx h3, if_neg (by omega)], hm, by omega, h6, h7, refd_dep hm⟩
theorem refd_open {n : Nat} (h : 0 < n) (h2 : n ≤ 2900) : Refd (repL n [102, 40]) := by
  refine ⟨open_T n h, open_L n h, by rw [repL_len]; simp; omega, asc_rep (by intro c hc; simp at hc; omega) n, nob_rep (by decide) n, refd_dep (open_L n h)⟩
theorem refd_bad {l : List Nat} (h : BadTx l) (hne : l ≠ []) (hl : l.length ≤ 6000) (ha : AscL l) (h32 : (32 : Nat) ∉ l) : Refd l := ⟨bad_T h, bad_L h hne, hl, ha, h32, refd_dep (bad_L h hne)⟩
theorem digW {c n : Nat} (hc : digC c = true) (hn : 40 < n) (h5 : n ≤ 5900) : BadTx (repL n [c]) ∧ repL n [c] ≠ [] ∧ (repL n [c]).length = n ∧ AscL (repL n [c]) ∧ (32 : Nat) ∉ repL n [c] ∧ intI (repL n [c]) = none := by
  obtain ⟨h1, h2⟩ := rep_dig hc n
  obtain ⟨k1, k2, k3, k4⟩ := dig_long h1 (by rw [h2]; exact hn)
  have hb : 48 ≤ c ∧ c ≤ 57 := by
    unfold digC at hc
    rw [Bool.and_eq_true, decide_eq_true_eq, decide_eq_true_eq] at hc
    exact hc
  exact ⟨bad_leaf k1 k2 k3, k2, h2, asc_rep (by intro d hd; simp at hd; omega) n, nob_rep (by simp; omega) n, k4⟩
theorem refd_dig {c n : Nat} (hc : digC c = true) (hn : 40 < n) (h5 : n ≤ 5900) : Refd (repL n [c]) ∧ Refd (102 :: 40 :: (repL n [c] ++ [41])) ∧ Refd (102 :: 40 :: 48 :: 44 :: (repL n [c] ++ [41])) := by
  obtain ⟨h1, h2, h3, h4, h6, _⟩ := digW hc hn h5
  refine ⟨refd_bad h1 h2 (by omega) h4 h6, refd_bad (bad_f h1) (by simp) (by simp; omega) ?_ ?_, refd_bad (bad_f0 h1) (by simp) (by simp; omega) ?_ ?_⟩
  · intro d hd
    simp only [List.mem_cons, List.mem_append, List.not_mem_nil, or_false] at hd
    rcases hd with rfl | rfl | hd | rfl <;> first | decide | exact h4 d hd
  · simp only [List.mem_cons, List.mem_append, List.not_mem_nil, or_false]
    rintro (h | h | h | h) <;> first | exact h6 h | omega
  · intro d hd
    simp only [List.mem_cons, List.mem_append, List.not_mem_nil, or_false] at hd
    rcases hd with rfl | rfl | rfl | rfl | hd | rfl <;> first | decide | exact h4 d hd
  · simp only [List.mem_cons, List.mem_append, List.not_mem_nil, or_false]
    rintro (h | h | h | h | h | h) <;> first | exact h6 h | omega
def badL : List (List Nat) := [(nestT 201).cx, (nestT 1200).cx, repL 1200 [102, 40], repL 5000 [57], repL 41 [49], 102 :: 40 :: (repL 5000 [57] ++ [41]), 102 :: 40 :: 48 :: 44 :: (repL 41 [49] ++ [41])]
theorem badL_refd : ∀ l ∈ badL, Refd l := fun l hl => by
  have h9 := refd_dig (c := 57) (n := 5000) (by decide) (by decide) (by decide)
  have h1 := refd_dig (c := 49) (n := 41) (by decide) (by decide) (by decide)
  unfold badL at hl
  simp only [List.mem_cons, List.not_mem_nil, or_false] at hl
  rcases hl with rfl | rfl | rfl | rfl | rfl | rfl | rfl
  · exact refd_nest (by decide) (by decide)
  · exact refd_nest (by decide) (by decide)
  · exact refd_open (by decide) (by decide)
  · exact h9.1
  · exact h1.1
  · exact h9.2.1
  · exact h1.2.2
theorem mov_asc {ws : List (List Nat)} (h : ∀ z ∈ ws, AscL z) : AscL (movOf ws) := by
  unfold movOf
  have hj : AscL (TL.joinL [44] ws) := by
    induction ws with
    | nil => simpa [TL.joinL] using asc_nil
    | cons z ws ih =>
      cases ws with
      | nil => simpa [TL.joinL] using h z List.mem_cons_self
      | cons z' ws =>
        simp only [TL.joinL]
        first | exact AscL.app (AscL.app (h z List.mem_cons_self) (asc_one (by decide))) (ih fun y hy => h y (List.mem_cons_of_mem _ hy)) | exact AscL.app (h z List.mem_cons_self) (AscL.app (asc_one (by decide)) (ih fun y hy => h y (List.mem_cons_of_mem _ hy)))
  have hp : AscL movPre := by
    intro c hc
    have : ∀ c ∈ movPre, c < 128 := by decide
    exact this c hc
  exact AscL.app (AscL.app hp hj) (asc_one (by decide))
theorem fewN_mov {ws : List (List Nat)} (hl : (movOf ws).length ≤ 20000) (h : ∀ z ∈ ws, AscL z) (h32 : ∀ z ∈ ws, (32 : Nat) ∉ z) (hd : ∀ ts, lisW ws = lisC ts → Tm.oks Q40 ts → (∀ t ∈ ts, t.size ≤ 200) → Tm.deps ts < 61) : FewN (some (movOf ws)) := fun l e => by
  cases e
  refine ⟨hl, mov_asc h, ?_⟩
  rw [spl_movOf h32]
  exact hd
theorem movOf_one (l : List Nat) : (movOf [l]).length = l.length + 16 := by
  unfold movOf movPre
  simp [TL.joinL]
theorem toldD_bad {l : List Nat} (h : Refd l) : toldD 0 (some l) = [] ∧ toldD 1 (some (movOf [l])) = [] := by
  refine ⟨?_, ?_⟩
  · show (((some l).bind progT).toList.map Tm.d) = []
    rw [Option.bind_some, h.t]
    rfl
  · show (((some (movOf [l])).bind progM).toList.map dM) = []
    rw [Option.bind_some, progM_movOf (by intro z hz; rw [List.mem_singleton.mp hz]; exact h.nob), h.m]
    rfl
theorem refd_few {l : List Nat} (h : Refd l) : FewN (some l) ∧ FewN (some (movOf [l])) := by
  refine ⟨fun l' e => ?_, fewN_mov (by rw [movOf_one]; have := h.len; omega) (by intro z hz; rw [List.mem_singleton.mp hz]; exact h.asc) (by intro z hz; rw [List.mem_singleton.mp hz]; exact h.nob) h.dep⟩
  cases e
  refine ⟨by have := h.len; omega, h.asc, fun ts e o s => ?_⟩
  have hs : splB l = [l] := by
    unfold splB
    have := TL.spl_join (s := 32) (S := []) (parts := [l]) (by simp) (by intro p hp; rw [List.mem_singleton.mp hp]; exact h.nob)
    simpa [TL.joinL] using this
  rw [hs] at e
  exact absurd e (by cases ts <;> simp [lisC])
end Fm
namespace Fm
open PySem PySem.Spec PyProof.Rows L2 SlX
theorem chn_no : ∀ (d many : Nat), (chnT d many).ok fun _ => False
  | 0, many => ⟨nm_fS, by simp, trivial⟩
  | d + 1, many => by
    unfold chnT
    by_cases hb : many < 2
    · rw [if_pos hb]
      exact ⟨nm_fS, by simp, trivial⟩
    · rw [if_neg hb]
      refine ⟨nm_fS, by rw [List.length_map]; exact chnP_len many, Tm.oks_iff.mpr fun t ht => ?_⟩
      obtain ⟨n, hn, rfl⟩ := List.mem_map.mp ht
      exact chn_no d n
theorem chn_dep : ∀ (d many : Nat), 1 ≤ many → many ≤ d → (chnT d many).dep ≤ many ∧ 4 * (chnT d many).dep ≤ many + 24
  | 0, many, h1, h2 => by omega
  | d + 1, many, h1, h2 => by
    unfold chnT
    by_cases hb : many < 2
    · rw [if_pos hb]
      simp only [Tm.dep, Tm.deps]
      omega
    · rw [if_neg hb]
      have ih : ∀ n ∈ chnP many, (chnT d n).dep ≤ n ∧ 4 * (chnT d n).dep ≤ n + 24 ∧ n + 1 ≤ many ∧ (9 ≤ many → n + 4 ≤ many) := fun n hn => by
        obtain ⟨k1, k2⟩ := chnP_mem hn
        obtain ⟨k3, k4⟩ := chn_dep d n k1 (by omega)
        refine ⟨k3, k4, k2, fun h4 => ?_⟩
        unfold chnP at hn
        rw [List.mem_filter] at hn
        have hn := hn.1
        simp only [List.mem_cons, List.not_mem_nil, or_false] at hn
        omega
      simp only [Tm.dep]
      have h3 : Tm.deps ((chnP many).map (chnT d)) ≤ many - 1 ∧ 4 * Tm.deps ((chnP many).map (chnT d)) ≤ many + 20 := by
        have h5 : Tm.deps ((chnP many).map (chnT d)) ≤ min (many - 1) ((many + 20) / 4) := by
          rw [Tm.deps_le]
          intro t ht
          obtain ⟨n, hn, rfl⟩ := List.mem_map.mp ht
          obtain ⟨k1, k2, k3, k4⟩ := ih n hn
          omega
        omega
      omega
theorem joinL_mem44 {l : List (List Nat)} : ∀ {c : Nat}, c ∈ TL.joinL [44] l → c = 44 ∨ ∃ p ∈ l, c ∈ p := by
  induction l with
  | nil => intro c hc; cases hc
  | cons p l ih =>
    intro c hc
    cases l with
    | nil => exact .inr ⟨p, List.mem_cons_self, hc⟩
    | cons q l =>
      simp only [TL.joinL, List.mem_append, List.mem_singleton] at hc
      rcases hc with hc | hc | hc
      · exact .inr ⟨p, List.mem_cons_self, hc⟩
      · exact .inl hc
      · rcases ih hc with h | ⟨r, hr, h⟩
        · exact .inl h
        · exact .inr ⟨r, List.mem_cons_of_mem _ hr, h⟩
theorem chn_sg : ∀ (d many : Nat), ∀ c ∈ (chnT d many).cx, c = 102 ∨ c = 40 ∨ c = 41 ∨ c = 44
  | 0, many => fun c hc => by
    rw [chnT, Tm.cx, cps_fS] at hc
    simp [Tm.cxP] at hc
    omega
  | d + 1, many => fun c hc => by
    by_cases hb : many < 2
    · rw [show (chnT (d + 1) many).cx = [102] by unfold chnT; rw [if_pos hb, Tm.cx, cps_fS]; rfl] at hc
      exact .inl (List.mem_singleton.mp hc)
    · rw [chn_text (by omega)] at hc
      simp only [List.mem_append, List.mem_cons, List.not_mem_nil, or_false] at hc
      rcases hc with ((hc | hc) | hc) | hc
      · exact .inl hc
      · exact .inr (.inl hc)
      · rcases joinL_mem44 hc with hc | ⟨p, hp, hc⟩
        · exact .inr (.inr (.inr hc))
        · obtain ⟨n, _, rfl⟩ := List.mem_map.mp hp
          exact chn_sg d n c hc
      · exact .inr (.inr (.inl hc))
theorem chn_asc (d many : Nat) : AscL (chnT d many).cx ∧ (32 : Nat) ∉ (chnT d many).cx := by
  refine ⟨fun c hc => ?_, fun hc => ?_⟩
  · have := chn_sg d many c hc
    omega
  · have := chn_sg d many 32 hc
    omega
theorem few_nob {l : List Nat} (hl : l.length ≤ 20000) (ha : AscL l) (h32 : (32 : Nat) ∉ l) : FewN (some l) := fun l' e => by
  cases e
  refine ⟨hl, ha, fun ts e o s => ?_⟩
  have hs : splB l = [l] := by
    unfold splB
    have := TL.spl_join (s := 32) (S := []) (parts := [l]) (by simp) (by intro p hp; rw [List.mem_singleton.mp hp]; exact h32)
    simpa [TL.joinL] using this
  rw [hs] at e
  exact absurd e (by cases ts <;> simp [lisC])
theorem few_lis {t : Tm} {us : List Tm} (ho : Tm.oks Q40 (t :: us)) (hd : Tm.deps (t :: us) < 61) : ∀ ts, lisC (t :: us) = lisC ts → Tm.oks Q40 ts → (∀ t ∈ ts, t.size ≤ 200) → Tm.deps ts < 61 := fun ts e o s => by
  have h := progL_iff.mpr ⟨e, o, s⟩
  rw [progL_lis ho] at h
  split at h
  · cases h
    exact hd
  · cases h
theorem told_lis {t : Tm} {us : List Tm} (ho : Tm.oks (fun _ => False) (t :: us)) (h32 : ∀ u ∈ t :: us, (32 : Nat) ∉ u.cx) : toldD 1 (some (movOf ((t :: us).map Tm.cx))) = [] ↔ ¬ ∀ u ∈ t :: us, u.size ≤ 200 := by
  have hq : Tm.oks Q40 (t :: us) := Tm.oks_mono (fun i h => h.elim) _ ho
  show (((some (movOf ((t :: us).map Tm.cx))).bind progM).toList.map dM) = [] ↔ _
  rw [Option.bind_some, progM_movOf (by intro z hz; obtain ⟨u, hu, rfl⟩ := List.mem_map.mp hz; exact h32 u hu), ← lisC_W, progL_lis hq]
  by_cases hs : ∀ u ∈ t :: us, u.size ≤ 200
  · rw [if_pos (by rw [List.all_eq_true]; exact fun u hu => decide_eq_true (hs u hu))]
    have hu : (Tm.ths (t :: us)).all (under 1) = true := by
      rw [List.all_eq_true]
      intro x hx
      have : ∀ ts : List Tm, Tm.oks (fun _ => False) ts → ∀ x ∈ Tm.ths ts, under 1 x = true := by
        intro ts
        induction ts with
        | nil => intro _ x hx; cases hx
        | cons t ts ih =>
          intro h x hx
          rcases List.mem_cons.mp hx with rfl | hx
          · exact under_th (fun i h => h.elim) t h.1
          · exact ih h.2 x hx
      exact this _ ho x hx
    rw [bodyM]
    rw [if_pos (by rw [hu]; rfl)]
    simp only [Option.toList, List.map_cons, reduceCtorEq, false_iff]
    exact fun h => h hs
  · rw [if_neg (by rw [List.all_eq_true]; exact fun h => hs fun u hu => of_decide_eq_true (h u hu))]
    exact ⟨fun _ => hs, fun _ => rfl⟩
theorem told_one {t : Tm} (ho : t.ok Q40) : toldD 0 (some t.cx) = if t.size ≤ 200 then [t.d] else [] := by
  show (((some t.cx).bind progT).toList.map Tm.d) = _
  rw [Option.bind_some, progT_cx ho]
  by_cases h : t.size ≤ 200
  · rw [if_pos h, if_pos h]
    rfl
  · rw [if_neg h, if_neg h]
    rfl
theorem chn_all {many : Nat} (h1 : 1 ≤ many) (h2 : many ≤ 201) : FewN (some (chnT 201 many).cx) ∧ FewN (some (movOf [(chnT 201 many).cx])) ∧ FewN (some (movOf [(chnT 201 many).cx, (chnT 201 many).cx])) ∧ toldD 0 (some (chnT 201 many).cx) = (if many ≤ 200 then [(chnT 201 many).d] else []) ∧ (toldD 1 (some (movOf [(chnT 201 many).cx])) = [] ↔ ¬ many ≤ 200) ∧ (toldD 1 (some (movOf [(chnT 201 many).cx, (chnT 201 many).cx])) = [] ↔ ¬ many ≤ 200) ∧ (chnT 201 many).cx.length ≤ 1005 := by
  obtain ⟨k1, k2, k3⟩ := chn_ok 201 many h1 h2
  obtain ⟨k4, k5⟩ := chn_asc 201 many
  obtain ⟨_, k6⟩ := chn_dep 201 many h1 h2
  have k7 := chn_no 201 many
  generalize hT : chnT 201 many = t at *
  have hml : ∀ ws : List (List Nat), (movOf ws).length = 16 + (TL.joinL [44] ws).length := fun ws => by
    unfold movOf movPre
    simp
    omega
  have hd1 : Tm.deps [t] < 61 := by
    have : Tm.deps [t] ≤ 60 := Tm.deps_le.mpr fun u hu => by rw [List.mem_singleton.mp hu]; omega
    omega
  have hd2 : Tm.deps [t, t] < 61 := by
    have : Tm.deps [t, t] ≤ 60 := Tm.deps_le.mpr fun u hu => by
      simp only [List.mem_cons, List.not_mem_nil, or_false, or_self] at hu
      rw [hu]
      omega
    omega
  refine ⟨few_nob (by omega) k4 k5, fewN_mov ?_ ?_ ?_ ?_, fewN_mov ?_ ?_ ?_ ?_, ?_, ?_, ?_, by omega⟩
  · rw [hml]
    simp only [TL.joinL]
    omega
  · intro z hz
    rw [List.mem_singleton.mp hz]
    exact k4
  · intro z hz
    rw [List.mem_singleton.mp hz]
    exact k5
  · exact few_lis (t := t) (us := []) ⟨k1, trivial⟩ hd1
  · rw [hml]
    simp only [TL.joinL, List.length_append, List.length_cons, List.length_nil]
    omega
  · intro z hz
    simp only [List.mem_cons, List.not_mem_nil, or_false, or_self] at hz
    rw [hz]
    exact k4
  · intro z hz
    simp only [List.mem_cons, List.not_mem_nil, or_false, or_self] at hz
    rw [hz]
    exact k5
  · exact few_lis (t := t) (us := [t]) ⟨k1, k1, trivial⟩ hd2
  · rw [told_one k1, k2]
  · rw [show [t.cx] = [t].map Tm.cx from rfl, told_lis (t := t) (us := []) ⟨k7, trivial⟩ (fun u hu => by rw [List.mem_singleton.mp hu]; exact k5)]
    simp only [List.mem_cons, List.not_mem_nil, or_false, forall_eq, k2]
  · rw [show [t.cx, t.cx] = [t, t].map Tm.cx from rfl, told_lis (t := t) (us := [t]) ⟨k7, k7, trivial⟩ (fun u hu => by simp only [List.mem_cons, List.not_mem_nil, or_false, or_self] at hu; rw [hu]; exact k5)]
    simp only [List.mem_cons, List.not_mem_nil, or_false, or_self, forall_eq, k2]
end Fm
namespace Fm
open PySem PySem.Spec PyProof.Rows L2 SlX
local macro_rules | `(tactic| walk_at "nn") => `(tactic| dsimp only [tC, tNil, tCons, tCB, tCall, gName, tSeq, tAsg, tPar, tDrop, tRet])
local macro_rules | `(tactic| walk_at "nc") => `(tactic| dsimp only [tC, tNil, tCons, tCB, tCall])
theorem f_wd : V.str (Str.ofString "f") = wdV [102] := congrArg V.str (by decide +kernel)
theorem fo_wd : V.str (Str.ofString "f(") = wdV [102, 40] := congrArg V.str (by decide +kernel)
theorem fz_wd : V.str (Str.ofString "f(0,") = wdV [102, 40, 48, 44] := congrArg V.str (by decide +kernel)
theorem z_wd : V.str (Str.ofString "0") = wdV [48] := congrArg V.str (by decide +kernel)
theorem cl_wd : V.str (Str.ofString ")") = wdV [41] := congrArg V.str (by decide +kernel)
theorem n9_wd : V.str (Str.ofString "9") = wdV [57] := congrArg V.str (by decide +kernel)
theorem n1_wd : V.str (Str.ofString "1") = wdV [49] := congrArg V.str (by decide +kernel)
theorem told_emp {K : PySem.W.Frag} {H : Hp} {xs : List V} {ds : List PyData} (h : Ims K H xs ds) : xs.isEmpty = ds.isEmpty := by
  have := h.length
  cases xs <;> cases ds <;> simp_all
theorem ims_str {K : PySem.W.Frag} {H : Hp} : ∀ ws : List (List Nat), Ims K H (ws.map wdV) (ws.map fun l => PyData.str (SX.S l))
  | [] => .nil
  | _ :: ws => .cons (.str _) (ims_str ws)
theorem emp_of {α : Type} {l : List α} {p : Prop} [Decidable p] (h : l = [] ↔ ¬ p) : l.isEmpty = !decide p := by
  by_cases hp : p
  · rw [decide_eq_true hp]
    cases l with
    | nil => exact absurd hp (h.mp rfl)
    | cons x l => rfl
  · rw [decide_eq_false hp, h.mpr hp]
    rfl
theorem bb_ne (x y u : Bool) (hx : x = u) (hy : y = u) : (!PyData.eqv (.list [.bool x, .bool y]) (.list [.bool u, .bool u])) = false := by
  rw [hx, hy]
  cases u <;> rfl
theorem bb_sh (x y : Bool) : SeqAt.shaped (.list [.bool x, .bool y]) = true := by
  cases x <;> cases y <;> rfl
section
variable {P : Program} {w : World} {K : PySem.W.Frag} {mg : Str → Option Value} {base : Heap}
theorem ok__law_great_right (T : TX K mg) (Y : TY P K mg) {k : Nat} : FnOkG P w K mg base CX0 (k + 210) T.d__law_great_right.f T.d__law_great_right.fd P__law_great_right sp_true := by
  have G__law_chain : FnOk P w K mg base CX0 202 T.d__law_chain.f T.d__law_chain.fd P__law_chain (sp_chain 201) := ok__law_chain T 201 (by decide)
  have G__law_told : FnOk P w K mg base CX0 127 T.d__law_told.f T.d__law_told.fd P__law_told (sp_ltold K) := ok__law_told (k := 0) T Y
  have G__law_move_of : FnOk P w K mg base CX0 1 T.d__law_move_of.f T.d__law_move_of.fd P__law_move_of (sp_movOf K) := ok__law_move_of T
  have G__law_alike : FnOkG P w K mg base CX0 1 T.d__law_alike.f T.d__law_alike.fd P__law_alike (sp_alike K) := ok__law_alike T
  refine okG T.d__law_great_right.F sc__law_great_right (fun vs H Q E h => ?_) (fun cdv A outer s H vs Q E hgd hr h => ?_)
  · obtain ⟨rfl, _⟩ := h
    rfl
  · obtain ⟨rfl, q⟩ := h
    have hu64 := hr.units
    have hu65 := hu65_of hr
    refine ⟨_, (pss_cons (ps_for PassesOwn.never rfl (pi_seq (pe_tup (pa_cons pe_int (pa_cons pe_int pa_nil)))) (pg_name (i := 0) sc__law_great_right.nd rfl (Or.inl rfl)) (pss_cons (ps_set (i := 1) sc__law_great_right.nd rfl (Or.inl rfl) (pe_call G__law_chain (hr.mono (by omega)) rfl T.d__law_chain.g T.d__law_chain.F.kp T.d__law_chain.b .nil pass0 (pa_cons pe_str (pa_cons (pv 0) pa_nil)))) (pss_one (ps_if (pt_cmpR (r := rNeG K) (op_neG hu64) (pe_lst (pa_cons (pe_cmpR (r := rEqNil K) (op_eqNil (Nat.lt_of_le_of_lt (Nat.le_add_right _ 65) hu65)) (pe_call G__law_told (hr.mono (by omega)) rfl T.d__law_told.g T.d__law_told.F.kp T.d__law_told.b .nil pass0 (pa_cons pe_int (pa_cons (pv 1) pa_nil))) (pe_lst pa_nil) (nomark _)) (pa_cons (pe_cmpR (r := rEqNil K) (op_eqNil (Nat.lt_of_le_of_lt (Nat.le_add_right _ 65) hu65)) (pe_call G__law_told (hr.mono (by omega)) rfl T.d__law_told.g T.d__law_told.F.kp T.d__law_told.b .nil pass0 (pa_cons pe_int (pa_cons (pe_call G__law_move_of (hr.mono (by omega)) rfl T.d__law_move_of.g T.d__law_move_of.F.kp T.d__law_move_of.b .nil pass0 (pa_cons (pe_lst (pa_cons (pv 1) pa_nil)) pa_nil)) pa_nil))) (pe_lst pa_nil) (nomark _)) pa_nil))) (pe_op op_mulG (pe_lst (pa_cons (pe_cmpR op_gt (pv 0) pe_int (nomark _)) pa_nil)) pe_int) (nomark _)) (pss_one (ps_ret pe_bl)) pss_nil)))) (pss_cons (ps_if (pt_cmpR (r := rEqNil K) (op_eqNil (Nat.lt_of_le_of_lt (Nat.le_add_right _ 65) hu65)) (pe_call G__law_told (hr.mono (by omega)) rfl T.d__law_told.g T.d__law_told.F.kp T.d__law_told.b .nil pass0 (pa_cons pe_int (pa_cons (pe_call G__law_move_of (hr.mono (by omega)) rfl T.d__law_move_of.g T.d__law_move_of.F.kp T.d__law_move_of.b .nil pass0 (pa_cons (pe_op op_mulG (pe_lst (pa_cons (pe_call G__law_chain (hr.mono (by omega)) rfl T.d__law_chain.g T.d__law_chain.F.kp T.d__law_chain.b .nil pass0 (pa_cons pe_str (pa_cons pe_int pa_nil))) pa_nil)) pe_int) pa_nil)) pa_nil))) (pe_lst pa_nil) (nomark _)) (pss_one (ps_ret pe_bl)) pss_nil) (pss_cons (ps_set (i := 2) sc__law_great_right.nd rfl (Or.inl rfl) pe_int) (pss_cons (ps_for PassesOwn.never rfl (pi_range1 (by rfl) T.b_range (pa_cons pe_int pa_nil)) (pg_name (i := 3) sc__law_great_right.nd rfl (Or.inl rfl)) (pss_one (ps_set (i := 2) sc__law_great_right.nd rfl (Or.inl rfl) (pe_tup (pa_cons pe_str (pa_cons (pv 2) pa_nil)))))) (pss_cons (ps_if (pt_not (pt_val (pe_callG G__law_alike hgd (hr.mono (by omega)) rfl T.d__law_alike.g T.d__law_alike.F.kp T.d__law_alike.b .nil pass0 (pa_cons (pe_call G__law_told (hr.mono (by omega)) rfl T.d__law_told.g T.d__law_told.F.kp T.d__law_told.b .nil pass0 (pa_cons pe_int (pa_cons (pe_op (r := rAddG K) op_addG (pe_op (r := rAddG K) op_addG (pe_op (r := rMulN) op_mulN pe_str pe_int) pe_str) (pe_op (r := rMulN) op_mulN pe_str pe_int)) pa_nil))) (pa_cons (pe_lst (pa_cons (pv 2) pa_nil)) pa_nil))))) (pss_one (ps_ret pe_bl)) pss_nil) (pss_cons (ps_set (i := 4) sc__law_great_right.nd rfl (Or.inl rfl) (pe_op (r := rAddG K) op_addG (pe_lc (own := [("_law_many", 0)]) (g := gName 0) (by rfl) sc__law_great_right.nd (pi_seq (pe_tup (pa_cons pe_int (pa_cons pe_int pa_nil)))) (blkOk_by (own := [("_law_many", 0)]) (N := N__law_great_right) (sc := defScope s__law_great_right) (by decide +kernel)) (fun _ _ _ _ _ => pg_name (i := 0) sc__law_great_right.nd rfl (Or.inl rfl)) (fun _ _ _ _ _ => pts_nil) (fun _ _ _ _ _ => (pe_op (r := rAddG K) op_addG (pe_op (r := rAddG K) op_addG (pe_op (r := rMulN) op_mulN pe_str (pv 0)) pe_str) (pe_op (r := rMulN) op_mulN pe_str (pv 0))))) (pe_lst (pa_cons (pe_op (r := rMulN) op_mulN pe_str pe_int) (pa_cons (pe_op (r := rMulN) op_mulN pe_str pe_int) (pa_cons (pe_op (r := rMulN) op_mulN pe_str pe_int) pa_nil)))))) (pss_cons (ps_set (i := 4) sc__law_great_right.nd rfl (Or.inl rfl) (pe_op (r := rAddG K) op_addG (pv 4) (pe_lst (pa_cons (pe_op (r := rAddG K) op_addG (pe_op (r := rAddG K) op_addG pe_str (pe_op (r := rMulN) op_mulN pe_str pe_int)) pe_str) (pa_cons (pe_op (r := rAddG K) op_addG (pe_op (r := rAddG K) op_addG pe_str (pe_op (r := rMulN) op_mulN pe_str pe_int)) pe_str) pa_nil))))) (pss_one (ps_ret (pe_cmpR (r := rEqNil K) (op_eqNil (Nat.lt_of_le_of_lt (Nat.le_add_right _ 65) hu65)) (pe_lc (own := [("_law_text", 1)]) (g := gName 1) (by rfl) sc__law_great_right.nd (pi_seq (pv 4)) (blkOk_by (own := [("_law_text", 1)]) (N := N__law_great_right) (sc := defScope s__law_great_right) (by decide +kernel)) (fun _ _ _ _ _ => pg_name (i := 1) sc__law_great_right.nd rfl (Or.inl rfl)) (fun _ _ _ _ _ => (pts_one (PW.pt (pw_or (pt_cmpR (r := rNeNil K) (op_neNil (Nat.lt_of_le_of_lt (Nat.le_add_right _ 65) hu65)) (pe_call G__law_told (hr.mono (by omega)) rfl T.d__law_told.g T.d__law_told.F.kp T.d__law_told.b .nil pass0 (pa_cons pe_int (pa_cons (pv 1) pa_nil))) (pe_lst pa_nil) (nomark _)) (pw_or1 (pt_cmpR (r := rNeNil K) (op_neNil (Nat.lt_of_le_of_lt (Nat.le_add_right _ 65) hu65)) (pe_call G__law_told (hr.mono (by omega)) rfl T.d__law_told.g T.d__law_told.F.kp T.d__law_told.b .nil pass0 (pa_cons pe_int (pa_cons (pe_call G__law_move_of (hr.mono (by omega)) rfl T.d__law_move_of.g T.d__law_move_of.F.kp T.d__law_move_of.b .nil pass0 (pa_cons (pe_lst (pa_cons (pv 1) pa_nil)) pa_nil)) pa_nil))) (pe_lst pa_nil) (nomark _))))))) (fun _ _ _ _ _ => (pv 1))) (pe_lst pa_nil) (nomark _))))))))))), ?_⟩
    refine ⟨(by decide : 2 ≤ sizeLine), fun p1 n1 => ⟨p1, rfl, ?_⟩⟩
    have k1 := Mv.new (S := []) (o := (.tup [.int 200, .int 201])) n1
    have e1 : SqT K (upd H p1 (.tup [.int 200, .int 201])) p1 [.int 200, .int 201] := .inl (.inl upd_same)
    generalize upd H p1 (.tup [.int 200, .int 201]) = H1 at k1 e1 ⊢
    have m1 := k1
    refine for_seq (.inr e1) (fun i σ H2 => ∃ y0 y1, σ = [y0, y1, none, none, none] ∧ Mv [] H1 H2) ⟨_, _, rfl, .refl⟩ (fun i σ H2 h2 => let ⟨_, _, _, m⟩ := h2; m) (fun i x σ H2 hx h2 => ?_) (fun σ H2 h2 => ?_)
    · obtain ⟨y0, y1, rfl, m2⟩ := h2
      obtain ⟨n, rfl, hn1, hn2⟩ : ∃ n : Nat, x = .int (n : Int) ∧ 1 ≤ n ∧ n ≤ 201 := by
        match i, hx with
        | 0, hx => cases hx; exact ⟨200, rfl, by decide, by decide⟩
        | 1, hx => cases hx; exact ⟨201, rfl, by decide, by decide⟩
      obtain ⟨f1, f2, _, t1, t2, _, tl⟩ := chn_all hn1 hn2
      refine ⟨.int n, rfl, n, by rw [f_wd]; rfl, hn1, hn2, fun H3 m3 => ?_⟩
      generalize (chnT 201 n).cx = l at f1 f2 t1 t2 tl
      refine ⟨wdV l, rfl, 0, 0, wdV l, some l, rfl, .inl rfl, .str l, f1, fun p4 xs4 H4 n4 m4 e4 i4 => ?_⟩
      refine ⟨Nat.zero_le _, fun p5 n5 => ⟨p4, p5, xs4, rfl, rfl, .inl (.inl ((Mv.new (S := []) n5).same _ _ e4)), .inl (.inl upd_same), ?_⟩⟩
      have k5 := Mv.new (S := []) (o := (.lst ([] : List V))) n5
      have e5 : upd H4 p5 (.lst ([] : List V)) p5 = some (.lst ([] : List V)) := upd_same
      generalize upd H4 p5 (.lst ([] : List V)) = H5 at k5 e5 ⊢
      have m5 := m4.trans k5
      refine ⟨wdV l, rfl, (by decide : 1 ≤ sizeLine), fun p6 n6 => ?_⟩
      have k6 := Mv.new (S := []) (o := (.lst [wdV l])) n6
      have e6 : upd H5 p6 (.lst [wdV l]) p6 = some (.lst [wdV l]) := upd_same
      generalize upd H5 p6 (.lst [wdV l]) = H6 at k6 e6 ⊢
      have m6 := m5.trans k6
      refine ⟨p6, [l], rfl, e6, (by decide : 1 ≤ 10), (by intro z hz; rw [List.mem_singleton.mp hz]; omega), ?_⟩
      refine ⟨0, 1, wdV (movOf [l]), some (movOf [l]), rfl, .inr rfl, .str _, f2, fun p7 xs7 H7 n7 m7 e7 i7 => ?_⟩
      refine ⟨Nat.zero_le _, fun p8 n8 => ⟨p7, p8, xs7, rfl, rfl, .inl (.inl ((Mv.new (S := []) n8).same _ _ e7)), .inl (.inl upd_same), ?_⟩⟩
      have m67 := m6.trans m7
      have k8 := Mv.new (S := []) (o := (.lst ([] : List V))) n8
      have e8 : upd H7 p8 (.lst ([] : List V)) p8 = some (.lst ([] : List V)) := upd_same
      generalize upd H7 p8 (.lst ([] : List V)) = H8 at k8 e8 ⊢
      have m8 := m67.trans k8
      refine ⟨(by decide : 2 ≤ sizeLine), fun p9 n9 => ?_⟩
      have k9 := Mv.new (S := []) (o := (.lst [.bl xs4.isEmpty, .bl xs7.isEmpty])) n9
      have e9 : upd H8 p9 (.lst [.bl xs4.isEmpty, .bl xs7.isEmpty]) p9 = some (.lst [.bl xs4.isEmpty, .bl xs7.isEmpty]) := upd_same
      generalize upd H8 p9 (.lst [.bl xs4.isEmpty, .bl xs7.isEmpty]) = H9 at k9 e9 ⊢
      have m9 := m8.trans k9
      refine ⟨.int n, rfl, n, 200, rfl, rfl, (by decide : 1 ≤ sizeLine), fun p10 n10 => ?_⟩
      have k10 := Mv.new (S := []) (o := (.lst [.bl (decide ((200 : Int) < n))])) n10
      have e10 : upd H9 p10 (.lst [.bl (decide ((200 : Int) < n))]) p10 = some (.lst [.bl (decide ((200 : Int) < n))]) := upd_same
      generalize upd H9 p10 (.lst [.bl (decide ((200 : Int) < n))]) = H10 at k10 e10 ⊢
      have m10 := m9.trans k10
      refine Or.inr ⟨p10, 2, _, rfl, rfl, e10, by decide, by decide, (by decide : 1 * 2 ≤ sizeLine), fun p11 n11 => ?_⟩
      rw [show (List.replicate (2 : Int).toNat [V.bl (decide ((200 : Int) < n))]).flatten = [.bl (decide ((200 : Int) < n)), .bl (decide ((200 : Int) < n))] from rfl]
      have k11 := Mv.new (S := []) (o := (.lst [.bl (decide ((200 : Int) < n)), .bl (decide ((200 : Int) < n))])) n11
      have e11 : upd H10 p11 (.lst [.bl (decide ((200 : Int) < n)), .bl (decide ((200 : Int) < n))]) p11 = some (.lst [.bl (decide ((200 : Int) < n)), .bl (decide ((200 : Int) < n))]) := upd_same
      generalize upd H10 p11 (.lst [.bl (decide ((200 : Int) < n)), .bl (decide ((200 : Int) < n))]) = H11 at k11 e11 ⊢
      have m11 := m10.trans k11
      have b4 : xs4.isEmpty = decide ((200 : Int) < n) := by
        rw [told_emp i4, t1]
        by_cases h : n ≤ 200
        · rw [if_pos h, decide_eq_false (by omega)]
          rfl
        · rw [if_neg h, decide_eq_true (by omega)]
          rfl
      have b7 : xs7.isEmpty = decide ((200 : Int) < n) := by
        rw [told_emp i7, emp_of t2]
        by_cases h : n ≤ 200
        · rw [decide_eq_true h, decide_eq_false (by omega)]
          rfl
        · rw [decide_eq_false h, decide_eq_true (by omega)]
          rfl
      refine Or.inr ⟨.list [.bool xs4.isEmpty, .bool xs7.isEmpty], .list [.bool (decide ((200 : Int) < n)), .bool (decide ((200 : Int) < n))], .lst (.inl (.inl ((k10.trans k11).same _ _ e9))) (DpAll.cons (.bl _) (DpAll.cons (.bl _) .nil)), .lst (.inl (.inl e11)) (DpAll.cons (.bl _) (DpAll.cons (.bl _) .nil)), bb_sh _ _, bb_sh _ _, ?_⟩
      rw [bb_ne _ _ _ b4 b7]
      refine ⟨_, rfl, ?_⟩
      exact ⟨_, _, rfl, m2.trans (m3.trans m11)⟩
    · obtain ⟨y0, y1, rfl, m2⟩ := h2
      have m02 := k1.trans m2
      refine ⟨150, by rw [f_wd]; rfl, by decide, by decide, fun H3 m3 => ?_⟩
      obtain ⟨_, _, f3, _, _, t3, tl⟩ := chn_all (many := 150) (by decide) (by decide)
      generalize (chnT 201 150).cx = l at f3 t3 tl
      refine ⟨(by decide : 1 ≤ sizeLine), fun p4 n4 => ?_⟩
      have m03 := m02.trans m3
      have k4 := Mv.new (S := []) (o := (.lst [wdV l])) n4
      have e4 : upd H3 p4 (.lst [wdV l]) p4 = some (.lst [wdV l]) := upd_same
      generalize upd H3 p4 (.lst [wdV l]) = H4 at k4 e4 ⊢
      have m4 := m03.trans k4
      refine Or.inr ⟨p4, 2, _, rfl, rfl, e4, by decide, by decide, (by decide : 1 * 2 ≤ sizeLine), fun p5 n5 => ?_⟩
      rw [show (List.replicate (2 : Int).toNat [wdV l]).flatten = [wdV l, wdV l] from rfl]
      have k5 := Mv.new (S := []) (o := (.lst [wdV l, wdV l])) n5
      have e5 : upd H4 p5 (.lst [wdV l, wdV l]) p5 = some (.lst [wdV l, wdV l]) := upd_same
      generalize upd H4 p5 (.lst [wdV l, wdV l]) = H5 at k5 e5 ⊢
      have m5 := m4.trans k5
      refine ⟨p5, [l, l], rfl, e5, (by decide : 2 ≤ 10), (by intro z hz; simp only [List.mem_cons, List.not_mem_nil, or_false, or_self] at hz; rw [hz]; omega), ?_⟩
      refine ⟨0, 1, wdV (movOf [l, l]), some (movOf [l, l]), rfl, .inr rfl, .str _, f3, fun p7 xs7 H7 n7 m7 e7 i7 => ?_⟩
      refine ⟨Nat.zero_le _, fun p8 n8 => ⟨p7, p8, xs7, rfl, rfl, .inl (.inl ((Mv.new (S := []) n8).same _ _ e7)), .inl (.inl upd_same), _, rfl, ?_⟩⟩
      have m07 := m5.trans m7
      have k8 := Mv.new (S := []) (o := (.lst ([] : List V))) n8
      have e8 : upd H7 p8 (.lst ([] : List V)) p8 = some (.lst ([] : List V)) := upd_same
      generalize upd H7 p8 (.lst ([] : List V)) = H8 at k8 e8 ⊢
      have m8 := m07.trans k8
      have b7 : xs7.isEmpty = false := by
        rw [told_emp i7, emp_of t3]
        rfl
      rw [b7]
      refine ⟨20, rfl, by decide, by decide, ?_⟩
      refine for_range (lo := 0) (n := (20 : Int).toNat) (fun j σ H9 => ∃ y3 v, σ = [y0, y1, some v, y3, none] ∧ Im K H9 v (nestT j).d ∧ Mv [] H8 H9) ⟨_, _, rfl, .int 0, .refl⟩ (fun j σ H9 hj h9 => ?_) (fun σ H9 h9 => ?_)
      · obtain ⟨y3, v, rfl, iv, m9⟩ := h9
        refine ⟨v, rfl, (by decide : 2 ≤ sizeLine), fun p10 n10 => ?_⟩
        have k10 := Mv.new (S := []) (o := (.tup [.str "f", v])) n10
        have e10 : SqT K (upd H9 p10 (.tup [.str "f", v])) p10 [.str "f", v] := .inl (.inl upd_same)
        generalize upd H9 p10 (.tup [.str "f", v]) = H10 at k10 e10 ⊢
        have m10 := m9.trans k10
        exact ⟨_, _, rfl, Im.tup e10 (Ims.cons (.str _) (Ims.cons (iv.mv k10) Ims.nil)), m10⟩
      · obtain ⟨y3, v, rfl, iv, m9⟩ := h9
        have m09 := m8.trans m9
        rw [fo_wd, z_wd, cl_wd, n9_wd, n1_wd, fz_wd]
        obtain ⟨ho, hsz, _⟩ := nest_ok 20
        obtain ⟨nl, na, n32⟩ := nest_text 20
        have t0 := told_one ho
        rw [if_pos (by rw [hsz]; decide)] at t0
        refine ⟨[102, 40], 20, rfl, rfl, by decide, by decide, ?_⟩
        refine rd_sCat (K := K) (a := repL 20 [102, 40]) (b := [48]) (by rw [repL_len]; decide) ?_
        refine ⟨[41], 20, rfl, rfl, by decide, by decide, ?_⟩
        refine rd_sCat (K := K) (a := repL 20 [102, 40] ++ [48]) (b := repL 20 [41]) (by rw [List.length_append, repL_len, repL_len]; decide) ?_
        rw [← nest_cx]
        refine ⟨0, 0, _, some (nestT 20).cx, rfl, .inl rfl, .str _, few_nob (by omega) na n32, fun p11 xs11 H11 n11 m11 e11 i11 => ?_⟩
        rw [t0] at i11
        refine ⟨v, rfl, (by decide : 1 ≤ sizeLine), fun p12 n12 => ?_⟩
        have m011 := m09.trans m11
        have k12 := Mv.new (S := []) (o := (.lst [v])) n12
        have e12 : upd H11 p12 (.lst [v]) p12 = some (.lst [v]) := upd_same
        generalize upd H11 p12 (.lst [v]) = H12 at k12 e12 ⊢
        have m12 := m011.trans k12
        have hshw : Shw (.list [(nestT 20).d]) := ⟨⟨fine_d (P := Q40) (fun i h => h.2) _ ho, trivial⟩, by decide +kernel, by decide +kernel⟩
        refine ⟨.ref p11, .ref p12, .list [(nestT 20).d], rfl, .lst (.inl (.inl (k12.same _ _ e11))) (i11.mv k12).dp, .lst (.inl (.inl e12)) (Ims.cons (iv.mv (m11.trans k12)) Ims.nil).dp, hshw, ?_⟩
        refine ⟨_, rfl, ?_⟩
        refine ⟨(by decide : 2 ≤ sizeLine), fun p13 n13 => ⟨p13, rfl, ?_⟩⟩
        have k13 := Mv.new (S := []) (o := (.tup [.int 201, .int 1200])) n13
        have e13 : SqT K (upd H12 p13 (.tup [.int 201, .int 1200])) p13 [.int 201, .int 1200] := .inl (.inl upd_same)
        generalize upd H12 p13 (.tup [.int 201, .int 1200]) = H13 at k13 e13 ⊢
        have m13 := m12.trans k13
        refine lc_fm (K := K) (as := [201, 1200]) (enc := fun n : Nat => PyData.int ((n : Nat) : Int)) (fun n => some (.str (SX.S (nestT n).cx))) (.inr e13) (Ims.cons (.int _) (Ims.cons (.int _) Ims.nil)) (by simp) (fun y n H14 Q' R' hn him m14 k1' k2' => ?_) (fun D ys H14 nD eD iD m14 => ?_)
        · cases him.intI
          have hn : n ≤ 1200 := by
            simp only [List.mem_cons, List.not_mem_nil, or_false] at hn
            omega
          refine ⟨rfl, ?_⟩
          refine ⟨.int ((n : Nat) : Int), rfl, ⟨[102, 40], n, rfl, rfl, by decide, by show n * 2 ≤ _; omega, ?_⟩⟩
          refine rd_sCat (K := K) (a := repL n [102, 40]) (b := [48]) (by rw [repL_len]; show n * 2 + 1 ≤ _; omega) ?_
          refine ⟨.int ((n : Nat) : Int), rfl, ⟨[41], n, rfl, rfl, by decide, by show n * 1 ≤ _; omega, ?_⟩⟩
          refine rd_sCat (K := K) (a := repL n [102, 40] ++ [48]) (b := repL n [41]) (by rw [List.length_append, repL_len, repL_len]; show n * 2 + 1 + n * 1 ≤ _; omega) ?_
          rw [← nest_cx]
          exact k1' _ rfl _ _ .refl (.str _)
        · have iD : Ims K H14 ys ([(nestT 201).cx, (nestT 1200).cx].map fun l => PyData.str (SX.S l)) := iD
          rw [ims_wd iD] at eD
          refine ⟨[102, 40], 1200, rfl, rfl, by decide, by decide, ?_⟩
          refine ⟨[57], 5000, rfl, rfl, by decide, by decide, ?_⟩
          refine ⟨[49], 41, rfl, rfl, by decide, by decide, ?_⟩
          refine ⟨(by decide : 3 ≤ sizeLine), fun p15 n15 => ?_⟩
          have m014 := m13.trans m14
          have k15 := Mv.new (S := []) (o := (.lst [wdV (repL 1200 [102, 40]), wdV (repL 5000 [57]), wdV (repL 41 [49])])) n15
          have e15 : upd H14 p15 (.lst [wdV (repL 1200 [102, 40]), wdV (repL 5000 [57]), wdV (repL 41 [49])]) p15 = some (.lst [wdV (repL 1200 [102, 40]), wdV (repL 5000 [57]), wdV (repL 41 [49])]) := upd_same
          generalize upd H14 p15 (.lst [wdV (repL 1200 [102, 40]), wdV (repL 5000 [57]), wdV (repL 41 [49])]) = H15 at k15 e15 ⊢
          have m15 := m014.trans k15
          refine rd_catW (K := K) (ws := [(nestT 201).cx, (nestT 1200).cx]) (us := [repL 1200 [102, 40], repL 5000 [57], repL 41 [49]]) (k15.same _ _ eD) e15 (by show 2 + 3 ≤ _; decide) fun p16 n16 => ?_
          have k16 := Mv.new (S := []) (o := (.lst (([(nestT 201).cx, (nestT 1200).cx] ++ [repL 1200 [102, 40], repL 5000 [57], repL 41 [49]]).map wdV))) n16
          have e16 : upd H15 p16 (.lst (([(nestT 201).cx, (nestT 1200).cx] ++ [repL 1200 [102, 40], repL 5000 [57], repL 41 [49]]).map wdV)) p16 = some (.lst (([(nestT 201).cx, (nestT 1200).cx] ++ [repL 1200 [102, 40], repL 5000 [57], repL 41 [49]]).map wdV)) := upd_same
          generalize upd H15 p16 (.lst (([(nestT 201).cx, (nestT 1200).cx] ++ [repL 1200 [102, 40], repL 5000 [57], repL 41 [49]]).map wdV)) = H16 at k16 e16 ⊢
          have m16 := m15.trans k16
          refine ⟨.ref p16, rfl, ⟨[57], 5000, rfl, rfl, by decide, by decide, ?_⟩⟩
          refine rd_sCat (K := K) (a := [102, 40]) (b := repL 5000 [57]) (by rw [repL_len]; decide) ?_
          refine rd_sCat (K := K) (a := [102, 40] ++ repL 5000 [57]) (b := [41]) (by rw [List.length_append, repL_len]; decide) ?_
          refine ⟨[49], 41, rfl, rfl, by decide, by decide, ?_⟩
          refine rd_sCat (K := K) (a := [102, 40, 48, 44]) (b := repL 41 [49]) (by rw [repL_len]; decide) ?_
          refine rd_sCat (K := K) (a := [102, 40, 48, 44] ++ repL 41 [49]) (b := [41]) (by rw [List.length_append, repL_len]; decide) ?_
          refine ⟨(by decide : 2 ≤ sizeLine), fun p17 n17 => ?_⟩
          have k17 := Mv.new (S := []) (o := (.lst [wdV ([102, 40] ++ repL 5000 [57] ++ [41]), wdV ([102, 40, 48, 44] ++ repL 41 [49] ++ [41])])) n17
          have e17 : upd H16 p17 (.lst [wdV ([102, 40] ++ repL 5000 [57] ++ [41]), wdV ([102, 40, 48, 44] ++ repL 41 [49] ++ [41])]) p17 = some (.lst [wdV ([102, 40] ++ repL 5000 [57] ++ [41]), wdV ([102, 40, 48, 44] ++ repL 41 [49] ++ [41])]) := upd_same
          generalize upd H16 p17 (.lst [wdV ([102, 40] ++ repL 5000 [57] ++ [41]), wdV ([102, 40, 48, 44] ++ repL 41 [49] ++ [41])]) = H17 at k17 e17 ⊢
          have m17 := m16.trans k17
          refine rd_catW (K := K) (us := [[102, 40] ++ repL 5000 [57] ++ [41], [102, 40, 48, 44] ++ repL 41 [49] ++ [41]]) (k17.same _ _ e16) e17 (by show 5 + 2 ≤ _; decide) fun p18 n18 => ?_
          have hbad : [(nestT 201).cx, (nestT 1200).cx] ++ [repL 1200 [102, 40], repL 5000 [57], repL 41 [49]] ++ [[102, 40] ++ repL 5000 [57] ++ [41], [102, 40, 48, 44] ++ repL 41 [49] ++ [41]] = badL := rfl
          rw [hbad]
          have k18 := Mv.new (S := []) (o := (.lst (badL.map wdV))) n18
          have e18 : upd H17 p18 (.lst (badL.map wdV)) p18 = some (.lst (badL.map wdV)) := upd_same
          generalize upd H17 p18 (.lst (badL.map wdV)) = H18 at k18 e18 ⊢
          have m18 := m17.trans k18
          refine ⟨.ref p18, rfl, p18, rfl, ?_⟩
          refine lc_fm (K := K) (as := badL) (enc := fun l => PyData.str (SX.S l)) (fun _ => none) (.inl (.inl (.inl e18))) (ims_str badL) (by decide) (fun y l H19 Q' R' hl him m19 k1' k2' => ?_) (fun D ys H19 nD eD iD m19 => ?_)
          · cases him.strI
            have hR := badL_refd l hl
            obtain ⟨f1, f2⟩ := refd_few hR
            obtain ⟨t1, t2⟩ := toldD_bad hR
            have hln := hR.len
            refine ⟨rfl, wdV l, rfl, 0, 0, wdV l, some l, rfl, .inl rfl, .str l, f1, fun p20 xs20 H20 n20 m20 e20 i20 => ?_⟩
            refine ⟨Nat.zero_le _, fun p21 n21 => ⟨p20, p21, xs20, rfl, rfl, .inl (.inl ((Mv.new (S := []) n21).same _ _ e20)), .inl (.inl upd_same), _, rfl, ?_⟩⟩
            rw [told_emp i20, t1]
            have k21 := Mv.new (S := []) (o := (.lst ([] : List V))) n21
            have e21 : upd H20 p21 (.lst ([] : List V)) p21 = some (.lst ([] : List V)) := upd_same
            generalize upd H20 p21 (.lst ([] : List V)) = H21 at k21 e21 ⊢
            have m21 := m20.trans k21
            refine ⟨wdV l, rfl, (by decide : 1 ≤ sizeLine), fun p22 n22 => ?_⟩
            have k22 := Mv.new (S := []) (o := (.lst [wdV l])) n22
            have e22 : upd H21 p22 (.lst [wdV l]) p22 = some (.lst [wdV l]) := upd_same
            generalize upd H21 p22 (.lst [wdV l]) = H22 at k22 e22 ⊢
            have m22 := m21.trans k22
            refine ⟨p22, [l], rfl, e22, (by decide : 1 ≤ 10), (by intro z hz; rw [List.mem_singleton.mp hz]; omega), ?_⟩
            refine ⟨0, 1, wdV (movOf [l]), some (movOf [l]), rfl, .inr rfl, .str _, f2, fun p23 xs23 H23 n23 m23 e23 i23 => ?_⟩
            refine ⟨Nat.zero_le _, fun p24 n24 => ⟨p23, p24, xs23, rfl, rfl, .inl (.inl ((Mv.new (S := []) n24).same _ _ e23)), .inl (.inl upd_same), _, rfl, ?_⟩⟩
            rw [told_emp i23, t2]
            exact k2' rfl _ (m22.trans (m23.trans (.new n24)))
          · have hys : ys = [] := by
              have : (badL.filterMap fun _ : List Nat => (none : Option PyData)) = [] := by simp
              rw [this] at iD
              exact iD.nilD
            subst hys
            refine ⟨Nat.zero_le _, fun p25 n25 => ⟨D, p25, [], rfl, rfl, .inl (.inl ((Mv.new (S := []) n25).same _ _ eD)), .inl (.inl upd_same), ?_⟩⟩
            exact q _ (m18.trans (m19.trans (.new n25)))
end
end Fm
namespace Fm
open PySem PySem.Spec PyProof.Rows L2 SlX
local macro_rules | `(tactic| walk_at "nn") => `(tactic| dsimp only [tC, tNil, tCons, tCB, tCall, gName, tSeq, tAsg, tPar, tDrop, tRet])
local macro_rules | `(tactic| walk_at "nc") => `(tactic| dsimp only [tC, tNil, tCons, tCB, tCall])
def wds : List (List Nat) := [[48], [48], [48], [48], [109, 97, 121], [49], [40, 48, 41]]
def wdsW (at_ : Nat) (w : List Nat) : List (List Nat) := wds.take at_ ++ [w] ++ wds.drop (at_ + 1)
theorem lis_v0 : [40, 48, 41] = lisC [.var 0] := by
  simp [lisC, TL.joinL, Tm.cx, numL_0]
theorem wds_told {at_ n : Nat} {w : List Nat} (ha : at_ = 0 ∨ at_ = 1 ∨ at_ = 2 ∨ at_ = 3 ∨ at_ = 5) (hw : w.length = n ∧ AscL w ∧ (32 : Nat) ∉ w ∧ intI w = none) (hn : n ≤ 5900) : FewN (some (TL.joinL [32] (wdsW at_ w))) ∧ toldD 1 (some (TL.joinL [32] (wdsW at_ w))) = [] := by
  obtain ⟨h1, h2, h3, h4⟩ := hw
  have hs : splB (TL.joinL [32] (wdsW at_ w)) = wdsW at_ w := by
    unfold splB
    refine TL.spl_join (by rcases ha with rfl | rfl | rfl | rfl | rfl <;> simp [wdsW]) fun p hp => ?_
    have hp : p = w ∨ p ∈ wds := by
      simp only [wdsW, List.mem_append, List.mem_singleton] at hp
      rcases hp with (hp | hp) | hp
      · exact .inr (List.mem_of_mem_take hp)
      · exact .inl hp
      · exact .inr (List.mem_of_mem_drop hp)
    rcases hp with rfl | hp
    · exact h3
    · have : ∀ p ∈ wds, (32 : Nat) ∉ p := by decide
      exact this p hp
  refine ⟨fun l e => ?_, ?_⟩
  · cases e
    rw [hs]
    refine ⟨?_, ?_, ?_⟩
    · rcases ha with rfl | rfl | rfl | rfl | rfl <;> (simp [wdsW, wds, TL.joinL]; omega)
    · have hw : AscL w := h2
      have h32 : AscL [32] := asc_one (by decide)
      have h48 : AscL [48] := asc_one (by decide)
      intro c hc
      have hj : c = 32 ∨ c ∈ w ∨ ∃ p ∈ wds, c ∈ p := by
        rcases ha with rfl | rfl | rfl | rfl | rfl <;> (simp [wdsW, wds, TL.joinL] at hc ⊢; grind)
      rcases hj with rfl | hc | ⟨p, hp, hc⟩
      · decide
      · exact h2 c hc
      · have : ∀ p ∈ wds, ∀ c ∈ p, c < 128 := by decide
        exact this p hp c hc
    · have e6 : (wdsW at_ w).getD 6 [] = [40, 48, 41] := by rcases ha with rfl | rfl | rfl | rfl | rfl <;> rfl
      rw [e6, lis_v0]
      exact few_lis (t := .var 0) (us := []) ⟨⟨by decide, by decide +kernel⟩, trivial⟩ (by simp [Tm.deps, Tm.dep])
  · show (((some (TL.joinL [32] (wdsW at_ w))).bind progM).toList.map dM) = []
    have : progM (TL.joinL [32] (wdsW at_ w)) = none := by
      show movL progL _ = none
      unfold movL
      rw [hs]
      rcases ha with rfl | rfl | rfl | rfl | rfl
      all_goals refine (if_pos rfl).trans ?_
      · show bodyM (allI [w, [48], [48], [48]]) _ _ _ = none
        simp only [allI, h4, bodyM]
      · show bodyM (allI [[48], w, [48], [48]]) _ _ _ = none
        simp only [allI, h4, intI_0, bodyM]
      · show bodyM (allI [[48], [48], w, [48]]) _ _ _ = none
        simp only [allI, h4, intI_0, bodyM]
      · show bodyM (allI [[48], [48], [48], w]) _ _ _ = none
        simp only [allI, h4, intI_0, bodyM]
      · show bodyM (allI [[48], [48], [48], [48]]) (intI w) _ _ = none
        rw [h4, allI_0]
        rfl
    rw [Option.bind_some, this]
    rfl
section
variable {P : Program} {w : World} {K : PySem.W.Frag} {mg : Str → Option Value} {base : Heap}
theorem ok__law_numbers_refused (T : TX K mg) (Y : TY P K mg) {k : Nat} : FnOk P w K mg base CX0 (k + 210) T.d__law_numbers_refused.f T.d__law_numbers_refused.fd P__law_numbers_refused sp_true := by
  have G__law_told : FnOk P w K mg base CX0 127 T.d__law_told.f T.d__law_told.fd P__law_told (sp_ltold K) := ok__law_told (k := 0) T Y
  refine T.d__law_numbers_refused.F.ok sc__law_numbers_refused (fun vs H Q E h => ?_) (fun cdv A outer s H vs Q E hr h => ?_)
  · obtain ⟨rfl, _⟩ := h
    rfl
  · obtain ⟨rfl, q⟩ := h
    have hu64 := hr.units
    have hu65 := hu65_of hr
    refine ⟨_, (pss_cons (ps_set (i := 0) sc__law_numbers_refused.nd rfl (Or.inl rfl) (pe_lst (pa_cons pe_str (pa_cons pe_str (pa_cons pe_str (pa_cons pe_str (pa_cons pe_str (pa_cons pe_str (pa_cons pe_str pa_nil))))))))) (pss_cons (ps_for PassesOwn.never rfl (pi_seq (pe_tup (pa_cons pe_int (pa_cons pe_int (pa_cons pe_int (pa_cons pe_int (pa_cons pe_int pa_nil))))))) (pg_name (i := 1) sc__law_numbers_refused.nd rfl (Or.inl rfl)) (pss_one (ps_for PassesOwn.never rfl (pi_seq (pe_tup (pa_cons (pe_op (r := rMulN) op_mulN pe_str pe_int) (pa_cons (pe_op (r := rMulN) op_mulN pe_str pe_int) pa_nil)))) (pg_name (i := 2) sc__law_numbers_refused.nd rfl (Or.inl rfl)) (pss_one (ps_if (pt_cmpR (r := rNeNil K) (op_neNil (Nat.lt_of_le_of_lt (Nat.le_add_right _ 65) hu65)) (pe_call G__law_told (hr.mono (by omega)) rfl T.d__law_told.g T.d__law_told.F.kp T.d__law_told.b .nil pass0 (pa_cons pe_int (pa_cons (pe_bm PySem.F.plainAttrs_str PySem.F.slot_str_join PySem.F.type_str_join mt_join pe_str (pa_cons (pe_op (r := rAddG K) op_addG (pe_op (r := rAddG K) op_addG (pe_slice (r := rSlG K) sl_G (pv 0) po_none (po_some (pv 1))) (pe_lst (pa_cons (pv 2) pa_nil))) (pe_slice (r := rSlG K) sl_G (pv 0) (po_some (pe_op (r := rAddG K) op_addG (pv 1) pe_int)) po_none)) pa_nil)) pa_nil))) (pe_lst pa_nil) (nomark _)) (pss_one (ps_ret pe_bl)) pss_nil))))) (pss_one (ps_ret pe_bl)))), ?_⟩
    rw [z_wd, n9_wd, n1_wd, show V.str (Str.ofString "may") = wdV [109, 97, 121] from congrArg V.str (by decide +kernel), show V.str (Str.ofString "(0)") = wdV [40, 48, 41] from congrArg V.str (by decide +kernel), show V.str (Str.ofString " ") = wdV [32] from congrArg V.str (by decide +kernel)]
    refine ⟨(by decide : 7 ≤ sizeLine), fun p1 n1 => ?_⟩
    rw [show ([wdV [48], wdV [48], wdV [48], wdV [48], wdV [109, 97, 121], wdV [49], wdV [40, 48, 41]] : List V) = wds.map wdV from rfl]
    have k1 := Mv.new (S := []) (o := (.lst (wds.map wdV))) n1
    have e1 : upd H p1 (.lst (wds.map wdV)) p1 = some (.lst (wds.map wdV)) := upd_same
    generalize upd H p1 (.lst (wds.map wdV)) = H1 at k1 e1 ⊢
    have m1 := k1
    refine ⟨(by decide : 5 ≤ sizeLine), fun p2 n2 => ⟨p2, rfl, ?_⟩⟩
    have k2 := Mv.new (S := []) (o := (.tup [.int 0, .int 1, .int 2, .int 3, .int 5])) n2
    have e2 : SqT K (upd H1 p2 (.tup [.int 0, .int 1, .int 2, .int 3, .int 5])) p2 [.int 0, .int 1, .int 2, .int 3, .int 5] := .inl (.inl upd_same)
    generalize upd H1 p2 (.tup [.int 0, .int 1, .int 2, .int 3, .int 5]) = H2 at k2 e2 ⊢
    have m2 := m1.trans k2
    refine for_seq (.inr e2) (fun i σ H3 => ∃ y1 y2, σ = [some (.ref p1), y1, y2] ∧ Mv [] H2 H3) ⟨_, _, rfl, .refl⟩ (fun i σ H3 h3 => let ⟨_, _, _, m⟩ := h3; m) (fun i x σ H3 hx h3 => ?_) (fun σ H3 h3 => ?_)
    · obtain ⟨y1, y2, rfl, m3⟩ := h3
      obtain ⟨n, rfl, hn⟩ : ∃ n : Nat, x = .int (n : Int) ∧ (n = 0 ∨ n = 1 ∨ n = 2 ∨ n = 3 ∨ n = 5) := by
        match i, hx with
        | 0, hx => cases hx; exact ⟨0, rfl, by decide⟩
        | 1, hx => cases hx; exact ⟨1, rfl, by decide⟩
        | 2, hx => cases hx; exact ⟨2, rfl, by decide⟩
        | 3, hx => cases hx; exact ⟨3, rfl, by decide⟩
        | 4, hx => cases hx; exact ⟨5, rfl, by decide⟩
      refine ⟨[57], 5000, rfl, rfl, by decide, by decide, ?_⟩
      refine ⟨[49], 41, rfl, rfl, by decide, by decide, ?_⟩
      refine ⟨(by decide : 2 ≤ sizeLine), fun p4 n4 => ⟨p4, rfl, ?_⟩⟩
      have m03 := m2.trans m3
      have k4 := Mv.new (S := []) (o := (.tup [wdV (repL 5000 [57]), wdV (repL 41 [49])])) n4
      have e4 : SqT K (upd H3 p4 (.tup [wdV (repL 5000 [57]), wdV (repL 41 [49])])) p4 [wdV (repL 5000 [57]), wdV (repL 41 [49])] := .inl (.inl upd_same)
      generalize upd H3 p4 (.tup [wdV (repL 5000 [57]), wdV (repL 41 [49])]) = H4 at k4 e4 ⊢
      have m4 := m03.trans k4
      refine for_seq (.inr e4) (fun i σ H5 => ∃ y2, σ = [some (.ref p1), some (.int (n : Int)), y2] ∧ Mv [] H4 H5) ⟨_, rfl, .refl⟩ (fun i σ H5 h5 => let ⟨_, _, m⟩ := h5; m) (fun i x σ H5 hx h5 => ?_) (fun σ H5 h5 => ?_)
      · obtain ⟨y2, rfl, m5⟩ := h5
        obtain ⟨z, n', rfl, hz, hz2⟩ : ∃ (z : List Nat) (n' : Nat), x = wdV z ∧ (z.length = n' ∧ AscL z ∧ (32 : Nat) ∉ z ∧ intI z = none) ∧ n' ≤ 5000 := by
          match i, hx with
          | 0, hx =>
            cases hx
            obtain ⟨_, _, a, b, c, d⟩ := digW (c := 57) (n := 5000) (by decide) (by decide) (by decide)
            exact ⟨_, 5000, rfl, ⟨a, b, c, d⟩, by decide⟩
          | 1, hx =>
            cases hx
            obtain ⟨_, _, a, b, c, d⟩ := digW (c := 49) (n := 41) (by decide) (by decide) (by decide)
            exact ⟨_, 41, rfl, ⟨a, b, c, d⟩, by decide⟩
        obtain ⟨hf, ht⟩ := wds_told hn hz (by omega)
        have e5 := (k2.trans (m3.trans (k4.trans m5))).same _ _ e1
        have hnl : n ≤ 5 := by omega
        refine ⟨rfl, .ref p1, rfl, .int (n : Int), rfl, _, rfl, ?_⟩
        refine Or.inl ⟨p1, _, rfl, .inl (.inl e5), fun p6 n6 => ?_⟩
        rw [cut_hi, ← List.map_take]
        have m05 := m03.trans (k4.trans m5)
        have k6 := Mv.new (S := []) (o := (.lst ((wds.take n).map wdV))) n6
        have e6 : upd H5 p6 (.lst ((wds.take n).map wdV)) p6 = some (.lst ((wds.take n).map wdV)) := upd_same
        generalize upd H5 p6 (.lst ((wds.take n).map wdV)) = H6 at k6 e6 ⊢
        have m6 := m05.trans k6
        refine ⟨wdV z, rfl, (by decide : 1 ≤ sizeLine), fun p7 n7 => ?_⟩
        rw [show ([wdV z] : List V) = [z].map wdV from rfl]
        have k7 := Mv.new (S := []) (o := (.lst ([z].map wdV))) n7
        have e7 : upd H6 p7 (.lst ([z].map wdV)) p7 = some (.lst ([z].map wdV)) := upd_same
        generalize upd H6 p7 (.lst ([z].map wdV)) = H7 at k7 e7 ⊢
        have m7 := m6.trans k7
        refine rd_catW (K := K) (ws := wds.take n) (us := [z]) (k7.same _ _ e6) e7 (by rw [List.length_take]; show min n 7 + 1 ≤ _; omega) fun p8 n8 => ?_
        have k8 := Mv.new (S := []) (o := (.lst ((wds.take n ++ [z]).map wdV))) n8
        have e8 : upd H7 p8 (.lst ((wds.take n ++ [z]).map wdV)) p8 = some (.lst ((wds.take n ++ [z]).map wdV)) := upd_same
        generalize upd H7 p8 (.lst ((wds.take n ++ [z]).map wdV)) = H8 at k8 e8 ⊢
        have m8 := m7.trans k8
        refine ⟨.ref p1, rfl, .int (n : Int), rfl, Or.inl ⟨_, 1, rfl, rfl, _, rfl, ?_⟩⟩
        rw [show (n : Int) + 1 = ((n + 1 : Nat) : Int) by omega]
        refine Or.inl ⟨p1, _, rfl, .inl (.inl ((k6.trans (k7.trans k8)).same _ _ e5)), fun p9 n9 => ?_⟩
        rw [cut_lo, ← List.map_drop]
        have k9 := Mv.new (S := []) (o := (.lst ((wds.drop (n + 1)).map wdV))) n9
        have e9 : upd H8 p9 (.lst ((wds.drop (n + 1)).map wdV)) p9 = some (.lst ((wds.drop (n + 1)).map wdV)) := upd_same
        generalize upd H8 p9 (.lst ((wds.drop (n + 1)).map wdV)) = H9 at k9 e9 ⊢
        have m9 := m8.trans k9
        refine rd_catW (K := K) (ws := wds.take n ++ [z]) (us := wds.drop (n + 1)) (k9.same _ _ e8) e9 (by rw [List.length_append, List.length_take, List.length_drop]; show min n 7 + 1 + (7 - (n + 1)) ≤ _; omega) fun p10 n10 => ?_
        rw [show wds.take n ++ [z] ++ wds.drop (n + 1) = wdsW n z from rfl]
        have k10 := Mv.new (S := []) (o := (.lst ((wdsW n z).map wdV))) n10
        have e10 : upd H9 p10 (.lst ((wdsW n z).map wdV)) p10 = some (.lst ((wdsW n z).map wdV)) := upd_same
        generalize upd H9 p10 (.lst ((wdsW n z).map wdV)) = H10 at k10 e10 ⊢
        have m10 := m9.trans k10
        have hl10 : (wdsW n z).length ≤ 10 := by
          simp only [wdsW, List.length_append, List.length_take, List.length_drop, List.length_cons, List.length_nil]
          show min n 7 + (0 + 1) + (7 - (n + 1)) ≤ _
          omega
        have hB : ∀ y ∈ wdsW n z, y.length ≤ 6000 := by
          intro y hy
          simp only [wdsW, List.mem_append, List.mem_singleton] at hy
          have hw : ∀ y ∈ wds, y.length ≤ 6000 := by decide
          rcases hy with (hy | rfl) | hy
          · exact hw y (List.mem_of_mem_take hy)
          · omega
          · exact hw y (List.mem_of_mem_drop hy)
        have h1 := sum_le hB
        have h3 : (wdsW n z).length * 6000 ≤ 10 * 6000 := Nat.mul_le_mul_right _ hl10
        refine ⟨SX.S [32], p10, (wdsW n z).map SX.S, rfl, rfl, .inl (.inl (.inl (by rw [List.map_map]; exact e10))), ?_, ?_⟩
        · rw [SX.lens, List.length_map]
          have h2 : ((wdsW n z).map fun x => x.length).sum = ((wdsW n z).map List.length).sum := rfl
          have h4 : (SX.S [32]).length = 1 := rfl
          rw [h2, h4]
          omega
        rw [SX.join_S]
        refine ⟨0, 1, _, some (TL.joinL [32] (wdsW n z)), rfl, .inr rfl, .str _, hf, fun p11 xs11 H11 n11 m11 e11 i11 => ?_⟩
        refine ⟨Nat.zero_le _, fun p12 n12 => ⟨p11, p12, xs11, rfl, rfl, .inl (.inl ((Mv.new (S := []) n12).same _ _ e11)), .inl (.inl upd_same), _, rfl, ?_⟩⟩
        rw [told_emp i11, ht]
        exact ⟨_, rfl, m5.trans (k6.trans (k7.trans (k8.trans (k9.trans (k10.trans (m11.trans (.new n12)))))))⟩
      · obtain ⟨y2, rfl, m5⟩ := h5
        exact ⟨_, _, rfl, m3.trans (k4.trans m5)⟩
    · obtain ⟨y1, y2, rfl, m3⟩ := h3
      exact q _ (m2.trans m3)
end
end Fm
namespace Fm
open PySem PySem.Spec PyProof.Rows L2 SlX
structure Txt97 (l : List Nat) : Prop where
  len : l.length ≤ 300
  asc : AscL l
  cnt : l.count 40 ≤ 40
theorem lisC_few {l : List Nat} {ts : List Tm} (h : l.length ≤ 300) (hc : l.count 40 ≤ 40) (e : l = lisC ts) (o : Tm.oks Q40 ts) : Tm.deps ts < 61 ∧ Tm.deps ts ≤ l.count 40 ∧ Tm.nod ts ≤ 300 := by
  cases ts with
  | nil => exact ⟨by simp [Tm.deps], by simp [Tm.deps], by simp [Tm.nod, Tm.sizes, Tm.lvs]⟩
  | cons t ts =>
    rw [lisC_cons] at e
    have h2 := dep_cntP (t :: ts)
    have h3 := nod_cxP (t :: ts) ((oks_wr _).mp o).1
    rw [← e] at h2 h3
    unfold Tm.nod
    omega
theorem txt_few {l : List Nat} (h : Txt97 l) : FewN (some l) := fun l' e => by
  cases e
  have := h.len
  refine ⟨by omega, h.asc, fun ts e o s => ?_⟩
  exact (lisC_few (Nat.le_trans (part_len 6).1 this) (Nat.le_trans (part_cnt 6) h.cnt) e o).1
theorem fine_ints97 : ∀ ms : List Int, (∀ u ∈ ms, u.natAbs < 10 ^ 40) → fineAll (ms.map PyData.int) ∧ PyData.depthAll (ms.map PyData.int) = 0 ∧ wls (ms.map PyData.int) = 43 * ms.length
  | [], _ => ⟨trivial, rfl, rfl⟩
  | m :: ms, h => by
    obtain ⟨h1, h2, h3⟩ := fine_ints97 ms fun u hu => h u (List.mem_cons_of_mem _ hu)
    refine ⟨⟨(h m List.mem_cons_self), h1⟩, by simp [PyData.depthAll, PyData.depth, h2], ?_⟩
    simp only [List.map_cons, wls, wl, h3, List.length_cons]
    omega
theorem shw_nil97 : Shw (.list []) := ⟨trivial, by simp [PyData.depth, PyData.depthAll], by simp [wl, wls]⟩
theorem shw_t97 {l : List Nat} (h : Txt97 l) {t : Tm} (e : l = t.cx) (o : t.ok Q40) : Shw (.list [t.d]) := by
  have h1 := dep_cnt t
  have h2 := nod_cx t ((ok_wr t).mp o).1
  have h3 := wl_d t o
  have h4 := cst_nodN t
  have h5 := h.len
  have h6 := h.cnt
  rw [← e] at h1 h2
  have h7 : Tm.nod [t] ≤ 300 := by
    unfold Tm.nod
    simp only [Tm.sizes, Tm.lvs]
    omega
  refine ⟨⟨fine_d (fun i h => h.2) t o, trivial⟩, ?_, ?_⟩
  · simp only [PyData.depth, PyData.depthAll, depth_d]
    omega
  · simp only [wl, wls]
    omega
theorem progM_facts {l : List Nat} {ns : List Int} {kd : List Nat} {m : Int} {ts : List Tm} (h : progM l = some (ns, kd, m, ts)) : ns.length ≤ 4 ∧ (∀ u ∈ ns, u.natAbs < 10 ^ 40) ∧ kindL kd = true ∧ m.natAbs < 10 ^ 40 ∧ progL ((splB l).getD 6 []) = some ts := by
  have h : movL progL l = some (ns, kd, m, ts) := h
  unfold movL at h
  split at h
  · unfold bodyM at h
    split at h
    · rename_i h1 h2 h3
      split at h
      · rename_i hc
        cases h
        simp only [Bool.and_eq_true] at hc
        obtain ⟨a1, a2⟩ := allI_some h1
        refine ⟨by rw [a1, List.length_take]; omega, fun u hu => ?_, hc.1.2, numI_p40 h2, h3⟩
        obtain ⟨i, hi⟩ := List.mem_iff_getElem?.mp hu
        have hil := (List.getElem?_eq_some_iff.mp hi).1
        obtain ⟨w, hw⟩ : ∃ w, ((splB l).take 4)[i]? = some w := ⟨_, List.getElem?_eq_getElem (by rw [← a1]; exact hil)⟩
        obtain ⟨n, hn, hn2⟩ := a2 i w hw
        rw [hi] at hn2
        cases hn2
        exact numI_p40 hn
      · cases h
    · cases h
  · cases h
theorem shw_m97 {l : List Nat} (h : Txt97 l) {q : List Int × List Nat × Int × List Tm} (e : progM l = some q) : Shw (.list [dM q]) := by
  obtain ⟨ns, kd, m, ts⟩ := q
  obtain ⟨h1, h2, h3, h4, h5⟩ := progM_facts e
  obtain ⟨k1, k2, k3⟩ := progL_iff.mp h5
  obtain ⟨_, d1, d2⟩ := lisC_few (Nat.le_trans (part_len 6).1 h.len) (Nat.le_trans (part_cnt 6) h.cnt) k1 k2
  have hc := part_cnt (l := l) 6
  have hcn := h.cnt
  obtain ⟨f1, f2, f3⟩ := fine_ints97 ns h2
  have w1 := wl_ds ts k2
  have w2 := csts_nodN ts
  have w3 : Tm.lvs ts ≤ Tm.nod ts := by unfold Tm.nod; omega
  have hk : PyData.strOk (SX.S kd) = true ∧ (SX.S kd).length ≤ 4 := by
    unfold kindL at h3
    rw [Bool.or_eq_true, decide_eq_true_eq, decide_eq_true_eq] at h3
    rcases h3 with rfl | rfl <;> exact ⟨by decide +kernel, by decide +kernel⟩
  refine ⟨⟨⟨f1, hk.1, h4, fine_ds (fun i h => h.2) ts k2, trivial⟩, trivial⟩, ?_, ?_⟩
  · simp only [dM, tsD, PyData.depth, PyData.depthAll, f2, depth_ds]
    omega
  · simp only [dM, tsD, wl, wls, f3]
    omega
theorem shw_told97 {l : List Nat} (h : Txt97 l) (way : Int) : Shw (.list (toldD way (some l))) := by
  unfold toldD
  by_cases hw : way = 0
  · rw [if_pos hw, Option.bind_some]
    cases e : progT l with
    | none => exact shw_nil97
    | some t =>
      obtain ⟨k1, k2, _⟩ := progT_iff.mp e
      exact shw_t97 h k1 k2
  · rw [if_neg hw, Option.bind_some]
    cases e : progM l with
    | none => exact shw_nil97
    | some q => exact shw_m97 h e
def cB : Nat → Nat
  | 0 => 2
  | n + 1 => 12 + 3 * cB n
def kB : Nat → Nat
  | 0 => 0
  | n + 1 => 1 + 3 * kB n
theorem numL_2 {i : Int} (h : 0 ≤ i ∧ i < 100) : (TL.numL i.toNat).length ≤ 2 := TL.numL_len (by decide) (by omega)
mutual
theorem cx_draw : ∀ (n : Nat) (t : Tm), t.ok (fun i => 0 ≤ i ∧ i < 100) → t.dep ≤ n → t.cx.length ≤ cB n ∧ t.cx.count 40 ≤ kB n
  | n, .var i, h, _ => by
    have h1 := numL_2 h
    have h2 : (Tm.var i).cx.count 40 = 0 := List.count_eq_zero.mpr fun z => by have := TL.numL_digits _ _ z; omega
    have h3 : 2 ≤ cB n := by cases n <;> simp [cB]; omega
    exact ⟨Nat.le_trans h1 h3, by omega⟩
  | 0, .op x ts, _, h => by simp [Tm.dep] at h
  | n + 1, .op x ts, k, h => by
    obtain ⟨h1, h2⟩ := cxP_draw n ts k.2.2 (by simp only [Tm.dep] at h; omega)
    have h3 := k.2.1
    have h4 : x.cps.toList.length ≤ 8 := k.1.2.1
    have h5 : x.cps.toList.count 40 = 0 := List.count_eq_zero.mpr fun z => by have := k.1.2.2 _ z; omega
    rw [Tm.cx, List.length_append, List.count_append, cB, kB]
    have h6 : ts.length * (cB n + 1) ≤ 3 * (cB n + 1) := Nat.mul_le_mul_right _ h3
    have h7 : ts.length * kB n ≤ 3 * kB n := Nat.mul_le_mul_right _ h3
    omega
theorem cxP_draw : ∀ (n : Nat) (ts : List Tm), Tm.oks (fun i => 0 ≤ i ∧ i < 100) ts → Tm.deps ts ≤ n → (Tm.cxP ts).length ≤ ts.length * (cB n + 1) + 1 ∧ (Tm.cxP ts).count 40 ≤ ts.length * kB n + 1
  | n, [], _, _ => by simp [Tm.cxP]
  | n, t :: ts, k, h => by
    simp only [Tm.deps] at h
    obtain ⟨h1, h2⟩ := cx_draw n t k.1 (by omega)
    obtain ⟨h3, h4⟩ := cxs_draw n ts k.2 (by omega)
    simp only [Tm.cxP, List.length_cons, List.length_append, List.count_cons, List.count_append, Nat.succ_mul]
    simp
    omega
theorem cxs_draw : ∀ (n : Nat) (ts : List Tm), Tm.oks (fun i => 0 ≤ i ∧ i < 100) ts → Tm.deps ts ≤ n → (Tm.cxs ts).length ≤ ts.length * (cB n + 1) + 1 ∧ (Tm.cxs ts).count 40 ≤ ts.length * kB n
  | n, [], _, _ => by simp [Tm.cxs]
  | n, t :: ts, k, h => by
    simp only [Tm.deps] at h
    obtain ⟨h1, h2⟩ := cx_draw n t k.1 (by omega)
    obtain ⟨h3, h4⟩ := cxs_draw n ts k.2 (by omega)
    simp only [Tm.cxs, List.length_cons, List.length_append, List.count_cons, List.count_append, Nat.succ_mul]
    simp
    omega
end
theorem ok_97 {many : Int} (hm : many ≤ 12) {t : Tm} (h : t.ok fun i => 0 ≤ i ∧ i < many) : t.ok (fun i => 0 ≤ i ∧ i < 100) ∧ t.ok P40 := ⟨Tm.ok_mono (fun i h => ⟨h.1, by omega⟩) t h, Tm.ok_mono (fun i h => ⟨h.1, Nat.lt_of_le_of_lt (show i.natAbs ≤ 100 by omega) (by decide)⟩) t h⟩
theorem term_97 {many : Int} (hm : many ≤ 12) {t : Tm} (h : t.ok fun i => 0 ≤ i ∧ i < many) (hd : t.dep ≤ 3) : t.cx.length ≤ 210 ∧ t.cx.count 40 ≤ 13 ∧ AscL t.cx := by
  obtain ⟨h1, h2⟩ := ok_97 hm h
  obtain ⟨h3, h4⟩ := cx_draw 3 t h1 hd
  exact ⟨h3, h4, cx_asc t h2⟩
mutual
theorem nod_97 {R : Int → Prop} : ∀ (n : Nat) (t : Tm), t.ok R → t.dep ≤ n → 2 * Tm.nod [t] + 1 ≤ 3 ^ (n + 1)
  | n, .var i, _, _ => by
    have := Nat.one_le_pow n 3 (by decide)
    rw [Tm.nod_var, Nat.pow_succ]
    omega
  | 0, .op x ts, _, h => by simp [Tm.dep] at h
  | n + 1, .op x ts, k, h => by
    have h1 := nods_97 n ts k.2.2 (by simp only [Tm.dep] at h; omega)
    have h3 := k.2.1
    have h4 := Nat.one_le_pow (n + 1) 3 (by decide)
    rw [Tm.nod_op, Nat.pow_succ]
    have h4 : ts.length = 0 ∨ ts.length = 1 ∨ ts.length = 2 ∨ ts.length = 3 := by omega
    rcases h4 with e | e | e | e <;> (rw [e] at h1; omega)
theorem nods_97 {R : Int → Prop} : ∀ (n : Nat) (ts : List Tm), Tm.oks R ts → Tm.deps ts ≤ n → 2 * Tm.nod ts + ts.length ≤ ts.length * 3 ^ (n + 1)
  | _, [], _, _ => by simp [Tm.nod, Tm.sizes, Tm.lvs]
  | n, t :: ts, k, h => by
    simp only [Tm.deps] at h
    have h1 := nod_97 n t k.1 (by omega)
    have h2 := nods_97 n ts k.2 (by omega)
    rw [show t :: ts = [t] ++ ts from rfl, Tm.nod_append]
    simp only [List.length_append, List.length_cons, List.length_nil, Nat.add_mul]
    omega
end
theorem mov_97 {ns : List Int} {kd : Str} {many : Int} {ts : List Tm} (h4 : ns.length = 4) (hn : ∀ i ∈ ns, 0 ≤ i ∧ i < 100) (hk : kd = Str.ofString "may" ∨ kd = Str.ofString "must") (m0 : 0 ≤ many) (m1 : many ≤ 12) (ho : Tm.oks (fun i => 0 ≤ i ∧ i < many) ts) (hd : Tm.deps ts ≤ 2) (hl : ts.length ≤ 3) : MovF ns kd many ts ∧ (movC ns kd many ts).length ≤ 240 ∧ (movC ns kd many ts).count 40 ≤ 13 ∧ AscL (movC ns kd many ts) := by
  have h100 : Tm.oks (fun i => 0 ≤ i ∧ i < 100) ts := Tm.oks_mono (fun i h => ⟨h.1, by omega⟩) ts ho
  have hP : Tm.oks P40 ts := Tm.oks_mono (fun i h => ⟨h.1, Nat.lt_of_le_of_lt (show i.natAbs ≤ 100 by omega) (by decide)⟩) ts ho
  have hnod := nods_97 2 ts ho hd
  have h3 : ts.length * 3 ^ (2 + 1) ≤ 3 * 3 ^ (2 + 1) := Nat.mul_le_mul_right _ hl
  have hn40 : Tm.nod ts ≤ 40 := by omega
  have hT : TxF ts := by
    refine ⟨hP, by omega, by omega, fun t ht => ?_⟩
    obtain ⟨a, b, rfl⟩ := List.append_of_mem ht
    rw [Tm.nod_append, show t :: b = [t] ++ b from rfl, Tm.nod_append] at hn40
    have : t.size ≤ Tm.nod [t] := by
      unfold Tm.nod
      simp only [Tm.sizes, Tm.lvs]
      omega
    omega
  have hp : ∀ i : Int, 0 ≤ i ∧ i < 100 → P40 i := fun i h => ⟨h.1, Nat.lt_of_le_of_lt (show i.natAbs ≤ 100 by omega) (by decide)⟩
  have hM : MovF ns kd many ts := ⟨h4, fun i hi => hp i (hn i hi), hk, hp many ⟨m0, by omega⟩, hT, by omega, ho⟩
  obtain ⟨l1, l2⟩ := cxP_draw 2 ts h100 hd
  have hlis : (lisC ts).length ≤ 210 ∧ (lisC ts).count 40 ≤ 13 ∧ AscL (lisC ts) := by
    have hc2 : cB 2 = 66 := rfl
    have hk2 : kB 2 = 4 := rfl
    rw [hc2] at l1
    rw [hk2] at l2
    cases ts with
    | nil => exact ⟨by decide, by decide, by intro c hc; simp [lisC, TL.joinL] at hc; omega⟩
    | cons t ts =>
      rw [lisC_cons]
      refine ⟨by omega, by omega, cxP_asc _ hP⟩
  have n0 : ∀ i : Int, 0 ≤ i ∧ i < 100 → (TL.numL i.toNat).length ≤ 2 ∧ (TL.numL i.toNat).count 40 = 0 ∧ AscL (TL.numL i.toNat) := fun i h => ⟨numL_2 h, List.count_eq_zero.mpr fun z => by have := TL.numL_digits _ _ z; omega, fun c hc => by have := TL.numL_digits _ _ hc; omega⟩
  have hkd : kd.cps.toList.length ≤ 4 ∧ kd.cps.toList.count 40 = 0 ∧ AscL kd.cps.toList := by
    have hN : Nm kd := by rcases hk with rfl | rfl <;> decide +kernel
    refine ⟨?_, List.count_eq_zero.mpr fun z => by have := hN.2.2 _ z; omega, fun c hc => by have := hN.2.2 _ hc; omega⟩
    rcases hk with rfl | rfl <;> decide +kernel
  obtain ⟨a, b, c, d, rfl⟩ : ∃ a b c d, ns = [a, b, c, d] := by
    match ns, h4 with
    | [a, b, c, d], _ => exact ⟨a, b, c, d, rfl⟩
  have ha := n0 a (hn a (by simp))
  have hb := n0 b (hn b (by simp))
  have hc := n0 c (hn c (by simp))
  have hd' := n0 d (hn d (by simp))
  have hm := n0 many ⟨m0, by omega⟩
  have e : movC [a, b, c, d] kd many ts = TL.numL a.toNat ++ [32] ++ (TL.numL b.toNat ++ [32] ++ (TL.numL c.toNat ++ [32] ++ (TL.numL d.toNat ++ [32] ++ (kd.cps.toList ++ [32] ++ (TL.numL many.toNat ++ [32] ++ lisC ts))))) := by
    unfold movC movP
    simp [TL.joinL]
  have h32 : AscL [32] := asc_one (by decide)
  rw [e]
  refine ⟨hM, ?_, ?_, ?_⟩
  · simp only [List.length_append, List.length_cons, List.length_nil]
    omega
  · have z32 : ([32] : List Nat).count 40 = 0 := by decide
    simp only [List.count_append, z32, ha.2.1, hb.2.1, hc.2.1, hd'.2.1, hm.2.1, hkd.2.1]
    omega
  · exact AscL.app (AscL.app ha.2.2 h32) (AscL.app (AscL.app hb.2.2 h32) (AscL.app (AscL.app hc.2.2 h32) (AscL.app (AscL.app hd'.2.2 h32) (AscL.app (AscL.app hkd.2.2 h32) (AscL.app (AscL.app hm.2.2 h32) hlis.2.2)))))
end Fm
namespace Fm
open PySem PySem.Spec PyProof.Rows L2 SlX
local macro_rules | `(tactic| walk_at "nn") => `(tactic| dsimp only [tC, tNil, tCons, tCB, tCall, gName, tSeq, tAsg, tPar, tDrop, tRet])
local macro_rules | `(tactic| walk_at "nc") => `(tactic| dsimp only [tC, tNil, tCons, tCB, tCall])
def sp_lisS (K : PySem.W.Frag) (d : Nat) : Sp := fun vs H Q _ => ∃ (a : Addr) (xs : List V) (ts : List Tm), vs = [.ref a] ∧ (SqL K H a xs ∨ SqT K H a xs) ∧ Ims K H xs (Tm.ds ts) ∧ Tm.oks P40 ts ∧ Tm.deps ts < d ∧ (lisC ts).length ≤ 100000 ∧ ∀ H', Mv [] H H' → Q (.str (SX.S (lisC ts))) H'
def sp_lmovS (K : PySem.W.Frag) : Sp := fun vs H Q _ => ∃ (a t : Addr) (xs : List V) (ns : List Int) (kd : Str) (many : Int) (ts : List Tm), vs = [.ref a, .str kd, .int many, .ref t] ∧ (SqL K H a (ns.map V.int) ∨ SqT K H a (ns.map V.int)) ∧ (SqL K H t xs ∨ SqT K H t xs) ∧ Ims K H xs (Tm.ds ts) ∧ MovF ns kd many ts ∧ ∀ H', Mv [] H H' → Q (wdV (movC ns kd many ts)) H'
section
variable {P : Program} {w : World} {K : PySem.W.Frag} {mg : Str → Option Value} {base : Heap}
theorem ok__law_listed_textS (T : TX K mg) {d k : Nat} (G__law_term_text : FnOk P w K mg base CX0 k T.d__law_term_text.f T.d__law_term_text.fd P__law_term_text (sp_show K d)) : FnOk P w K mg base CX0 (k + 1) T.d__law_listed_text.f T.d__law_listed_text.fd P__law_listed_text (sp_lisS K d) := by
  refine T.d__law_listed_text.F.ok sc__law_listed_text (fun vs H Q E h => ?_) (fun cdv A outer s H vs Q E hr h => ?_)
  · obtain ⟨_, _, _, rfl, _⟩ := h
    rfl
  · obtain ⟨a, xs, ts, rfl, ha, hx, ho, hd, hl, q⟩ := h
    have hu64 := hr.units
    have hxl : xs.length = ts.length := by rw [hx.length, Tm.ds_map, List.length_map]
    refine ⟨_, (pss_one (ps_ret (pe_op (r := rAddG K) op_addG (pe_op (r := rAddG K) op_addG pe_str (pe_bm PySem.F.plainAttrs_str PySem.F.slot_str_join PySem.F.type_str_join mt_join pe_str (pa_cons (pe_lc (own := [("_law_term_here", 1)]) (g := gName 1) (by rfl) sc__law_listed_text.nd (pi_seq (pv 0)) (blkOk_by (own := [("_law_term_here", 1)]) (N := N__law_listed_text) (sc := defScope s__law_listed_text) (by decide +kernel)) (fun _ _ _ _ _ => pg_name (i := 1) sc__law_listed_text.nd rfl (Or.inl rfl)) (fun _ _ _ _ _ => pts_nil) (fun _ _ _ _ _ => (pe_call G__law_term_text (hr.mono (by omega)) rfl T.d__law_term_text.g T.d__law_term_text.F.kp T.d__law_term_text.b .nil pass0 (pa_cons (pv 1) pa_nil)))) pa_nil))) pe_str))), ?_⟩
    refine ⟨rfl, .ref a, rfl, a, rfl, ?_⟩
    have hjl := joinL_sum (ts.map Tm.cx)
    have hll : (lisC ts).length = (TL.joinL [44] (ts.map Tm.cx)).length + 2 := by simp [lisC]
    have htl : ts.length ≤ 100001 := by
      rw [List.length_map] at hjl
      omega
    refine lc_seq (xs := xs) ha (fun i D H1 => H1 D = some (.lst ((((ts.take i).map Tm.cx).map SX.S).map V.str)) ∧ Mv [] H H1)
      (fun D nD => ⟨upd_same, .new nD⟩) (fun i D H1 nD h1 => h1.2) (fun D nD i x H1 hx1 h1 => ?_) (fun D H1 nD h1 => ?_)
    · obtain ⟨e1, m1⟩ := h1
      obtain ⟨xd, hxd, him⟩ := hx.get hx1
      rw [Tm.ds_map, List.getElem?_map] at hxd
      obtain ⟨u, hu, rfl⟩ := Option.map_eq_some_iff.mp hxd
      have hmem := List.mem_of_getElem? hu
      have hi := (List.getElem?_eq_some_iff.mp hu).1
      refine ⟨rfl, x, rfl, x, u, rfl, him.mv m1, Tm.oks_iff.mp ho u hmem, Nat.lt_of_le_of_lt (Tm.deps_le.mp (Nat.le_refl _) u hmem) hd, Nat.le_trans (cx_part hmem) hl, fun H2 m2 => ?_⟩
      have e2 := m2.same _ _ e1
      refine ⟨_, e2, ?_, ?_, (m1.trans m2).wr nD⟩
      · rw [List.length_map, List.length_map, List.length_map, List.length_take]
        exact Nat.lt_of_le_of_lt (show _ ≤ 100001 by omega) (by decide)
      · rw [upd_same, List.take_add_one, hu]
        simp
    · obtain ⟨e1, m1⟩ := h1
      rw [hxl, List.take_length] at e1
      refine ⟨_, D, _, rfl, rfl, .inl (.inl (.inl e1)), ?_, ?_⟩
      · have l1 : (("," : String) : Str).length = 1 := by decide +kernel
        rw [show (fun y : Str => y.length) = fun y : Str => y.length from rfl, SX.lens, List.length_map, List.length_map, l1]
        have h2 : ((ts.map Tm.cx).map fun x => x.length).sum = ((ts.map Tm.cx).map List.length).sum := rfl
        rw [List.length_map] at hjl
        rw [h2]
        omega
      · have ej : Txt.join "," ((ts.map Tm.cx).map SX.S) = SX.S (TL.joinL [44] (ts.map Tm.cx)) := by
          rw [show (("," : String) : Str) = SX.S [44] by decide +kernel]
          exact SX.join_S [44] _
        rw [ej]
        refine Or.inr (Or.inl ⟨_, _, rfl, rfl, ?_, ?_⟩)
        · rw [show (("(" : String) : Str) = SX.S [40] by decide +kernel, SX.S_len, SX.S_len]
          exact Nat.le_trans (show _ ≤ 100002 by simp; omega) (by decide)
        rw [show (("(" : String) : Str) = SX.S [40] by decide +kernel, SX.S_cat]
        refine Or.inr (Or.inl ⟨_, _, rfl, rfl, ?_, ?_⟩)
        · rw [show ((")" : String) : Str) = SX.S [41] by decide +kernel, SX.S_len, SX.S_len]
          exact Nat.le_trans (show _ ≤ 100003 by simp; omega) (by decide)
        rw [show ((")" : String) : Str) = SX.S [41] by decide +kernel, SX.S_cat]
        exact q H1 m1
theorem ok__law_move_textS (T : TX K mg) {k : Nat} : FnOk P w K mg base CX0 (k + 51) T.d__law_move_text.f T.d__law_move_text.fd P__law_move_text (sp_lmovS K) := by
  have G__law_listed_text : FnOk P w K mg base CX0 50 T.d__law_listed_text.f T.d__law_listed_text.fd P__law_listed_text (sp_lisS K 24) := ok__law_listed_textS T (ok__law_term_text T 24)
  refine T.d__law_move_text.F.ok sc__law_move_text (fun vs H Q E h => ?_) (fun cdv A outer s H vs Q E hr h => ?_)
  · obtain ⟨_, _, _, _, _, _, _, rfl, _⟩ := h
    rfl
  · obtain ⟨a, t, xs, ns, kd, many, ts, rfl, ha, ht, hxs, hF, q⟩ := h
    obtain ⟨hsum, hlen⟩ := movP_len hF
    have hnl := hF.len
    have hd := hF.tx.dep
    have hlc := txF_lis hF.tx
    refine ⟨_, (pss_one (ps_ret (pe_bm PySem.F.plainAttrs_str PySem.F.slot_str_join PySem.F.type_str_join mt_join pe_str (pa_cons (pe_op (r := rAddG K) op_addG (pe_lc (own := [("_law_one", 4)]) (g := gName 4) (by rfl) sc__law_move_text.nd (pi_seq (pv 0)) (blkOk_by (own := [("_law_one", 4)]) (N := N__law_move_text) (sc := defScope s__law_move_text) (by decide +kernel)) (fun _ _ _ _ _ => pg_name (i := 4) sc__law_move_text.nd rfl (Or.inl rfl)) (fun _ _ _ _ _ => pts_nil) (fun _ _ _ _ _ => (pe_callTy call_str_int (by rfl) T.b_str bt_str (pa_cons (pv 4) pa_nil)))) (pe_lst (pa_cons (pv 1) (pa_cons (pe_callTy call_str_int (by rfl) T.b_str bt_str (pa_cons (pv 2) pa_nil)) (pa_cons (pe_call G__law_listed_text (hr.mono (by omega)) rfl T.d__law_listed_text.g T.d__law_listed_text.F.kp T.d__law_listed_text.b .nil pass0 (pa_cons (pv 3) pa_nil)) pa_nil))))) pa_nil)))), ?_⟩
    refine ⟨rfl, .ref a, rfl, a, rfl, ?_⟩
    refine lc_seq (xs := ns.map V.int) ha (fun i D H2 => H2 D = some (.lst (((ns.take i).map fun i => TL.numL i.toNat).map wdV)) ∧ Mv [] H H2)
      (fun D nD => ⟨upd_same, .new nD⟩) (fun i D H2 nD h2 => h2.2) (fun D nD i x H2 hx h2 => ?_) (fun D H2 nD h2 => ?_)
    · obtain ⟨e2, m2⟩ := h2
      rw [List.getElem?_map] at hx
      obtain ⟨u, hu, rfl⟩ := Option.map_eq_some_iff.mp hx
      have hi := (List.getElem?_eq_some_iff.mp hu).1
      have h0 := hF.num u (List.mem_of_getElem? hu)
      refine ⟨rfl, .int u, rfl, u, rfl, num_log h0.2, _, e2, ?_, ?_, m2.wr nD⟩
      · rw [List.length_map, List.length_map, List.length_take]
        exact line5lt (by omega)
      · rw [upd_same, List.take_add_one, hu, num_str h0.1]
        simp
    · obtain ⟨e2, m2⟩ := h2
      rw [List.length_map, List.take_length] at e2
      refine ⟨.str kd, rfl, .int many, rfl, many, rfl, num_log hF.mny.2, .ref t, rfl, t, xs, ts, rfl, ht.imp (fun z => m2.same.seq z) (fun z => m2.sqT z), hxs.mv m2, hF.tx.ok, by omega, by omega, fun H3 m3 => ⟨(by decide : 3 ≤ sizeLine), fun p4 np4 => ?_⟩⟩
      rw [num_str hF.mny.1]
      have m4 : Mv [] H3 (upd H3 p4 (.lst [.str kd, wdV (TL.numL many.toNat), wdV (lisC ts)])) := .new np4
      have e4 : upd H3 p4 (.lst [.str kd, wdV (TL.numL many.toNat), wdV (lisC ts)]) p4 = some (.lst [.str kd, wdV (TL.numL many.toNat), wdV (lisC ts)]) := upd_same
      generalize upd H3 p4 (.lst [.str kd, wdV (TL.numL many.toNat), wdV (lisC ts)]) = H4 at m4 e4 ⊢
      refine rd_catL ((m3.trans m4).same _ _ e2) e4 (by rw [List.length_map, List.length_map, hnl]; exact (by decide : 4 + 3 ≤ sizeLine)) fun p5 H5 n5 m5 e5 => ?_
      have hys : (((ns.map fun i => TL.numL i.toNat).map wdV) ++ [.str kd, wdV (TL.numL many.toNat), wdV (lisC ts)] : List V) = ((movP ns kd many ts).map SX.S).map V.str := by
        rw [movP, List.map_append, List.map_append, List.map_map]
        congr 1
        rw [List.map_map, List.map_map]
        rfl
      rw [hys] at e5
      refine ⟨_, p5, _, rfl, rfl, .inl (.inl (.inl e5)), ?_, ?_⟩
      · rw [SX.lens, List.length_map, show (Str.ofString " ").length = 1 by decide +kernel, hlen]
        have h2 : ((movP ns kd many ts).map fun x => x.length).sum = ((movP ns kd many ts).map List.length).sum := rfl
        rw [h2]
        omega
      · rw [join_mov]
        exact q H5 (m2.trans (m3.trans (m4.trans m5)))
end
end Fm
namespace Fm
open PySem PySem.Spec PyProof.Rows L2 SlX
local macro_rules | `(tactic| walk_at "nn") => `(tactic| dsimp only [tC, tNil, tCons, tCB, tCall, gName, tSeq, tAsg, tPar, tDrop, tRet])
local macro_rules | `(tactic| walk_at "nc") => `(tactic| dsimp only [tC, tNil, tCons, tCB, tCall])
def sp_law (K : PySem.W.Frag) : Sp := fun vs H Q _ => ∃ (a : Addr) (ns : List Int), vs = [.ref a] ∧ SqL K H a (ns.map V.int) ∧ ns.length ≤ 63 ∧ ∀ H', Q (.bl true) H'
def Odd97 (K : PySem.W.Frag) (b : Addr) (H : Hp) (v : V) : Prop := ∃ o, TxV K b H v o ∧ ∀ l, o = some l → Txt97 l
theorem Odd97.dr {K : PySem.W.Frag} {b : Addr} {H H' : Hp} {v : V} (h : Odd97 K b H v) (d : Dr b H H') : Odd97 K b H' v := let ⟨o, h1, h2⟩ := h; ⟨o, h1.dr d, h2⟩
theorem odd_wd {K : PySem.W.Frag} {b : Addr} {H : Hp} {l : List Nat} (h : Txt97 l) : Odd97 K b H (wdV l) := ⟨some l, .str l, fun _ e => by cases e; exact h⟩
theorem odd_str {K : PySem.W.Frag} {b : Addr} {H : Hp} {x : Str} (h : x.cps.toList.length ≤ 300 ∧ (∀ c ∈ x.cps.toList, c < 128) ∧ x.cps.toList.count 40 ≤ 40) : Odd97 K b H (.str x) := by
  rw [name_wd]
  exact odd_wd ⟨h.1, h.2.1, h.2.2⟩
theorem odd_is {K : PySem.W.Frag} {b : Addr} {H : Hp} {v : V} {t : Th} (h : Is K b H v t) (k : isStrT t = false) : Odd97 K b H v := ⟨none, .odd h k, fun _ e => by cases e⟩
structure Odds97 (K : PySem.W.Frag) (b po : Addr) (H : Hp) : Prop where
  lst : ∃ xs, H po = some (.lst xs) ∧ xs.length = 37 ∧ ∀ v ∈ xs, Odd97 K b H v
  ne : po ≠ b
theorem Odds97.dr {K : PySem.W.Frag} {b po : Addr} {H H' : Hp} (h : Odds97 K b po H) (d : Dr b H H') : Odds97 K b po H' := by
  obtain ⟨⟨xs, h1, h2, h3⟩, h4⟩ := h
  exact ⟨⟨xs, d.get h4 h1, h2, fun v hv => (h3 v hv).dr d⟩, h4⟩
theorem few_none : FewN none := fun _ e => by cases e
theorem toldD_none (way : Int) : toldD way none = [] := by
  unfold toldD
  split <;> rfl
theorem ll_sh : SeqAt.shaped (.list [.list [], .list []]) = true := by rfl
section
variable {P : Program} {w : World} {K : PySem.W.Frag} {mg : Str → Option Value} {base : Heap}
theorem ok_law (T : TX K mg) (Y : TY P K mg) : FnOkG P w K mg base CX0 220 T.d_law.f T.d_law.fd P_law (sp_law K) := by
  have G__law_bag : FnOk P w K mg base CX0 1 T.d__law_bag.f T.d__law_bag.fd P__law_bag (sp_bag K) := ok__law_bag T
  have G__law_names : FnOk P w K mg base CX0 2 T.d__law_names.f T.d__law_names.fd P__law_names sp_names := ok__law_names T
  have G__law_take : FnOk P w K mg base CX0 1 T.d__law_take.f T.d__law_take.fd P__law_take sp_take := ok__law_take T
  have G__law_term : FnOk P w K mg base CX0 7 T.d__law_term.f T.d__law_term.fd P__law_term (sp_term K 5) := ok__law_term T 5
  have G__law_alike : FnOkG P w K mg base CX0 1 T.d__law_alike.f T.d__law_alike.fd P__law_alike (sp_alike K) := ok__law_alike T
  have G__law_term_text : FnOk P w K mg base CX0 49 T.d__law_term_text.f T.d__law_term_text.fd P__law_term_text (sp_show K 24) := ok__law_term_text T 24
  have G__law_move_text : FnOk P w K mg base CX0 51 T.d__law_move_text.f T.d__law_move_text.fd P__law_move_text (sp_lmovS K) := ok__law_move_textS (k := 0) T
  have G__law_bent : FnOk P w K mg base CX0 2 T.d__law_bent.f T.d__law_bent.fd P__law_bent (sp_bent K) := ok__law_bent (k := 0) T
  have G__law_read_term : FnOk P w K mg base CX0 86 T.d__law_read_term.f T.d__law_read_term.fd P__law_read_term (sp_lrT K 40) := ok__law_read_term (m := 40) T
  have G__law_read_move : FnOk P w K mg base CX0 87 T.d__law_read_move.f T.d__law_read_move.fd P__law_read_move (sp_lrM K 40) := ok__law_read_move (m := 40) T
  have G__law_told : FnOk P w K mg base CX0 127 T.d__law_told.f T.d__law_told.fd P__law_told (sp_ltold K) := ok__law_told (k := 0) T Y
  have G__law_great_right : FnOkG P w K mg base CX0 210 T.d__law_great_right.f T.d__law_great_right.fd P__law_great_right sp_true := ok__law_great_right (k := 0) T Y
  have G__law_numbers_refused : FnOk P w K mg base CX0 210 T.d__law_numbers_refused.f T.d__law_numbers_refused.fd P__law_numbers_refused sp_true := ok__law_numbers_refused (k := 0) T Y
  refine okG T.d_law.F sc_law (fun vs H Q E h => ?_) (fun cdv A outer s H vs Q E hgd hr h => ?_)
  · obtain ⟨_, _, rfl, _⟩ := h
    rfl
  · obtain ⟨a, sns, rfl, hS, hl63, q⟩ := h
    have hu64 := hr.units
    have hu65 := hu65_of hr
    refine ⟨_, (pss_cons (ps_set (i := 1) sc_law.nd rfl (Or.inr rfl) (pe_call G__law_bag (hr.mono (by omega)) rfl T.d__law_bag.g T.d__law_bag.F.kp T.d__law_bag.b .nil pass0 (pa_cons (pv 0) pa_nil))) (pss_cons (ps_set (i := 2) sc_law.nd rfl (Or.inl rfl) (pe_lst (pa_cons pe_str (pa_cons pe_str (pa_cons pe_str (pa_cons pe_str (pa_cons pe_str (pa_cons pe_str (pa_cons pe_str (pa_cons pe_str (pa_cons pe_str (pa_cons pe_str (pa_cons (pe_op (r := rMulN) op_mulN pe_str pe_int) (pa_cons (pe_op (r := rMulN) op_mulN pe_str pe_int) (pa_cons pe_str (pa_cons pe_str pa_nil)))))))))))))))) (pss_cons (ps_set (i := 2) sc_law.nd rfl (Or.inl rfl) (pe_op (r := rAddG K) op_addG (pv 2) (pe_lst (pa_cons pe_str (pa_cons pe_str (pa_cons pe_str (pa_cons pe_str (pa_cons pe_str (pa_cons pe_str (pa_cons pe_str (pa_cons pe_str (pa_cons pe_str pa_nil)))))))))))) (pss_cons (ps_set (i := 2) sc_law.nd rfl (Or.inl rfl) (pe_op (r := rAddG K) op_addG (pv 2) (pe_lst (pa_cons pe_str (pa_cons pe_str (pa_cons pe_str (pa_cons pe_str (pa_cons pe_str pa_nil)))))))) (pss_cons (ps_set (i := 2) sc_law.nd rfl (Or.inl rfl) (pe_op (r := rAddG K) op_addG (pv 2) (pe_lst (pa_cons pe_str (pa_cons pe_str (pa_cons pe_non (pa_cons pe_int (pa_cons pe_bl (pa_cons (pe_lst (pa_cons pe_str pa_nil)) (pa_cons (pe_tup (pa_cons pe_str pa_nil)) (pa_cons pe_dnewK (pa_cons (pe_lst (pa_cons (pe_lst pa_nil) pa_nil)) pa_nil)))))))))))) (pss_cons (ps_for PassesOwn.never rfl (pi_range1 (by rfl) T.b_range (pa_cons pe_int pa_nil)) (pg_name (i := 3) sc_law.nd rfl (Or.inl rfl)) (pss_cons (ps_asg (pe_tup (pa_cons (pe_call G__law_names (hr.mono (by omega)) rfl T.d__law_names.g T.d__law_names.F.kp T.d__law_names.b .nil pass0 (pa_cons (pv 1) (pa_cons pe_int pa_nil))) (pa_cons (pe_call G__law_take (hr.mono (by omega)) rfl T.d__law_take.g T.d__law_take.F.kp T.d__law_take.b .nil pass0 (pa_cons (pv 1) (pa_cons pe_int pa_nil))) pa_nil))) (pg_tup rfl (pgs_cons (pg_name (i := 4) sc_law.nd rfl (Or.inr rfl)) (pgs_cons (pg_name (i := 5) sc_law.nd rfl (Or.inl rfl)) pgs_nil)))) (pss_cons (ps_set (i := 6) sc_law.nd rfl (Or.inl rfl) (pe_call G__law_term_text (hr.mono (by omega)) rfl T.d__law_term_text.g T.d__law_term_text.F.kp T.d__law_term_text.b .nil pass0 (pa_cons (pe_call G__law_term (hr.mono (by omega)) rfl T.d__law_term.g T.d__law_term.F.kp T.d__law_term.b .nil pass0 (pa_cons (pv 1) (pa_cons (pv 4) (pa_cons pe_int (pa_cons (pe_call G__law_take (hr.mono (by omega)) rfl T.d__law_take.g T.d__law_take.F.kp T.d__law_take.b .nil pass0 (pa_cons (pv 1) (pa_cons pe_int pa_nil))) pa_nil))))) pa_nil))) (Evl.pss_cut (ps_if (pt_cmpR (r := rEqG K) (op_eqG hu64) (pv 5) pe_int (nomark _)) (pss_cons (ps_set (i := 7) sc_law.nd rfl (Or.inr rfl) (pe_call G__law_take (hr.mono (by omega)) rfl T.d__law_take.g T.d__law_take.F.kp T.d__law_take.b .nil pass0 (pa_cons (pv 1) (pa_cons pe_int pa_nil)))) (pss_cons (ps_setLc (i := 8) (own := [("_law_k", 16)]) (g := gName 16) (by rfl) sc_law.nd rfl rfl (sw_true rfl rfl rfl (by decide +kernel)) (pi_range1 (by rfl) T.b_range (pa_cons (pe_call G__law_take (hr.mono (by omega)) rfl T.d__law_take.g T.d__law_take.F.kp T.d__law_take.b .nil pass0 (pa_cons (pv 1) (pa_cons pe_int pa_nil))) pa_nil)) (blkOk_by (own := [("_law_k", 16)]) (N := N_law) (sc := defScope s_law) (by decide +kernel)) (fun _ _ _ _ _ => pg_name (i := 16) sc_law.nd rfl (Or.inl rfl)) (fun _ _ _ _ _ => pts_nil) (fun _ _ _ _ _ => (pe_call G__law_term (hr.mono (by omega)) rfl T.d__law_term.g T.d__law_term.F.kp T.d__law_term.b .nil pass0 (pa_cons (pv 1) (pa_cons (pv 4) (pa_cons (pv 7) (pa_cons (pe_call G__law_take (hr.mono (by omega)) rfl T.d__law_take.g T.d__law_take.F.kp T.d__law_take.b .nil pass0 (pa_cons (pv 1) (pa_cons pe_int pa_nil))) pa_nil))))))) (pss_cons (ps_par (i := 9) (j := 10) rfl sc_law.nd rfl rfl (by decide) rfl rfl (pa_cons (pe_lc (own := [("_law_k", 16)]) (g := gName 16) (by rfl) sc_law.nd (pi_range1 (by rfl) T.b_range (pa_cons pe_int pa_nil)) (blkOk_by (own := [("_law_k", 16)]) (N := N_law) (sc := defScope s_law) (by decide +kernel)) (fun _ _ _ _ _ => pg_name (i := 16) sc_law.nd rfl (Or.inl rfl)) (fun _ _ _ _ _ => pts_nil) (fun _ _ _ _ _ => (pe_call G__law_take (hr.mono (by omega)) rfl T.d__law_take.g T.d__law_take.F.kp T.d__law_take.b .nil pass0 (pa_cons (pv 1) (pa_cons pe_int pa_nil))))) (pa_cons (pe_ix (r := rIx K) ix_seq (pe_lst (pa_cons pe_str (pa_cons pe_str pa_nil))) (pe_call G__law_take (hr.mono (by omega)) rfl T.d__law_take.g T.d__law_take.F.kp T.d__law_take.b .nil pass0 (pa_cons (pv 1) (pa_cons pe_int pa_nil))) (fun _ _ => rfl)) pa_nil)) rfl) (pss_one (ps_set (i := 6) sc_law.nd rfl (Or.inl rfl) (pe_call G__law_move_text (hr.mono (by omega)) rfl T.d__law_move_text.g T.d__law_move_text.F.kp T.d__law_move_text.b .nil pass0 (pa_cons (pv 9) (pa_cons (pv 10) (pa_cons (pv 7) (pa_cons (pv 8) pa_nil)))))))))) pss_nil) (pss_cons (ps_for PassesOwn.never rfl (pi_range1 (by rfl) T.b_range (pa_cons (pe_call G__law_take (hr.mono (by omega)) rfl T.d__law_take.g T.d__law_take.F.kp T.d__law_take.b .nil pass0 (pa_cons (pv 1) (pa_cons pe_int pa_nil))) pa_nil)) (pg_name (i := 11) sc_law.nd rfl (Or.inl rfl)) (pss_one (ps_set (i := 6) sc_law.nd rfl (Or.inl rfl) (pe_call G__law_bent (hr.mono (by omega)) rfl T.d__law_bent.g T.d__law_bent.F.kp T.d__law_bent.b .nil pass0 (pa_cons (pv 1) (pa_cons (pv 6) pa_nil)))))) (pss_cons (ps_set (i := 12) sc_law.nd rfl (Or.inr rfl) (pe_ifExp (pt_cmpR op_gt (pe_call G__law_take (hr.mono (by omega)) rfl T.d__law_take.g T.d__law_take.F.kp T.d__law_take.b .nil pass0 (pa_cons (pv 1) (pa_cons pe_int pa_nil))) pe_int (nomark _)) (pv 6) (pe_ix (r := rIx K) ix_seq (pv 2) (pe_call G__law_take (hr.mono (by omega)) rfl T.d__law_take.g T.d__law_take.F.kp T.d__law_take.b .nil pass0 (pa_cons (pv 1) (pa_cons pe_int pa_nil))) (fun _ _ => rfl)))) (pss_one (ps_for PassesOwn.never rfl (pi_seq (pe_tup (pa_cons pe_int (pa_cons pe_int pa_nil)))) (pg_name (i := 13) sc_law.nd rfl (Or.inl rfl)) (pss_cons (ps_set (i := 14) sc_law.nd rfl (Or.inl rfl) (pe_ifExp (pt_not (pt_val (pe_callB (r := rIsi K) call_isi (by rfl) T.b_isinstance bt_isinstance (pa_cons (pv 12) (pa_cons (pe_ty T.b_str bt_str) pa_nil))))) (pe_lst pa_nil) (pe_ifExp (pt_cmpR (r := rEqG K) (op_eqG hu64) (pv 13) pe_int (nomark _)) (pe_call G__law_read_term (hr.mono (by omega)) rfl T.d__law_read_term.g T.d__law_read_term.F.kp T.d__law_read_term.b .nil pass0 (pa_cons (pv 12) pa_nil)) (pe_call G__law_read_move (hr.mono (by omega)) rfl T.d__law_read_move.g T.d__law_read_move.F.kp T.d__law_read_move.b .nil pass0 (pa_cons (pv 12) pa_nil))))) (pss_one (ps_if (pt_not (pt_val (pe_callG G__law_alike hgd (hr.mono (by omega)) rfl T.d__law_alike.g T.d__law_alike.F.kp T.d__law_alike.b .nil pass0 (pa_cons (pe_call G__law_told (hr.mono (by omega)) rfl T.d__law_told.g T.d__law_told.F.kp T.d__law_told.b .nil pass0 (pa_cons (pv 13) (pa_cons (pv 12) pa_nil))) (pa_cons (pv 14) pa_nil))))) (pss_one (ps_ret pe_bl)) pss_nil))))))))))) (pss_cons (ps_set (i := 15) sc_law.nd rfl (Or.inl rfl) pe_int) (pss_cons (ps_for PassesOwn.never rfl (pi_range1 (by rfl) T.b_range (pa_cons pe_int pa_nil)) (pg_name (i := 16) sc_law.nd rfl (Or.inl rfl)) (pss_one (ps_set (i := 15) sc_law.nd rfl (Or.inl rfl) (pe_lst (pa_cons (pv 15) pa_nil))))) (pss_cons (ps_for PassesOwn.never rfl (pi_seq (pe_tup (pa_cons (pv 15) (pa_cons (pe_op op_mulG (pe_lst (pa_cons pe_non pa_nil)) pe_int) pa_nil)))) (pg_name (i := 12) sc_law.nd rfl (Or.inr rfl)) (pss_one (ps_if (pt_cmpR (r := rNeG K) (op_neG hu64) (pe_lc (own := [("_law_way", 5)]) (g := gName 5) (by rfl) sc_law.nd (pi_seq (pe_tup (pa_cons pe_int (pa_cons pe_int pa_nil)))) (blkOk_by (own := [("_law_way", 5)]) (N := N_law) (sc := defScope s_law) (by decide +kernel)) (fun _ _ _ _ _ => pg_name (i := 5) sc_law.nd rfl (Or.inl rfl)) (fun _ _ _ _ _ => pts_nil) (fun _ _ _ _ _ => (pe_call G__law_told (hr.mono (by omega)) rfl T.d__law_told.g T.d__law_told.F.kp T.d__law_told.b .nil pass0 (pa_cons (pv 5) (pa_cons (pv 12) pa_nil))))) (pe_lst (pa_cons (pe_lst pa_nil) (pa_cons (pe_lst pa_nil) pa_nil))) (nomark _)) (pss_one (ps_ret pe_bl)) pss_nil))) (pss_one (ps_ret (pe_and (pe_call0G G__law_great_right hgd (hr.mono (by omega)) rfl T.d__law_great_right.g T.d__law_great_right.F.kp T.d__law_great_right.b .nil pass0) (pe_one (pe_call0 G__law_numbers_refused (hr.mono (by omega)) rfl T.d__law_numbers_refused.g T.d__law_numbers_refused.F.kp T.d__law_numbers_refused.b .nil pass0)))))))))))))), ?_⟩
    refine ⟨.ref a, rfl, a, sns, rfl, hS, hl63, fun H1 b m1 nb hB1 => ?_⟩
    rw [n1_wd]
    refine ⟨[49], 40, rfl, rfl, by decide, by decide, ?_⟩
    refine ⟨[49], 41, rfl, rfl, by decide, by decide, ?_⟩
    refine ⟨(by decide : 14 ≤ sizeLine), fun p2 n2 => ?_⟩
    obtain ⟨l1, hl1⟩ : ∃ l1, l1 = ([.str (Str.ofString ""), .str (Str.ofString "()"), .str (Str.ofString "f()"), .str (Str.ofString "f(0"), .str (Str.ofString "(0)"), .str (Str.ofString "f(0)0"), .str (Str.ofString "f(0,1,2,3)"), .str (Str.ofString "00"), .str (Str.ofString "-0"), .str (Str.ofString "-1"), wdV (repL 40 [49]), wdV (repL 41 [49]), .str (Str.ofString "ninesigns"), .str (Str.ofString "A")] : List V) := ⟨_, rfl⟩
    rw [← hl1]
    have k2 := Mv.new (S := []) (o := (.lst l1)) n2
    have e2 : upd H1 p2 (.lst l1) p2 = some (.lst l1) := upd_same
    generalize upd H1 p2 (.lst l1) = H2 at k2 e2 ⊢
    have m2 := k2
    have o1 : ∀ (H : Hp), ∀ v ∈ l1, Odd97 K b H v := by
      rw [hl1]
      intro H v hv
      simp only [List.mem_cons, List.not_mem_nil, or_false] at hv
      rcases hv with rfl | rfl | rfl | rfl | rfl | rfl | rfl | rfl | rfl | rfl | rfl | rfl | rfl | rfl
      all_goals first | exact odd_str (by decide +kernel) | exact odd_wd ⟨by decide +kernel, by unfold AscL; decide +kernel, by decide +kernel⟩
    have c1 : l1.length = 14 := by rw [hl1]; rfl
    clear hl1
    refine ⟨.ref p2, rfl, (by decide : 9 ≤ sizeLine), fun p3 n3 => ?_⟩
    obtain ⟨l2, hl2⟩ : ∃ l2, l2 = ([.str (Str.ofString "f(0))"), .str (Str.ofString "f((0))"), .str (Str.ofString "f(0,)"), .str (Str.ofString "f(,0)"), .str (Str.ofString "f 0"), .str (Str.ofString " f"), .str (Str.ofString "f\n"), .str (Str.ofString "0 0 0 0 may 0 ()"), .str (Str.ofString "0 0 0 0 may 0 (0)")] : List V) := ⟨_, rfl⟩
    rw [← hl2]
    have k3 := Mv.new (S := []) (o := (.lst l2)) n3
    have e3 : upd H2 p3 (.lst l2) p3 = some (.lst l2) := upd_same
    generalize upd H2 p3 (.lst l2) = H3 at k3 e3 ⊢
    have m3 := m2.trans k3
    have o2 : ∀ (H : Hp), ∀ v ∈ l2, Odd97 K b H v := by
      rw [hl2]
      intro H v hv
      simp only [List.mem_cons, List.not_mem_nil, or_false] at hv
      rcases hv with rfl | rfl | rfl | rfl | rfl | rfl | rfl | rfl | rfl
      all_goals exact odd_str (by decide +kernel)
    have c2 : l2.length = 9 := by rw [hl2]; rfl
    clear hl2
    refine rd_catL (k3.same _ _ e2) e3 (by rw [c1, c2]; decide) fun p4 H4 n4 m34 e4 => ?_
    refine ⟨.ref p4, rfl, (by decide : 5 ≤ sizeLine), fun p5 n5 => ?_⟩
    obtain ⟨l3, hl3⟩ : ∃ l3, l3 = ([.str (Str.ofString "0 0 0 -1 may 1 (0)"), .str (Str.ofString "0 0 0 0 must 1 0"), .str (Str.ofString "0 0 0 0 can 1 (0)"), .str (Str.ofString "0 0 0 0  may 1 (0)"), .str (Str.ofString "0 0 0 may 1 (0)")] : List V) := ⟨_, rfl⟩
    rw [← hl3]
    have m4 := m3.trans m34
    have k5 := Mv.new (S := []) (o := (.lst l3)) n5
    have e5 : upd H4 p5 (.lst l3) p5 = some (.lst l3) := upd_same
    generalize upd H4 p5 (.lst l3) = H5 at k5 e5 ⊢
    have m5 := m4.trans k5
    have o3 : ∀ (H : Hp), ∀ v ∈ l3, Odd97 K b H v := by
      rw [hl3]
      intro H v hv
      simp only [List.mem_cons, List.not_mem_nil, or_false] at hv
      rcases hv with rfl | rfl | rfl | rfl | rfl
      all_goals exact odd_str (by decide +kernel)
    have c3 : l3.length = 5 := by rw [hl3]; rfl
    clear hl3
    refine rd_catL (k5.same _ _ e4) e5 (by rw [List.length_append, c1, c2, c3]; decide) fun p6 H6 n6 m56 e6 => ?_
    have m6 := m5.trans m56
    refine ⟨.ref p6, rfl, (by decide : 1 ≤ sizeLine), fun p7 n7 => ?_⟩
    have k7 := Mv.new (S := []) (o := (.lst [.str (Str.ofString "f")])) n7
    have e7 : upd H6 p7 (.lst [.str (Str.ofString "f")]) p7 = some (.lst [.str (Str.ofString "f")]) := upd_same
    generalize upd H6 p7 (.lst [.str (Str.ofString "f")]) = H7 at k7 e7 ⊢
    have m7 := m6.trans k7
    refine ⟨(by decide : 1 ≤ sizeLine), fun p8 n8 => ?_⟩
    have k8 := Mv.new (S := []) (o := (.tup [.str (Str.ofString "f")])) n8
    have e8 : SqT K (upd H7 p8 (.tup [.str (Str.ofString "f")])) p8 [.str (Str.ofString "f")] := .inl (.inl upd_same)
    generalize upd H7 p8 (.tup [.str (Str.ofString "f")]) = H8 at k8 e8 ⊢
    have m8 := m7.trans k8
    intro p9 n9
    have k9 := Mv.new (S := []) (o := .dK []) n9
    have e9 : upd H8 p9 (.dK []) p9 = some (.dK []) := upd_same
    generalize upd H8 p9 (.dK []) = H9 at k9 e9 ⊢
    have m9 := m8.trans k9
    refine ⟨Nat.zero_le _, fun p10 n10 => ?_⟩
    have k10 := Mv.new (S := []) (o := (.lst ([] : List V))) n10
    have e10 : upd H9 p10 (.lst ([] : List V)) p10 = some (.lst ([] : List V)) := upd_same
    generalize upd H9 p10 (.lst ([] : List V)) = H10 at k10 e10 ⊢
    have m10 := m9.trans k10
    refine ⟨(by decide : 1 ≤ sizeLine), fun p11 n11 => ?_⟩
    have k11 := Mv.new (S := []) (o := (.lst [.ref p10])) n11
    have e11 : upd H10 p11 (.lst [.ref p10]) p11 = some (.lst [.ref p10]) := upd_same
    generalize upd H10 p11 (.lst [.ref p10]) = H11 at k11 e11 ⊢
    have m11 := m10.trans k11
    refine ⟨(by decide : 9 ≤ sizeLine), fun p12 n12 => ?_⟩
    obtain ⟨l4, hl4⟩ : ∃ l4, l4 = ([.str (Str.ofString "0 0 0 0 may -1 ()"), .str (Str.ofString "0 0 0 0 may 1 (0,)"), .non, .int 5, .bl true, .ref p7, .ref p8, .ref p9, .ref p11] : List V) := ⟨_, rfl⟩
    rw [← hl4]
    have k12 := Mv.new (S := []) (o := (.lst l4)) n12
    have e12 : upd H11 p12 (.lst l4) p12 = some (.lst l4) := upd_same
    generalize upd H11 p12 (.lst l4) = H12 at k12 e12 ⊢
    have m12 := m11.trans k12
    have c4 : l4.length = 9 := by rw [hl4]; rfl
    refine rd_catL ((k7.trans (k8.trans (k9.trans (k10.trans (k11.trans k12))))).same _ _ e6) e12 (by simp only [List.length_append, c1, c2, c3, c4]; decide) fun po H13 n13 m1213 e13 => ?_
    have m13 := m12.trans m1213
    have hB13 : Bag H13 b := hB1.mv m13
    have o4 : ∀ v ∈ l4, Odd97 K b H13 v := by
      rw [hl4]
      intro v hv
      simp only [List.mem_cons, List.not_mem_nil, or_false] at hv
      have i7 : Is K b H13 (.ref p7) .lst := ⟨p7, _, rfl, (hB1.mv m6).fneq n7, (k8.trans (k9.trans (k10.trans (k11.trans (k12.trans m1213))))).same _ _ e7⟩
      have i8 : Is K b H13 (.ref p8) (.tup [.str (Str.ofString "f")]) := ⟨p8, _, rfl, (k9.trans (k10.trans (k11.trans (k12.trans m1213)))).sqT e8, IsAll.cons ⟨rfl, by decide +kernel⟩ IsAll.nil⟩
      have i9 : Is K b H13 (.ref p9) .dct := ⟨p9, _, rfl, (hB1.mv m8).fneq n9, (k10.trans (k11.trans (k12.trans m1213))).same _ _ e9⟩
      have i11 : Is K b H13 (.ref p11) .lst := ⟨p11, _, rfl, (hB1.mv m10).fneq n11, (k12.trans m1213).same _ _ e11⟩
      rcases hv with rfl | rfl | rfl | rfl | rfl | rfl | rfl | rfl | rfl
      · exact odd_str (by decide +kernel)
      · exact odd_str (by decide +kernel)
      · exact odd_is (t := .non) rfl rfl
      · exact odd_is (t := .int 5) rfl rfl
      · exact odd_is (t := .bl true) rfl rfl
      · exact odd_is i7 rfl
      · exact odd_is i8 rfl
      · exact odd_is i9 rfl
      · exact odd_is i11 rfl
    have hO13 : Odds97 K b po H13 := by
      refine ⟨⟨_, e13, by simp only [List.length_append, c1, c2, c3, c4], fun v hv => ?_⟩, (hB1.mv m12).fneq n13⟩
      simp only [List.mem_append] at hv
      rcases hv with ((hv | hv) | hv) | hv
      · exact o1 _ v hv
      · exact o2 _ v hv
      · exact o3 _ v hv
      · exact o4 v hv
    clear o1 o2 o3 o4 e13 hl4
    refine ⟨24, rfl, by decide, by decide, ?_⟩
    refine for_range (lo := 0) (n := (24 : Int).toNat) (fun i σ H3 => ∃ (y3 y4 y5 y6 y7 y8 y9 y10 y11 y12 y13 y14 y16 : Option V), σ = [some (.ref a), some (.ref b), some (.ref po), y3, y4, y5, y6, y7, y8, y9, y10, y11, y12, y13, y14, none, y16] ∧ Bag H3 b ∧ Odds97 K b po H3)
      ⟨_, _, _, _, _, _, _, _, _, _, _, _, _, rfl, hB13, hO13⟩ (fun i σ H3 hi h3 => ?_) (fun σ H3 h3 => ?_)
    · obtain ⟨y3, y4, y5, y6, y7, y8, y9, y10, y11, y12, y13, y14, y16, rfl, hB3, hO3⟩ := h3
      refine ⟨.ref b, rfl, b, 3, rfl, hB3, by decide, by decide, fun nm ns H4 hxl hxN nn en d4 => ?_⟩
      have hB4 := d4.bag hB3
      have hnb : nm ≠ b := hB3.fneq nn
      have hn0 : ns ≠ [] := fun z => by rw [z] at hxl; cases hxl
      refine ⟨.ref b, rfl, b, 2, rfl, hB4, by decide, by decide, fun way H5 w0 w1 d5 => ?_⟩
      refine ⟨(by decide : 2 ≤ sizeLine), fun q6 n6' => ?_⟩
      have k6 := Mv.new (S := []) (o := .tup [.ref nm, .int way]) n6'
      have e6' : SqT K (upd H5 q6 (.tup [.ref nm, .int way])) q6 [.ref nm, .int way] := .inl (.inl upd_same)
      generalize upd H5 q6 (.tup [.ref nm, .int way]) = H6' at k6 e6' ⊢
      refine ⟨q6, _, rfl, e6', rfl, _, _, rfl, _, _, rfl, rfl, ?_⟩
      have d36 : Dr b H3 H6' := d4.trans (d5.trans (.of k6))
      have hB6 := d36.bag hB3
      have en6 := (d5.trans (.of k6)).get hnb en
      refine ⟨.ref b, rfl, .ref nm, rfl, .ref b, rfl, b, 4, rfl, hB6, by decide, by decide, fun dp H7 dp0 dp1 d7 => ?_⟩
      refine ⟨b, nm, ns, 12, dp, rfl, d7.bag hB6, d7.get hnb en6, hnb, hn0, by rw [hxl]; decide, hxN, by decide, by decide, by omega, fun v0 t0 H8 ho hx1 hx2 him d8 => ?_⟩
      have hx3 : t0.dep ≤ 3 := by have := hx2 (by decide); omega
      obtain ⟨g1, g2, g3⟩ := term_97 (by decide) ho hx3
      refine ⟨v0, t0, rfl, him, (ok_97 (by decide) ho).2, by omega, by omega, fun H9 m9 => ?_⟩
      have d69 : Dr b H6' H9 := d7.trans (d8.trans (.of m9))
      have d39 := d36.trans d69
      have hB9 := d39.bag hB3
      have en9 := d69.get hnb en6
      refine ⟨fun σ' H' => ∃ (l : List Nat) (y7 y8 y9 y10 y16 : Option V), σ' = [some (.ref a), some (.ref b), some (.ref po), some (.int (0 + (i : Int))), some (.ref nm), some (.int way), some (wdV l), y7, y8, y9, y10, y11, y12, y13, y14, none, y16] ∧ l.length ≤ 240 ∧ l.count 40 ≤ 13 ∧ AscL l ∧ Dr b H9 H', ?_, ?_⟩
      · refine ⟨.int way, rfl, Or.inl ⟨rfl, _, rfl, ?_⟩⟩
        rw [show decide (V.int way = V.int 1) = decide (way = 1) by rw [decide_eq_decide]; exact ⟨fun h => V.int.inj h, fun h => by rw [h]⟩]
        by_cases hw : way = 1
        · rw [decide_eq_true hw]
          refine ⟨.ref b, rfl, b, 4, rfl, hB9, by decide, by decide, fun vr H10 vr0 vr1 d10 => ?_⟩
          have hB10 := d10.bag hB9
          refine ⟨.ref b, rfl, b, 4, rfl, hB10, by decide, by decide, fun cn H11 cn0 cn1 d11 => ⟨cn, rfl, by omega, by omega, fun tl ntl => ?_⟩⟩
          have hB11 := d11.bag hB10
          have htb : tl ≠ b := hB11.fneq ntl
          have en11 := (d10.trans d11).get hnb en9
          refine lc_range (lo := 0) (n := cn.toNat) (fun i H7 => ∃ (vs : List V) (us : List Tm), H7 tl = some (.lst vs) ∧ Ims K H7 vs (Tm.ds us) ∧ us.length = i ∧ Tm.oks (fun i => 0 ≤ i ∧ i < vr) us ∧ Tm.deps us ≤ 2 ∧ Dr b H11 H7)
            ⟨[], [], upd_same, Ims.nil, rfl, trivial, Nat.zero_le _, Dr.new ntl⟩ (fun i7 H7 hi7 h7 => ?_) (fun H14 h14 => ?_)
          · obtain ⟨vs, us, e5, i5, l5, g5, p5', d5⟩ := h7
            have hB5 := d5.bag hB11
            refine ⟨rfl, .ref b, rfl, .ref nm, rfl, .int vr, rfl, .ref b, rfl, b, 3, rfl, hB5, by decide, by decide, fun dp H8 dp0 dp1 d8 => ?_⟩
            refine ⟨b, nm, ns, vr, dp, rfl, d8.bag hB5, (d5.trans d8).get hnb en11, hnb, hn0, by rw [hxl]; decide, hxN, vr0, by omega, by omega, fun v t H9 ho hx1 hx2 him d9 => ?_⟩
            have d89 := d8.trans d9
            have e7 := d89.get htb e5
            refine ⟨_, e7, ?_, vs ++ [v], us ++ [t], upd_same, ?_, by simp [l5], ?_, ?_, (d5.trans d89).wr ntl⟩
            · rw [i5.length, Tm.ds_map, List.length_map, l5]
              exact line5lt (by omega)
            · rw [Tm.ds_append]
              exact ((i5.mv d89.mv).append (Ims.cons him Ims.nil)).mv (Mv.set (S := [tl]) e7 (by simp))
            · exact Tm.oks_iff.mpr fun u hu => (List.mem_append.mp hu).elim (Tm.oks_iff.mp g5 u) fun hu => by rw [List.mem_singleton.mp hu]; exact ho
            · exact Tm.deps_le.mpr fun u hu => (List.mem_append.mp hu).elim (Tm.deps_le.mp p5' u) fun hu => by rw [List.mem_singleton.mp hu]; omega
          obtain ⟨tv, us, e14, i14, l14, g14, p14', d1114⟩ := h14
          have d914 : Dr b H9 H14 := d10.trans (d11.trans d1114)
          have hB14 := d914.bag hB9
          refine ⟨4, rfl, by decide, by decide, fun nl nnl => ?_⟩
          have hnlb : nl ≠ b := hB14.fneq nnl
          refine lc_range (lo := 0) (n := (4 : Int).toNat) (fun i H7 => ∃ (ms : List Int), H7 nl = some (.lst (ms.map V.int)) ∧ ms.length = i ∧ (∀ u ∈ ms, 0 ≤ u ∧ u < 100) ∧ Dr b H14 H7)
            ⟨[], upd_same, rfl, fun _ h => (by cases h), Dr.new nnl⟩ (fun i7 H7 hi7 h7 => ?_) (fun H17 h17 => ?_)
          · obtain ⟨ms, e5', l5, g5, d5⟩ := h7
            have hB5 := d5.bag hB14
            refine ⟨rfl, .ref b, rfl, b, 12, rfl, hB5, by decide, by decide, fun o H9 o0 o1 d9 => ?_⟩
            have e9 := d9.get hnlb e5'
            refine ⟨_, e9, ?_, ms ++ [o], by rw [upd_same, List.map_append]; rfl, by simp [l5], fun z hz => ?_, (d5.trans d9).wr nnl⟩
            · rw [List.length_map, l5]
              exact line5lt (by have : (4 : Int).toNat = 4 := rfl; omega)
            · rcases List.mem_append.mp hz with hz | hz
              · exact g5 z hz
              · rw [List.mem_singleton.mp hz]
                omega
          obtain ⟨ms, e17, l17, g17, d1417⟩ := h17
          have hB17 := d1417.bag hB14
          have htl17 := d1417.get htb e14
          refine ⟨(by decide : 2 ≤ sizeLine), fun p20 n20 => ?_⟩
          have k20 := Mv.new (S := []) (o := (.lst [.str "may", .str "must"])) n20
          have e20 : upd H17 p20 (.lst [.str "may", .str "must"]) p20 = some (.lst [.str "may", .str "must"]) := upd_same
          generalize upd H17 p20 (.lst [.str "may", .str "must"]) = H20 at k20 e20 ⊢
          have m20 := k20
          have hp20 : p20 ≠ b := hB17.fneq n20
          refine ⟨.ref b, rfl, b, 2, rfl, hB17.mv m20, by decide, by decide, fun o H21 o0 o1 d21 => ?_⟩
          obtain ⟨kd, hkd, hkd2⟩ : ∃ kd, ([.str "may", .str "must"] : List V)[o.toNat]? = some (.str kd) ∧ (kd = Str.ofString "may" ∨ kd = Str.ofString "must") := by
            have ho : o.toNat = 0 ∨ o.toNat = 1 := by omega
            rcases ho with ho | ho
            · exact ⟨_, by rw [ho]; rfl, .inl rfl⟩
            · exact ⟨_, by rw [ho]; rfl, .inr rfl⟩
          refine rd_ixL (.inl (.inl (d21.get hp20 e20))) o0 hkd ?_
          have d1721 : Dr b H17 H21 := (Dr.of m20).trans d21
          obtain ⟨hM, hM1, hM2, hM3⟩ := mov_97 l17 g17 hkd2 vr0 (by omega) g14 p14' (by omega)
          refine ⟨_, _, rfl, ?_⟩
          refine ⟨.ref nl, rfl, .str kd, rfl, .int vr, rfl, .ref tl, rfl, ?_⟩
          refine ⟨nl, tl, tv, ms, kd, vr, us, rfl, .inl (.inl (.inl (d1721.get hnlb e17))), .inl (.inl (.inl (d1721.get htb htl17))), (i14.mv d1417.mv).mv d1721.mv, hM, fun H22 m22 => ?_⟩
          exact ⟨_, _, _, _, _, _, rfl, hM1, hM2, hM3, d914.trans (d1417.trans (d1721.trans (.of m22)))⟩
        · rw [decide_eq_false hw]
          exact ⟨_, _, _, _, _, _, rfl, by omega, g2, g3, .refl⟩
      · rintro σ' H10 ⟨l, y7, y8, y9, y10, y16, rfl, g1, g2, g3, d910⟩
        have hB10 := d910.bag hB9
        have hO10 := hO3.dr (d39.trans d910)
        refine ⟨.ref b, rfl, b, 4, rfl, hB10, by decide, by decide, fun ag H11 ag0 ag1 d11 => ⟨ag, rfl, by omega, by omega, ?_⟩⟩
        refine for_range (lo := 0) (n := ag.toNat) (fun j σ H12 => ∃ (l' : List Nat) (y11 : Option V), σ = [some (.ref a), some (.ref b), some (.ref po), some (.int (0 + (i : Int))), some (.ref nm), some (.int way), some (wdV l'), y7, y8, y9, y10, y11, y12, y13, y14, none, y16] ∧ l'.length ≤ 240 + 3 * j ∧ l'.count 40 ≤ 13 + 3 * j ∧ AscL l' ∧ Dr b H11 H12)
          ⟨l, _, rfl, by omega, by omega, g3, .refl⟩ (fun j σ H12 hj h12 => ?_) (fun σ H12 h12 => ?_)
        · obtain ⟨l', y11', rfl, b1, b2, b3, d12⟩ := h12
          refine ⟨.ref b, rfl, wdV l', rfl, b, l', rfl, d12.bag (d11.bag hB10), by omega, b3, fun l2 H13 f1 f2 f3 d13 => ?_⟩
          exact ⟨l2, _, rfl, by omega, by omega, f2, d12.trans d13⟩
        · obtain ⟨l', y11', rfl, b1, b2, b3, d12⟩ := h12
          have hl' : Txt97 l' := ⟨by omega, b3, by omega⟩
          have d1012 := d11.trans d12
          have hB12 := d1012.bag hB10
          have hO12 := hO10.dr d1012
          refine ⟨.ref b, rfl, b, 5, rfl, hB12, by decide, by decide, fun z H14 z0 z1 d14 => ?_⟩
          have hB14 := d14.bag hB12
          have hO14 := hO12.dr d14
          refine ⟨z, 0, rfl, rfl, _, rfl, ?_⟩
          have hfin : ∀ (D : Ends) (v : V) (H15 : Hp), (∀ σ H3, (∃ (y3 y4 y5 y6 y7 y8 y9 y10 y11 y12 y13 y14 y16 : Option V), σ = [some (V.ref a), some (V.ref b), some (V.ref po), y3, y4, y5, y6, y7, y8, y9, y10, y11, y12, y13, y14, none, y16] ∧ Bag H3 b ∧ Odds97 K b po H3) → D.nx σ H3) → Odd97 K b H15 v → Bag H15 b → Odds97 K b po H15 → (tFor
            (iSeq (cxOf CX0 P w K mg base N_law (Str.ofString "law") (defScope s_law) T.d_law.f cdv A outer s H E).nox.K
              (tTup (tCons (tC (V.int 0)) (tCons (tC (V.int 1)) tNil))))
            (gName 13)
            (tSeq
              (tAsg
                (tIf (tNot (tB (tCB (rIsi K) (tCons (tVar 12) (tCons (tC (V.ty "str")) tNil))))) (tLst tNil)
                  (tIf (tTest (tOp (rEqG K) (tVar 13) (tC (V.int 0)))) (tCall (sp_lrT K 40) [] E0 (tCons (tVar 12) tNil))
                    (tCall (sp_lrM K 40) [] E0 (tCons (tVar 12) tNil))))
                (gName 14))
              (tIfS
                (tNot
                  (tB
                    (tCall (sp_alike K) [] E0
                      (tCons (tCall (sp_ltold K) [] E0 (tCons (tVar 13) (tCons (tVar 12) tNil))) (tCons (tVar 14) tNil)))))
                (tRet (tC (V.bl false))) tNext))) D
              [some (.ref a), some (.ref b), some (.ref po), some (.int (0 + (i : Int))), some (.ref nm), some (.int way), some (wdV l'), y7, y8, y9, y10, y11', some v, y13, y14, none, y16] H15 := by
            intro D v H15 hD hv hB15 hO15
            refine ⟨(by decide : 2 ≤ sizeLine), fun p16 n16 => ⟨p16, rfl, ?_⟩⟩
            have k16 := Mv.new (S := []) (o := (.tup [.int 0, .int 1])) n16
            have e16 : SqT K (upd H15 p16 (.tup [.int 0, .int 1])) p16 [.int 0, .int 1] := .inl (.inl upd_same)
            generalize upd H15 p16 (.tup [.int 0, .int 1]) = H16 at k16 e16 ⊢
            have m16 := k16
            refine for_seq (.inr e16) (fun j σ H17 => ∃ (y13 y14 : Option V), σ = [some (.ref a), some (.ref b), some (.ref po), some (.int (0 + (i : Int))), some (.ref nm), some (.int way), some (wdV l'), y7, y8, y9, y10, y11', some v, y13, y14, none, y16] ∧ Mv [] H16 H17)
              ⟨_, _, rfl, .refl⟩ (fun j σ H17 h17 => let ⟨_, _, _, m⟩ := h17; m) (fun j x σ H17 hx h17 => ?_) (fun σ H17 h17 => ?_)
            · obtain ⟨y13, y14, rfl, m17⟩ := h17
              obtain ⟨mine, rfl, hmine⟩ : ∃ mine : Int, x = .int mine ∧ (mine = 0 ∨ mine = 1) := by
                match j, hx with
                | 0, hx => cases hx; exact ⟨0, rfl, .inl rfl⟩
                | 1, hx => cases hx; exact ⟨1, rfl, .inr rfl⟩
              obtain ⟨o, hT, hTx⟩ := hv.dr (Dr.of (k16.trans m17))
              have hfew : FewN o := by
                cases o with
                | none => exact few_none
                | some l => exact txt_few (hTx l rfl)
              have hshw : Shw (.list (toldD mine o)) := by
                cases o with
                | none => rw [toldD_none]; exact shw_nil97
                | some l => exact shw_told97 (hTx l rfl) mine
              have key : ∀ (D' : Ends) (pd : Addr) (xs : List V) (H18 : Hp), (∀ σ H17, (∃ (y13 y14 : Option V), σ = [some (.ref a), some (.ref b), some (.ref po), some (.int (0 + (i : Int))), some (.ref nm), some (.int way), some (wdV l'), y7, y8, y9, y10, y11', some v, y13, y14, none, y16] ∧ Mv [] H16 H17) → D'.nx σ H17) → Mv [] H17 H18 → H18 pd = some (.lst xs) → Ims K H18 xs (toldD mine o) →
                  (tIfS
                    (tNot
                      (tB
                        (tCall (sp_alike K) [] E0
                          (tCons (tCall (sp_ltold K) [] E0 (tCons (tVar 13) (tCons (tVar 12) tNil))) (tCons (tVar 14) tNil)))))
                    (tRet (tC (V.bl false))) tNext) D'
                    [some (.ref a), some (.ref b), some (.ref po), some (.int (0 + (i : Int))), some (.ref nm), some (.int way), some (wdV l'), y7, y8, y9, y10, y11', some v, some (.int mine), some (.ref pd), none, y16] H18 := by
                intro D' pd xs H18 hD' m18 e18 i18
                refine ⟨.int mine, rfl, v, rfl, b, mine, v, o, rfl, hmine, hT.mv0 m18, hfew, fun p19 xs19 H19 n19 m19 e19 i19 => ?_⟩
                refine ⟨.ref pd, rfl, .ref p19, .ref pd, .list (toldD mine o), rfl, .lst (.inl (.inl e19)) i19.dp, .lst (.inl (.inl (m19.same _ _ e18))) (i18.mv m19).dp, hshw, ?_⟩
                refine ⟨_, rfl, ?_⟩
                exact hD' _ _ ⟨_, _, rfl, m17.trans (m18.trans m19)⟩
              refine ⟨v, rfl, ?_⟩
              walk_at "nc"
              refine rd_isTx hT ?_
              refine ⟨_, rfl, ?_⟩
              cases o with
              | none =>
                refine ⟨Nat.zero_le _, fun p18 n18 => ?_⟩
                refine key _ p18 [] _ (fun _ _ h => h) (.new n18) upd_same ?_
                rw [toldD_none]
                exact Ims.nil
              | some l =>
                cases hT
                have hl := hTx l rfl
                have hln := hl.len
                refine ⟨.int mine, rfl, Or.inl ⟨rfl, _, rfl, ?_⟩⟩
                rw [show decide (V.int mine = V.int 0) = decide (mine = 0) by rw [decide_eq_decide]; exact ⟨fun h => V.int.inj h, fun h => by rw [h]⟩]
                by_cases hm : mine = 0
                · rw [decide_eq_true hm]
                  refine ⟨wdV l, rfl, l, rfl, by omega, hl.cnt, fun p18 xs18 H18 n18 m18 e18 i18 => ?_⟩
                  refine key _ p18 xs18 _ (fun _ _ h => h) m18 e18 ?_
                  unfold toldD
                  rw [if_pos hm, Option.bind_some, prog_law (f := l.length + 1) (by omega)]
                  exact i18
                · rw [decide_eq_false hm]
                  refine ⟨wdV l, rfl, l, rfl, by omega, hl.cnt, fun p18 xs18 H18 n18 m18 e18 i18 => ?_⟩
                  refine key _ p18 xs18 _ (fun _ _ h => h) m18 e18 ?_
                  unfold toldD
                  rw [if_neg hm, Option.bind_some]
                  exact i18
            · obtain ⟨y13, y14, rfl, m17⟩ := h17
              exact hD _ _ ⟨_, _, _, _, _, _, _, _, _, _, _, _, _, rfl, hB15.mv (k16.trans m17), hO15.dr (Dr.of (k16.trans m17))⟩
          by_cases hz : 0 < z
          · rw [decide_eq_true hz]
            refine ⟨wdV l', rfl, ?_⟩
            exact hfin _ _ _ (fun _ _ h => h) (odd_wd hl') hB14 hO14
          · rw [decide_eq_false hz]
            refine ⟨.ref po, rfl, .ref b, rfl, b, 37, rfl, hB14, by decide, by decide, fun u H15 u0 u1 d15 => ?_⟩
            have hO15 := hO14.dr d15
            obtain ⟨xs, e15, c15, h15⟩ := hO15.lst
            obtain ⟨v, hv⟩ : ∃ v, xs[u.toNat]? = some v := ⟨_, List.getElem?_eq_getElem (by rw [c15]; omega)⟩
            refine rd_ixL (.inl (.inl e15)) u0 hv ?_
            exact hfin _ _ _ (fun _ _ h => h) (h15 v (List.mem_of_getElem? hv)) (d15.bag hB14) hO15
    · obtain ⟨y3, y4, y5, y6, y7, y8, y9, y10, y11, y12, y13, y14, y16, rfl, hB3, hO3⟩ := h3
      refine ⟨29, rfl, by decide, by decide, ?_⟩
      refine for_range (lo := 0) (n := (29 : Int).toNat) (fun j σ H4 => ∃ (v : V) (y16 : Option V), σ = [some (.ref a), some (.ref b), some (.ref po), y3, y4, y5, y6, y7, y8, y9, y10, y11, y12, y13, y14, some v, y16] ∧ (∃ t, Is K b H4 v t ∧ isStrT t = false) ∧ Mv [] H3 H4)
        ⟨_, _, rfl, ⟨.int 0, rfl, rfl⟩, .refl⟩ (fun j σ H4 hj h4 => ?_) (fun σ H4 h4 => ?_)
      · obtain ⟨v, y16, rfl, _, m4'⟩ := h4
        refine ⟨v, rfl, (by decide : 1 ≤ sizeLine), fun p5' n5' => ?_⟩
        exact ⟨_, _, rfl, ⟨.lst, ⟨p5', _, rfl, (hB3.mv m4').fneq n5', upd_same⟩, rfl⟩, m4'.trans (.new n5')⟩
      · obtain ⟨v, y16, rfl, ⟨t, hv, ht⟩, m4'⟩ := h4
        refine ⟨v, rfl, (by decide : 1 ≤ sizeLine), fun p5' n5' => ?_⟩
        have k5' := Mv.new (S := []) (o := .lst [.non]) n5'
        have e5' : upd H4 p5' (.lst [.non]) p5' = some (.lst [.non]) := upd_same
        generalize upd H4 p5' (.lst [.non]) = H5' at k5' e5' ⊢
        refine Or.inr ⟨p5', 19990, _, rfl, rfl, e5', by decide, by decide, (by decide : 1 * 19990 ≤ sizeLine), fun p6' n6' => ?_⟩
        generalize (List.replicate (19990 : Int).toNat [V.non]).flatten = big
        have k6' := Mv.new (S := []) (o := .lst big) n6'
        have e6' : upd H5' p6' (.lst big) p6' = some (.lst big) := upd_same
        generalize upd H5' p6' (.lst big) = H6' at k6' e6' ⊢
        refine ⟨(by decide : 2 ≤ sizeLine), fun p7' n7' => ⟨p7', rfl, ?_⟩⟩
        have k7' := Mv.new (S := []) (o := .tup [v, .ref p6']) n7'
        have e7' : SqT K (upd H6' p7' (.tup [v, .ref p6'])) p7' [v, .ref p6'] := .inl (.inl upd_same)
        generalize upd H6' p7' (.tup [v, .ref p6']) = H7' at k7' e7' ⊢
        have m37 : Mv [] H3 H7' := m4'.trans (k5'.trans (k6'.trans k7'))
        have hth : ∀ x ∈ [v, .ref p6'], ∃ t, Is K b H7' x t ∧ isStrT t = false := by
          intro x hx
          simp only [List.mem_cons, List.not_mem_nil, or_false] at hx
          rcases hx with rfl | rfl
          · exact ⟨t, hv.mv0 (k5'.trans (k6'.trans k7')), ht⟩
          · exact ⟨.lst, ⟨p6', _, rfl, ((hB3.mv m4').mv k5').fneq n6', k7'.same _ _ e6'⟩, rfl⟩
        refine for_seq (.inr e7') (fun j σ H8 => ∃ (y5 y12 : Option V), σ = [some (.ref a), some (.ref b), some (.ref po), y3, y4, y5, y6, y7, y8, y9, y10, y11, y12, y13, y14, some v, y16] ∧ Mv [] H7' H8)
          ⟨_, _, rfl, .refl⟩ (fun j σ H8 h8 => let ⟨_, _, _, m⟩ := h8; m) (fun j x σ H8 hx h8 => ?_) (fun σ H8 h8 => ?_)
        · obtain ⟨y5, y12, rfl, m8'⟩ := h8
          obtain ⟨t', hx1, hx2⟩ := hth x (List.mem_of_getElem? hx)
          refine ⟨(by decide : 2 ≤ sizeLine), fun p9' n9' => ⟨p9', rfl, ?_⟩⟩
          have k9' := Mv.new (S := []) (o := .tup [.int 0, .int 1]) n9'
          have e9' : SqT K (upd H8 p9' (.tup [.int 0, .int 1])) p9' [.int 0, .int 1] := .inl (.inl upd_same)
          generalize upd H8 p9' (.tup [.int 0, .int 1]) = H9' at k9' e9' ⊢
          refine lc_seq (xs := [.int 0, .int 1]) (.inr e9') (fun i D H1 => ∃ ys, H1 D = some (.lst ys) ∧ ys.length = i ∧ (∀ y ∈ ys, ∃ p, y = .ref p ∧ p ≠ D ∧ H1 p = some (.lst [])) ∧ Mv [] H9' H1)
            (fun D nD => ⟨[], upd_same, rfl, (fun _ h => by cases h), .new nD⟩) (fun i D H1 nD h1 => let ⟨_, _, _, _, m⟩ := h1; m) (fun D nD i z H1 hz h1 => ?_) (fun D H1 nD h1 => ?_)
          · obtain ⟨ys, f1, f2, f3, f4⟩ := h1
            obtain ⟨way, rfl, hway⟩ : ∃ way : Int, z = .int way ∧ (way = 0 ∨ way = 1) := by
              match i, hz with
              | 0, hz => cases hz; exact ⟨0, rfl, .inl rfl⟩
              | 1, hz => cases hz; exact ⟨1, rfl, .inr rfl⟩
            have hi : i < 2 := (List.getElem?_eq_some_iff.mp hz).1
            refine ⟨rfl, .int way, rfl, x, rfl, b, way, x, none, rfl, hway, .odd (hx1.mv0 (m8'.trans (k9'.trans f4))) hx2, few_none, fun p10' xs10 H10' n10' m10' e10' i10' => ?_⟩
            rw [toldD_none] at i10'
            cases i10'.nilD
            have f1' := m10'.same _ _ f1
            refine ⟨ys, f1', line5lt (by omega), ys ++ [.ref p10'], upd_same, by simp [f2], fun y hy => ?_, (f4.trans m10').wr nD⟩
            have hpD : p10' ≠ D := fun e => by rw [e, f1] at n10'; cases n10'
            rcases List.mem_append.mp hy with hy | hy
            · obtain ⟨p, r1, r2, r3⟩ := f3 y hy
              exact ⟨p, r1, r2, by rw [upd_ne r2]; exact m10'.same _ _ r3⟩
            · rw [List.mem_singleton.mp hy]
              exact ⟨p10', rfl, hpD, by rw [upd_ne hpD]; exact e10'⟩
          · obtain ⟨ys, f1, f2, f3, f4⟩ := h1
            obtain ⟨u0, u1, rfl⟩ : ∃ u0 u1, ys = [u0, u1] := by
              match ys, f2 with
              | [u0, u1], _ => exact ⟨u0, u1, rfl⟩
            obtain ⟨r0, rfl, _, s0⟩ := f3 u0 (by simp)
            obtain ⟨r1, rfl, _, s1⟩ := f3 u1 (by simp)
            refine ⟨Nat.zero_le _, fun p11' n11' => ⟨Nat.zero_le _, fun p12' n12' => ⟨(by decide : 2 ≤ sizeLine), fun p13' n13' => ?_⟩⟩⟩
            have k11 := Mv.new (S := []) (o := .lst []) n11'
            have k12 := Mv.new (S := []) (o := .lst []) n12'
            have k13 := Mv.new (S := []) (o := .lst [.ref p11', .ref p12']) n13'
            have kk := k11.trans (k12.trans k13)
            refine Or.inr ⟨.list [.list [], .list []], .list [.list [], .list []], .lst (.inl (.inl (kk.same _ _ f1))) (DpAll.cons (.lst (.inl (.inl (kk.same _ _ s0))) .nil) (DpAll.cons (.lst (.inl (.inl (kk.same _ _ s1))) .nil) .nil)), .lst (.inl (.inl upd_same)) (DpAll.cons (.lst (.inl (.inl ((k12.trans k13).same _ _ upd_same))) .nil) (DpAll.cons (.lst (.inl (.inl (k13.same _ _ upd_same))) .nil) .nil)), ll_sh, ll_sh, ?_⟩
            refine ⟨false, rfl, ?_⟩
            exact ⟨_, _, rfl, m8'.trans (k9'.trans (f4.trans kk))⟩
        · obtain ⟨y5, y12, rfl, m8'⟩ := h8
          refine ⟨rfl, fun H10 m10' => ⟨true, rfl, ?_⟩⟩
          refine ⟨rfl, fun H11 m11' => ?_⟩
          exact q _
end
end Fm
namespace Fm
open PySem PySem.Spec PyProof.Rows L2 SlX
section
variable {l : PySem.W.OpenLaw} {w : World} {K : PySem.W.Frag} {mg : Str → Option Value} {fa : Addr}
theorem all_mk {h : Heap} (X : K.In h) (G : h.Ns mainGlobals mg) (hfa : mg "law" = some (.ref fa))
    {f0 : Addr} {od0 an0 : Option Addr} {sl0 : Array (Option Value)} {oc0 kV0 dc0 pm0 cd0 ct0 : Value}
    (a0 : PySem.W.nsIn K mainGlobals "_wall" = some (some (.ref f0))) (l0 : K.lookup f0 = some ⟨oc0, od0, .func (PySem.W.fnOf "_wall" "_wall" (defArgs s__wall) (defBody s__wall) (defScope s__wall) .none kV0 dc0 pm0 an0 cd0 ct0), sl0⟩) (c0 : PySem.W.codeIn K cd0 "_wall" = true) (k0 : PySem.W.keepIn K (.ref f0) = true)
    {f1 : Addr} {od1 an1 : Option Addr} {sl1 : Array (Option Value)} {oc1 kV1 dc1 pm1 cd1 ct1 : Value}
    (a1 : PySem.W.nsIn K mainGlobals "is_integer" = some (some (.ref f1))) (l1 : K.lookup f1 = some ⟨oc1, od1, .func (PySem.W.fnOf "is_integer" "is_integer" (defArgs s_is_integer) (defBody s_is_integer) (defScope s_is_integer) .none kV1 dc1 pm1 an1 cd1 ct1), sl1⟩) (c1 : PySem.W.codeIn K cd1 "is_integer" = true) (k1 : PySem.W.keepIn K (.ref f1) = true)
    {f2 : Addr} {od2 an2 : Option Addr} {sl2 : Array (Option Value)} {oc2 kV2 dc2 pm2 cd2 ct2 : Value}
    (a2 : PySem.W.nsIn K mainGlobals "is_name" = some (some (.ref f2))) (l2 : K.lookup f2 = some ⟨oc2, od2, .func (PySem.W.fnOf "is_name" "is_name" (defArgs s_is_name) (defBody s_is_name) (defScope s_is_name) .none kV2 dc2 pm2 an2 cd2 ct2), sl2⟩) (c2 : PySem.W.codeIn K cd2 "is_name" = true) (k2 : PySem.W.keepIn K (.ref f2) = true)
    {f3 : Addr} {od3 an3 : Option Addr} {sl3 : Array (Option Value)} {oc3 kV3 dc3 pm3 cd3 ct3 : Value}
    (a3 : PySem.W.nsIn K mainGlobals "is_term" = some (some (.ref f3))) (l3 : K.lookup f3 = some ⟨oc3, od3, .func (PySem.W.fnOf "is_term" "is_term" (defArgs s_is_term) (defBody s_is_term) (defScope s_is_term) .none kV3 dc3 pm3 an3 cd3 ct3), sl3⟩) (c3 : PySem.W.codeIn K cd3 "is_term" = true) (k3 : PySem.W.keepIn K (.ref f3) = true)
    {f4 : Addr} {od4 an4 : Option Addr} {sl4 : Array (Option Value)} {oc4 kV4 dc4 pm4 cd4 ct4 : Value}
    (a4 : PySem.W.nsIn K mainGlobals "is_term_over" = some (some (.ref f4))) (l4 : K.lookup f4 = some ⟨oc4, od4, .func (PySem.W.fnOf "is_term_over" "is_term_over" (defArgs s_is_term_over) (defBody s_is_term_over) (defScope s_is_term_over) .none kV4 dc4 pm4 an4 cd4 ct4), sl4⟩) (c4 : PySem.W.codeIn K cd4 "is_term_over" = true) (k4 : PySem.W.keepIn K (.ref f4) = true)
    {f5 : Addr} {od5 an5 : Option Addr} {sl5 : Array (Option Value)} {oc5 kV5 dc5 pm5 cd5 ct5 : Value}
    (a5 : PySem.W.nsIn K mainGlobals "put" = some (some (.ref f5))) (l5 : K.lookup f5 = some ⟨oc5, od5, .func (PySem.W.fnOf "put" "put" (defArgs s_put) (defBody s_put) (defScope s_put) .none kV5 dc5 pm5 an5 cd5 ct5), sl5⟩) (c5 : PySem.W.codeIn K cd5 "put" = true) (k5 : PySem.W.keepIn K (.ref f5) = true)
    {f6 : Addr} {od6 an6 : Option Addr} {sl6 : Array (Option Value)} {oc6 kV6 dc6 pm6 cd6 ct6 : Value}
    (a6 : PySem.W.nsIn K mainGlobals "put_all" = some (some (.ref f6))) (l6 : K.lookup f6 = some ⟨oc6, od6, .func (PySem.W.fnOf "put_all" "put_all" (defArgs s_put_all) (defBody s_put_all) (defScope s_put_all) .none kV6 dc6 pm6 an6 cd6 ct6), sl6⟩) (c6 : PySem.W.codeIn K cd6 "put_all" = true) (k6 : PySem.W.keepIn K (.ref f6) = true)
    {f7 : Addr} {od7 an7 : Option Addr} {sl7 : Array (Option Value)} {oc7 kV7 dc7 pm7 cd7 ct7 : Value}
    (a7 : PySem.W.nsIn K mainGlobals "size" = some (some (.ref f7))) (l7 : K.lookup f7 = some ⟨oc7, od7, .func (PySem.W.fnOf "size" "size" (defArgs s_size) (defBody s_size) (defScope s_size) .none kV7 dc7 pm7 an7 cd7 ct7), sl7⟩) (c7 : PySem.W.codeIn K cd7 "size" = true) (k7 : PySem.W.keepIn K (.ref f7) = true)
    {f8 : Addr} {od8 an8 : Option Addr} {sl8 : Array (Option Value)} {oc8 kV8 dc8 pm8 cd8 ct8 : Value}
    (a8 : PySem.W.nsIn K mainGlobals "is_move" = some (some (.ref f8))) (l8 : K.lookup f8 = some ⟨oc8, od8, .func (PySem.W.fnOf "is_move" "is_move" (defArgs s_is_move) (defBody s_is_move) (defScope s_is_move) .none kV8 dc8 pm8 an8 cd8 ct8), sl8⟩) (c8 : PySem.W.codeIn K cd8 "is_move" = true) (k8 : PySem.W.keepIn K (.ref f8) = true)
    {f9 : Addr} {od9 an9 : Option Addr} {sl9 : Array (Option Value)} {oc9 kV9 dc9 pm9 cd9 ct9 : Value}
    (a9 : PySem.W.nsIn K mainGlobals "need" = some (some (.ref f9))) (l9 : K.lookup f9 = some ⟨oc9, od9, .func (PySem.W.fnOf "need" "need" (defArgs s_need) (defBody s_need) (defScope s_need) .none kV9 dc9 pm9 an9 cd9 ct9), sl9⟩) (c9 : PySem.W.codeIn K cd9 "need" = true) (k9 : PySem.W.keepIn K (.ref f9) = true)
    {f10 : Addr} {od10 an10 : Option Addr} {sl10 : Array (Option Value)} {oc10 kV10 dc10 pm10 cd10 ct10 : Value}
    (a10 : PySem.W.nsIn K mainGlobals "listed" = some (some (.ref f10))) (l10 : K.lookup f10 = some ⟨oc10, od10, .func (PySem.W.fnOf "listed" "listed" (defArgs s_listed) (defBody s_listed) (defScope s_listed) .none kV10 dc10 pm10 an10 cd10 ct10), sl10⟩) (c10 : PySem.W.codeIn K cd10 "listed" = true) (k10 : PySem.W.keepIn K (.ref f10) = true)
    {f11 : Addr} {od11 an11 : Option Addr} {sl11 : Array (Option Value)} {oc11 kV11 dc11 pm11 cd11 ct11 : Value}
    (a11 : PySem.W.nsIn K mainGlobals "show_term" = some (some (.ref f11))) (l11 : K.lookup f11 = some ⟨oc11, od11, .func (PySem.W.fnOf "show_term" "show_term" (defArgs s_show_term) (defBody s_show_term) (defScope s_show_term) .none kV11 dc11 pm11 an11 cd11 ct11), sl11⟩) (c11 : PySem.W.codeIn K cd11 "show_term" = true) (k11 : PySem.W.keepIn K (.ref f11) = true)
    {f12 : Addr} {od12 an12 : Option Addr} {sl12 : Array (Option Value)} {oc12 kV12 dc12 pm12 cd12 ct12 : Value}
    (a12 : PySem.W.nsIn K mainGlobals "read_integer" = some (some (.ref f12))) (l12 : K.lookup f12 = some ⟨oc12, od12, .func (PySem.W.fnOf "read_integer" "read_integer" (defArgs s_read_integer) (defBody s_read_integer) (defScope s_read_integer) .none kV12 dc12 pm12 an12 cd12 ct12), sl12⟩) (c12 : PySem.W.codeIn K cd12 "read_integer" = true) (k12 : PySem.W.keepIn K (.ref f12) = true)
    {f13 : Addr} {od13 an13 : Option Addr} {sl13 : Array (Option Value)} {oc13 kV13 dc13 pm13 cd13 ct13 : Value}
    (a13 : PySem.W.nsIn K mainGlobals "tokens_of" = some (some (.ref f13))) (l13 : K.lookup f13 = some ⟨oc13, od13, .func (PySem.W.fnOf "tokens_of" "tokens_of" (defArgs s_tokens_of) (defBody s_tokens_of) (defScope s_tokens_of) .none kV13 dc13 pm13 an13 cd13 ct13), sl13⟩) (c13 : PySem.W.codeIn K cd13 "tokens_of" = true) (k13 : PySem.W.keepIn K (.ref f13) = true)
    {f14 : Addr} {od14 an14 : Option Addr} {sl14 : Array (Option Value)} {oc14 kV14 dc14 pm14 cd14 ct14 : Value}
    (a14 : PySem.W.nsIn K mainGlobals "leaf" = some (some (.ref f14))) (l14 : K.lookup f14 = some ⟨oc14, od14, .func (PySem.W.fnOf "leaf" "leaf" (defArgs s_leaf) (defBody s_leaf) (defScope s_leaf) .none kV14 dc14 pm14 an14 cd14 ct14), sl14⟩) (c14 : PySem.W.codeIn K cd14 "leaf" = true) (k14 : PySem.W.keepIn K (.ref f14) = true)
    {f15 : Addr} {od15 an15 : Option Addr} {sl15 : Array (Option Value)} {oc15 kV15 dc15 pm15 cd15 ct15 : Value}
    (a15 : PySem.W.nsIn K mainGlobals "parsed" = some (some (.ref f15))) (l15 : K.lookup f15 = some ⟨oc15, od15, .func (PySem.W.fnOf "parsed" "parsed" (defArgs s_parsed) (defBody s_parsed) (defScope s_parsed) .none kV15 dc15 pm15 an15 cd15 ct15), sl15⟩) (c15 : PySem.W.codeIn K cd15 "parsed" = true) (k15 : PySem.W.keepIn K (.ref f15) = true)
    {f16 : Addr} {od16 an16 : Option Addr} {sl16 : Array (Option Value)} {oc16 kV16 dc16 pm16 cd16 ct16 : Value}
    (a16 : PySem.W.nsIn K mainGlobals "need_term" = some (some (.ref f16))) (l16 : K.lookup f16 = some ⟨oc16, od16, .func (PySem.W.fnOf "need_term" "need_term" (defArgs s_need_term) (defBody s_need_term) (defScope s_need_term) .none kV16 dc16 pm16 an16 cd16 ct16), sl16⟩) (c16 : PySem.W.codeIn K cd16 "need_term" = true) (k16 : PySem.W.keepIn K (.ref f16) = true)
    {f17 : Addr} {od17 an17 : Option Addr} {sl17 : Array (Option Value)} {oc17 kV17 dc17 pm17 cd17 ct17 : Value}
    (a17 : PySem.W.nsIn K mainGlobals "read_term" = some (some (.ref f17))) (l17 : K.lookup f17 = some ⟨oc17, od17, .func (PySem.W.fnOf "read_term" "read_term" (defArgs s_read_term) (defBody s_read_term) (defScope s_read_term) .none kV17 dc17 pm17 an17 cd17 ct17), sl17⟩) (c17 : PySem.W.codeIn K cd17 "read_term" = true) (k17 : PySem.W.keepIn K (.ref f17) = true)
    {f18 : Addr} {od18 an18 : Option Addr} {sl18 : Array (Option Value)} {oc18 kV18 dc18 pm18 cd18 ct18 : Value}
    (a18 : PySem.W.nsIn K mainGlobals "read_listed" = some (some (.ref f18))) (l18 : K.lookup f18 = some ⟨oc18, od18, .func (PySem.W.fnOf "read_listed" "read_listed" (defArgs s_read_listed) (defBody s_read_listed) (defScope s_read_listed) .none kV18 dc18 pm18 an18 cd18 ct18), sl18⟩) (c18 : PySem.W.codeIn K cd18 "read_listed" = true) (k18 : PySem.W.keepIn K (.ref f18) = true)
    {f19 : Addr} {od19 an19 : Option Addr} {sl19 : Array (Option Value)} {oc19 kV19 dc19 pm19 cd19 ct19 : Value}
    (a19 : PySem.W.nsIn K mainGlobals "read_move" = some (some (.ref f19))) (l19 : K.lookup f19 = some ⟨oc19, od19, .func (PySem.W.fnOf "read_move" "read_move" (defArgs s_read_move) (defBody s_read_move) (defScope s_read_move) .none kV19 dc19 pm19 an19 cd19 ct19), sl19⟩) (c19 : PySem.W.codeIn K cd19 "read_move" = true) (k19 : PySem.W.keepIn K (.ref f19) = true)
    {f20 : Addr} {od20 an20 : Option Addr} {sl20 : Array (Option Value)} {oc20 kV20 dc20 pm20 cd20 ct20 : Value}
    (a20 : PySem.W.nsIn K mainGlobals "_law_bag" = some (some (.ref f20))) (l20 : K.lookup f20 = some ⟨oc20, od20, .func (PySem.W.fnOf "_law_bag" "_law_bag" (defArgs s__law_bag) (defBody s__law_bag) (defScope s__law_bag) .none kV20 dc20 pm20 an20 cd20 ct20), sl20⟩) (c20 : PySem.W.codeIn K cd20 "_law_bag" = true) (k20 : PySem.W.keepIn K (.ref f20) = true)
    {f21 : Addr} {od21 an21 : Option Addr} {sl21 : Array (Option Value)} {oc21 kV21 dc21 pm21 cd21 ct21 : Value}
    (a21 : PySem.W.nsIn K mainGlobals "_law_take" = some (some (.ref f21))) (l21 : K.lookup f21 = some ⟨oc21, od21, .func (PySem.W.fnOf "_law_take" "_law_take" (defArgs s__law_take) (defBody s__law_take) (defScope s__law_take) .none kV21 dc21 pm21 an21 cd21 ct21), sl21⟩) (c21 : PySem.W.codeIn K cd21 "_law_take" = true) (k21 : PySem.W.keepIn K (.ref f21) = true)
    {f22 : Addr} {od22 an22 : Option Addr} {sl22 : Array (Option Value)} {oc22 kV22 dc22 pm22 cd22 ct22 : Value}
    (a22 : PySem.W.nsIn K mainGlobals "_law_alike" = some (some (.ref f22))) (l22 : K.lookup f22 = some ⟨oc22, od22, .func (PySem.W.fnOf "_law_alike" "_law_alike" (defArgs s__law_alike) (defBody s__law_alike) (defScope s__law_alike) .none kV22 dc22 pm22 an22 cd22 ct22), sl22⟩) (c22 : PySem.W.codeIn K cd22 "_law_alike" = true) (k22 : PySem.W.keepIn K (.ref f22) = true)
    {f23 : Addr} {od23 an23 : Option Addr} {sl23 : Array (Option Value)} {oc23 kV23 dc23 pm23 cd23 ct23 : Value}
    (a23 : PySem.W.nsIn K mainGlobals "_law_names" = some (some (.ref f23))) (l23 : K.lookup f23 = some ⟨oc23, od23, .func (PySem.W.fnOf "_law_names" "_law_names" (defArgs s__law_names) (defBody s__law_names) (defScope s__law_names) .none kV23 dc23 pm23 an23 cd23 ct23), sl23⟩) (c23 : PySem.W.codeIn K cd23 "_law_names" = true) (k23 : PySem.W.keepIn K (.ref f23) = true)
    {f24 : Addr} {od24 an24 : Option Addr} {sl24 : Array (Option Value)} {oc24 kV24 dc24 pm24 cd24 ct24 : Value}
    (a24 : PySem.W.nsIn K mainGlobals "_law_term" = some (some (.ref f24))) (l24 : K.lookup f24 = some ⟨oc24, od24, .func (PySem.W.fnOf "_law_term" "_law_term" (defArgs s__law_term) (defBody s__law_term) (defScope s__law_term) .none kV24 dc24 pm24 an24 cd24 ct24), sl24⟩) (c24 : PySem.W.codeIn K cd24 "_law_term" = true) (k24 : PySem.W.keepIn K (.ref f24) = true)
    {f25 : Addr} {od25 an25 : Option Addr} {sl25 : Array (Option Value)} {oc25 kV25 dc25 pm25 cd25 ct25 : Value}
    (a25 : PySem.W.nsIn K mainGlobals "_law_size" = some (some (.ref f25))) (l25 : K.lookup f25 = some ⟨oc25, od25, .func (PySem.W.fnOf "_law_size" "_law_size" (defArgs s__law_size) (defBody s__law_size) (defScope s__law_size) .none kV25 dc25 pm25 an25 cd25 ct25), sl25⟩) (c25 : PySem.W.codeIn K cd25 "_law_size" = true) (k25 : PySem.W.keepIn K (.ref f25) = true)
    {f26 : Addr} {od26 an26 : Option Addr} {sl26 : Array (Option Value)} {oc26 kV26 dc26 pm26 cd26 ct26 : Value}
    (a26 : PySem.W.nsIn K mainGlobals "_law_is_whole" = some (some (.ref f26))) (l26 : K.lookup f26 = some ⟨oc26, od26, .func (PySem.W.fnOf "_law_is_whole" "_law_is_whole" (defArgs s__law_is_whole) (defBody s__law_is_whole) (defScope s__law_is_whole) .none kV26 dc26 pm26 an26 cd26 ct26), sl26⟩) (c26 : PySem.W.codeIn K cd26 "_law_is_whole" = true) (k26 : PySem.W.keepIn K (.ref f26) = true)
    {f27 : Addr} {od27 an27 : Option Addr} {sl27 : Array (Option Value)} {oc27 kV27 dc27 pm27 cd27 ct27 : Value}
    (a27 : PySem.W.nsIn K mainGlobals "_law_is_word" = some (some (.ref f27))) (l27 : K.lookup f27 = some ⟨oc27, od27, .func (PySem.W.fnOf "_law_is_word" "_law_is_word" (defArgs s__law_is_word) (defBody s__law_is_word) (defScope s__law_is_word) .none kV27 dc27 pm27 an27 cd27 ct27), sl27⟩) (c27 : PySem.W.codeIn K cd27 "_law_is_word" = true) (k27 : PySem.W.keepIn K (.ref f27) = true)
    {f28 : Addr} {od28 an28 : Option Addr} {sl28 : Array (Option Value)} {oc28 kV28 dc28 pm28 cd28 ct28 : Value}
    (a28 : PySem.W.nsIn K mainGlobals "_law_is_term" = some (some (.ref f28))) (l28 : K.lookup f28 = some ⟨oc28, od28, .func (PySem.W.fnOf "_law_is_term" "_law_is_term" (defArgs s__law_is_term) (defBody s__law_is_term) (defScope s__law_is_term) .none kV28 dc28 pm28 an28 cd28 ct28), sl28⟩) (c28 : PySem.W.codeIn K cd28 "_law_is_term" = true) (k28 : PySem.W.keepIn K (.ref f28) = true)
    {f29 : Addr} {od29 an29 : Option Addr} {sl29 : Array (Option Value)} {oc29 kV29 dc29 pm29 cd29 ct29 : Value}
    (a29 : PySem.W.nsIn K mainGlobals "_law_are_terms" = some (some (.ref f29))) (l29 : K.lookup f29 = some ⟨oc29, od29, .func (PySem.W.fnOf "_law_are_terms" "_law_are_terms" (defArgs s__law_are_terms) (defBody s__law_are_terms) (defScope s__law_are_terms) .none kV29 dc29 pm29 an29 cd29 ct29), sl29⟩) (c29 : PySem.W.codeIn K cd29 "_law_are_terms" = true) (k29 : PySem.W.keepIn K (.ref f29) = true)
    {f30 : Addr} {od30 an30 : Option Addr} {sl30 : Array (Option Value)} {oc30 kV30 dc30 pm30 cd30 ct30 : Value}
    (a30 : PySem.W.nsIn K mainGlobals "_law_term_text" = some (some (.ref f30))) (l30 : K.lookup f30 = some ⟨oc30, od30, .func (PySem.W.fnOf "_law_term_text" "_law_term_text" (defArgs s__law_term_text) (defBody s__law_term_text) (defScope s__law_term_text) .none kV30 dc30 pm30 an30 cd30 ct30), sl30⟩) (c30 : PySem.W.codeIn K cd30 "_law_term_text" = true) (k30 : PySem.W.keepIn K (.ref f30) = true)
    {f31 : Addr} {od31 an31 : Option Addr} {sl31 : Array (Option Value)} {oc31 kV31 dc31 pm31 cd31 ct31 : Value}
    (a31 : PySem.W.nsIn K mainGlobals "_law_listed_text" = some (some (.ref f31))) (l31 : K.lookup f31 = some ⟨oc31, od31, .func (PySem.W.fnOf "_law_listed_text" "_law_listed_text" (defArgs s__law_listed_text) (defBody s__law_listed_text) (defScope s__law_listed_text) .none kV31 dc31 pm31 an31 cd31 ct31), sl31⟩) (c31 : PySem.W.codeIn K cd31 "_law_listed_text" = true) (k31 : PySem.W.keepIn K (.ref f31) = true)
    {f32 : Addr} {od32 an32 : Option Addr} {sl32 : Array (Option Value)} {oc32 kV32 dc32 pm32 cd32 ct32 : Value}
    (a32 : PySem.W.nsIn K mainGlobals "_law_move_text" = some (some (.ref f32))) (l32 : K.lookup f32 = some ⟨oc32, od32, .func (PySem.W.fnOf "_law_move_text" "_law_move_text" (defArgs s__law_move_text) (defBody s__law_move_text) (defScope s__law_move_text) .none kV32 dc32 pm32 an32 cd32 ct32), sl32⟩) (c32 : PySem.W.codeIn K cd32 "_law_move_text" = true) (k32 : PySem.W.keepIn K (.ref f32) = true)
    {f33 : Addr} {od33 an33 : Option Addr} {sl33 : Array (Option Value)} {oc33 kV33 dc33 pm33 cd33 ct33 : Value}
    (a33 : PySem.W.nsIn K mainGlobals "_law_read_number" = some (some (.ref f33))) (l33 : K.lookup f33 = some ⟨oc33, od33, .func (PySem.W.fnOf "_law_read_number" "_law_read_number" (defArgs s__law_read_number) (defBody s__law_read_number) (defScope s__law_read_number) .none kV33 dc33 pm33 an33 cd33 ct33), sl33⟩) (c33 : PySem.W.codeIn K cd33 "_law_read_number" = true) (k33 : PySem.W.keepIn K (.ref f33) = true)
    {f34 : Addr} {od34 an34 : Option Addr} {sl34 : Array (Option Value)} {oc34 kV34 dc34 pm34 cd34 ct34 : Value}
    (a34 : PySem.W.nsIn K mainGlobals "_law_cut_word" = some (some (.ref f34))) (l34 : K.lookup f34 = some ⟨oc34, od34, .func (PySem.W.fnOf "_law_cut_word" "_law_cut_word" (defArgs s__law_cut_word) (defBody s__law_cut_word) (defScope s__law_cut_word) .none kV34 dc34 pm34 an34 cd34 ct34), sl34⟩) (c34 : PySem.W.codeIn K cd34 "_law_cut_word" = true) (k34 : PySem.W.keepIn K (.ref f34) = true)
    {f35 : Addr} {od35 an35 : Option Addr} {sl35 : Array (Option Value)} {oc35 kV35 dc35 pm35 cd35 ct35 : Value}
    (a35 : PySem.W.nsIn K mainGlobals "_law_read_at" = some (some (.ref f35))) (l35 : K.lookup f35 = some ⟨oc35, od35, .func (PySem.W.fnOf "_law_read_at" "_law_read_at" (defArgs s__law_read_at) (defBody s__law_read_at) (defScope s__law_read_at) .none kV35 dc35 pm35 an35 cd35 ct35), sl35⟩) (c35 : PySem.W.codeIn K cd35 "_law_read_at" = true) (k35 : PySem.W.keepIn K (.ref f35) = true)
    {f36 : Addr} {od36 an36 : Option Addr} {sl36 : Array (Option Value)} {oc36 kV36 dc36 pm36 cd36 ct36 : Value}
    (a36 : PySem.W.nsIn K mainGlobals "_law_read_parts" = some (some (.ref f36))) (l36 : K.lookup f36 = some ⟨oc36, od36, .func (PySem.W.fnOf "_law_read_parts" "_law_read_parts" (defArgs s__law_read_parts) (defBody s__law_read_parts) (defScope s__law_read_parts) .none kV36 dc36 pm36 an36 cd36 ct36), sl36⟩) (c36 : PySem.W.codeIn K cd36 "_law_read_parts" = true) (k36 : PySem.W.keepIn K (.ref f36) = true)
    {f37 : Addr} {od37 an37 : Option Addr} {sl37 : Array (Option Value)} {oc37 kV37 dc37 pm37 cd37 ct37 : Value}
    (a37 : PySem.W.nsIn K mainGlobals "_law_read_term" = some (some (.ref f37))) (l37 : K.lookup f37 = some ⟨oc37, od37, .func (PySem.W.fnOf "_law_read_term" "_law_read_term" (defArgs s__law_read_term) (defBody s__law_read_term) (defScope s__law_read_term) .none kV37 dc37 pm37 an37 cd37 ct37), sl37⟩) (c37 : PySem.W.codeIn K cd37 "_law_read_term" = true) (k37 : PySem.W.keepIn K (.ref f37) = true)
    {f38 : Addr} {od38 an38 : Option Addr} {sl38 : Array (Option Value)} {oc38 kV38 dc38 pm38 cd38 ct38 : Value}
    (a38 : PySem.W.nsIn K mainGlobals "_law_read_listed" = some (some (.ref f38))) (l38 : K.lookup f38 = some ⟨oc38, od38, .func (PySem.W.fnOf "_law_read_listed" "_law_read_listed" (defArgs s__law_read_listed) (defBody s__law_read_listed) (defScope s__law_read_listed) .none kV38 dc38 pm38 an38 cd38 ct38), sl38⟩) (c38 : PySem.W.codeIn K cd38 "_law_read_listed" = true) (k38 : PySem.W.keepIn K (.ref f38) = true)
    {f39 : Addr} {od39 an39 : Option Addr} {sl39 : Array (Option Value)} {oc39 kV39 dc39 pm39 cd39 ct39 : Value}
    (a39 : PySem.W.nsIn K mainGlobals "_law_read_move" = some (some (.ref f39))) (l39 : K.lookup f39 = some ⟨oc39, od39, .func (PySem.W.fnOf "_law_read_move" "_law_read_move" (defArgs s__law_read_move) (defBody s__law_read_move) (defScope s__law_read_move) .none kV39 dc39 pm39 an39 cd39 ct39), sl39⟩) (c39 : PySem.W.codeIn K cd39 "_law_read_move" = true) (k39 : PySem.W.keepIn K (.ref f39) = true)
    {f40 : Addr} {od40 an40 : Option Addr} {sl40 : Array (Option Value)} {oc40 kV40 dc40 pm40 cd40 ct40 : Value}
    (a40 : PySem.W.nsIn K mainGlobals "_law_told" = some (some (.ref f40))) (l40 : K.lookup f40 = some ⟨oc40, od40, .func (PySem.W.fnOf "_law_told" "_law_told" (defArgs s__law_told) (defBody s__law_told) (defScope s__law_told) .none kV40 dc40 pm40 an40 cd40 ct40), sl40⟩) (c40 : PySem.W.codeIn K cd40 "_law_told" = true) (k40 : PySem.W.keepIn K (.ref f40) = true)
    {f41 : Addr} {od41 an41 : Option Addr} {sl41 : Array (Option Value)} {oc41 kV41 dc41 pm41 cd41 ct41 : Value}
    (a41 : PySem.W.nsIn K mainGlobals "_law_bent" = some (some (.ref f41))) (l41 : K.lookup f41 = some ⟨oc41, od41, .func (PySem.W.fnOf "_law_bent" "_law_bent" (defArgs s__law_bent) (defBody s__law_bent) (defScope s__law_bent) .none kV41 dc41 pm41 an41 cd41 ct41), sl41⟩) (c41 : PySem.W.codeIn K cd41 "_law_bent" = true) (k41 : PySem.W.keepIn K (.ref f41) = true)
    {f42 : Addr} {od42 an42 : Option Addr} {sl42 : Array (Option Value)} {oc42 kV42 dc42 pm42 cd42 ct42 : Value}
    (a42 : PySem.W.nsIn K mainGlobals "_law_chain" = some (some (.ref f42))) (l42 : K.lookup f42 = some ⟨oc42, od42, .func (PySem.W.fnOf "_law_chain" "_law_chain" (defArgs s__law_chain) (defBody s__law_chain) (defScope s__law_chain) .none kV42 dc42 pm42 an42 cd42 ct42), sl42⟩) (c42 : PySem.W.codeIn K cd42 "_law_chain" = true) (k42 : PySem.W.keepIn K (.ref f42) = true)
    {f43 : Addr} {od43 an43 : Option Addr} {sl43 : Array (Option Value)} {oc43 kV43 dc43 pm43 cd43 ct43 : Value}
    (a43 : PySem.W.nsIn K mainGlobals "_law_move_of" = some (some (.ref f43))) (l43 : K.lookup f43 = some ⟨oc43, od43, .func (PySem.W.fnOf "_law_move_of" "_law_move_of" (defArgs s__law_move_of) (defBody s__law_move_of) (defScope s__law_move_of) .none kV43 dc43 pm43 an43 cd43 ct43), sl43⟩) (c43 : PySem.W.codeIn K cd43 "_law_move_of" = true) (k43 : PySem.W.keepIn K (.ref f43) = true)
    {f44 : Addr} {od44 an44 : Option Addr} {sl44 : Array (Option Value)} {oc44 kV44 dc44 pm44 cd44 ct44 : Value}
    (a44 : PySem.W.nsIn K mainGlobals "_law_great_right" = some (some (.ref f44))) (l44 : K.lookup f44 = some ⟨oc44, od44, .func (PySem.W.fnOf "_law_great_right" "_law_great_right" (defArgs s__law_great_right) (defBody s__law_great_right) (defScope s__law_great_right) .none kV44 dc44 pm44 an44 cd44 ct44), sl44⟩) (c44 : PySem.W.codeIn K cd44 "_law_great_right" = true) (k44 : PySem.W.keepIn K (.ref f44) = true)
    {f45 : Addr} {od45 an45 : Option Addr} {sl45 : Array (Option Value)} {oc45 kV45 dc45 pm45 cd45 ct45 : Value}
    (a45 : PySem.W.nsIn K mainGlobals "_law_numbers_refused" = some (some (.ref f45))) (l45 : K.lookup f45 = some ⟨oc45, od45, .func (PySem.W.fnOf "_law_numbers_refused" "_law_numbers_refused" (defArgs s__law_numbers_refused) (defBody s__law_numbers_refused) (defScope s__law_numbers_refused) .none kV45 dc45 pm45 an45 cd45 ct45), sl45⟩) (c45 : PySem.W.codeIn K cd45 "_law_numbers_refused" = true) (k45 : PySem.W.keepIn K (.ref f45) = true)
    {f46 : Addr} {od46 an46 : Option Addr} {sl46 : Array (Option Value)} {oc46 kV46 dc46 pm46 cd46 ct46 : Value}
    (a46 : PySem.W.nsIn K mainGlobals "law" = some (some (.ref f46))) (l46 : K.lookup f46 = some ⟨oc46, od46, .func (PySem.W.fnOf "law" "law" (defArgs s_law) (defBody s_law) (defScope s_law) .none kV46 dc46 pm46 an46 cd46 ct46), sl46⟩) (c46 : PySem.W.codeIn K cd46 "law" = true) (k46 : PySem.W.keepIn K (.ref f46) = true)
    {C_Recipe : Addr}
    (g_Recipe : PySem.W.nsIn K mainGlobals "Recipe" = some (some (.ref C_Recipe)))
    (k_Recipe : PySem.W.keepIn K (.ref C_Recipe) = true)
    (pg_Recipe : PySem.W.plainGet K C_Recipe Str.empty = true)
    (ic_Recipe : PySem.W.isClsIn K C_Recipe = true)
    (po_Recipe : PySem.W.plainOver K C_Recipe = true)
    (sa_Recipe : PySem.W.findIn K (.ref C_Recipe) "__setattr__" = some (some (.builtin "object.__setattr__")))
    (mk_Recipe : PySem.W.makesIn K C_Recipe = true)
    (ca_Recipe : PySem.W.findIn K (.ref C_Recipe) "__class__" = some (some (.builtin "object.__class__")))
    (cn_Recipe : PySem.W.specialIn K (.builtin "object.__class__") "__get__" = some (some (.builtin "getset_descriptor.__get__")))
    (ct_Recipe : PySem.W.takesIn K (.builtin "object.__class__") = some true)
    (cm_Recipe : PySem.W.mroIn K C_Recipe (.type "object") = some true)
    (ne_Recipe : PySem.W.findIn K (.ref C_Recipe) "__ne__" = some (some (.builtin "object.__ne__")))
    (tyc_Recipe : PySem.W.typeIn K (.ref C_Recipe) = some (.type "type"))
    (mul_Recipe : PySem.W.selfFirst K C_Recipe = true)
    (nl_Recipe : PySem.W.subIn K (.ref C_Recipe) (.type "list") = some false)
    (nt_Recipe : PySem.W.subIn K (.ref C_Recipe) (.type "tuple") = some false)
    {p_Recipe_its_terms : Addr}
    (at_Recipe_its_terms : PySem.W.findIn K (.ref C_Recipe) "its_terms" = some (some (.ref p_Recipe_its_terms)))
    (get_Recipe_its_terms : PySem.W.specialIn K (.ref p_Recipe_its_terms) "__get__" = some (some (.builtin "member_descriptor.__get__")))
    (tk_Recipe_its_terms : PySem.W.takesIn K (.ref p_Recipe_its_terms) = some true)
    (ty_Recipe_its_terms : PySem.W.typeIn K (.ref p_Recipe_its_terms) = some (.type "member_descriptor"))
    (ix_Recipe_its_terms : PySem.W.slotIn K p_Recipe_its_terms C_Recipe = some 0)
    {p_Recipe_its_variables : Addr}
    (at_Recipe_its_variables : PySem.W.findIn K (.ref C_Recipe) "its_variables" = some (some (.ref p_Recipe_its_variables)))
    (get_Recipe_its_variables : PySem.W.specialIn K (.ref p_Recipe_its_variables) "__get__" = some (some (.builtin "member_descriptor.__get__")))
    (tk_Recipe_its_variables : PySem.W.takesIn K (.ref p_Recipe_its_variables) = some true)
    (ty_Recipe_its_variables : PySem.W.typeIn K (.ref p_Recipe_its_variables) = some (.type "member_descriptor"))
    (ix_Recipe_its_variables : PySem.W.slotIn K p_Recipe_its_variables C_Recipe = some 1)
    {f_Recipe___init__ : Addr} {od_Recipe___init__ an_Recipe___init__ : Option Addr} {sl_Recipe___init__ : Array (Option Value)} {oc_Recipe___init__ kV_Recipe___init__ dc_Recipe___init__ pm_Recipe___init__ cd_Recipe___init__ cc_Recipe___init__ : Value}
    (am_Recipe___init__ : PySem.W.findIn K (.ref C_Recipe) "__init__" = some (some (.ref f_Recipe___init__)))
    (im_Recipe___init__ : PySem.W.isFn K (.ref f_Recipe___init__) = true)
    (lm_Recipe___init__ : K.lookup f_Recipe___init__ = some ⟨oc_Recipe___init__, od_Recipe___init__, .func (PySem.W.fnOf "__init__" "Recipe.__init__" (defArgs s_Recipe___init__) (defBody s_Recipe___init__) (defScope s_Recipe___init__) .none kV_Recipe___init__ dc_Recipe___init__ pm_Recipe___init__ an_Recipe___init__ cd_Recipe___init__ cc_Recipe___init__), sl_Recipe___init__⟩)
    (co_Recipe___init__ : PySem.W.codeIn K cd_Recipe___init__ "Recipe.__init__" = true)
    (km_Recipe___init__ : PySem.W.keepIn K (.ref f_Recipe___init__) = true)
    {f_Recipe_variables : Addr} {od_Recipe_variables an_Recipe_variables : Option Addr} {sl_Recipe_variables : Array (Option Value)} {oc_Recipe_variables kV_Recipe_variables dc_Recipe_variables pm_Recipe_variables cd_Recipe_variables cc_Recipe_variables : Value}
    {p_Recipe_variables : Addr} {rs_Recipe_variables : List Value}
    (pa_Recipe_variables : PySem.W.findIn K (.ref C_Recipe) "variables" = some (some (.ref p_Recipe_variables)))
    (pg_Recipe_variables : PySem.W.specialIn K (.ref p_Recipe_variables) "__get__" = some (some (.builtin "property.__get__")))
    (pt_Recipe_variables : PySem.W.takesIn K (.ref p_Recipe_variables) = some true)
    (pr_Recipe_variables : PySem.W.recIn K p_Recipe_variables "property" = some (.ref f_Recipe_variables :: rs_Recipe_variables))
    (lm_Recipe_variables : K.lookup f_Recipe_variables = some ⟨oc_Recipe_variables, od_Recipe_variables, .func (PySem.W.fnOf "variables" "Recipe.variables" (defArgs s_Recipe_variables) (defBody s_Recipe_variables) (defScope s_Recipe_variables) .none kV_Recipe_variables dc_Recipe_variables pm_Recipe_variables an_Recipe_variables cd_Recipe_variables cc_Recipe_variables), sl_Recipe_variables⟩)
    (co_Recipe_variables : PySem.W.codeIn K cd_Recipe_variables "Recipe.variables" = true)
    (km_Recipe_variables : PySem.W.keepIn K (.ref f_Recipe_variables) = true)
    {f_Recipe_terms : Addr} {od_Recipe_terms an_Recipe_terms : Option Addr} {sl_Recipe_terms : Array (Option Value)} {oc_Recipe_terms kV_Recipe_terms dc_Recipe_terms pm_Recipe_terms cd_Recipe_terms cc_Recipe_terms : Value}
    {p_Recipe_terms : Addr} {rs_Recipe_terms : List Value}
    (pa_Recipe_terms : PySem.W.findIn K (.ref C_Recipe) "terms" = some (some (.ref p_Recipe_terms)))
    (pg_Recipe_terms : PySem.W.specialIn K (.ref p_Recipe_terms) "__get__" = some (some (.builtin "property.__get__")))
    (pt_Recipe_terms : PySem.W.takesIn K (.ref p_Recipe_terms) = some true)
    (pr_Recipe_terms : PySem.W.recIn K p_Recipe_terms "property" = some (.ref f_Recipe_terms :: rs_Recipe_terms))
    (lm_Recipe_terms : K.lookup f_Recipe_terms = some ⟨oc_Recipe_terms, od_Recipe_terms, .func (PySem.W.fnOf "terms" "Recipe.terms" (defArgs s_Recipe_terms) (defBody s_Recipe_terms) (defScope s_Recipe_terms) .none kV_Recipe_terms dc_Recipe_terms pm_Recipe_terms an_Recipe_terms cd_Recipe_terms cc_Recipe_terms), sl_Recipe_terms⟩)
    (co_Recipe_terms : PySem.W.codeIn K cd_Recipe_terms "Recipe.terms" = true)
    (km_Recipe_terms : PySem.W.keepIn K (.ref f_Recipe_terms) = true)
    {f_Recipe_keeping : Addr} {od_Recipe_keeping an_Recipe_keeping : Option Addr} {sl_Recipe_keeping : Array (Option Value)} {oc_Recipe_keeping kV_Recipe_keeping dc_Recipe_keeping pm_Recipe_keeping cd_Recipe_keeping cc_Recipe_keeping : Value}
    {p_Recipe_keeping : Addr} {rs_Recipe_keeping : List Value}
    (sf_Recipe_keeping : PySem.W.findCls K (.ref C_Recipe) (.type "type") "keeping" = some (.get (.builtin "staticmethod.__get__") (.ref p_Recipe_keeping) .none (.ref C_Recipe)))
    (sr_Recipe_keeping : PySem.W.recIn K p_Recipe_keeping "staticmethod" = some (.ref f_Recipe_keeping :: rs_Recipe_keeping))
    (sd_Recipe_keeping : PySem.W.readsIn K C_Recipe (.type "type") = true)
    (sg_Recipe_keeping : PySem.W.specialIn K (.ref C_Recipe) "__getattribute__" = some (some (.builtin "type.__getattribute__")))
    (st_Recipe_keeping : PySem.W.typeIn K (.ref C_Recipe) = some (.type "type"))
    (lm_Recipe_keeping : K.lookup f_Recipe_keeping = some ⟨oc_Recipe_keeping, od_Recipe_keeping, .func (PySem.W.fnOf "keeping" "Recipe.keeping" (defArgs s_Recipe_keeping) (defBody s_Recipe_keeping) (defScope s_Recipe_keeping) .none kV_Recipe_keeping dc_Recipe_keeping pm_Recipe_keeping an_Recipe_keeping cd_Recipe_keeping cc_Recipe_keeping), sl_Recipe_keeping⟩)
    (co_Recipe_keeping : PySem.W.codeIn K cd_Recipe_keeping "Recipe.keeping" = true)
    (km_Recipe_keeping : PySem.W.keepIn K (.ref f_Recipe_keeping) = true)
    {f_Recipe___call__ : Addr} {od_Recipe___call__ an_Recipe___call__ : Option Addr} {sl_Recipe___call__ : Array (Option Value)} {oc_Recipe___call__ kV_Recipe___call__ dc_Recipe___call__ pm_Recipe___call__ cd_Recipe___call__ cc_Recipe___call__ : Value}
    (am_Recipe___call__ : PySem.W.findIn K (.ref C_Recipe) "__call__" = some (some (.ref f_Recipe___call__)))
    (im_Recipe___call__ : PySem.W.isFn K (.ref f_Recipe___call__) = true)
    (lm_Recipe___call__ : K.lookup f_Recipe___call__ = some ⟨oc_Recipe___call__, od_Recipe___call__, .func (PySem.W.fnOf "__call__" "Recipe.__call__" (defArgs s_Recipe___call__) (defBody s_Recipe___call__) (defScope s_Recipe___call__) .none kV_Recipe___call__ dc_Recipe___call__ pm_Recipe___call__ an_Recipe___call__ cd_Recipe___call__ cc_Recipe___call__), sl_Recipe___call__⟩)
    (co_Recipe___call__ : PySem.W.codeIn K cd_Recipe___call__ "Recipe.__call__" = true)
    (km_Recipe___call__ : PySem.W.keepIn K (.ref f_Recipe___call__) = true)
    {f_Recipe___mul__ : Addr} {od_Recipe___mul__ an_Recipe___mul__ : Option Addr} {sl_Recipe___mul__ : Array (Option Value)} {oc_Recipe___mul__ kV_Recipe___mul__ dc_Recipe___mul__ pm_Recipe___mul__ cd_Recipe___mul__ cc_Recipe___mul__ : Value}
    (am_Recipe___mul__ : PySem.W.findIn K (.ref C_Recipe) "__mul__" = some (some (.ref f_Recipe___mul__)))
    (im_Recipe___mul__ : PySem.W.isFn K (.ref f_Recipe___mul__) = true)
    (lm_Recipe___mul__ : K.lookup f_Recipe___mul__ = some ⟨oc_Recipe___mul__, od_Recipe___mul__, .func (PySem.W.fnOf "__mul__" "Recipe.__mul__" (defArgs s_Recipe___mul__) (defBody s_Recipe___mul__) (defScope s_Recipe___mul__) .none kV_Recipe___mul__ dc_Recipe___mul__ pm_Recipe___mul__ an_Recipe___mul__ cd_Recipe___mul__ cc_Recipe___mul__), sl_Recipe___mul__⟩)
    (co_Recipe___mul__ : PySem.W.codeIn K cd_Recipe___mul__ "Recipe.__mul__" = true)
    (km_Recipe___mul__ : PySem.W.keepIn K (.ref f_Recipe___mul__) = true)
    {f_Recipe___eq__ : Addr} {od_Recipe___eq__ an_Recipe___eq__ : Option Addr} {sl_Recipe___eq__ : Array (Option Value)} {oc_Recipe___eq__ kV_Recipe___eq__ dc_Recipe___eq__ pm_Recipe___eq__ cd_Recipe___eq__ cc_Recipe___eq__ : Value}
    (am_Recipe___eq__ : PySem.W.findIn K (.ref C_Recipe) "__eq__" = some (some (.ref f_Recipe___eq__)))
    (im_Recipe___eq__ : PySem.W.isFn K (.ref f_Recipe___eq__) = true)
    (lm_Recipe___eq__ : K.lookup f_Recipe___eq__ = some ⟨oc_Recipe___eq__, od_Recipe___eq__, .func (PySem.W.fnOf "__eq__" "Recipe.__eq__" (defArgs s_Recipe___eq__) (defBody s_Recipe___eq__) (defScope s_Recipe___eq__) .none kV_Recipe___eq__ dc_Recipe___eq__ pm_Recipe___eq__ an_Recipe___eq__ cd_Recipe___eq__ cc_Recipe___eq__), sl_Recipe___eq__⟩)
    (co_Recipe___eq__ : PySem.W.codeIn K cd_Recipe___eq__ "Recipe.__eq__" = true)
    (km_Recipe___eq__ : PySem.W.keepIn K (.ref f_Recipe___eq__) = true)
    {f_Recipe___len__ : Addr} {od_Recipe___len__ an_Recipe___len__ : Option Addr} {sl_Recipe___len__ : Array (Option Value)} {oc_Recipe___len__ kV_Recipe___len__ dc_Recipe___len__ pm_Recipe___len__ cd_Recipe___len__ cc_Recipe___len__ : Value}
    (am_Recipe___len__ : PySem.W.findIn K (.ref C_Recipe) "__len__" = some (some (.ref f_Recipe___len__)))
    (im_Recipe___len__ : PySem.W.isFn K (.ref f_Recipe___len__) = true)
    (lm_Recipe___len__ : K.lookup f_Recipe___len__ = some ⟨oc_Recipe___len__, od_Recipe___len__, .func (PySem.W.fnOf "__len__" "Recipe.__len__" (defArgs s_Recipe___len__) (defBody s_Recipe___len__) (defScope s_Recipe___len__) .none kV_Recipe___len__ dc_Recipe___len__ pm_Recipe___len__ an_Recipe___len__ cd_Recipe___len__ cc_Recipe___len__), sl_Recipe___len__⟩)
    (co_Recipe___len__ : PySem.W.codeIn K cd_Recipe___len__ "Recipe.__len__" = true)
    (km_Recipe___len__ : PySem.W.keepIn K (.ref f_Recipe___len__) = true)
    {f_Recipe___repr__ : Addr} {od_Recipe___repr__ an_Recipe___repr__ : Option Addr} {sl_Recipe___repr__ : Array (Option Value)} {oc_Recipe___repr__ kV_Recipe___repr__ dc_Recipe___repr__ pm_Recipe___repr__ cd_Recipe___repr__ cc_Recipe___repr__ : Value}
    (am_Recipe___repr__ : PySem.W.findIn K (.ref C_Recipe) "__repr__" = some (some (.ref f_Recipe___repr__)))
    (im_Recipe___repr__ : PySem.W.isFn K (.ref f_Recipe___repr__) = true)
    (lm_Recipe___repr__ : K.lookup f_Recipe___repr__ = some ⟨oc_Recipe___repr__, od_Recipe___repr__, .func (PySem.W.fnOf "__repr__" "Recipe.__repr__" (defArgs s_Recipe___repr__) (defBody s_Recipe___repr__) (defScope s_Recipe___repr__) .none kV_Recipe___repr__ dc_Recipe___repr__ pm_Recipe___repr__ an_Recipe___repr__ cd_Recipe___repr__ cc_Recipe___repr__), sl_Recipe___repr__⟩)
    (co_Recipe___repr__ : PySem.W.codeIn K cd_Recipe___repr__ "Recipe.__repr__" = true)
    (km_Recipe___repr__ : PySem.W.keepIn K (.ref f_Recipe___repr__) = true)
    (topS_ : (l.prog.main.scope.names.lookup ("super" : Str)).isSome = false)
    (sup_ : PySem.W.nsIn K mainGlobals "super" = some none)
    (opq_ : PySem.W.nsIn K PySem.cStatics "thirdparty.any" = some none)
    {C_MoveError : Addr}
    (g_MoveError : PySem.W.nsIn K mainGlobals "MoveError" = some (some (.ref C_MoveError)))
    (ex_MoveError : PySem.W.subIn K (.ref C_MoveError) (.type "BaseException") = some true)
    (hd_MoveError : PySem.W.hasDictIn K C_MoveError = true)
    (ty_MoveError : PySem.W.typeIn K (.ref C_MoveError) = some (.type "type"))
    {C_Wrong : Addr}
    (g_Wrong : PySem.W.nsIn K mainGlobals "Wrong" = some (some (.ref C_Wrong)))
    (ex_Wrong : PySem.W.subIn K (.ref C_Wrong) (.type "BaseException") = some true)
    (hd_Wrong : PySem.W.hasDictIn K C_Wrong = true)
    (ty_Wrong : PySem.W.typeIn K (.ref C_Wrong) = some (.type "type"))
    {nm_Wrong q_Wrong : Str} {N_Wrong : Addr} {bs_Wrong bm_Wrong sub_Wrong : List Value} {sn_Wrong : List Str} {ab_Wrong : Bool} {col_Wrong : Option Bool} {dd_Wrong : Option Addr} {k0_Wrong k1_Wrong k2_Wrong k3_Wrong k5_Wrong : Option Value}
    (cls_Wrong : K.lookup C_Wrong = some (excClassObj nm_Wrong q_Wrong C_Wrong N_Wrong bs_Wrong bm_Wrong true sn_Wrong sub_Wrong ab_Wrong col_Wrong dd_Wrong k0_Wrong k1_Wrong k2_Wrong k3_Wrong k5_Wrong "ValueError.__new__"))
    (ve_Wrong : PySem.HandSPX.refsVE bm_Wrong = true)
    (sa_Wrong : PySem.W.findIn K (.ref C_Wrong) "__setattr__" = some (some (.builtin "object.__setattr__")))
    (no_Wrong : PySem.W.findIn K (.ref C_Wrong) "place" = some none)
    (k_Wrong : PySem.W.keepIn K (.ref C_Wrong) = true)
    (vs_Wrong : PySem.W.subIn K (.ref C_Wrong) (.type "ValueError") = some true)
    (up_Wrong : PySem.W.ks_superIn K C_Wrong C_Wrong "__init__" = some (some (.builtin "ValueError.__init__")))
    (self_Wrong : PySem.W.mroIn K C_Wrong (.ref C_Wrong) = some true)
    {fI_Wrong cda_Wrong cc_Wrong : Addr} {oc_Wrong kV_Wrong doc_Wrong pm_Wrong ct_Wrong cl_Wrong ccl_Wrong : Value} {od_Wrong an_Wrong cld_Wrong cdd_Wrong : Option Addr} {osl_Wrong csl_Wrong ccs_Wrong : Array (Option Value)} {ql_Wrong file_Wrong : Str} {vv_Wrong : Array Value} {tf_Wrong : Tok} {p1_Wrong p2_Wrong q1_Wrong q2_Wrong q3_Wrong q4_Wrong q5_Wrong q6_Wrong q7_Wrong q8_Wrong q9_Wrong q10_Wrong : Pos}
    (fi_Wrong : PySem.W.findIn K (.ref C_Wrong) "__init__" = some (some (.ref fI_Wrong)))
    (tI_Wrong : PySem.W.typeIn K (.ref fI_Wrong) = some (.type "function"))
    (lI_Wrong : K.lookup fI_Wrong = some ⟨oc_Wrong, od_Wrong, .func (PySem.W.ksFn "__init__" ql_Wrong (xA "place" p1_Wrong p2_Wrong) (xB "place" q1_Wrong q2_Wrong q3_Wrong q4_Wrong q5_Wrong q6_Wrong q7_Wrong q8_Wrong q9_Wrong q10_Wrong) (xS "place") .none kV_Wrong doc_Wrong pm_Wrong an_Wrong (.ref cda_Wrong) ct_Wrong cc_Wrong), osl_Wrong⟩)
    (cd_Wrong : PySem.W.codeIn K (.ref cda_Wrong) ql_Wrong = true)
    (ce_Wrong : K.lookup cc_Wrong = some ⟨cl_Wrong, cld_Wrong, .cell (some (.ref C_Wrong)), csl_Wrong⟩)
    (co_Wrong : K.lookup cda_Wrong = some ⟨ccl_Wrong, cdd_Wrong, .fields vv_Wrong, ccs_Wrong⟩)
    (cv_Wrong : vv_Wrong[2]? = some (.str file_Wrong tf_Wrong))
    (cf_Wrong : ((l.prog.main.file : Str) == file_Wrong) = true)
    (bi_Wrong : ∀ e v, bindArgs (PySem.W.ksFn "__init__" ql_Wrong (xA "place" p1_Wrong p2_Wrong) (xB "place" q1_Wrong q2_Wrong q3_Wrong q4_Wrong q5_Wrong q6_Wrong q7_Wrong q8_Wrong q9_Wrong q10_Wrong) (xS "place") .none kV_Wrong doc_Wrong pm_Wrong an_Wrong (.ref cda_Wrong) ct_Wrong cc_Wrong) ⟨[.ref e, v], []⟩ = pure [((PySem.Str.ofString "self" : Str), .ref e), ("place", v)])
    (ev_Wrong : ∀ L : Addr, ∃ pl, eval (xCall "place" q1_Wrong q2_Wrong q3_Wrong q4_Wrong q5_Wrong) (PySem.W.ksEnv ql_Wrong (xS "place") L fI_Wrong (.ref cda_Wrong) cc_Wrong) = (do
      let ov ← attributeBase (.Call (.Name "super" q1_Wrong) [] [] q2_Wrong) "__init__" (PySem.W.ksEnv ql_Wrong (xS "place") L fI_Wrong (.ref cda_Wrong) cc_Wrong) (eval (.Call (.Name "super" q1_Wrong) [] [] q2_Wrong) (PySem.W.ksEnv ql_Wrong (xS "place") L fI_Wrong (.ref cda_Wrong) cc_Wrong))
      standAt q3_Wrong.atName
      let (g, first) ← holding [ov] (getMethod ov "__init__" pl)
      callWith q5_Wrong g first (backTo q5_Wrong (starEach [.Name "place" q4_Wrong] (PySem.W.ksEnv ql_Wrong (xS "place") L fI_Wrong (.ref cda_Wrong) cc_Wrong))) []))
    {C_Unlike : Addr}
    (g_Unlike : PySem.W.nsIn K mainGlobals "Unlike" = some (some (.ref C_Unlike)))
    (ex_Unlike : PySem.W.subIn K (.ref C_Unlike) (.type "BaseException") = some true)
    (hd_Unlike : PySem.W.hasDictIn K C_Unlike = true)
    (ty_Unlike : PySem.W.typeIn K (.ref C_Unlike) = some (.type "type"))
    (k_Unlike : PySem.W.keepIn K (.ref C_Unlike) = true)
    (ei_Unlike : PySem.W.excIn K C_Unlike [.type "ValueError", .type "Exception", .type "BaseException", .type "object"] "ValueError.__new__" = true)
    {C_NoText : Addr}
    (g_NoText : PySem.W.nsIn K mainGlobals "NoText" = some (some (.ref C_NoText)))
    (ex_NoText : PySem.W.subIn K (.ref C_NoText) (.type "BaseException") = some true)
    (hd_NoText : PySem.W.hasDictIn K C_NoText = true)
    (ty_NoText : PySem.W.typeIn K (.ref C_NoText) = some (.type "type"))
    (k_NoText : PySem.W.keepIn K (.ref C_NoText) = true)
    (ei_NoText : PySem.W.excIn K C_NoText [.type "ValueError", .type "Exception", .type "BaseException", .type "object"] "ValueError.__new__" = true)
    (z0 : PySem.W.nsIn K mainGlobals "ValueError" = some none)
    (z1 : PySem.W.nsIn K mainGlobals "abs" = some none)
    (z2 : PySem.W.nsIn K mainGlobals "all" = some none)
    (z3 : PySem.W.nsIn K mainGlobals "bool" = some none)
    (z4 : PySem.W.nsIn K mainGlobals "int" = some none)
    (z5 : PySem.W.nsIn K mainGlobals "isinstance" = some none)
    (z6 : PySem.W.nsIn K mainGlobals "len" = some none)
    (z7 : PySem.W.nsIn K mainGlobals "list" = some none)
    (z8 : PySem.W.nsIn K mainGlobals "range" = some none)
    (z9 : PySem.W.nsIn K mainGlobals "repr" = some none)
    (z10 : PySem.W.nsIn K mainGlobals "str" = some none)
    (z11 : PySem.W.nsIn K mainGlobals "sum" = some none)
    (z12 : PySem.W.nsIn K mainGlobals "tuple" = some none)
    {tk0 : Tok}
    (y0 : PySem.W.nsIn K mainGlobals "LETTERS" = some (some (.str "abcdefghijklmnopqrstuvwxyz" tk0)))
    {tk1 : Tok}
    (y1 : PySem.W.nsIn K mainGlobals "MOST_LETTERS" = some (some (.int 8 tk1)))
    {tk2 : Tok}
    (y2 : PySem.W.nsIn K mainGlobals "MOST_PARTS" = some (some (.int 3 tk2)))
    {at3 : Addr} {od_t3 : Option Addr} {nn_t3 : Nat} {sl_t3 : Array (Option Value)} {tk3 : Tok} {tk3_1 : Tok}
    (y3 : PySem.W.nsIn K mainGlobals "KINDS" = some (some (.ref at3)))
    (yl3 : K.lookup at3 = some ⟨.type "tuple", od_t3, .seq #[.str "may" tk3, .str "must" tk3_1] nn_t3, sl_t3⟩)
    {tk4 : Tok}
    (y4 : PySem.W.nsIn K mainGlobals "DIGITS" = some (some (.str "0123456789" tk4)))
    {tk5 : Tok}
    (y5 : PySem.W.nsIn K mainGlobals "SIGNS" = some (some (.str "(,)" tk5)))
    {tk6 : Tok}
    (y6 : PySem.W.nsIn K mainGlobals "MOST_DIGITS" = some (some (.int 40 tk6)))
    {tk7 : Tok}
    (y7 : PySem.W.nsIn K mainGlobals "MOST_OPERATIONS" = some (some (.int 200 tk7)))
    (xa_Wrong : PySem.W.findIn K (.ref C_Wrong) "__getattribute__" = some (some (.builtin "BaseException.__getattribute__")))
    (xg_Wrong : PySem.W.findIn K (.ref C_Wrong) "__getattr__" = some none)
    (xl_Wrong : PySem.W.findIn K (.ref C_Wrong) "__class__" = some (some (.builtin "object.__class__")))
    (xn_Wrong : PySem.W.specialIn K (.builtin "object.__class__") "__get__" = some (some (.builtin "getset_descriptor.__get__")))
    (xt_Wrong : PySem.W.takesIn K (.builtin "object.__class__") = some true)
    (xm_Wrong : PySem.W.mroIn K C_Wrong (.type "object") = some true)
    (xa_Unlike : PySem.W.findIn K (.ref C_Unlike) "__getattribute__" = some (some (.builtin "BaseException.__getattribute__")))
    (xg_Unlike : PySem.W.findIn K (.ref C_Unlike) "__getattr__" = some none)
    (xl_Unlike : PySem.W.findIn K (.ref C_Unlike) "__class__" = some (some (.builtin "object.__class__")))
    (xn_Unlike : PySem.W.specialIn K (.builtin "object.__class__") "__get__" = some (some (.builtin "getset_descriptor.__get__")))
    (xt_Unlike : PySem.W.takesIn K (.builtin "object.__class__") = some true)
    (xm_Unlike : PySem.W.mroIn K C_Unlike (.type "object") = some true)
    (xa_NoText : PySem.W.findIn K (.ref C_NoText) "__getattribute__" = some (some (.builtin "BaseException.__getattribute__")))
    (xg_NoText : PySem.W.findIn K (.ref C_NoText) "__getattr__" = some none)
    (xl_NoText : PySem.W.findIn K (.ref C_NoText) "__class__" = some (some (.builtin "object.__class__")))
    (xn_NoText : PySem.W.specialIn K (.builtin "object.__class__") "__get__" = some (some (.builtin "getset_descriptor.__get__")))
    (xt_NoText : PySem.W.takesIn K (.builtin "object.__class__") = some true)
    (xm_NoText : PySem.W.mroIn K C_NoText (.type "object") = some true)
    (ds_Unlike_Wrong : PySem.W.subIn K (.ref C_Unlike) (.ref C_Wrong) = some false)
    (dn_Unlike_Wrong : C_Unlike ≠ C_Wrong)
    (vs_NoText : PySem.W.subIn K (.ref C_NoText) (.type "ValueError") = some true)
    (sb_Wrong_MoveError : PySem.W.subIn K (.ref C_Wrong) (.ref C_MoveError) = some true)
    (sb_Unlike_MoveError : PySem.W.subIn K (.ref C_Unlike) (.ref C_MoveError) = some true)
    (sb_NoText_MoveError : PySem.W.subIn K (.ref C_NoText) (.ref C_MoveError) = some true)
    : ∃ fd : FuncData, (∀ (t : Shared) (u : Value), BindsTo t fd ⟨[u], []⟩ [("_law_script", u)]) ∧ ∀ base : Heap, K.In base → base.Ns mainGlobals mg → FnOkG l.prog w K mg base CX0 220 fa fd P_law (sp_law K) := by
  have e := hfa.symm.trans (PySem.W.mg_of X G a46)
  cases e
  exact ⟨_, fun s v => .of_eq rfl, fun base _ _ => ok_law (T := {
    d__wall := ⟨_, _, fun_mk l0 c0 k0, PySem.W.mg_of X G a0, (fun_mk l0 c0 k0).binds fun _ _ _ _ _ _ us hl => match us, hl with | [_], _ => rfl⟩
    d_is_integer := ⟨_, _, fun_mk l1 c1 k1, PySem.W.mg_of X G a1, (fun_mk l1 c1 k1).binds fun _ _ _ _ _ _ us hl => match us, hl with | [_], _ => rfl⟩
    d_is_name := ⟨_, _, fun_mk l2 c2 k2, PySem.W.mg_of X G a2, (fun_mk l2 c2 k2).binds fun _ _ _ _ _ _ us hl => match us, hl with | [_], _ => rfl⟩
    d_is_term := ⟨_, _, fun_mk l3 c3 k3, PySem.W.mg_of X G a3, (fun_mk l3 c3 k3).binds fun _ _ _ _ _ _ us hl => match us, hl with | [_], _ => rfl⟩
    d_is_term_over := ⟨_, _, fun_mk l4 c4 k4, PySem.W.mg_of X G a4, (fun_mk l4 c4 k4).binds fun _ _ _ _ _ _ us hl => match us, hl with | [_, _], _ => rfl⟩
    d_put := ⟨_, _, fun_mk l5 c5 k5, PySem.W.mg_of X G a5, (fun_mk l5 c5 k5).binds fun _ _ _ _ _ _ us hl => match us, hl with | [_, _], _ => rfl⟩
    d_put_all := ⟨_, _, fun_mk l6 c6 k6, PySem.W.mg_of X G a6, (fun_mk l6 c6 k6).binds fun _ _ _ _ _ _ us hl => match us, hl with | [_, _], _ => rfl⟩
    d_size := ⟨_, _, fun_mk l7 c7 k7, PySem.W.mg_of X G a7, (fun_mk l7 c7 k7).binds fun _ _ _ _ _ _ us hl => match us, hl with | [_], _ => rfl⟩
    d_is_move := ⟨_, _, fun_mk l8 c8 k8, PySem.W.mg_of X G a8, (fun_mk l8 c8 k8).binds fun _ _ _ _ _ _ us hl => match us, hl with | [_], _ => rfl⟩
    d_need := ⟨_, _, fun_mk l9 c9 k9, PySem.W.mg_of X G a9, (fun_mk l9 c9 k9).binds fun _ _ _ _ _ _ us hl => match us, hl with | [_], _ => rfl⟩
    d_listed := ⟨_, _, fun_mk l10 c10 k10, PySem.W.mg_of X G a10, (fun_mk l10 c10 k10).binds fun _ _ _ _ _ _ us hl => match us, hl with | [_], _ => rfl⟩
    d_show_term := ⟨_, _, fun_mk l11 c11 k11, PySem.W.mg_of X G a11, (fun_mk l11 c11 k11).binds fun _ _ _ _ _ _ us hl => match us, hl with | [_], _ => rfl⟩
    d_read_integer := ⟨_, _, fun_mk l12 c12 k12, PySem.W.mg_of X G a12, (fun_mk l12 c12 k12).binds fun _ _ _ _ _ _ us hl => match us, hl with | [_], _ => rfl⟩
    d_tokens_of := ⟨_, _, fun_mk l13 c13 k13, PySem.W.mg_of X G a13, (fun_mk l13 c13 k13).binds fun _ _ _ _ _ _ us hl => match us, hl with | [_], _ => rfl⟩
    d_leaf := ⟨_, _, fun_mk l14 c14 k14, PySem.W.mg_of X G a14, (fun_mk l14 c14 k14).binds fun _ _ _ _ _ _ us hl => match us, hl with | [_], _ => rfl⟩
    d_parsed := ⟨_, _, fun_mk l15 c15 k15, PySem.W.mg_of X G a15, (fun_mk l15 c15 k15).binds fun _ _ _ _ _ _ us hl => match us, hl with | [_], _ => rfl⟩
    d_need_term := ⟨_, _, fun_mk l16 c16 k16, PySem.W.mg_of X G a16, (fun_mk l16 c16 k16).binds fun _ _ _ _ _ _ us hl => match us, hl with | [_], _ => rfl⟩
    d_read_term := ⟨_, _, fun_mk l17 c17 k17, PySem.W.mg_of X G a17, (fun_mk l17 c17 k17).binds fun _ _ _ _ _ _ us hl => match us, hl with | [_], _ => rfl⟩
    d_read_listed := ⟨_, _, fun_mk l18 c18 k18, PySem.W.mg_of X G a18, (fun_mk l18 c18 k18).binds fun _ _ _ _ _ _ us hl => match us, hl with | [_], _ => rfl⟩
    d_read_move := ⟨_, _, fun_mk l19 c19 k19, PySem.W.mg_of X G a19, (fun_mk l19 c19 k19).binds fun _ _ _ _ _ _ us hl => match us, hl with | [_], _ => rfl⟩
    d__law_bag := ⟨_, _, fun_mk l20 c20 k20, PySem.W.mg_of X G a20, (fun_mk l20 c20 k20).binds fun _ _ _ _ _ _ us hl => match us, hl with | [_], _ => rfl⟩
    d__law_take := ⟨_, _, fun_mk l21 c21 k21, PySem.W.mg_of X G a21, (fun_mk l21 c21 k21).binds fun _ _ _ _ _ _ us hl => match us, hl with | [_, _], _ => rfl⟩
    d__law_alike := ⟨_, _, fun_mk l22 c22 k22, PySem.W.mg_of X G a22, (fun_mk l22 c22 k22).binds fun _ _ _ _ _ _ us hl => match us, hl with | [_, _], _ => rfl⟩
    d__law_names := ⟨_, _, fun_mk l23 c23 k23, PySem.W.mg_of X G a23, (fun_mk l23 c23 k23).binds fun _ _ _ _ _ _ us hl => match us, hl with | [_, _], _ => rfl⟩
    d__law_term := ⟨_, _, fun_mk l24 c24 k24, PySem.W.mg_of X G a24, (fun_mk l24 c24 k24).binds fun _ _ _ _ _ _ us hl => match us, hl with | [_, _, _, _], _ => rfl⟩
    d__law_size := ⟨_, _, fun_mk l25 c25 k25, PySem.W.mg_of X G a25, (fun_mk l25 c25 k25).binds fun _ _ _ _ _ _ us hl => match us, hl with | [_], _ => rfl⟩
    d__law_is_whole := ⟨_, _, fun_mk l26 c26 k26, PySem.W.mg_of X G a26, (fun_mk l26 c26 k26).binds fun _ _ _ _ _ _ us hl => match us, hl with | [_, _, _], _ => rfl⟩
    d__law_is_word := ⟨_, _, fun_mk l27 c27 k27, PySem.W.mg_of X G a27, (fun_mk l27 c27 k27).binds fun _ _ _ _ _ _ us hl => match us, hl with | [_], _ => rfl⟩
    d__law_is_term := ⟨_, _, fun_mk l28 c28 k28, PySem.W.mg_of X G a28, (fun_mk l28 c28 k28).binds fun _ _ _ _ _ _ us hl => match us, hl with | [_, _], _ => rfl⟩
    d__law_are_terms := ⟨_, _, fun_mk l29 c29 k29, PySem.W.mg_of X G a29, (fun_mk l29 c29 k29).binds fun _ _ _ _ _ _ us hl => match us, hl with | [_, _], _ => rfl⟩
    d__law_term_text := ⟨_, _, fun_mk l30 c30 k30, PySem.W.mg_of X G a30, (fun_mk l30 c30 k30).binds fun _ _ _ _ _ _ us hl => match us, hl with | [_], _ => rfl⟩
    d__law_listed_text := ⟨_, _, fun_mk l31 c31 k31, PySem.W.mg_of X G a31, (fun_mk l31 c31 k31).binds fun _ _ _ _ _ _ us hl => match us, hl with | [_], _ => rfl⟩
    d__law_move_text := ⟨_, _, fun_mk l32 c32 k32, PySem.W.mg_of X G a32, (fun_mk l32 c32 k32).binds fun _ _ _ _ _ _ us hl => match us, hl with | [_, _, _, _], _ => rfl⟩
    d__law_read_number := ⟨_, _, fun_mk l33 c33 k33, PySem.W.mg_of X G a33, (fun_mk l33 c33 k33).binds fun _ _ _ _ _ _ us hl => match us, hl with | [_], _ => rfl⟩
    d__law_cut_word := ⟨_, _, fun_mk l34 c34 k34, PySem.W.mg_of X G a34, (fun_mk l34 c34 k34).binds fun _ _ _ _ _ _ us hl => match us, hl with | [_, _], _ => rfl⟩
    d__law_read_at := ⟨_, _, fun_mk l35 c35 k35, PySem.W.mg_of X G a35, (fun_mk l35 c35 k35).binds fun _ _ _ _ _ _ us hl => match us, hl with | [_, _], _ => rfl⟩
    d__law_read_parts := ⟨_, _, fun_mk l36 c36 k36, PySem.W.mg_of X G a36, (fun_mk l36 c36 k36).binds fun _ _ _ _ _ _ us hl => match us, hl with | [_, _], _ => rfl⟩
    d__law_read_term := ⟨_, _, fun_mk l37 c37 k37, PySem.W.mg_of X G a37, (fun_mk l37 c37 k37).binds fun _ _ _ _ _ _ us hl => match us, hl with | [_], _ => rfl⟩
    d__law_read_listed := ⟨_, _, fun_mk l38 c38 k38, PySem.W.mg_of X G a38, (fun_mk l38 c38 k38).binds fun _ _ _ _ _ _ us hl => match us, hl with | [_], _ => rfl⟩
    d__law_read_move := ⟨_, _, fun_mk l39 c39 k39, PySem.W.mg_of X G a39, (fun_mk l39 c39 k39).binds fun _ _ _ _ _ _ us hl => match us, hl with | [_], _ => rfl⟩
    d__law_told := ⟨_, _, fun_mk l40 c40 k40, PySem.W.mg_of X G a40, (fun_mk l40 c40 k40).binds fun _ _ _ _ _ _ us hl => match us, hl with | [_, _], _ => rfl⟩
    d__law_bent := ⟨_, _, fun_mk l41 c41 k41, PySem.W.mg_of X G a41, (fun_mk l41 c41 k41).binds fun _ _ _ _ _ _ us hl => match us, hl with | [_, _], _ => rfl⟩
    d__law_chain := ⟨_, _, fun_mk l42 c42 k42, PySem.W.mg_of X G a42, (fun_mk l42 c42 k42).binds fun _ _ _ _ _ _ us hl => match us, hl with | [_, _], _ => rfl⟩
    d__law_move_of := ⟨_, _, fun_mk l43 c43 k43, PySem.W.mg_of X G a43, (fun_mk l43 c43 k43).binds fun _ _ _ _ _ _ us hl => match us, hl with | [_], _ => rfl⟩
    d__law_great_right := ⟨_, _, fun_mk l44 c44 k44, PySem.W.mg_of X G a44, (fun_mk l44 c44 k44).binds fun _ _ _ _ _ _ us hl => match us, hl with | [], _ => rfl⟩
    d__law_numbers_refused := ⟨_, _, fun_mk l45 c45 k45, PySem.W.mg_of X G a45, (fun_mk l45 c45 k45).binds fun _ _ _ _ _ _ us hl => match us, hl with | [], _ => rfl⟩
    d_law := ⟨_, _, fun_mk l46 c46 k46, PySem.W.mg_of X G a46, (fun_mk l46 c46 k46).binds fun _ _ _ _ _ _ us hl => match us, hl with | [_], _ => rfl⟩
    C_Recipe := C_Recipe
    g_Recipe := PySem.W.mg_of X G g_Recipe
    k_Recipe := k_Recipe
    c_Recipe := ⟨pg_Recipe, ic_Recipe, po_Recipe, sa_Recipe⟩
    mk_Recipe := mk_Recipe
    is_Recipe := ⟨ca_Recipe, cn_Recipe, ct_Recipe, cm_Recipe⟩
    ne_Recipe := ne_Recipe
    ty_Recipe := tyc_Recipe
    mul_Recipe := mul_Recipe
    nl_Recipe := nl_Recipe
    nt_Recipe := nt_Recipe
    p_Recipe_its_variables := p_Recipe_its_variables
    sl_Recipe_its_variables := ⟨at_Recipe_its_variables, get_Recipe_its_variables, tk_Recipe_its_variables, ty_Recipe_its_variables, ix_Recipe_its_variables, by decide⟩
    p_Recipe_its_terms := p_Recipe_its_terms
    sl_Recipe_its_terms := ⟨at_Recipe_its_terms, get_Recipe_its_terms, tk_Recipe_its_terms, ty_Recipe_its_terms, ix_Recipe_its_terms, by decide⟩
    d_Recipe___init__ := ⟨_, _, fun_mk lm_Recipe___init__ co_Recipe___init__ km_Recipe___init__, ⟨am_Recipe___init__, im_Recipe___init__, km_Recipe___init__⟩, (fun_mk lm_Recipe___init__ co_Recipe___init__ km_Recipe___init__).binds fun _ _ _ _ _ _ us hl => match us, hl with | [_, _, _], _ => rfl⟩
    d_Recipe_variables := ⟨_, _, fun_mk lm_Recipe_variables co_Recipe_variables km_Recipe_variables, _, pa_Recipe_variables, pg_Recipe_variables, pt_Recipe_variables, ⟨_, pr_Recipe_variables⟩, (fun_mk lm_Recipe_variables co_Recipe_variables km_Recipe_variables).binds fun _ _ _ _ _ _ us hl => match us, hl with | [_], _ => rfl⟩
    d_Recipe_terms := ⟨_, _, fun_mk lm_Recipe_terms co_Recipe_terms km_Recipe_terms, _, pa_Recipe_terms, pg_Recipe_terms, pt_Recipe_terms, ⟨_, pr_Recipe_terms⟩, (fun_mk lm_Recipe_terms co_Recipe_terms km_Recipe_terms).binds fun _ _ _ _ _ _ us hl => match us, hl with | [_], _ => rfl⟩
    d_Recipe_keeping := ⟨_, _, fun_mk lm_Recipe_keeping co_Recipe_keeping km_Recipe_keeping, _, ⟨⟨sd_Recipe_keeping, sg_Recipe_keeping⟩, st_Recipe_keeping, sf_Recipe_keeping, ⟨_, sr_Recipe_keeping⟩, km_Recipe_keeping⟩, (fun_mk lm_Recipe_keeping co_Recipe_keeping km_Recipe_keeping).binds fun _ _ _ _ _ _ us hl => match us, hl with | [_], _ => rfl⟩
    d_Recipe___call__ := ⟨_, _, fun_mk lm_Recipe___call__ co_Recipe___call__ km_Recipe___call__, ⟨am_Recipe___call__, im_Recipe___call__, km_Recipe___call__⟩, (fun_mk lm_Recipe___call__ co_Recipe___call__ km_Recipe___call__).binds fun _ _ _ _ _ _ us hl => match us, hl with | [_, _], _ => rfl⟩
    d_Recipe___mul__ := ⟨_, _, fun_mk lm_Recipe___mul__ co_Recipe___mul__ km_Recipe___mul__, ⟨am_Recipe___mul__, im_Recipe___mul__, km_Recipe___mul__⟩, (fun_mk lm_Recipe___mul__ co_Recipe___mul__ km_Recipe___mul__).binds fun _ _ _ _ _ _ us hl => match us, hl with | [_, _], _ => rfl⟩
    d_Recipe___eq__ := ⟨_, _, fun_mk lm_Recipe___eq__ co_Recipe___eq__ km_Recipe___eq__, ⟨am_Recipe___eq__, im_Recipe___eq__, km_Recipe___eq__⟩, (fun_mk lm_Recipe___eq__ co_Recipe___eq__ km_Recipe___eq__).binds fun _ _ _ _ _ _ us hl => match us, hl with | [_, _], _ => rfl⟩
    d_Recipe___len__ := ⟨_, _, fun_mk lm_Recipe___len__ co_Recipe___len__ km_Recipe___len__, ⟨am_Recipe___len__, im_Recipe___len__, km_Recipe___len__⟩, (fun_mk lm_Recipe___len__ co_Recipe___len__ km_Recipe___len__).binds fun _ _ _ _ _ _ us hl => match us, hl with | [_], _ => rfl⟩
    d_Recipe___repr__ := ⟨_, _, fun_mk lm_Recipe___repr__ co_Recipe___repr__ km_Recipe___repr__, ⟨am_Recipe___repr__, im_Recipe___repr__, km_Recipe___repr__⟩, (fun_mk lm_Recipe___repr__ co_Recipe___repr__ km_Recipe___repr__).binds fun _ _ _ _ _ _ us hl => match us, hl with | [_], _ => rfl⟩
    b_ValueError := PySem.W.mg_none_of X G z0
    b_abs := PySem.W.mg_none_of X G z1
    b_all := PySem.W.mg_none_of X G z2
    b_bool := PySem.W.mg_none_of X G z3
    b_int := PySem.W.mg_none_of X G z4
    b_isinstance := PySem.W.mg_none_of X G z5
    b_len := PySem.W.mg_none_of X G z6
    b_list := PySem.W.mg_none_of X G z7
    b_range := PySem.W.mg_none_of X G z8
    b_repr := PySem.W.mg_none_of X G z9
    b_str := PySem.W.mg_none_of X G z10
    b_sum := PySem.W.mg_none_of X G z11
    b_tuple := PySem.W.mg_none_of X G z12
    v_LETTERS := _
    c_LETTERS := PySem.W.mg_of X G y0
    r_LETTERS := ⟨_, rfl⟩
    v_MOST_LETTERS := _
    c_MOST_LETTERS := PySem.W.mg_of X G y1
    r_MOST_LETTERS := ⟨_, rfl⟩
    v_MOST_PARTS := _
    c_MOST_PARTS := PySem.W.mg_of X G y2
    r_MOST_PARTS := ⟨_, rfl⟩
    a_KINDS := at3
    c_KINDS := PySem.W.mg_of X G y3
    q_KINDS := fun _ => .inr ⟨_, _, _, yl3, rfl, rfl, (show 2 ≤ sizeLine by decide), (.cons ⟨_, rfl⟩ (.cons ⟨_, rfl⟩ .nil))⟩
    v_DIGITS := _
    c_DIGITS := PySem.W.mg_of X G y4
    r_DIGITS := ⟨_, rfl⟩
    v_SIGNS := _
    c_SIGNS := PySem.W.mg_of X G y5
    r_SIGNS := ⟨_, rfl⟩
    v_MOST_DIGITS := _
    c_MOST_DIGITS := PySem.W.mg_of X G y6
    r_MOST_DIGITS := ⟨_, rfl⟩
    v_MOST_OPERATIONS := _
    c_MOST_OPERATIONS := PySem.W.mg_of X G y7
    r_MOST_OPERATIONS := ⟨_, rfl⟩
  }) (Y := {
    C_MoveError := C_MoveError
    x_MoveError := ⟨PySem.W.mg_of X G g_MoveError, ex_MoveError, hd_MoveError, ty_MoveError⟩
    C_Wrong := C_Wrong
    x_Wrong := ⟨PySem.W.mg_of X G g_Wrong, ⟨_, _, _, _, _, _, _, _, _, _, _, _, _, _, _, cls_Wrong, ve_Wrong⟩, sa_Wrong, no_Wrong, k_Wrong, ex_Wrong, vs_Wrong, ty_Wrong, hd_Wrong, up_Wrong, opq_, self_Wrong, ⟨_, _, _, _, _, _, _, _, _, _, _, _, _, _, _, _, _, _, _, _, _, _, _, _, fi_Wrong, tI_Wrong, lI_Wrong, cd_Wrong, ⟨_, _, _, ce_Wrong⟩, _, _, _, _, _, _, co_Wrong, cv_Wrong, cf_Wrong, bi_Wrong, ev_Wrong⟩, topS_, PySem.W.mg_none_of X G sup_, by decide +kernel, by decide +kernel, by decide +kernel, by decide +kernel, by decide +kernel⟩
    C_Unlike := C_Unlike
    x_Unlike := ⟨PySem.W.mg_of X G g_Unlike, ex_Unlike, hd_Unlike, ty_Unlike, k_Unlike, ei_Unlike⟩
    C_NoText := C_NoText
    x_NoText := ⟨PySem.W.mg_of X G g_NoText, ex_NoText, hd_NoText, ty_NoText, k_NoText, ei_NoText⟩
    xc_Wrong := ⟨xa_Wrong, xg_Wrong, ex_Wrong, hd_Wrong, xl_Wrong, xn_Wrong, xt_Wrong, xm_Wrong⟩
    xc_Unlike := ⟨xa_Unlike, xg_Unlike, ex_Unlike, hd_Unlike, xl_Unlike, xn_Unlike, xt_Unlike, xm_Unlike⟩
    xc_NoText := ⟨xa_NoText, xg_NoText, ex_NoText, hd_NoText, xl_NoText, xn_NoText, xt_NoText, xm_NoText⟩
    ed_Unlike_Wrong := kitOne_exd ds_Unlike_Wrong dn_Unlike_Wrong hd_Wrong ty_Wrong
    ev_Wrong := kitOne_ve vs_Wrong
    ev_NoText := kitOne_ve vs_NoText
    em_Wrong_MoveError := PySem.W.exm_ref ex_MoveError hd_MoveError ty_MoveError sb_Wrong_MoveError
    em_Unlike_MoveError := PySem.W.exm_ref ex_MoveError hd_MoveError ty_MoveError sb_Unlike_MoveError
    em_NoText_MoveError := PySem.W.exm_ref ex_MoveError hd_MoveError ty_MoveError sb_NoText_MoveError
  })⟩
end
end Fm
open PySem PySem.W PyProof.Rows
set_option maxHeartbeats 0 in
theorem PySem.Challenge.cw_framemoves_k97_terms_and_moves_read_holds : PySem.Challenge.rw_framemoves_k97_terms_and_moves_read.Holds := by
  w_on; o_law; k_head; (case hw => w_witness2)
  k_fill
  refine Fm.walk_G (l := PySem.Challenge.rw_framemoves_k97_terms_and_moves_read) (n := 63) (k := 220) (x := "_law_script") (sp := Fm.sp_law) rfl (by decide) rfl ⟨rfl, by decide, by decide⟩ (fun w h Y => PySem.W.kIn_of Y) ?F (fun K H a ns hl hS => ⟨a, ns, rfl, hS, hl, fun _ => rfl⟩)
  case F =>
    intro w mg fa h KX G hmg
    refine' Fm.all_mk KX G hmg ?a0 ?l0 ?c0 ?k0 ?a1 ?l1 ?c1 ?k1 ?a2 ?l2 ?c2 ?k2 ?a3 ?l3 ?c3 ?k3 ?a4 ?l4 ?c4 ?k4 ?a5 ?l5 ?c5 ?k5 ?a6 ?l6 ?c6 ?k6 ?a7 ?l7 ?c7 ?k7 ?a8 ?l8 ?c8 ?k8 ?a9 ?l9 ?c9 ?k9 ?a10 ?l10 ?c10 ?k10 ?a11 ?l11 ?c11 ?k11 ?a12 ?l12 ?c12 ?k12 ?a13 ?l13 ?c13 ?k13 ?a14 ?l14 ?c14 ?k14 ?a15 ?l15 ?c15 ?k15 ?a16 ?l16 ?c16 ?k16 ?a17 ?l17 ?c17 ?k17 ?a18 ?l18 ?c18 ?k18 ?a19 ?l19 ?c19 ?k19 ?a20 ?l20 ?c20 ?k20 ?a21 ?l21 ?c21 ?k21 ?a22 ?l22 ?c22 ?k22 ?a23 ?l23 ?c23 ?k23 ?a24 ?l24 ?c24 ?k24 ?a25 ?l25 ?c25 ?k25 ?a26 ?l26 ?c26 ?k26 ?a27 ?l27 ?c27 ?k27 ?a28 ?l28 ?c28 ?k28 ?a29 ?l29 ?c29 ?k29 ?a30 ?l30 ?c30 ?k30 ?a31 ?l31 ?c31 ?k31 ?a32 ?l32 ?c32 ?k32 ?a33 ?l33 ?c33 ?k33 ?a34 ?l34 ?c34 ?k34 ?a35 ?l35 ?c35 ?k35 ?a36 ?l36 ?c36 ?k36 ?a37 ?l37 ?c37 ?k37 ?a38 ?l38 ?c38 ?k38 ?a39 ?l39 ?c39 ?k39 ?a40 ?l40 ?c40 ?k40 ?a41 ?l41 ?c41 ?k41 ?a42 ?l42 ?c42 ?k42 ?a43 ?l43 ?c43 ?k43 ?a44 ?l44 ?c44 ?k44 ?a45 ?l45 ?c45 ?k45 ?a46 ?l46 ?c46 ?k46 ?g_Recipe ?k_Recipe ?pg_Recipe ?ic_Recipe ?po_Recipe ?sa_Recipe ?mk_Recipe ?ca_Recipe ?cn_Recipe ?ct_Recipe ?cm_Recipe ?ne_Recipe ?tyc_Recipe ?mul_Recipe ?nl_Recipe ?nt_Recipe ?at_Recipe_its_terms ?get_Recipe_its_terms ?tk_Recipe_its_terms ?ty_Recipe_its_terms ?ix_Recipe_its_terms ?at_Recipe_its_variables ?get_Recipe_its_variables ?tk_Recipe_its_variables ?ty_Recipe_its_variables ?ix_Recipe_its_variables ?am_Recipe___init__ ?im_Recipe___init__ ?lm_Recipe___init__ ?co_Recipe___init__ ?km_Recipe___init__ ?pa_Recipe_variables ?pg_Recipe_variables ?pt_Recipe_variables ?pr_Recipe_variables ?lm_Recipe_variables ?co_Recipe_variables ?km_Recipe_variables ?pa_Recipe_terms ?pg_Recipe_terms ?pt_Recipe_terms ?pr_Recipe_terms ?lm_Recipe_terms ?co_Recipe_terms ?km_Recipe_terms ?sf_Recipe_keeping ?sr_Recipe_keeping ?sd_Recipe_keeping ?sg_Recipe_keeping ?st_Recipe_keeping ?lm_Recipe_keeping ?co_Recipe_keeping ?km_Recipe_keeping ?am_Recipe___call__ ?im_Recipe___call__ ?lm_Recipe___call__ ?co_Recipe___call__ ?km_Recipe___call__ ?am_Recipe___mul__ ?im_Recipe___mul__ ?lm_Recipe___mul__ ?co_Recipe___mul__ ?km_Recipe___mul__ ?am_Recipe___eq__ ?im_Recipe___eq__ ?lm_Recipe___eq__ ?co_Recipe___eq__ ?km_Recipe___eq__ ?am_Recipe___len__ ?im_Recipe___len__ ?lm_Recipe___len__ ?co_Recipe___len__ ?km_Recipe___len__ ?am_Recipe___repr__ ?im_Recipe___repr__ ?lm_Recipe___repr__ ?co_Recipe___repr__ ?km_Recipe___repr__ ?topS_ ?sup_ ?opq_ ?g_MoveError ?ex_MoveError ?hd_MoveError ?ty_MoveError ?g_Wrong ?ex_Wrong ?hd_Wrong ?ty_Wrong ?cls_Wrong ?ve_Wrong ?sa_Wrong ?no_Wrong ?k_Wrong ?vs_Wrong ?up_Wrong ?self_Wrong ?fi_Wrong ?tI_Wrong ?lI_Wrong ?cd_Wrong ?ce_Wrong ?co_Wrong ?cv_Wrong ?cf_Wrong ?bi_Wrong ?ev_Wrong ?g_Unlike ?ex_Unlike ?hd_Unlike ?ty_Unlike ?k_Unlike ?ei_Unlike ?g_NoText ?ex_NoText ?hd_NoText ?ty_NoText ?k_NoText ?ei_NoText ?z0 ?z1 ?z2 ?z3 ?z4 ?z5 ?z6 ?z7 ?z8 ?z9 ?z10 ?z11 ?z12 ?y0 ?y1 ?y2 ?y3 ?yl3 ?y4 ?y5 ?y6 ?y7 ?xa_Wrong ?xg_Wrong ?xl_Wrong ?xn_Wrong ?xt_Wrong ?xm_Wrong ?xa_Unlike ?xg_Unlike ?xl_Unlike ?xn_Unlike ?xt_Unlike ?xm_Unlike ?xa_NoText ?xg_NoText ?xl_NoText ?xn_NoText ?xt_NoText ?xm_NoText ?ds_Unlike_Wrong ?dn_Unlike_Wrong ?vs_NoText ?sb_Wrong_MoveError ?sb_Unlike_MoveError ?sb_NoText_MoveError
    (case a0 => k_is); (case l0 => k_is); (case c0 => k_is); (case k0 => k_is); (case a1 => k_is); (case l1 => k_is); (case c1 => k_is); (case k1 => k_is); (case a2 => k_is); (case l2 => k_is); (case c2 => k_is); (case k2 => k_is); (case a3 => k_is); (case l3 => k_is); (case c3 => k_is); (case k3 => k_is); (case a4 => k_is); (case l4 => k_is); (case c4 => k_is); (case k4 => k_is); (case a5 => k_is); (case l5 => k_is); (case c5 => k_is); (case k5 => k_is); (case a6 => k_is); (case l6 => k_is); (case c6 => k_is); (case k6 => k_is); (case a7 => k_is); (case l7 => k_is); (case c7 => k_is); (case k7 => k_is); (case a8 => k_is); (case l8 => k_is); (case c8 => k_is); (case k8 => k_is); (case a9 => k_is); (case l9 => k_is); (case c9 => k_is); (case k9 => k_is); (case a10 => k_is); (case l10 => k_is); (case c10 => k_is); (case k10 => k_is); (case a11 => k_is); (case l11 => k_is); (case c11 => k_is); (case k11 => k_is); (case a12 => k_is); (case l12 => k_is); (case c12 => k_is); (case k12 => k_is); (case a13 => k_is); (case l13 => k_is); (case c13 => k_is); (case k13 => k_is); (case a14 => k_is); (case l14 => k_is); (case c14 => k_is); (case k14 => k_is); (case a15 => k_is); (case l15 => k_is); (case c15 => k_is); (case k15 => k_is); (case a16 => k_is); (case l16 => k_is); (case c16 => k_is); (case k16 => k_is); (case a17 => k_is); (case l17 => k_is); (case c17 => k_is); (case k17 => k_is); (case a18 => k_is); (case l18 => k_is); (case c18 => k_is); (case k18 => k_is); (case a19 => k_is); (case l19 => k_is); (case c19 => k_is); (case k19 => k_is); (case a20 => k_is); (case l20 => k_is); (case c20 => k_is); (case k20 => k_is); (case a21 => k_is); (case l21 => k_is); (case c21 => k_is); (case k21 => k_is); (case a22 => k_is); (case l22 => k_is); (case c22 => k_is); (case k22 => k_is); (case a23 => k_is); (case l23 => k_is); (case c23 => k_is); (case k23 => k_is); (case a24 => k_is); (case l24 => k_is); (case c24 => k_is); (case k24 => k_is); (case a25 => k_is); (case l25 => k_is); (case c25 => k_is); (case k25 => k_is); (case a26 => k_is); (case l26 => k_is); (case c26 => k_is); (case k26 => k_is); (case a27 => k_is); (case l27 => k_is); (case c27 => k_is); (case k27 => k_is); (case a28 => k_is); (case l28 => k_is); (case c28 => k_is); (case k28 => k_is); (case a29 => k_is); (case l29 => k_is); (case c29 => k_is); (case k29 => k_is); (case a30 => k_is); (case l30 => k_is); (case c30 => k_is); (case k30 => k_is); (case a31 => k_is); (case l31 => k_is); (case c31 => k_is); (case k31 => k_is); (case a32 => k_is); (case l32 => k_is); (case c32 => k_is); (case k32 => k_is); (case a33 => k_is); (case l33 => k_is); (case c33 => k_is); (case k33 => k_is); (case a34 => k_is); (case l34 => k_is); (case c34 => k_is); (case k34 => k_is); (case a35 => k_is); (case l35 => k_is); (case c35 => k_is); (case k35 => k_is); (case a36 => k_is); (case l36 => k_is); (case c36 => k_is); (case k36 => k_is); (case a37 => k_is); (case l37 => k_is); (case c37 => k_is); (case k37 => k_is); (case a38 => k_is); (case l38 => k_is); (case c38 => k_is); (case k38 => k_is); (case a39 => k_is); (case l39 => k_is); (case c39 => k_is); (case k39 => k_is); (case a40 => k_is); (case l40 => k_is); (case c40 => k_is); (case k40 => k_is); (case a41 => k_is); (case l41 => k_is); (case c41 => k_is); (case k41 => k_is); (case a42 => k_is); (case l42 => k_is); (case c42 => k_is); (case k42 => k_is); (case a43 => k_is); (case l43 => k_is); (case c43 => k_is); (case k43 => k_is); (case a44 => k_is); (case l44 => k_is); (case c44 => k_is); (case k44 => k_is); (case a45 => k_is); (case l45 => k_is); (case c45 => k_is); (case k45 => k_is); (case a46 => k_is); (case l46 => k_is); (case c46 => k_is); (case k46 => k_is); (case g_Recipe => k_is); (case k_Recipe => k_is); (case pg_Recipe => k_is); (case ic_Recipe => k_is); (case po_Recipe => k_is); (case sa_Recipe => k_is); (case mk_Recipe => k_is); (case ca_Recipe => k_is); (case cn_Recipe => k_is); (case ct_Recipe => k_is); (case cm_Recipe => k_is); (case ne_Recipe => k_is); (case tyc_Recipe => k_is); (case mul_Recipe => k_is); (case nl_Recipe => k_is); (case nt_Recipe => k_is); (case at_Recipe_its_terms => k_is); (case get_Recipe_its_terms => k_is); (case tk_Recipe_its_terms => k_is); (case ty_Recipe_its_terms => k_is); (case ix_Recipe_its_terms => k_is); (case at_Recipe_its_variables => k_is); (case get_Recipe_its_variables => k_is); (case tk_Recipe_its_variables => k_is); (case ty_Recipe_its_variables => k_is); (case ix_Recipe_its_variables => k_is); (case am_Recipe___init__ => k_is); (case im_Recipe___init__ => k_is); (case lm_Recipe___init__ => k_is); (case co_Recipe___init__ => k_is); (case km_Recipe___init__ => k_is); (case pa_Recipe_variables => k_is); (case pg_Recipe_variables => k_is); (case pt_Recipe_variables => k_is); (case pr_Recipe_variables => k_is); (case lm_Recipe_variables => k_is); (case co_Recipe_variables => k_is); (case km_Recipe_variables => k_is); (case pa_Recipe_terms => k_is); (case pg_Recipe_terms => k_is); (case pt_Recipe_terms => k_is); (case pr_Recipe_terms => k_is); (case lm_Recipe_terms => k_is); (case co_Recipe_terms => k_is); (case km_Recipe_terms => k_is); (case sf_Recipe_keeping => k_is); (case sr_Recipe_keeping => k_is); (case sd_Recipe_keeping => k_is); (case sg_Recipe_keeping => k_is); (case st_Recipe_keeping => k_is); (case lm_Recipe_keeping => k_is); (case co_Recipe_keeping => k_is); (case km_Recipe_keeping => k_is); (case am_Recipe___call__ => k_is); (case im_Recipe___call__ => k_is); (case lm_Recipe___call__ => k_is); (case co_Recipe___call__ => k_is); (case km_Recipe___call__ => k_is); (case am_Recipe___mul__ => k_is); (case im_Recipe___mul__ => k_is); (case lm_Recipe___mul__ => k_is); (case co_Recipe___mul__ => k_is); (case km_Recipe___mul__ => k_is); (case am_Recipe___eq__ => k_is); (case im_Recipe___eq__ => k_is); (case lm_Recipe___eq__ => k_is); (case co_Recipe___eq__ => k_is); (case km_Recipe___eq__ => k_is); (case am_Recipe___len__ => k_is); (case im_Recipe___len__ => k_is); (case lm_Recipe___len__ => k_is); (case co_Recipe___len__ => k_is); (case km_Recipe___len__ => k_is); (case am_Recipe___repr__ => k_is); (case im_Recipe___repr__ => k_is); (case lm_Recipe___repr__ => k_is); (case co_Recipe___repr__ => k_is); (case km_Recipe___repr__ => k_is); (case topS_ => rfl); (case sup_ => k_is); (case opq_ => k_is); (case g_MoveError => k_is); (case ex_MoveError => k_is); (case hd_MoveError => k_is); (case ty_MoveError => k_is); (case g_Wrong => k_is); (case ex_Wrong => k_is); (case hd_Wrong => k_is); (case ty_Wrong => k_is); (case cls_Wrong => k_is); (case ve_Wrong => decide +kernel); (case sa_Wrong => k_is); (case no_Wrong => k_is); (case k_Wrong => k_is); (case vs_Wrong => k_is); (case up_Wrong => ks_is); (case self_Wrong => k_is); (case fi_Wrong => k_is); (case tI_Wrong => k_is); (case lI_Wrong => k_is); (case cd_Wrong => k_is); (case ce_Wrong => k_is); (case co_Wrong => k_is); (case cv_Wrong => rfl); (case cf_Wrong => decide +kernel); (case bi_Wrong => exact fun _ _ => rfl); (case ev_Wrong => exact fun _ => ⟨_, rfl⟩); (case g_Unlike => k_is); (case ex_Unlike => k_is); (case hd_Unlike => k_is); (case ty_Unlike => k_is); (case k_Unlike => k_is); (case ei_Unlike => k_exc); (case g_NoText => k_is); (case ex_NoText => k_is); (case hd_NoText => k_is); (case ty_NoText => k_is); (case k_NoText => k_is); (case ei_NoText => k_exc); (case z0 => k_is); (case z1 => k_is); (case z2 => k_is); (case z3 => k_is); (case z4 => k_is); (case z5 => k_is); (case z6 => k_is); (case z7 => k_is); (case z8 => k_is); (case z9 => k_is); (case z10 => k_is); (case z11 => k_is); (case z12 => k_is); (case y0 => k_is); (case y1 => k_is); (case y2 => k_is); (case y3 => k_is); (case yl3 => k_is); (case y4 => k_is); (case y5 => k_is); (case y6 => k_is); (case y7 => k_is); (case xa_Wrong => k_is); (case xg_Wrong => k_is); (case xl_Wrong => k_is); (case xn_Wrong => k_is); (case xt_Wrong => k_is); (case xm_Wrong => k_is); (case xa_Unlike => k_is); (case xg_Unlike => k_is); (case xl_Unlike => k_is); (case xn_Unlike => k_is); (case xt_Unlike => k_is); (case xm_Unlike => k_is); (case xa_NoText => k_is); (case xg_NoText => k_is); (case xl_NoText => k_is); (case xn_NoText => k_is); (case xt_NoText => k_is); (case xm_NoText => k_is); (case ds_Unlike_Wrong => k_is); (case dn_Unlike_Wrong => decide +kernel); (case vs_NoText => k_is); (case sb_Wrong_MoveError => k_is); (case sb_Unlike_MoveError => k_is); (case sb_NoText_MoveError => k_is)
